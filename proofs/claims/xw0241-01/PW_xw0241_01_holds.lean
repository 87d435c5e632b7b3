import PyProof.Rows.All
import Wide.All
import OpenK.AllK
import Wide.FinOn
import KE.KLam
import PySem.Challenge.RW_xw0241_01
open PySem PySem.W PyProof.Rows
set_option maxRecDepth 100000
set_option Elab.async false
set_option linter.all false
namespace Mine
section
open Sem (wp)
noncomputable def gO:List String:=["bytearray.__contains__","bytearray.__mod__","bytearray.__rmod__","_struct.pack_into.held","bytearray.find.held"]++Builtin.Bytes.decodersThatHold
noncomputable def holds(c:Code):Bool:=match c with | .builtin id _=>gO.contains id | _=>false
noncomputable def ny(Γ:Ctx):Prop := ∀x∈Γ.below,holds x.1=false
noncomputable def AY(Γ:Ctx):Prop:=holds Γ.code=false/\ny Γ
noncomputable def j3{α:Type}(M:Model)(A:Around)(t:Sem α)(Q:α->Shared->Prop)(E:Value->Shared->Prop)(s:Shared):Prop :=
 ∀ Γ p,Γ.In A->AY Γ->wp M Γ t (fun a _ s'=>Q a s') (fun e _ s'=>E e s') p s
noncomputable def jy(M:Model)(A:Around)(c:Code)(R:Result->Shared->Prop)(s:Shared):Prop :=
 ∀ Γ p,Γ.code=c->Γ.Below A->ny Γ->wpCode M Γ R p s
theorem ny.enter{Γ:Ctx}(h:AY Γ)(c:Code)(hd:Option Value)(p:Pos):ny (Γ.enter c hd p):=fun x hx=>by
 rcases List.mem_cons.mp hx with rfl | hx
 ·exact h.1
 ·exact h.2 x hx
section
variable{α β:Type}{M:Model}{A:Around}{E:Value->Shared->Prop}{s:Shared}
theorem j3.any{t:Sem α}{Q:α->Shared->Prop}(h:wpAny M A t Q E s):j3 M A t Q E s:=fun Γ p hΓ _=>h Γ p hΓ
theorem jy.any{c:Code}{R:Result->Shared->Prop}(h:codeAny M A c R s):jy M A c R s:=fun Γ p hc hΓ _=>h Γ p hc hΓ
theorem iN{a:α}{Q:α->Shared->Prop}(h:Q a s):j3 M A (pure a) Q E s:=fun _ _ _ _=>h
theorem HL{t:Sem α}{Q Q':α->Shared->Prop}{E':Value->Shared->Prop}(h:j3 M A t Q E s)
  (hQ:∀a s,Q a s->Q' a s) (hE:∀e s,E e s->E' e s):j3 M A t Q' E' s :=
 fun Γ p hΓ c=>Sem.wp_mono M Γ t (fun a _ s=>hQ a s) (fun e _ s=>hE e s) p s (h Γ p hΓ c)
theorem lB{m:Sem α}{f:α->Sem β}{Q:β->Shared->Prop}(h:j3 M A m (fun a s'=>j3 M A (f a) Q E s') E s) :
  j3 M A (m >>= f) Q E s:=fun Γ p hΓ c=>by
 rw [Sem.wp_bind']
 exact Sem.wp_mono M Γ m (fun a p' s' h'=>h' Γ p' hΓ c) (fun _ _ _ h'=>h') p s (h Γ p hΓ c)
theorem aZ{m:Sem α}{f:α->Sem β}{Q:β->Shared->Prop}(h:wpAny M A m (fun a s'=>j3 M A (f a) Q E s') E s) :
  j3 M A (m >>= f) Q E s:=lB (j3.any h)
theorem tw{vs:List Value}{m:Sem α}{Q:α->Shared->Prop}(h:j3 M A m Q E s):j3 M A (holding vs m) Q E s :=
 fun Γ p hΓ c=>by rw [Sem.wp_holding];exact h Γ p hΓ c
theorem ze{c:Code}{Q:Value->Shared->Prop}
  (hc:jy M A c (fun r s'=>match r with | .ok (.ret v)=>Q v s' | .ok _=>False | .error e=>E e s') s) :
  j3 M A (runValue c) Q E s:=fun Γ p hΓ cl=>by rw [Sem.wp_runValue];exact hc _ p rfl (hΓ.enter c none p (by intro x;cases x)) (ny.enter cl c none p)
theorem AZ{f:Value}{pos:List Value}{kw:List (Str×Value)}{Q:Value->Shared->Prop}
  (hc:jy M A (.call f ⟨pos,kw⟩) (fun r s'=>match r with | .ok (.ret v)=>Q v s' | .ok _=>False | .error e=>E e s') s) :
  j3 M A (call f pos kw) Q E s:=ze hc
theorem CX{c:Code}{R R':Result->Shared->Prop}(h:jy M A c R s)(hR:∀r s,R r s->R' r s):jy M A c R' s :=
 fun Γ p hc hΓ cl=>wpCode_mono hR (h Γ p hc hΓ cl)
theorem kO{c:Code}{R:Result->Shared->Prop}(hh:holds c=false)
  (h:j3 M (A.under c) (M.den c) (fun fin s'=>match fin with | .done f=>R (.ok f) s' | .again c'=>c'.quiet=true/\jy M A c' R s')
   (fun e s'=>R (.error e) s') s):jy M A c R s:=fun Γ p hc hΓ cl=>by
 rw [wpCode_iff_wp,hc]
 refine Sem.wp_mono M Γ _ (fun fin p' s' h'=>?_) (fun _ _ _ h'=>h') p s (h Γ p (hc▸hΓ.in) ⟨hc▸hh,cl⟩)
 cases fin with
 |done f=>exact h'
 |again c'=>exact⟨h'.1,h'.2 (Γ.goto c') p' rfl (hΓ.goto c') cl⟩
theorem qg{v:Value}{Q:Bool->Shared->Prop}(h:Q false s):j3 M A (Builtin.Bytes.exported v) Q E s:=fun Γ p _ cl=>by
 have go:∀b:Bool,b=false->Q b s:=fun b e=>by rw [e];exact h
 refine go _ ?_
 rw [List.any_eq_false]
 intro x hx
 have hx:holds x.1=false:=by
  rcases List.mem_cons.mp hx with rfl | hx
  ·exact cl.1
  ·exact cl.2 x hx
 split
 ·exact absurd (show gO.contains "bytearray.__contains__" = false from hx) (by decide +kernel)
 ·exact absurd (show gO.contains "bytearray.__mod__" = false from hx) (by decide +kernel)
 ·exact absurd (show gO.contains "bytearray.__rmod__" = false from hx) (by decide +kernel)
 ·exact absurd (show gO.contains "_struct.pack_into.held" = false from hx) (by decide +kernel)
 ·exact absurd (show gO.contains "bytearray.find.held" = false from hx) (by decide +kernel)
 ·rename_i i _ _ _ _ _ _ _ _ _ _
  have hi:Builtin.Bytes.decodersThatHold.contains i=false:=by
   have hx:gO.contains i=false:=hx
   simp only [gO,List.contains_eq_mem,decide_eq_false_iff_not,List.mem_append,not_or]at hx ⊢
   exact hx.2
  rw [hi,Bool.and_false];exact Bool.false_ne_true
 ·exact Bool.false_ne_true
end
section
variable{prog:Program}{w:World}{A:Around}{E:Value->Shared->Prop}{s:Shared}
theorem oZ{id:String}{args:Args}{b:Builtin}{R:Result->Shared->Prop}(hb:entryFor table id=some b)(hh:gO.contains id=false)
  (h:j3 (model prog w) (A.under (.builtin id args)) (b args)
   (fun fin s'=>match fin with | .done f=>R (.ok f) s' | .again c'=>c'.quiet=true/\jy (model prog w) A c' R s') (fun e s'=>R (.error e) s') s) :
  jy (model prog w) A (.builtin id args) R s:=by
 refine kO hh ?_
 show j3 _ _ (match entryFor table id with | some b=>b args | none=>unsupported ((withoutEnding? id "#data").getD id)) _ _ s
 rw [hb];exact h
theorem jz{id:String}{args:Args}{b:Builtin}{R:Result->Shared->Prop}(hq:plainId id=true)(hb:entryFor table id=some b)(hh:gO.contains id=false)
  (hc:wpAny (model prog w) A.in1 (checkBuiltinCall id args) (fun _ s₁=>j3 (model prog w) A.in1 (b args)
   (fun fin s'=>match fin with | .done f=>R (.ok f) s' | .again c'=>c'.quiet=true/\jy (model prog w) A c' R s') (fun e s'=>R (.error e) s') s₁) (fun e s'=>R (.error e) s') s) :
  jy (model prog w) A (.call (.builtin id) args) R s:=by
 refine kO rfl ?_
 show j3 _ A.in1 (do checkBuiltinCall id args;again (.builtin id args)) _ _ s
 refine aZ (wpAny_mono hc (fun _ s₁ h₁=>iN ⟨plainId_quiet hq args,oZ hb hh ?_⟩) fun _ _ h'=>h')
 rw [Around.under_plainId hq args];exact h₁
theorem HM{α:Type}{M:Model}{c:Prop}[Decidable c]{a b:Sem α}{Q:α->Shared->Prop}(hc:¬c)(h:j3 M A b Q E s):j3 M A (if c then a else b) Q E s:=by
 rw [if_neg hc];exact h
theorem HN{α:Type}{M:Model}{c:Prop}[Decidable c]{a b:Sem α}{Q:α->Shared->Prop}(hc:c)(h:j3 M A a Q E s):j3 M A (if c then a else b) Q E s:=by
 rw [if_pos hc];exact h
theorem gy{α:Type}{M:Model}{c:Bool}{a b:Sem α}{Q:α->Shared->Prop}(hc:c=false)(h:j3 M A b Q E s):j3 M A (if c=true then a else b) Q E s:=by
 subst hc;exact h
theorem LA{α:Type}{M:Model}{c:Bool}{a b:Sem α}{Q:α->Shared->Prop}(hc:c=true)(h:j3 M A a Q E s):j3 M A (if c=true then a else b) Q E s:=by
 subst hc;exact h
end
noncomputable def uM(l:List (Code×Pos)):Bool:=l.all fun x => !holds x.1
noncomputable def guarded{α:Type}(t:Sem α)(d:α):Sem α := .stack fun st=>if uM st=true then t else .pure d
theorem HO{Γ:Ctx}{p:Pos}(h:uM ((Γ.code,p)::Γ.below)=true):AY Γ:=by
 simp only [uM,List.all_cons,Bool.and_eq_true,Bool.not_eq_true']at h
 exact⟨h.1,fun x hx=>by simpa using List.all_eq_true.mp h.2 x hx⟩
theorem uN{α:Type}{M:Model}{Γ:Ctx}{t:Sem α}{d:α}{Q:α->Pos->Shared->Prop}{E:Value->Pos->Shared->Prop}{p:Pos}{s:Shared} :
  wp M Γ (guarded t d) Q E p s=if uM ((Γ.code,p)::Γ.below)=true then wp M Γ t Q E p s else Q d p s:=by
 unfold guarded
 rw [Sem.wp_stack]
 split
 ·rfl
 ·rw [Sem.wp_pure]
theorem xg{α:Type}{M:Model}{A:Around}{t:Sem α}{d:α}{Q:α->Shared->Prop}{E:Value->Shared->Prop}{s:Shared}(h:j3 M A t Q E s)(hd:Q d s):wpAny M A (guarded t d) Q E s :=
 fun Γ p hΓ=>by
  rw [uN]
  split
  ·rename_i c;exact h Γ p hΓ (HO c)
  ·exact hd
theorem xh{den:Code->Sem PySem.Fin}{prog:Program}{w:World}{t:Sem PySem.Fin}{d:PySem.Fin}{s s':Shared}{o:Outcome}(hz:s.asleep) :
  ∀n,schedN den prog w n (.single s ⟨guarded t d,.builtin "claim.caller" {},default,[]⟩) = .halted o s' →
   ∃k,schedN den prog w k (.single s ⟨t,.builtin "claim.caller" {},default,[]⟩) = .halted o s'
 | 0,h=>by cases h
 |n+1,h=>by
  have hc:(⟨guarded t d,.builtin "claim.caller" {},default,[]⟩:Thread).calm=true:=by
   first | rfl | kernel_rfl
  have hs:step den prog w s ⟨guarded t d,.builtin "claim.caller" {},default,[]⟩ = .go s ⟨t,.builtin "claim.caller" {},default,[]⟩:=by
   obtain⟨heap,gens,drawn,toks,os⟩:=s
   unfold guarded
   simp only [step]
   have:uM [(Code.builtin "claim.caller" {},default)]=true:=by decide +kernel
   simp only [List.map_nil,this,if_true]
  rcases sstep_single den prog w s _ hc hz with e | e
  ·rw [hs]at e
   unfold schedN at h
   rw [e]at h
   exact⟨n,h⟩
  ·rw [hs]at e;cases e
theorem uO{c:ClaimW}{tree:List Value->Sem PySem.Fin}{d:PySem.Fin}{w:World}{free:Addr->Prop}{gens:Prop}{kept:Heap->Prop}{s:Shared}(hz:s.asleep)
  (h:c.CallFrom (fun vs=>⟨guarded (tree vs) d,.builtin "claim.caller" {},default,[]⟩) w free gens kept s):c.CallFrom (fun vs=>⟨tree vs,.builtin "claim.caller" {},default,[]⟩) w free gens kept s:=by
 intro args hpre hlay ord hord
 obtain⟨vs,s₁,hlaid,n,o,s',hs,rest⟩:=h args hpre hlay ord hord
 have Rq:s₁.asleep:=Shared.asleep_of_life (layAllW_rest _ _ _ hlaid).2.2.2 hz
 obtain⟨k,hk⟩:=xh Rq n hs
 exact⟨vs,s₁,hlaid,k,o,s',hk,rest⟩
theorem xj{c:ClaimW}{q:Program}{loose:List Str}{Xt:Shared->Bool}{α:Type}{Yf:Shared->α}{Ya:World->α}{N:Nat}{g0:Bool}{tree:List Value->Sem PySem.Fin}{d:PySem.Fin}{defs kps:List Str}{writes:Bool}
  (left:LeftO c.prog q loose Xt Yf Ya N g0) (hch:chainsOk q=true)
  (h:c.HoldsOpenBy (fun vs=>⟨guarded (tree vs) d,.builtin "claim.caller" {},default,[]⟩) defs kps writes):c.HoldsOpenBy (fun vs=>⟨tree vs,.builtin "claim.caller" {},default,[]⟩) defs kps writes:=by
 refine⟨h.1,h.2.1,fun w=>⟨(h.2.2 w).1,fun s hs=>?_⟩⟩
 obtain⟨s₀,hf,hg,s₁,hT,hd,hr,hu,hcall⟩:=(h.2.2 w).2 s hs
 obtain⟨Rr,hf',_,WL,XH,hz',_⟩:=(left.behind (XP:=fun _ _=>True) (fun _ _=>trivial) hch w).2 s hs
 obtain rfl:s₀=Rr:=Option.some.inj (hf.symm.trans hf')
 have hz:s₁.asleep:=Shared.asleep_of_life (hT.2.1.trans XH.2.1.symm) hz'
 exact⟨s₀,hf,hg,s₁,hT,hd,hr,hu,uO hz hcall⟩
theorem PySem.W.holds_open{r:OpenRow}{q:Program}{loose:List Str}{Xt:Shared->Bool}{XP:(Str->Option Value)->Heap->Prop}{α:Type}{Yf:Shared->α}{Ya:World->α}{YP:World->Heap->Prop}{d:DefRec}{kwd:List (Str×Expr)}{N:Nat}
  (left:LeftO r.prog q loose Xt Yf Ya N) (hY:∀w s,Yf s=Ya w->YP w s.heap) (hYk:∀w h h',YP w h->(∀b o,h.get? b=some o->h'.get? b=some o)->YP w h')
  (hX:∀s,Xt s=true->XP (s.heap.nsMap mainGlobals) s.heap) (hXk:∀mg h h',XP mg h->(∀b o,h.get? b=some o->h'.get? b=some o)->XP mg h')
  (hdef:defOf q r.name=some (d,kwd)) (hp:r.prog.theDef r.name=some (d.params,d.body,d.scope)) (hk:kwWritten? d.params.kwonlyargs d.params.kw_defaults=some kwd) (hRf:∀s,Xt s=true->RecFacts r.records s.heap) (hwr:(!r.writes || r.records.isEmpty)=true)
  (k1:r.wellSaid=true) (ok:(chainsOk q&&opensWell r.prog&&(frees r.toRowW&&r.within.isEmpty))=true) (hb:r.prog.bare) (hw:r.toRowW.promised)
  (call:WalkO q loose XP YP r.toRowW d kwd fun f vs=>guarded (PySem.call f vs) (.bool true)):r.Holds:=by
 have hch:chainsOk q=true:=(Bool.and_eq_true_iff.mp (Bool.and_eq_true_iff.mp ok).1).1
 refine⟨k1,hw,xj (d := .done (.ret (.bool true))) left hch (open_anyG (r:=r.toRowW) (run:=fun f vs=>guarded (PySem.call f vs) (.bool true))
  (tree:=fun vs=>guarded (do match<-nsGet mainNs r.name with
   |some f=>do ret (← PySem.call f vs)
   |none=>unsupported "claim.caller:no-such-global") (.done (.ret (.bool true)))) left hY hYk hX hXk hRf hwr ok hb hw
  (fun vs w s mg f Q E hg hf h=>fun Γ p hΓ=>?_)
  (fun w s hg G n hn=>?_) fun w s₀ s₁ mg mb G Y args vs as hpre hlay L low=>?_)⟩
 ·have h':=h Γ p hΓ
  rw [uN]at h' ⊢
  split
  ·rename_i c
   rw [if_pos c]at h'
   rw [Sem.wp_bind']
   refine(Sem.wp_nsGet _ Γ _ p s hg _ _).mpr ?_
   rw [hf]
   show wp _ Γ (PySem.call f vs >>= fun v=>ret v) _ _ p s
   rw [Sem.wp_bind']
   exact h'
  ·rename_i c
   rw [if_neg c]at h'
   exact h'
 ·obtain rfl:n=r.name:=by split at hn<;>simp_all
  exact pinned_of_view hg G hdef hp hk
 ·obtain⟨a,o,pm,cd,doc,dV,kV,h1,h2,h3,h4,h5⟩:=G.fn hdef
  exact⟨.ref a,h1,call w s₀ s₁ mg mb G Y a o pm cd doc dV kV h2 h3 h4 h5 (defOf_name hdef▸h1) L.gens args vs as hpre hlay L.reads L.well (L.low low)⟩
structure bS(cb:Bool){α:Type}(M:Model)(A:Around)(t:Sem α)(Q:α->Shared->Prop)(E:Value->Shared->Prop)(s:Shared):Prop where
 go:∀ Γ p,Γ.In A->(cb=true->AY Γ)->wp M Γ t (fun a _ s'=>Q a s') (fun e _ s'=>E e s') p s
structure eE(cb:Bool)(M:Model)(A:Around)(c:Code)(R:Result->Shared->Prop)(s:Shared):Prop where
 go:∀ Γ p,Γ.code=c->Γ.Below A->(cb=true->ny Γ)->wpCode M Γ R p s
theorem qh{cb:Bool}{Γ:Ctx}(h:cb=true->AY Γ)(c:Code)(hd:Option Value)(p:Pos):cb=true->ny (Γ.enter c hd p):=fun e=>ny.enter (h e) c hd p
section
variable{cb:Bool}{α β:Type}{M:Model}{A:Around}{E:Value->Shared->Prop}{s:Shared}
theorem bS.any{t:Sem α}{Q:α->Shared->Prop}(h:wpAny M A t Q E s):bS cb M A t Q E s:=⟨fun Γ p hΓ _=>h Γ p hΓ⟩
theorem eE.any{c:Code}{R:Result->Shared->Prop}(h:codeAny M A c R s):eE cb M A c R s:=⟨fun Γ p hc hΓ _=>h Γ p hc hΓ⟩
theorem bD{a:α}{Q:α->Shared->Prop}(h:Q a s):bS cb M A (pure a) Q E s:=⟨fun _ _ _ _=>h⟩
theorem cJ{t:Sem α}{Q Q':α->Shared->Prop}{E':Value->Shared->Prop}(h:bS cb M A t Q E s)
  (hQ:∀a s,Q a s->Q' a s) (hE:∀e s,E e s->E' e s):bS cb M A t Q' E' s :=
 ⟨fun Γ p hΓ c=>Sem.wp_mono M Γ t (fun a _ s=>hQ a s) (fun e _ s=>hE e s) p s (h.go Γ p hΓ c)⟩
theorem bw{m:Sem α}{f:α->Sem β}{Q:β->Shared->Prop}(h:bS cb M A m (fun a s'=>bS cb M A (f a) Q E s') E s) :
  bS cb M A (m >>= f) Q E s:=⟨fun Γ p hΓ c=>by
 rw [Sem.wp_bind']
 exact Sem.wp_mono M Γ m (fun a p' s' h'=>h'.go Γ p' hΓ c) (fun _ _ _ h'=>h') p s (h.go Γ p hΓ c)⟩
theorem aQ{m:Sem α}{f:α->Sem β}{Q:β->Shared->Prop}(h:wpAny M A m (fun a s'=>bS cb M A (f a) Q E s') E s) :
  bS cb M A (m >>= f) Q E s:=bw (bS.any h)
theorem dz{vs:List Value}{m:Sem α}{Q:α->Shared->Prop}(h:bS cb M A m Q E s):bS cb M A (holding vs m) Q E s :=
 ⟨fun Γ p hΓ c=>by rw [Sem.wp_holding];exact h.go Γ p hΓ c⟩
theorem HP{vs:List Value}{m:Sem α}{Q:α->Shared->Prop}(h:bS cb M A m Q E s):bS cb M A (m.keep vs) Q E s :=
 ⟨fun Γ p hΓ c=>by rw [Sem.wp_keep];exact h.go Γ p hΓ c⟩
theorem j6{m:Sem α}{k:Value->Sem Unit}{Q:α->Shared->Prop}
  (h:bS cb M A m Q (fun e s'=>wpAny M A (k e) (fun _ s''=>E e s'') E s') s):bS cb M A (m.onRaise k) Q E s:=⟨fun Γ p hΓ c=>by
 rw [Sem.wp_onRaise]
 exact Sem.wp_mono M Γ m (fun _ _ _ h'=>h') (fun e p' s' h'=>h' Γ p' hΓ) p s (h.go Γ p hΓ c)⟩
theorem A0{m:Sem α}{Q:Except Value α->Shared->Prop}(h:bS cb M A m (fun a=>Q (.ok a)) (fun e=>Q (.error e)) s) :
  bS cb M A m.attempt Q E s:=⟨fun Γ p hΓ c=>by rw [Sem.wp_attempt];exact h.go Γ p hΓ c⟩
theorem bM{pos:Pos}{f:Unit->Sem β}{Q:β->Shared->Prop}(h:bS cb M A (f ()) Q E s):bS cb M A (standAt pos >>= f) Q E s :=
 aQ (wpAny_standAt h)
theorem tB{vs:List Value}{m:Sem Value}{Q:Value->Shared->Prop}(h:bS cb M A m Q E s):bS cb M A (operate vs m) Q E s :=
 ⟨fun Γ p hΓ c=>by rw [Sem.wp_operate];exact h.go Γ p hΓ c⟩
theorem LB{c:Code}{h:Option Value}{Q:Flow->Shared->Prop}
  (hc:eE cb M (A.mark h) c (fun r s'=>match r with | .ok f=>Q f s' | .error e=>E e s') s) (hnb:h≠some byPass:=by intro x;cases x) :
  bS cb M A (run c h) Q E s :=
 ⟨fun Γ p hΓ cl=>by rw [Sem.wp_run];exact hc.go _ p rfl (hΓ.enter c h p hnb) (qh cl c h p)⟩
theorem zf{c:Code}{Q:Value->Shared->Prop}
  (hc:eE cb M A c (fun r s'=>match r with | .ok (.ret v)=>Q v s' | .ok _=>False | .error e=>E e s') s) :
  bS cb M A (runValue c) Q E s:=⟨fun Γ p hΓ cl=>by rw [Sem.wp_runValue];exact hc.go _ p rfl (hΓ.enter c none p (by intro x;cases x)) (qh cl c none p)⟩
theorem lC{f:Value}{pos:List Value}{kw:List (Str×Value)}{Q:Value->Shared->Prop}
  (hc:eE cb M A (.call f ⟨pos,kw⟩) (fun r s'=>match r with | .ok (.ret v)=>Q v s' | .ok _=>False | .error e=>E e s') s) :
  bS cb M A (call f pos kw) Q E s:=zf hc
theorem CY{c:Code}{R R':Result->Shared->Prop}(h:eE cb M A c R s)(hR:∀r s,R r s->R' r s):eE cb M A c R' s :=
 ⟨fun Γ p hc hΓ cl=>wpCode_mono hR (h.go Γ p hc hΓ cl)⟩
theorem dh{c:Code}{R:Result->Shared->Prop}(hh:holds c=false)
  (h:bS cb M (A.under c) (M.den c) (fun fin s'=>match fin with | .done f=>R (.ok f) s' | .again c'=>c'.quiet=true/\eE cb M A c' R s')
   (fun e s'=>R (.error e) s') s):eE cb M A c R s:=⟨fun Γ p hc hΓ cl=>by
 rw [wpCode_iff_wp,hc]
 refine Sem.wp_mono M Γ _ (fun fin p' s' h'=>?_) (fun _ _ _ h'=>h') p s (h.go Γ p (hc▸hΓ.in) fun e=>⟨hc▸hh,cl e⟩)
 cases fin with
 |done f=>exact h'
 |again c'=>exact⟨h'.1,h'.2.go (Γ.goto c') p' rfl (hΓ.goto c') cl⟩⟩
theorem NP{t:Sem α}{Q:α->Shared->Prop}(h:j3 M A t Q E s):bS true M A t Q E s:=⟨fun Γ p hΓ c=>h Γ p hΓ (c rfl)⟩
theorem m5{t:Sem α}{Q:α->Shared->Prop}(h:bS false M A t Q E s):wpAny M A t Q E s:=fun Γ p hΓ=>h.go Γ p hΓ (fun e=>by cases e)
theorem LC{t:Sem α}{Q:α->Shared->Prop}(h:bS true M A t Q E s):j3 M A t Q E s:=fun Γ p hΓ c=>h.go Γ p hΓ (fun _=>c)
theorem O2{t:Sem α}{Q:α->Shared->Prop}(h:bS false M A t Q E s):bS cb M A t Q E s:=bS.any (m5 h)
theorem LD{c:Code}{R:Result->Shared->Prop}(h:eE false M A c R s):codeAny M A c R s:=fun Γ p hc hΓ=>h.go Γ p hc hΓ (fun e=>by cases e)
end
section
variable{cb:Bool}{prog:Program}{w:World}{A:Around}{E:Value->Shared->Prop}{s:Shared}
theorem xm{id:String}{args:Args}{b:Builtin}{R:Result->Shared->Prop}(hb:entryFor table id=some b)(hh:gO.contains id=false)
  (h:bS cb (model prog w) (A.under (.builtin id args)) (b args)
   (fun fin s'=>match fin with | .done f=>R (.ok f) s' | .again c'=>c'.quiet=true/\eE cb (model prog w) A c' R s') (fun e s'=>R (.error e) s') s) :
  eE cb (model prog w) A (.builtin id args) R s:=by
 refine dh hh ?_
 show bS cb _ _ (match entryFor table id with | some b=>b args | none=>unsupported ((withoutEnding? id "#data").getD id)) _ _ s
 rw [hb];exact h
theorem zg{α:Type}{M:Model}{c:Bool}{a b:Sem α}{Q:α->Shared->Prop}(hc:c=false)(h:bS cb M A b Q E s):bS cb M A (if c=true then a else b) Q E s:=by
 subst hc;exact h
end
section
variable{cb:Bool}{α:Type}{M:Model}{A:Around}{E:Value->Shared->Prop}{s:Shared}{env:Env}
theorem kP{Q:Flow->Shared->Prop}(h:Q .next s):bS cb M A (execs [] env) Q E s:=⟨fun _ _ _ _=>h⟩
theorem fy{st rest}{Q:Flow->Shared->Prop}
  (h:bS cb M A (exec st env) (fun f s'=>match f with | .next=>bS cb M A (execs rest env) Q E s' | f=>Q f s') E s):bS cb M A (execs (st::rest) env) Q E s:=by
 rw [execs_cons]
 refine bw (cJ h (fun f s' h'=>?_) fun _ _ e=>e)
 cases f<;>first | exact h' | exact bD h'
theorem m6{x pos' value pos}{Q:Flow->Shared->Prop}
  (h:bS cb M A (eval value env) (fun v s₁=>wpAny M A (storeName env x v) (fun _=>Q .next) E s₁) E s)
  (hs:swapsWith value (some (.Name x pos')) pos.line env=pure false:=by rfl):bS cb M A (exec (.Assign [.Name x pos'] value pos) env) Q E s:=by
 rw [exec_Assign_Name env x pos' value pos hs]
 exact bM (bw (cJ h (fun v s₁ h₁=>bM (aQ (wpAny_bindName (wpAny_mono h₁ (fun _ _ q=>bD q) fun _ _ e=>e)))) fun _ _ e=>e))
theorem iO{o attr pos' value pos}{Q:Flow->Shared->Prop}
  (h:bS cb M A (eval value env) (fun v s₁=>wpAny M A (eval o env) (fun ov s₂=>wpAny M A (setAttr ov attr v) (fun _=>Q .next) E s₂) E s₁) E s)
  (hs:swapsWith value (some (.Attribute o attr pos')) pos.line env=pure false:=by rfl):bS cb M A (exec (.Assign [.Attribute o attr pos'] value pos) env) Q E s:=⟨fun Γ p hΓ c=>by
 simp only [plainObj_exec_Assign_Attribute o attr pos' value pos hs,assign_Attribute,Sem.wp_bind',Sem.wp_holding,Sem.wp_cmd_standAt,Sem.wp_release,Sem.wp_pure']
 exact Sem.wp_mono M Γ _ (fun v p₁ s₁ h₁=>Sem.wp_mono M Γ _ (fun ov _ s₂ h₂=>h₂ Γ _ hΓ) (fun _ _ _ h'=>h') _ _ (h₁ Γ p₁ hΓ)) (fun _ _ _ h'=>h') _ _ (h.go Γ _ hΓ c)⟩
theorem r7{elts k tpos value pos}{Q:Flow->Shared->Prop}
  (h:bS cb M A (eval value env) (fun v s₁=>wpAny M A (assign (.Tuple elts k tpos) env v) (fun _=>Q .next) E s₁) E s)
  (hs:swapsWithSole [.Tuple elts k tpos] value pos.line env=pure false:=by rfl)
  (hw:swappedStores [.Tuple elts k tpos] value env=pure none:=by rfl):bS cb M A (exec (.Assign [.Tuple elts k tpos] value pos) env) Q E s:=by
 rw [exec_Assign]
 refine bM ?_
 rw [hs]
 refine aQ (wpAny_pure ?_)
 rw [if_neg (by decide)]
 refine bw (cJ h (fun v s₁ h₁=>?_) fun _ _ x=>x)
 rw [hw]
 refine aQ (wpAny_pure ?_)
 show bS cb M A (do assignAll v [assign (.Tuple elts k tpos) env];pure .next) Q E s₁
 exact aQ (wpAny_mono h₁ (fun _ _ x=>bD x) fun _ _ x=>x)
theorem uP{e pos}{Q:Flow->Shared->Prop}(h:bS cb M A (eval e env) (fun v=>Q (.ret v)) E s):bS cb M A (exec (.Return (some e) pos) env) Q E s:=by
 rw [exec_Return_some]
 exact bM (bw (cJ h (fun _ _ q=>bD q) fun _ _ e=>e))
theorem O3{test body orelse pos}{Q:Flow->Shared->Prop}
  (h:bS cb M A (isTrue test env (eval test env)) (fun b s₂=>if b then bS cb M A (execs body env) Q E s₂ else bS cb M A (execs orelse env) Q E s₂) E s):bS cb M A (exec (.If test body orelse pos) env) Q E s:=by
 rw [exec_If]
 refine bM (bw (cJ h (fun b s₂ h₂=>?_) fun _ _ e=>e))
 cases b<;>exact h₂
theorem A1{e pos}{Q:Flow->Shared->Prop}(h:bS cb M A (eval e env) (fun v s'=>match v with | .ref _=>False | _=>Q .next s') E s)
  (hi:interactive env=false:=by rfl) (hs:swapsWith e none pos.line env=pure false:=by rfl):bS cb M A (exec (.Expr e pos) env) Q E s:=by
 rw [exec_Expr env e pos hi hs]
 refine bM (bw (cJ h (fun v s' h'=>?_) fun _ _ x=>x))
 have hv:∀a,v ≠ .ref a:=fun a UN=>by subst UN;exact h'
 rw [dropValue_plain hv]
 refine bD ?_
 cases v<;>first | exact h' | exact(hv _ rfl).elim
theorem uQ{c:Code}{h:Option Value}{Q:Flow->Shared->Prop}
  (hc:eE cb M (A.mark h) c (fun r s'=>match r with | .ok f=>Q f s' | .error e=>cameBackBy M A env E e s') s) (hnb:h≠some byPass:=by intro x;cases x) :
  bS cb M A (runOwn c env h) Q E s:=by
 unfold runOwn
 exact j6 (LB hc hnb)
theorem yi{m:Sem α}{Q:α->Shared->Prop}(h:bS cb M A m Q (notedBy M A env E) s):bS cb M A (m.onRaise fun x=>do noteFrame x env;theTreesLotGoes x) Q E s :=
 j6 (cJ h (fun _ _ q=>q) fun _ _ hx=>wpAny_bind (wpAny_mono hx (fun _ _ e=>wpAny_theTreesLotGoes e) fun _ _ e=>e))
end
section
variable{cb:Bool}{prog:Program}{w:World}{A:Around}{E:Value->Shared->Prop}{env:Env}
noncomputable def uR(cb:Bool)(prog:Program)(w:World)(A:Around)(E:Value->Shared->Prop)(env:Env)(test:Expr)(body orelse:List Stmt)(Q:Flow->Shared->Prop)(s:Shared):Prop :=
 eE cb (model prog w) A (.whileLoop test body orelse env) (fun r s'=>match r with | .ok f=>Q f s' | .error e=>cameBackBy (model prog w) A env E e s') s
theorem Gk{test:Expr}{body orelse:List Stmt}{pos:Pos}{Q:Flow->Shared->Prop}{s:Shared}(h:uR cb prog w A E env test body orelse Q s):bS cb (model prog w) A (exec (.While test body orelse pos) env) Q E s:=by
 rw [exec_While]
 exact bM (uQ h)
theorem uR.turn{test:Expr}{body orelse:List Stmt}{Q:Flow->Shared->Prop}{s:Shared}(hE:PassesOwn (model prog w) A env E)
  (h:bS cb (model prog w) A (isTrue test env (eval test env)) (fun b s₂=>if b=true then bS cb (model prog w) A (execs body env) (fun f s₃=>match f with
   | .next=>uR cb prog w A E env test body orelse Q s₃ | .cont=>uR cb prog w A E env test body orelse Q s₃ | .brk=>Q .next s₃ | .ret v=>Q (.ret v) s₃) E s₂ else bS cb (model prog w) A (execs orelse env) Q E s₂) E s) :
  uR cb prog w A E env test body orelse Q s:=by
 refine dh rfl ?_
 show bS cb _ A ((whileTurn test body orelse env).onRaise (fun x=>do noteFrame x env;theTreesLotGoes x)) _ _ s
 refine yi ?_
 simp only [whileTurn]
 refine bw (cJ h (fun b s₂ h₂=>?_) hE)
 cases b with
 |false =>
  rw [if_neg Bool.false_ne_true]at h₂
  simp only [Bool.false_eq_true,if_false]
  exact bw (cJ h₂ (fun f s₃ h₃=>bD h₃) hE)
 |true =>
  rw [if_pos rfl]at h₂
  simp only [if_true]
  refine bw (cJ h₂ (fun f s₃ h₃=>?_) hE)
  cases f with
  |next=>exact bD ⟨rfl,h₃⟩
  |cont=>exact bD ⟨rfl,h₃⟩
  |brk=>exact bD h₃
  |ret v=>exact bD h₃
noncomputable def uS(cb:Bool)(prog:Program)(w:World)(A:Around)(E:Value->Shared->Prop)(env:Env)(x:Str)(px:Pos)(body:List Stmt)(Q:Flow->Shared->Prop)(it:Value)(s:Shared):Prop :=
 eE cb (model prog w) A (.forLoop (.Name x px) it body [] env) (fun r s'=>match r with | .ok f=>Q f s' | .error e=>cameBackBy (model prog w) A env E e s') s
theorem ED{x:Str}{px pos:Pos}{iter:Expr}{body:List Stmt}{Q:Flow->Shared->Prop}{s:Shared}
  (h:bS cb (model prog w) A (eval iter env) (fun xv s₁=>wpAny (model prog w) A (pyIter xv) (fun it s₂=>uS cb prog w A E env x px body Q it s₂) E s₁) E s)
  (hs:∀x,foldedSetIterable iter env x=pure x:=by intro _;rfl):bS cb (model prog w) A (exec (.For (.Name x px) iter body [] pos) env) Q E s:=by
 rw [exec_For]
 exact bM (bw (cJ h (fun x s₁ h₁=>aQ (wpAny_of_eq (hs x) (bM (aQ (wpAny_holding
  (wpAny_mono h₁ (fun it s₂ h₂=>uQ h₂) fun _ _ h'=>h')))))) fun _ _ h'=>h'))
theorem uS.turn{x:Str}{px:Pos}{body:List Stmt}{Q:Flow->Shared->Prop}{it:Value}{s:Shared}(hE:PassesOwn (model prog w) A env E)
  (h:wpAny (model prog w) A (pyNext it) (fun r s₁=>match r with
   |none=>Q .next s₁
   |some v=>wpAny (model prog w) A (storeName env x v) (fun _ s₂=>bS cb (model prog w) A (execs body env) (fun f s₃=>match f with
    | .next=>uS cb prog w A E env x px body Q it s₃ | .cont=>uS cb prog w A E env x px body Q it s₃ | .brk=>Q .next s₃ | .ret v=>Q (.ret v) s₃) E s₂) E s₁) E s):uS cb prog w A E env x px body Q it s:=by
 refine dh rfl ?_
 show bS cb _ A ((forTurn (.Name x px) it body [] env).onRaise (fun x=>do noteFrame x env;theTreesLotGoes x)) _ _ s
 refine yi ?_
 simp only [forTurn]
 refine bM (aQ (wpAny_onRaise (wpAny_mono h (fun r s₁ h₁=>?_) fun e s' h'=>wpAny_standAt (hE e s' h'))))
 cases r with
 |none=>exact bD ⟨rfl,eE.any (codeAny_block (wpAny_execs_nil h₁))⟩
 |some v =>
  refine aQ (wpAny_of_eq (rfl:letOwnedTupleGo (.Name x px) it v=pure ()) ?_)
  refine aQ (wpAny_assign_Name (wpAny_mono h₁ (fun _ s₂ h₂=>bw (cJ h₂ (fun f s₃ h₃=>?_) hE)) hE))
  cases f with
  |next=>exact bD ⟨rfl,h₃⟩
  |cont=>exact bD ⟨rfl,h₃⟩
  |brk=>exact bD h₃
  |ret v=>exact bD h₃
end
noncomputable abbrev dD(b:Array UInt8):Obj:={cls := .type "bytearray",data := .bytearray b}
namespace BF
theorem mro:mroOf (.type "bytearray")=pure [.type "bytearray",.type "object"]:=by rw [mroOf_type];kernel_rfl
theorem CZ:typeLookup (.type "bytearray") "__new__" = pure (some (.builtin "bytearray.__new__")):=by rw [typeLookup_type,builtinLookup_eq_fast];kernel_rfl
theorem oh:Slot "bytearray" "__init__" "bytearray.__init__" :=
 .of (owner := "bytearray") (n := "__init__") (by rw [typeLookup_type,builtinLookup_eq_fast];kernel_rfl) (by decide +kernel) (by decide +kernel) (by decide +kernel)
  (by first | exact .inl (by decide +kernel) | exact .inr (by decide +kernel)) (by rw [isSubtype_type];kernel_rfl)
theorem made:Bind.madeBy (.type "bytearray")=pure (some "bytearray.__new__"):=madeBy_type mro CZ (by decide +kernel)
theorem sub:isSubtype (.type "bytearray") (.type "bytearray")=pure true:=by rw [isSubtype_type];kernel_rfl
theorem typeCall(a:Value):checkTypeCall "bytearray" ⟨[a],[]⟩=pure ():=by kernel_rfl
theorem LG(a:Value):checkBuiltinCall "bytearray.__new__" ⟨[.type "bytearray",a],[]⟩=pure ():=by kernel_rfl
theorem Gl:entryFor table "bytearray.__new__" = some Builtin.«list.__new__» :=
 entryFor_alias (id' := "list.__new__") (by rw [fastTable_eq_tree];kernel_rfl) (by decide +kernel) (by decide +kernel) (by rw [fastTable_eq_tree];kernel_rfl)
theorem yj:plainId "bytearray.__new__" = true:=by decide +kernel
theorem uT:entryFor table "bytearray.__init__" = some Builtin.«bytearray.__init__» := by first | exact entryFor_of_tree (by kernel_rfl)
theorem uU:plainId "bytearray.__init__" = true:=by decide +kernel
theorem qi:Manifest.owners.lookup (String.ofList ['y','a','r','r','a','e','t','y','b'].reverse)=some Manifest.sig_bytearray:=by kernel_rfl
theorem yk(a b:Value):argsOk "bytearray.__init__" ⟨[a,b],[]⟩:=by
 unfold argsOk;rw [signature?_of (id := "bytearray.__init__") (n:=['_','_','t','i','n','i','_','_']) (o:=['y','a','r','r','a','e','t','y','b']) (by kernel_rfl) qi];kernel_rfl
theorem bind(v:Value):Builtin.Bytes.bindOptional "bytearray.__init__" "bytearray" ["source","encoding","errors"] [v] []=pure [some v,none,none]:=by kernel_rfl
end BF
set_option maxRecDepth 1000000 in
set_option maxHeartbeats 4000000 in
theorem zh:("bytearray.__new__".splitOn ".__new__").headD "" = "bytearray" := by simp +decide [String.splitOn,String.splitOnAux]
section
variable{prog:Program}{w:World}{A:Around}{E:Value->Shared->Prop}{s:Shared}
theorem A3(a:Value){Q₁:Value->Shared->Prop}
  (h:Q₁ (.ref s.heap.objs.size) {s with heap:=s.heap.push (dD #[])}) :
  codeAny (model prog w) A (.call (.builtin "bytearray.__new__") ⟨[.type "bytearray",a],[]⟩) (wants Q₁ E) s:=by
 refine codeAny_of_tree ?_
 show wpAny _ A.in1 (do checkBuiltinCall "bytearray.__new__" ⟨[.type "bytearray",a],[]⟩;again (.builtin "bytearray.__new__" ⟨[.type "bytearray",a],[]⟩)) _ _ s
 refine wpAny_bind (wpAny_of_eq (BF.LG a) (wpAny_pure ⟨plainId_quiet BF.yj _,codeAny_builtin_stack BF.Gl rfl fun p st=>?_⟩))
 rw [Around.under_plainId BF.yj _]
 have hsub:=BF.sub
 have hown:=zh
 obtain⟨hp,g,d,tk,os⟩:=s
 simp only [hown]
 wp_walk
 exact h
theorem m8{v:Value}{Q:Value->Shared->Prop}
  (h:jy (model prog w) A.in1 (.call (.builtin "bytearray.__init__") ⟨[.ref s.heap.objs.size,v],[]⟩) (wants (fun r s₂=>r = .none/\Q (.ref s.heap.objs.size) s₂) E) {s with heap:=s.heap.push (dD #[])}) :
  j3 (model prog w) A (call (.type "bytearray") [v]) Q E s:=by
 refine AZ (kO rfl ?_)
 show j3 _ _ (callAny (.type "bytearray") _) _ _ _
 refine iN ⟨Code.quiet_builtin _ (by decide +kernel),oZ F.entry_type_call (by decide +kernel) ?_⟩
 rw [Around.under_plain (weight_type_call_type "bytearray" [v] []) rfl]
 unfold Builtin.«type.__call__»
 have e1:(Value.type "bytearray" == Value.type "type")=false:=by decide +kernel
 have e2:((Manifest.find? "bytearray").bind (·.mro.findSome? fun t=>(Manifest.find? t).bind fun b=>if b.noNew then some true else if b.attrs.any (·.1 == "__new__")then some false else none)).getD false=false:=by decide +kernel
 show j3 _ _ (if (Value.type "bytearray" == Value.type "type")=true then _ else _) _ _ _
 refine gy e1 ?_
 show j3 _ _ (if (((Manifest.find? "bytearray").bind (·.mro.findSome? fun t=>(Manifest.find? t).bind fun b=>if b.noNew then some true else if b.attrs.any (·.1 == "__new__")then some false else none)).getD false)=true then _ else _) _ _ _
 refine gy e2 ?_
 show j3 _ _ (checkTypeCall "bytearray" ⟨[v],[]⟩ >>= _) _ _ _
 refine aZ (wpAny_of_eq (BF.typeCall v) ?_)
 refine aZ (wpAny_of_eq BF.mro ?_)
 refine gy rfl ?_
 refine aZ (wpAny_of_eq BF.made ?_)
 refine aZ (wpAny_pure ?_)
 refine aZ (wpAny_holding (wpAny_call (codeAny_mono (A3 v (E:=E) (Q₁:=fun o s'=>o = .ref s.heap.objs.size/\s' = {s with heap:=s.heap.push (dD #[])}) ⟨rfl,rfl⟩) fun r s₁ hr=>?_)))
 cases r with
 |error e=>exact hr
 |ok fl =>
  cases fl with
  |ret obj =>
   obtain⟨rfl,rfl⟩:=hr
   have hT:({s with heap:=s.heap.push (dD #[])}:Shared).TypeIs (.ref s.heap.objs.size) "bytearray" := ⟨_,Heap.get?_push_size _ rfl,rfl⟩
   refine aZ (wpAny_isInstance hT BF.sub ?_)
   refine gy rfl ?_
   refine lB (tw ?_)
   unfold callSpecial?
   refine aZ (wpAny_specialOf hT BF.oh.lookup ?_)
   refine tw (aZ (wpAny_of_eq (BF.oh.bind _) ?_))
   refine lB (AZ (CX h fun r₂ s₂ HQ=>?_))
   cases r₂ with
   |error e=>exact HQ
   |ok Rt =>
    cases Rt with
    |ret r =>
     obtain⟨rfl,hq⟩:=HQ
     refine iN ?_
     refine gy (by decide +kernel) ?_
     exact iN hq
    |_=>exact HQ.elim
  |_=>exact hr.elim
end
open PySem.Calls
section
variable{cb:Bool}{prog:Program}{w:World}{A A₀:Around}{s:Shared}{R:Result->Shared->Prop}
theorem uV{body:List Stmt}{env:Env}
  (h:bS cb (model prog w) (A.deeper env) (execs body env) (fun f s'=>R (.ok (.ret (match f with | .ret v=>v | _ => .none))) s')
   (fun e s'=>wpAny (model prog w) (A.deeper env) (leaving env e) (fun _ s''=>R (.error e) s'') (fun e' s''=>R (.error e') s'') s') s) :
  eE cb (model prog w) A (.func body env) R s:=by
 refine dh rfl ?_
 show bS cb _ (A.deeper env) (do point;match<-(execs body env).onRaise (leaving env)with | .ret v=>ret v | _=>ret .none) _ _ s
 refine aQ (wpAny_point (bw (j6 (cJ h (fun f s' h'=>?_) fun _ _ h'=>h'))))
 cases f<;>exact bD h'
theorem C0{e:Expr}{env:Env}
  (h:bS cb (model prog w) (A.deeper env) (eval e env) (fun v s'=>R (.ok (.ret v)) s')
   (fun e' s'=>wpAny (model prog w) (A.deeper env) (leaving env e') (fun _ s''=>R (.error e') s'') (fun XI s''=>R (.error XI) s'') s') s) :
  eE cb (model prog w) A (.expr e env) R s:=by
 refine dh rfl ?_
 show bS cb _ (A.deeper env) (do point;ret (← (eval e env).onRaise (leaving env))) _ _ s
 exact aQ (wpAny_point (bw (j6 (cJ h (fun v s' h'=>bD h') fun _ _ h'=>h'))))
theorem jh{a:Addr}{args:Args}{o:Obj}{fd:FuncData}{body:List Stmt}(hroom:A.depth<recursionLimit)
  (ho:s.heap.get? a=some o) (hd':o.data = .func fd) (hco:fd.scope.isCoroutine=false) (hgen:fd.scope.isGenerator=false) (hbody:fd.body = .stmts body) (hcd:s.heap.CodeRec fd.code fd.qualname)
  (h:wpAny (model prog w) A.in1 (bindArgs fd args) (fun binds s₁ =>
   wpAny (model prog w) A.in1 (newFunctionEnv fd.scope fd.globals fd.closure binds (fd.qualname ++ ".<locals>.") (some a) fd.code none fd.builtins)
    (fun env s₂=>s₂.heap.NoLimit/\eE cb (model prog w) A (.func body env) R s₂) (fun e s'=>R (.error e) s') s₁) (fun e s'=>R (.error e) s') s) :
  eE cb (model prog w) A (.call (.ref a) args) R s:=by
 refine dh rfl (bS.any ?_)
 show wpAny _ A.in1 (callAny (.ref a) args) _ _ s
 simp only [callAny]
 refine wpAny_bind (wpAny_load ho ?_)
 obtain⟨c,oc,vs,tq,hc,hoc,hdc,hq⟩:=hcd
 simp only [hd',callFunction,hco,hgen,hbody,hc]
 rw [hc]at h
 refine wpAny_bind (m:=field (.ref c) 1) (wpAny_field hoc hdc hq (wpAny_bind (wpAny_pure ?_)))
 exact wpAny_bind (wpAny_mono h (fun binds s₁ h₁=>wpAny_bind (wpAny_mono h₁ (fun env s₂ h₂=>wpAny_bind (wpAny_enterFrame h₂.1 hroom
  (wpAny_pure (And.intro rfl h₂.2)))) fun _ _ h'=>h')) fun _ _ h'=>h')
theorem tZ{a:Addr}{args:Args}{o:Obj}{fd:FuncData}{body:Expr}(hroom:A.depth<recursionLimit)
  (ho:s.heap.get? a=some o) (hd':o.data = .func fd) (hco:fd.scope.isCoroutine=false) (hgen:fd.scope.isGenerator=false) (hbody:fd.body = .expr body) (hcd:s.heap.CodeRec fd.code fd.qualname)
  (h:wpAny (model prog w) A.in1 (bindArgs fd args) (fun binds s₁ =>
   wpAny (model prog w) A.in1 (newFunctionEnv fd.scope fd.globals fd.closure binds (fd.qualname ++ ".<locals>.") (some a) fd.code none fd.builtins)
    (fun env s₂=>s₂.heap.NoLimit/\eE cb (model prog w) A (.expr body env) R s₂) (fun e s'=>R (.error e) s') s₁) (fun e s'=>R (.error e) s') s) :
  eE cb (model prog w) A (.call (.ref a) args) R s:=by
 refine dh rfl (bS.any ?_)
 show wpAny _ A.in1 (callAny (.ref a) args) _ _ s
 simp only [callAny]
 refine wpAny_bind (wpAny_load ho ?_)
 obtain⟨c,oc,vs,tq,hc,hoc,hdc,hq⟩:=hcd
 simp only [hd',callFunction,hco,hgen,hbody,hc]
 rw [hc]at h
 refine wpAny_bind (m:=field (.ref c) 1) (wpAny_field hoc hdc hq (wpAny_bind (wpAny_pure ?_)))
 exact wpAny_bind (wpAny_mono h (fun binds s₁ h₁=>wpAny_bind (wpAny_mono h₁ (fun env s₂ h₂=>wpAny_bind (wpAny_enterFrame h₂.1 hroom
  (wpAny_pure (And.intro rfl h₂.2)))) fun _ _ h'=>h')) fun _ _ h'=>h')
theorem jA{a:Addr}{o:Obj}{fd:FuncData}{body:List Stmt}{args:Args}{binds:List (Str×Value)}
  (hroom:A.depth<recursionLimit) (ho:s.heap.get? a=some o) (hdata:o.data = .func fd) (hlim:s.heap.NoLimit) (hcd:s.heap.CodeRec fd.code fd.qualname)
  (hbody:fd.body = .stmts body) (hbind:BindsTo s fd args binds)
  (hcell:∀x∈fd.scope.names,x.2 ≠ .cell) (hloc:∀x∈binds,fd.scope.names.lookup x.1=some .local)
  (h:∀h₀,h₀.Ns s.heap.objs.size (fun x=>binds.reverse.lookup x)->(∀b o,s.heap.get? b=some o->h₀.get? b=some o) →
   bS cb (model prog w) (A.deeper (callEnv fd s.heap.objs.size a)) (execs body (callEnv fd s.heap.objs.size a)) (fun f s'=>R (.ok (.ret (match f with | .ret v=>v | _ => .none))) s')
    (fun e s'=>wpAny (model prog w) (A.deeper (callEnv fd s.heap.objs.size a)) (leaving (callEnv fd s.heap.objs.size a) e) (fun _ s''=>R (.error e) s'') (fun e' s''=>R (.error e') s'') s')
    {s with heap:=h₀,toks:=s.toks+binds.length})
  (hco:fd.scope.isCoroutine=false:=by rfl) (hgen:fd.scope.isGenerator=false:=by rfl) (hk:fd.scope.kind = .function:=by rfl) :
  eE cb (model prog w) A (.call (.ref a) args) R s:=by
 refine jh hroom ho hdata hco hgen hbody hcd (hbind _ _ _ _ ?_)
 refine wpAny_newFunctionEnv hcell hloc (fun h₀ O4 HR=>⟨hlim.fresh _ HR,uV (h h₀ O4 fun b o e=>?_)⟩) hk
 exact HR.extBut b o (Nat.ne_of_lt (Heap.lt_size e)) (Heap.get?_push_of_some _ e)
end
section
variable{cb:Bool}{prog:Program}{w:World}{A₀ A:Around}{s:Shared}{base h₀:Heap}{outer:List Env}{L:Addr}{m:Str->Option Value}{env:Env}{news:List (Addr×Obj)}
 {R:Result->Shared->Prop} {name qual:Str} {params:Arguments} {body:List Stmt} {scope:Scope} {cl:List (Str×Addr)} {dV kV doc pm cdv ct:Value} {an:Option Addr} {fo:Obj} {f:Addr} {args:Args} {binds:List (Str×Value)}
end
section
variable{cb:Bool}{prog:Program}{w:World}{A A₀:Around}{E:Value->Shared->Prop}{s:Shared}{K:Frag}{C L:Addr}{h₀ base:Heap}{m mg mb:Str->Option Value}{news:List (Addr×Obj)}{p:Program}{loose:List Str}{mean:ExcName->Option Value}
end
section
variable{cb:Bool}{prog:Program}{w:World}{A:Around}{K:Frag}{C x:Addr}{s:Shared}{h₀:Heap}{L:Addr}{m:Str->Option Value}{news:List (Addr×Obj)}{Q:Value->Shared->Prop}{E:Value->Shared->Prop}
theorem LH{rest:List Value}{fI:Addr}(F:Fr h₀ L s.heap m)(N:News h₀ L s.heap news)(X:K.In s.heap)(hm:makesIn K C=true)
  (hi:findIn K (.ref C) "__init__" = some (some (.ref fI))) (hf:typeIn K (.ref fI)=some (.type "function"))
  (h:∀x dx h',Fr h₀ L h' m->News h₀ L h' ((x,instObj C dx)::(dx,emptyDict)::news)->(∀p∈news,p.1<dx)->dx<x →
   eE cb (model prog w) (A.under (.builtin "type.__call__" ⟨.ref C::rest,[]⟩)) (.call (.ref fI) ⟨.ref x::rest,[]⟩) (wants (fun v s'=>v = .none/\Q (.ref x) s') E) {s with heap:=h'}) :
  bS cb (model prog w) A (call (.ref C) rest) Q E s:=by
 obtain⟨hh,g,d,t,os⟩:=s
 have Y:=makes_of (M:=model prog w) X hm
 have Y':=Y
 obtain⟨⟨oc,od,cd,sl,hC,e1,e2,e4⟩,made,base,self,top,Ru,typ⟩:=Y
 refine lC (dh rfl ?_)
 show bS cb _ _ (callAny (.ref C) _) _ _ _
 simp only [callAny]
 refine aQ (wpAny_load hC ?_)
 show bS cb _ _ (callAny.viaDunder (.ref C) _) _ _ _
 unfold callAny.viaDunder
 refine aQ (Ru.at ?_)
 dsimp only
 rw [tc_bind]
 refine aQ (wpAny_pure (aQ (wpAny_pure ?_)))
 refine bD (a:=Fin.again (.call (.builtin "type.__call__") ⟨.ref C::rest,[]⟩)) (And.intro rfl ?_)
 refine dh rfl ?_
 show bS cb _ A.in1 (do checkBuiltinCall "type.__call__" ⟨.ref C::rest,[]⟩;again (.builtin "type.__call__" ⟨.ref C::rest,[]⟩)) _ _ _
 refine aQ (check_slot tc_kind tc_split typ (tc_args _ _ _) (bD ⟨Code.quiet_builtin _ (by decide +kernel),xm PySem.F.entry_type_call (by decide +kernel) ?_⟩))
 unfold Builtin.«type.__call__»
 have hm':Looks (model prog w) hh (mroOf (.ref C)) cd.mro:=((Looks.ld (part:=none) hC).andThen .now).andThen .now
 refine zg rfl ?_
 refine aQ (hm'.at ?_)
 refine zg e4 ?_
 refine aQ (made.at ?_)
 refine aQ (wpAny_pure ?_)
 refine aQ (wpAny_holding (wpAny_call (new_K (R:=fun r s'=>r = .ok (.ret (.ref (hh.objs.size+1)))/\s'=⟨(hh.push emptyDict).push (instObj C hh.objs.size),g,d,t,os⟩) Y' (looks_findIn X hi) (.inl rfl) ⟨rfl,rfl⟩ |> fun z=>codeAny_mono z fun r s' hr=>?_)))
 obtain⟨rfl,rfl⟩:=hr
 dsimp only
 have k:∀b o,hh.get? b=some o->((hh.push emptyDict).push (instObj C hh.objs.size)).get? b=some o:=fun b o e=>Heap.get?_push_of_some _ (Heap.get?_push_of_some _ e)
 have hx:((hh.push emptyDict).push (instObj C hh.objs.size)).get? (hh.objs.size+1)=some (instObj C hh.objs.size):=by heap_get
 have t1:Looks (model prog w) ((hh.push emptyDict).push (instObj C hh.objs.size)) (typeOf (.ref (hh.objs.size+1))) (.ref C):=(Looks.ld hx).andThen .now
 have s1:=self.keeps k
 have i1:=(looks_findIn (M:=model prog w) X hi).keeps k
 have b1:=(bind_fn (M:=model prog w) X (.ref (hh.objs.size+1)) hf).keeps k
 refine aQ ?_
 unfold isInstance
 refine wpAny_bind (t1.at (s1.at ?_))
 refine zg rfl ?_
 refine bw (dz ?_)
 unfold callSpecial? specialOf
 refine aQ (wpAny_bind (t1.at (i1.at ?_)))
 refine dz (aQ (b1.at ?_))
 have N':=(N.push F emptyDict).push (F.push _) (instObj C hh.objs.size)
 rw [Heap.size_push]at N'
 refine bw (lC (CY (h _ hh.objs.size _ ((F.push _).push _) N' (fun p hp=>Heap.lt_size (N p hp).1) (Nat.lt_succ_self _)) fun r s' z=>?_))
 rcases r with e | (v | _ | _ | _)<;>first | exact z | exact z.elim | skip
 obtain⟨rfl,z⟩:=z
 refine bD ?_
 refine zg (by decide +kernel) ?_
 exact bD z
end
namespace BF
theorem look_release:typeLookup (.type "bytearray") "__release_buffer__" = pure (some (.builtin "bytearray.__release_buffer__")):=by rw [typeLookup_type,builtinLookup_eq_fast];kernel_rfl
theorem r8:typeLookup (.type "bytearray") "__buffer__" = pure (some (.builtin "bytearray.__buffer__")):=by rw [typeLookup_type,builtinLookup_eq_fast];kernel_rfl
theorem zj:("bytearray.__release_buffer__".endsWith ("." ++ "__release_buffer__"))=true:=by decide +kernel
theorem zk:("bytearray.__release_buffer__".dropRight ("__release_buffer__".length+1)) = "bytearray" := by decide +kernel
theorem uW:("bytearray.__buffer__".endsWith ("." ++ "__buffer__"))=true:=by decide +kernel
theorem uX:("bytearray.__buffer__".dropRight ("__buffer__".length+1)) = "bytearray" := by decide +kernel
theorem A4:typeLookup (.type "bytes") "__index__" = pure none:=by rw [typeLookup_type,builtinLookup_eq_fast];kernel_rfl
end BF
section
variable{prog:Program}{w:World}{A:Around}{E:Value->Shared->Prop}{s:Shared}
theorem kQ{a:Addr}{M:Model}{Q:Bool->Shared->Prop}(hT:s.TypeIs (.ref a) "bytearray")(h:Q false s):wpAny M A (Builtin.Bytes.ownRelease (.ref a)) Q E s:=by
 unfold Builtin.Bytes.ownRelease Builtin.Bytes.slotIsOwn
 refine wpAny_bind (wpAny_bind (wpAny_specialOf hT BF.look_release ?_))
 show wpAny _ _ (if (!("bytearray.__release_buffer__".endsWith ("." ++ "__release_buffer__")))=true then pure false else isInstance (.ref a) (.type ("bytearray.__release_buffer__".dropRight ("__release_buffer__".length+1)))) _ _ _
 rw [BF.zj,BF.zk]
 refine bm_if_false rfl (wpAny_isInstance hT BF.sub (wpAny_pure ?_))
 exact h
theorem nB{a:Addr}{M:Model}{b:Array UInt8}{f:Array UInt8->Array UInt8}{Q:Unit->Shared->Prop}(ho:s.heap.get? a=some (dD b))(hz:(f b).size<=sizeLine)
  (h:Q () {s with heap:=s.heap.update a (Obj.mapBytearray f)}):wpAny M A (Builtin.Bytes.write (.ref a) f) Q E s:=by
 show wpAny M A (updateBytearray a f) Q E s
 unfold updateBytearray
 refine wpAny_bind (wpAny_load ho ?_)
 show wpAny _ _ (update a (Obj.mapBytearray f) >>= fun _=>lookBehind a) _ _ _
 refine wpAny_bind (wpAny_update ho ?_)
 refine wpAny_lookBehind (o:=dD (f b)) (Heap.get?_update_self (Obj.mapBytearray f) ho rfl) ?_ h
 show(if (f b).size > sizeLine then some "bytearray:memory" else none)=none
 rw [if_neg (Nat.not_lt.mpr hz)]
theorem jB{a:Addr}{M:Model}{b:Array UInt8}{Q:Array UInt8->Shared->Prop}(ho:s.heap.get? a=some (dD b))(h:Q b s):wpAny M A (Builtin.Bytes.payload (.ref a)) Q E s:=by
 unfold Builtin.Bytes.payload Builtin.Bytes.payload?
 exact wpAny_bind (wpAny_bind (wpAny_load ho (wpAny_pure (wpAny_pure h))))
theorem yl{id:String}{f:Bool}{b:Array UInt8}{t:Tok}:Builtin.Bytes.buffer? id (.bytes b t) f=pure (some b):=by
 unfold Builtin.Bytes.buffer?
 rw [KBy.special_eq KBy.look_buffer,KBy.own_buffer,KBy.own_release]
 kernel_rfl
theorem EE{M:Model}{x y:Sem Bool}{Q:Bool->Shared->Prop}(h:j3 M A x (fun b s'=>if b=true then False else j3 M A y Q E s') E s):j3 M A (x <||> y) Q E s:=by
 unfold orM
 refine lB (HL h (fun b s' hb=>?_) fun _ _ e=>e)
 cases b with
 |true=>rw [if_pos rfl]at hb;exact hb.elim
 |false=>rw [if_neg Bool.false_ne_true]at hb;exact hb
theorem zl{R:Result->Shared->Prop}{a:Addr}{b:Array UInt8}{t:Tok}(ho:s.heap.get? a=some (dD #[]))(hz:b.size<=sizeLine)
  (h:∀h',h'.get? a=some (dD b)->(∀x o,x≠a->s.heap.get? x=some o->h'.get? x=some o)->R (.ok (.ret .none)) {s with heap:=h'}) :
  jy (model prog w) A (.call (.builtin "bytearray.__init__") ⟨[.ref a,.bytes b t],[]⟩) R s:=by
 have hT:s.TypeIs (.ref a) "bytearray" := ⟨_,ho,rfl⟩
 refine jz BF.uU BF.uT (by decide +kernel) (BF.oh.check _ _ _ _ _ _ _ _ hT (BF.yk _ _) ?_)
 unfold Builtin.«bytearray.__init__»
 show j3 _ _ (Builtin.Bytes.ownRelease (.ref a) >>= _) _ _ _
 refine aZ (kQ hT ?_)
 refine gy rfl ?_
 refine aZ (wpAny_of_eq (BF.bind _) ?_)
 refine aZ (wpAny_of_eq (a:=()) rfl ?_)
 refine aZ (wpAny_of_eq (a:=()) rfl ?_)
 refine lB (EE (qg ?_))
 rw [if_neg Bool.false_ne_true]
 refine aZ ?_
 unfold Builtin.Bytes.exportsOf
 refine wpAny_bind (wpAny_load ho (wpAny_pure (iN ?_)))
 refine gy rfl ?_
 refine aZ (nB ho (Nat.zero_le _) ?_)
 have A5:(s.heap.update a (Obj.mapBytearray fun _ => #[])).get? a=some (dD #[]):=Heap.get?_update_self (Obj.mapBytearray fun _ => #[]) ho rfl
 show j3 _ _ (asStr? (.bytes b t) >>= _) _ _ _
 refine aZ (wpAny_of_eq (a:=none) rfl ?_)
 refine gy rfl ?_
 refine aZ (wpAny_of_eq (a:=()) rfl ?_)
 refine aZ (wpAny_of_eq (KBy.special_eq BF.A4) ?_)
 refine gy rfl ?_
 refine aZ (wpAny_of_eq yl ?_)
 refine aZ (wpAny_rule ?_)
 refine aZ (nB A5 hz ?_)
 refine iN ?_
 refine h _ (Heap.get?_update_self (Obj.mapBytearray fun _=>b) A5 rfl) fun x o hx e=>?_
 exact(Heap.get?_update_other _ _ (Ne.symm hx)).trans ((Heap.get?_update_other _ _ (Ne.symm hx)).trans e)
theorem C3{R:Result->Shared->Prop}{a:Addr}{n:Int}{t:Tok}(ho:s.heap.get? a=some (dD #[]))(h0:0<n)(hz:n<=16777216)
  (h:∀h',h'.get? a=some (dD (Array.replicate n.toNat 0))->(∀x o,x≠a->s.heap.get? x=some o->h'.get? x=some o)->R (.ok (.ret .none)) {s with heap:=h'}) :
  jy (model prog w) A (.call (.builtin "bytearray.__init__") ⟨[.ref a,.int n t],[]⟩) R s:=by
 have hT:s.TypeIs (.ref a) "bytearray" := ⟨_,ho,rfl⟩
 refine jz BF.uU BF.uT (by decide +kernel) (BF.oh.check _ _ _ _ _ _ _ _ hT (BF.yk _ _) ?_)
 unfold Builtin.«bytearray.__init__»
 show j3 _ _ (Builtin.Bytes.ownRelease (.ref a) >>= _) _ _ _
 refine aZ (kQ hT ?_)
 refine gy rfl ?_
 refine aZ (wpAny_of_eq (BF.bind _) ?_)
 refine aZ (wpAny_of_eq (a:=()) rfl ?_)
 refine aZ (wpAny_of_eq (a:=()) rfl ?_)
 refine lB (EE (qg ?_))
 rw [if_neg Bool.false_ne_true]
 refine aZ ?_
 unfold Builtin.Bytes.exportsOf
 refine wpAny_bind (wpAny_load ho (wpAny_pure (iN ?_)))
 refine gy rfl ?_
 refine aZ (nB ho (Nat.zero_le _) ?_)
 have A5:(s.heap.update a (Obj.mapBytearray fun _ => #[])).get? a=some (dD #[]):=Heap.get?_update_self (Obj.mapBytearray fun _ => #[]) ho rfl
 show j3 _ _ (asStr? (.int n t) >>= _) _ _ _
 refine aZ (wpAny_of_eq (a:=none) rfl ?_)
 refine gy rfl ?_
 refine aZ (wpAny_of_eq (a:=()) rfl ?_)
 refine aZ (wpAny_specialOf (T := "int") (typeIs_int _ _ _) F.slot_int_index.lookup ?_)
 refine LA rfl ?_
 refine aZ (wpAny_attempt (wpAny_of_eq (a:=n) rfl ?_))
 have e1:Builtin.Bytes.fitsIndex n=true:=by
  simp only [Builtin.Bytes.fitsIndex,Bool.and_eq_true,decide_eq_true_eq];lia
 dsimp only
 refine gy (by rw [e1];rfl) ?_
 refine HM (by lia) ?_
 refine gy (by rw [beq_eq_false_iff_ne];intro e;rw [e]at hz;exact absurd hz (by decide)) ?_
 refine gy (KBy.tooLong_not (by lia)) ?_
 refine aZ (wpAny_rule ?_)
 refine HN h0 ?_
 refine aZ (nB A5 (by rw [sizeLine_eq,Array.size_replicate];lia) ?_)
 refine iN ?_
 refine h _ (Heap.get?_update_self (Obj.mapBytearray fun _=>Array.replicate n.toNat 0) A5 rfl) fun x o hx e=>?_
 exact(Heap.get?_update_other _ _ (Ne.symm hx)).trans ((Heap.get?_update_other _ _ (Ne.symm hx)).trans e)
end
section
open Builtin
namespace BF
theorem A6:Slot "bytearray" "__len__" "bytearray.__len__" :=
 .of (owner := "bytearray") (n := "__len__") (by rw [typeLookup_type,builtinLookup_eq_fast];kernel_rfl) (by decide +kernel) (by decide +kernel) (by decide +kernel)
  (by first | exact .inl (by decide +kernel) | exact .inr (by decide +kernel)) sub
theorem gP:Slot "bytearray" "__getitem__" "bytearray.__getitem__" :=
 .of (owner := "bytearray") (n := "__getitem__") (by rw [typeLookup_type,builtinLookup_eq_fast];kernel_rfl) (by decide +kernel) (by decide +kernel) (by decide +kernel)
  (by first | exact .inl (by decide +kernel) | exact .inr (by decide +kernel)) sub
theorem qj:Slot "bytearray" "__setitem__" "bytearray.__setitem__" :=
 .of (owner := "bytearray") (n := "__setitem__") (by rw [typeLookup_type,builtinLookup_eq_fast];kernel_rfl) (by decide +kernel) (by decide +kernel) (by decide +kernel)
  (by first | exact .inl (by decide +kernel) | exact .inr (by decide +kernel)) sub
theorem entry_len:entryFor table "bytearray.__len__" = some Builtin.«bytearray.__len__» := entryFor_of_tree (by kernel_rfl)
theorem pe:entryFor table "bytearray.__getitem__" = some Builtin.«bytearray.__getitem__» := entryFor_of_tree (by kernel_rfl)
theorem xn:entryFor table "bytearray.__setitem__" = some Builtin.«bytearray.__setitem__» := entryFor_of_tree (by kernel_rfl)
theorem HS(a:Value):argsOk "bytearray.__len__" ⟨[a],[]⟩:=by
 unfold argsOk;rw [signature?_of (id := "bytearray.__len__") (n:=['_','_','n','e','l','_','_']) (o:=['y','a','r','r','a','e','t','y','b']) (by kernel_rfl) qi];kernel_rfl
theorem qk(a b:Value):argsOk "bytearray.__getitem__" ⟨[a,b],[]⟩:=by
 unfold argsOk;rw [signature?_of (id := "bytearray.__getitem__") (n:=['_','_','m','e','t','i','t','e','g','_','_']) (o:=['y','a','r','r','a','e','t','y','b']) (by kernel_rfl) qi];kernel_rfl
theorem zm(a b c:Value):argsOk "bytearray.__setitem__" ⟨[a,b,c],[]⟩:=by
 unfold argsOk;rw [signature?_of (id := "bytearray.__setitem__") (n:=['_','_','m','e','t','i','t','e','s','_','_']) (o:=['y','a','r','r','a','e','t','y','b']) (by kernel_rfl) qi];kernel_rfl
theorem HT:typeLookup (.type "bytes") "__bytes__" = pure (some (.builtin "bytes.__bytes__")):=by rw [typeLookup_type,builtinLookup_eq_fast];kernel_rfl
theorem A7:typeLookup (.type "int") "__bytes__" = pure none:=by rw [typeLookup_type,builtinLookup_eq_fast];kernel_rfl
theorem LI:typeLookup (.type "bytearray") "__bytes__" = pure none:=by rw [typeLookup_type,builtinLookup_eq_fast];kernel_rfl
theorem LJ:typeLookup (.type "bytearray") "__index__" = pure none:=by rw [typeLookup_type,builtinLookup_eq_fast];kernel_rfl
end BF
section
variable{prog:Program}{w:World}{A:Around}{E:Value->Shared->Prop}{s:Shared}{a:Addr}{b:Array UInt8}
theorem uY{Q:Value->Shared->Prop}(ho:s.heap.get? a=some (dD b))(hz:b.size<=16777216)(h:Q (.int b.size (s.toks+1)) {s with toks:=s.toks+1+1}) :
  wpAny (model prog w) A (call (.builtin "len") [.ref a]) Q E s:=by
 have hT:s.TypeIs (.ref a) "bytearray" := ⟨_,ho,rfl⟩
 refine Calls.call_function_entry kind_len plain_len entry_len (args_len1 _) ?_
 unfold Builtin.«len»
 refine wpAny_bind (m:=oneArg "len" _) (wpAny_pure ?_)
 refine wpAny_bind (m:=callSpecial? (.ref a) (Str.ofString "__len__")) (wpAny_callSpecial?_slot (name:=Str.ofString "__len__") hT BF.A6
  (call_meets BF.A6 hT BF.entry_len (BF.HS _) (S:=fun _ R s=>s.heap.get? a=some (dD b)/\R (.ok (.ret (.int b.size s.toks))) {s with toks:=s.toks+1}) (.of_wp fun prog w A R s hS=>?_) ⟨ho,?_⟩))
 ·obtain⟨ho,hR⟩:=hS
  show wpAny _ _ (Bytes.payload (.ref a) >>= _) _ _ _
  exact wpAny_bind (jB ho (wpAny_bind (wpAny_mkInt (wpAny_pure ⟨_,rfl,hR⟩))))
 ·show wpAny _ _ _ _ _ {s with toks:=s.toks+1}
  refine wpAny_bind (wpAny_holding (wpAny_pure ?_))
  refine wpAny_bind (wpAny_letGo ?_)
  have h0:¬((b.size:Int)<0):=by lia
  have hf:¬((b.size:Int) >= 2 ^ 63):=by lia
  show wpAny _ _ (if (b.size:Int)<0 then _ else _) _ _ _
  rw [if_neg h0]
  show wpAny _ _ (if (b.size:Int) >= 2 ^ 63 then _ else _) _ _ _
  rw [if_neg hf]
  exact wpAny_bind (wpAny_mkInt (wpAny_pure ⟨_,rfl,h⟩))
theorem uZ{i:Int}{u:Tok}{Q:Value->Shared->Prop}(ho:s.heap.get? a=some (dD b))(hz:b.size<=16777216)(h0:0<=i)(h1:i<b.size)
  (h:Q (.int (b.getD i.toNat 0).toNat s.toks) {s with toks:=s.toks+1}):wpAny (model prog w) A (getItem (.ref a) (.int i u)) Q E s:=by
 have hT:s.TypeIs (.ref a) "bytearray" := ⟨_,ho,rfl⟩
 refine getItem_meets hT (by decide) BF.gP BF.pe (BF.qk _ _)
  (S:=fun _ R s=>s.heap.get? a=some (dD b)/\R (.ok (.ret (.int (b.getD i.toNat 0).toNat s.toks))) {s with toks:=s.toks+1}) (.of_wp fun prog w A R s hS=>?_) ⟨ho,h⟩
 obtain⟨ho,hR⟩:=hS
 show wpAny _ _ (Bytes.subscript? (.int i u) >>= _) _ _ _
 have e1:Bytes.subscript? (.int i u)=pure (some i):=by
  have hf:Bytes.fitsIndex i=true:=by simp only [Bytes.fitsIndex,Bool.and_eq_true,decide_eq_true_eq];lia
  unfold Bytes.subscript?
  rw [show specialOf (.int i u) "__index__" = typeLookup (.type "int") "__index__" from rfl,F.slot_int_index.lookup]
  show(asIndex (.int i u) >>= fun k=>_) = _
  rw [show asIndex (.int i u)=pure i from rfl]
  simp only [pure_bind,hf]
  rfl
 refine wpAny_bind (wpAny_of_eq e1 ?_)
 refine wpAny_bind (jB ho ?_)
 have e2:(seqIndex? i b.size).bind (b[·]?)=some (b.getD i.toNat 0):=by
  have:seqIndex? i b.size=some i.toNat:=by
   have h2:¬i<0:=by lia
   simp [seqIndex?,h2,h0,h1]
  rw [this]
  have hl:i.toNat<b.size:=by lia
  simp [hl]
 rw [e2]
 exact wpAny_bind (wpAny_mkInt (wpAny_pure ⟨_,rfl,hR⟩))
theorem C4{i n:Int}{u t:Tok}{Q:Unit->Shared->Prop}(ho:s.heap.get? a=some (dD b))(hz:b.size<=16777216)(h0:0<=i)(h1:i<b.size)(hn0:0<=n)(hn1:n<256)
  (h:∀k,Q () {s with heap:=s.heap.update a (Obj.mapBytearray (·.setIfInBounds i.toNat n.toNat.toUInt8)),toks:=k}):wpAny (model prog w) A (setItem (.ref a) (.int i u) (.int n t)) Q E s:=by
 have hT:s.TypeIs (.ref a) "bytearray" := ⟨_,ho,rfl⟩
 unfold setItem
 refine wpAny_holding (wpAny_bind (wpAny_sequenceKey hT (by decide) ?_))
 refine wpAny_bind (wpAny_callSpecial?_slot hT BF.qj (call_meets BF.qj hT BF.xn (BF.zm _ _ _)
  (S:=fun _ R s=>s.heap.get? a=some (dD b)/\R (.ok (.ret .none)) {s with heap:=s.heap.update a (Obj.mapBytearray (·.setIfInBounds i.toNat n.toNat.toUInt8))}) (.of_wp fun prog w A R s hS=>?_) ⟨ho,?_⟩))
 ·obtain⟨ho,hR⟩:=hS
  have e1:Bytes.subscript? (.int i u)=pure (some i):=by
   have hf:Bytes.fitsIndex i=true:=by simp only [Bytes.fitsIndex,Bool.and_eq_true,decide_eq_true_eq];lia
   unfold Bytes.subscript?
   rw [show specialOf (.int i u) "__index__" = typeLookup (.type "int") "__index__" from rfl,F.slot_int_index.lookup]
   show(asIndex (.int i u) >>= fun k=>_) = _
   rw [show asIndex (.int i u)=pure i from rfl]
   simp only [pure_bind,hf]
   rfl
  have e3:Bytes.byteValue (.int n t)=pure n.toNat.toUInt8:=by
   unfold Bytes.byteValue
   rw [show asIndex (.int n t)=pure n from rfl]
   have:(n<0 || n >= 256)=false:=by simp only [Bool.or_eq_false_iff,decide_eq_false_iff_not];lia
   simp only [pure_bind,this]
   rfl
  show wpAny _ _ (Bytes.subscript? (.int i u) >>= _) _ _ _
  refine wpAny_bind (wpAny_of_eq e1 ?_)
  refine wpAny_bind (wpAny_of_eq e3 ?_)
  refine wpAny_bind (jB ho ?_)
  have e2:seqIndex? i b.size=some i.toNat:=by
   have h2:¬i<0:=by lia
   simp [seqIndex?,h2,h0,h1]
  rw [e2]
  refine wpAny_bind (nB ho (by rw [Array.size_setIfInBounds,sizeLine_eq];exact hz) ?_)
  exact wpAny_pure ⟨_,rfl,hR⟩
 ·exact wpAny_pure (h _)
end
end
section
open Builtin
section
variable{prog:Program}{w:World}{A:Around}{E:Value->Shared->Prop}{s:Shared}{a:Addr}{b:Array UInt8}
theorem Gm{b:Array UInt8}{lo hi:Option Int}{st sp se:Int}(h:(st,sp,se)=sliceBounds lo hi none b.size):Bytes.sliced b st sp se=KBy.picked b lo hi:=by unfold KBy.picked;rw [← h]
set_option maxHeartbeats 1000000 in
theorem xo(b:Array UInt8)(a sl:Addr){l u:Value}{lo hi:Option Int}(hl:IsPart l lo)(hu:IsPart u hi) :
  Meets («bytearray.__getitem__» ⟨[.ref a,.ref sl],[]⟩) (fun _ R s=>s.heap.IsSliceOf sl l u .none/\s.heap.get? a=some (dD b)/\(KBy.picked b lo hi).size<=sizeLine/\R (.ok (.ret (.ref s.heap.objs.size))) {s with heap:=s.heap.push (dD (KBy.picked b lo hi))}):=by
 refine .of_wp fun prog w A R s hS=>?_
 obtain⟨⟨o,ho,hc,hd⟩,hb,hsz,h⟩:=hS
 have hT:s.TypeIs (.ref sl) "slice" := ⟨o,ho,hc⟩
 show wpAny _ _ (Bytes.subscript? (.ref sl) >>= fun r=>_) _ _ s
 refine wpAny_bind ?_
 unfold Bytes.subscript?
 refine wpAny_bind (wpAny_specialOf hT slice_no_index (wpAny_pure ?_))
 refine wpAny_bind (wpAny_typeOf hT ?_)
 show wpAny _ _ (Bytes.sliceParts (.ref sl) >>= fun r=>_) _ _ s
 refine wpAny_bind ?_
 unfold Bytes.sliceParts
 refine wpAny_bind (wpAny_field (x := .none) ho hd rfl ?_)
 kby_none
 refine wpAny_ite (KBy.ite_no (show ¬((Value.none==rawInt 0)=true)from Bool.false_ne_true) ?_)
 refine wpAny_bind (wpAny_field (x:=l) ho hd rfl ?_)
 have go:wpAny (model prog w) A.in1 (sliceIndices (rawPart lo) (rawPart hi) (rawPart none) b.size) (fun r s'=>r=sliceBounds lo hi none b.size/\s'=s) (fun _ _=>False) s :=
  wpAny_of_eq (sliceIndices_raw lo hi none b.size (fun e=>nomatch e)) ⟨rfl,rfl⟩
 cases hl<;>cases hu<;>(first
  |(kby_none;(refine wpAny_bind (wpAny_field (x := .none) ho hd rfl ?_));kby_none)
  |(kby_none;(refine wpAny_bind (wpAny_field (x := .int _ _) ho hd rfl ?_));kby_int)
  |(kby_int;(refine wpAny_bind (wpAny_field (x := .none) ho hd rfl ?_));kby_none)
  |(kby_int;(refine wpAny_bind (wpAny_field (x := .int _ _) ho hd rfl ?_));kby_int))<;>refine wpAny_pure ?_
 all_goals
  refine wpAny_bind (jB hb ?_)
  refine wpAny_bind (wpAny_mono go (fun r s' hr=>?_) fun _ _ e=>e.elim)
  obtain⟨XJ,XK⟩:=hr
  subst XK
  obtain⟨st,sp,se⟩:=r
  show wpAny _ _ (Bytes.newBytearray (Bytes.sliced b st sp se) >>= _) _ _ _
  rw [Gm XJ]
  unfold Bytes.newBytearray
  exact wpAny_bind (wpAny_newObj_type (wpAny_pure ⟨_,rfl,h⟩) hsz)
variable{h₀:Heap}{L:Addr}{m:PySem.Str->Option Value}{news:List (Addr×Obj)}{value slice:PySem.Expr}{l u:Value}{lo hi:Option Int}{Q:Value->Shared->Prop}
theorem HU(hF:Fr h₀ L s.heap m)(hN:News h₀ L s.heap news)(ho:(a,dD b)∈news)(hl:IsPart l lo)(hu:IsPart u hi)(hz:b.size<=16777216)
  (h:∀x h' k,Fr h₀ L h' m->News h₀ L h' ((x,dD (KBy.picked b lo hi))::news)->(∀p∈news,p.1<x)->Q (.ref x) {s with heap:=h',toks:=k})
  (hs:subscripted slice false (.ref a) (.ref s.heap.objs.size)=operate [.ref s.heap.objs.size,.ref a] (getItem (.ref a) (.ref s.heap.objs.size)):=by with_unfolding_all rfl) :
  wpAny (model prog w) A (subscriptTail value slice (.ref a) (.ref s.heap.objs.size)) Q E {s with heap:=s.heap.push {cls := .type "slice",data := .fields #[l,u,.none]}}:=by
 have Vl:=News.pushKeep hN {cls := .type "slice",data := .fields #[l,u,.none]}
 have WM:=hF.push {cls := .type "slice",data := .fields #[l,u,.none]}
 have hb:(s.heap.push {cls := .type "slice",data := .fields #[l,u,.none]}).get? a=some (dD b):=Vl.get ho
 have hT:({s with heap:=s.heap.push {cls := .type "slice",data := .fields #[l,u,.none]}}:Shared).TypeIs (.ref a) "bytearray" := ⟨_,hb,rfl⟩
 refine tail_any hT BF.gP.lookup (getItem_meets hT (by decide) BF.gP BF.pe (BF.qk _ _) (xo b a _ hl hu)
  ⟨Heap.IsSliceOf.new _ _ _ _,hb,Nat.le_trans (KBc.size_picked_le b lo hi) (by rw [sizeLine_eq];exact hz),?_⟩) hs
 exact h _ _ _ (WM.push _) (Vl.push WM _) fun p hp=>Heap.lt_size (Vl p hp).1
theorem oi{i:Int}{ui:Tok}(hN:News h₀ L s.heap news)(ho:(a,dD b)∈news)(hz:b.size<=16777216)(h0:0<=i)(h1:i<b.size)
  (h:∀t k,Q (.int (b.getD i.toNat 0).toNat t) {s with toks:=k})
  (hs:subscripted slice false (.ref a) (.int i ui)=operate [.ref a,.int i ui] (getItem (.ref a) (.int i ui)):=by with_unfolding_all rfl) :
  wpAny (model prog w) A (subscriptTail value slice (.ref a) (.int i ui)) Q E s :=
 tail_any ⟨_,hN.get ho,rfl⟩ BF.gP.lookup (uZ (hN.get ho) hz h0 h1 (h _ _)) hs
theorem Gn{id:String}{f:Bool}{M:Model}{Q:Option (Array UInt8)->Shared->Prop}(ho:s.heap.get? a=some (dD b))(h:Q (some b) s):wpAny M A (Bytes.buffer? id (.ref a) f) Q E s:=by
 have hT:s.TypeIs (.ref a) "bytearray" := ⟨_,ho,rfl⟩
 unfold Bytes.buffer?
 refine wpAny_bind (wpAny_specialOf hT BF.r8 ?_)
 refine wpAny_bind ?_
 unfold Bytes.slotIsOwn
 refine wpAny_bind (wpAny_specialOf hT BF.r8 ?_)
 show wpAny _ _ (if (!("bytearray.__buffer__".endsWith ("." ++ "__buffer__")))=true then pure false else isInstance (.ref a) (.type ("bytearray.__buffer__".dropRight ("__buffer__".length+1)))) _ _ _
 rw [BF.uW,BF.uX]
 refine bm_if_false rfl (wpAny_isInstance hT BF.sub ?_)
 refine bm_if_false rfl ?_
 refine wpAny_bind (wpAny_specialOf hT BF.r8 ?_)
 refine wpAny_bind (kQ hT ?_)
 refine bm_if_false rfl ?_
 exact wpAny_bind (jB ho (wpAny_pure h))
theorem zo(ho:s.heap.get? a=some (dD b))(hz:b.size<=16777216)
  (h:∀t k,Q (.bytes b t) {s with toks:=k}):codeAny (model prog w) A (.call (.builtin "bytes.__new__") ⟨[.type "bytes",.ref a],[]⟩) (wants Q E) s:=by
 refine codeAny_of_tree ?_
 show wpAny _ A.in1 (do checkBuiltinCall "bytes.__new__" ⟨[.type "bytes",.ref a],[]⟩;again (.builtin "bytes.__new__" ⟨[.type "bytes",.ref a],[]⟩)) _ _ s
 refine wpAny_bind (wpAny_of_eq (F.bm_newCall _) (wpAny_pure ⟨plainId_quiet F.bm_plain _,codeAny_builtin F.bm_entry ?_⟩))
 rw [Around.under_plainId F.bm_plain _]
 have hT:s.TypeIs (.ref a) "bytearray" := ⟨_,ho,rfl⟩
 unfold Builtin.«bytes.__new__»
 refine wpAny_bind (wpAny_of_eq (a:=true) rfl ?_)
 refine bm_if_false rfl ?_
 refine wpAny_bind (wpAny_of_eq F.bm_sub ?_)
 refine bm_if_false rfl ?_
 refine wpAny_bind (wpAny_of_eq (F.bm_bind _) ?_)
 refine wpAny_bind (wpAny_of_eq (a:=()) rfl ?_)
 refine wpAny_bind (wpAny_of_eq (a:=()) rfl ?_)
 refine bm_if_false rfl ?_
 refine wpAny_bind (wpAny_specialOf hT BF.LI ?_)
 refine wpAny_bind (wpAny_bind ?_)
 show wpAny _ _ (load a >>= _) _ _ _
 refine wpAny_bind (wpAny_load ho ?_)
 refine wpAny_pure (wpAny_pure ?_)
 refine bm_if_false rfl ?_
 refine wpAny_bind (wpAny_specialOf hT BF.LJ ?_)
 refine bm_if_true rfl ?_
 show wpAny _ _ (Bytes.buffer? "bytes.__new__" (.ref a) true >>= _) _ _ _
 refine wpAny_bind (Gn ho ?_)
 refine wpAny_bind (wpAny_rule (wpAny_bind (wpAny_mkBytes ?_ (by rw [sizeLine_eq];exact hz))))
 show wpAny _ _ (if (Value.type "bytes" == Value.type "bytes")=true then _ else _) _ _ _
 refine bm_if_true (by decide) ?_
 exact wpAny_pure (h _ _)
theorem zq{t:Tok}(h:Q (.bytes b t) s):codeAny (model prog w) A (.call (.builtin "bytes.__new__") ⟨[.type "bytes",.bytes b t],[]⟩) (wants Q E) s:=by
 refine codeAny_of_tree ?_
 show wpAny _ A.in1 (do checkBuiltinCall "bytes.__new__" ⟨[.type "bytes",.bytes b t],[]⟩;again (.builtin "bytes.__new__" ⟨[.type "bytes",.bytes b t],[]⟩)) _ _ s
 refine wpAny_bind (wpAny_of_eq (F.bm_newCall _) (wpAny_pure ⟨plainId_quiet F.bm_plain _,codeAny_builtin F.bm_entry ?_⟩))
 rw [Around.under_plainId F.bm_plain _]
 unfold Builtin.«bytes.__new__»
 refine wpAny_bind (wpAny_of_eq (a:=true) rfl ?_)
 refine bm_if_false rfl ?_
 refine wpAny_bind (wpAny_of_eq F.bm_sub ?_)
 refine bm_if_false rfl ?_
 refine wpAny_bind (wpAny_of_eq (F.bm_bind _) ?_)
 refine wpAny_bind (wpAny_of_eq (a:=()) rfl ?_)
 refine wpAny_bind (wpAny_of_eq (a:=()) rfl ?_)
 refine bm_if_false rfl ?_
 refine wpAny_bind (wpAny_of_eq (KBy.special_eq BF.HT) ?_)
 refine wpAny_bind (wpAny_rule ?_)
 refine wpAny_bind (wpAny_typeOf (typeIs_bytes _ b t) ?_)
 refine bm_if_true (by decide) ?_
 show wpAny _ _ (if (Value.type "bytes" == Value.type "bytes")=true then _ else _) _ _ _
 refine bm_if_true (by decide) ?_
 exact wpAny_pure h
theorem xq{n:Int}{t:Tok}(h0:0<=n)(hz:n<=16777216)(h:∀t k,Q (.bytes (Array.replicate n.toNat 0) t) {s with toks:=k}) :
  codeAny (model prog w) A (.call (.builtin "bytes.__new__") ⟨[.type "bytes",.int n t],[]⟩) (wants Q E) s:=by
 refine codeAny_of_tree ?_
 show wpAny _ A.in1 (do checkBuiltinCall "bytes.__new__" ⟨[.type "bytes",.int n t],[]⟩;again (.builtin "bytes.__new__" ⟨[.type "bytes",.int n t],[]⟩)) _ _ s
 refine wpAny_bind (wpAny_of_eq (F.bm_newCall _) (wpAny_pure ⟨plainId_quiet F.bm_plain _,codeAny_builtin F.bm_entry ?_⟩))
 rw [Around.under_plainId F.bm_plain _]
 unfold Builtin.«bytes.__new__»
 refine wpAny_bind (wpAny_of_eq (a:=true) rfl ?_)
 refine bm_if_false rfl ?_
 refine wpAny_bind (wpAny_of_eq F.bm_sub ?_)
 refine bm_if_false rfl ?_
 refine wpAny_bind (wpAny_of_eq (F.bm_bind _) ?_)
 refine wpAny_bind (wpAny_of_eq (a:=()) rfl ?_)
 refine wpAny_bind (wpAny_of_eq (a:=()) rfl ?_)
 refine bm_if_false rfl ?_
 refine wpAny_bind (wpAny_specialOf (T := "int") (typeIs_int _ _ _) BF.A7 ?_)
 refine wpAny_bind (wpAny_bind ?_)
 refine wpAny_of_eq (a:=none) rfl ?_
 refine wpAny_pure ?_
 refine bm_if_false rfl ?_
 refine wpAny_bind (wpAny_specialOf (T := "int") (typeIs_int _ _ _) F.slot_int_index.lookup ?_)
 refine bm_if_false rfl ?_
 refine wpAny_bind (wpAny_attempt (wpAny_of_eq (a:=n) rfl ?_))
 have e1:Bytes.fitsIndex n=true:=by
  simp only [Bytes.fitsIndex,Bool.and_eq_true,decide_eq_true_eq];lia
 dsimp only
 refine bm_if_false (by rw [e1];rfl) ?_
 refine wpAny_ite (KBy.ite_no (show ¬(n<0) by lia) ?_)
 refine wpAny_ite (KBy.ite_no (show ¬(n > 2 ^ 63 - 34) by lia) ?_)
 refine bm_if_false (KBy.tooLong_not (by lia)) ?_
 refine wpAny_bind (wpAny_rule (wpAny_bind (wpAny_mkBytes ?_ (by rw [sizeLine_eq,Array.size_replicate];lia))))
 show wpAny _ _ (if (Value.type "bytes" == Value.type "bytes")=true then _ else _) _ _ _
 refine bm_if_true (by decide) ?_
 exact wpAny_pure (h _ _)
theorem kR{v:Value}(hn:∀Q₁:Value->Shared->Prop,(∀t k,Q₁ (.bytes b t) {s with toks:=k})->codeAny (model prog w) A.in1 (.call (.builtin "bytes.__new__") ⟨[.type "bytes",v],[]⟩) (wants Q₁ E) s)
  (h:∀t k,Q (.bytes b t) {s with toks:=k}):wpAny (model prog w) A (call (.type "bytes") [v]) Q E s:=by
 refine callType_codes (Q₁:=fun obj s₁=>s₁.TypeIs obj "bytes" /\ Q obj s₁) F.bm_called (F.bm_typeCall _) F.entry_object_init
  (hn _ fun t k=>⟨PySem.W.typeIs_bytes _ _ _,h t k⟩) fun obj s₁ h₁=>?_
 exact⟨h₁.1,F.args_object_init_2 obj _,object_init_meets F.bm_called.init.lookup F.bm_called.made (by decide) prog w A.in1 _ s₁ ⟨h₁.1,rfl,h₁.2⟩⟩
theorem xr{t:Tok}(h:∀t k,Q (.bytes b t) {s with toks:=k}) :
  wpAny (model prog w) A (call (.type "bytes") [.bytes b t]) Q E s:=kR (fun _ h₁=>zq (h₁ t s.toks)) h
theorem u0{n:Int}{t:Tok}(h0:0<=n)(hz:n<=16777216)(h:∀t k,Q (.bytes (Array.replicate n.toNat 0) t) {s with toks:=k}) :
  wpAny (model prog w) A (call (.type "bytes") [.int n t]) Q E s:=kR (fun _ h₁=>xq h0 hz h₁) h
end
end
section
variable{prog:Program}{w:World}{A:Around}{E:Value->Shared->Prop}{s:Shared}{b:Array UInt8}{t:Tok}{h₀:Heap}{L:Addr}{m:PySem.Str->Option Value}{news:List (Addr×Obj)}{Q:Value->Shared->Prop}
theorem EG{h h':Heap}(F:Fr h₀ L h m)(he:∀x o,h.get? x=some o->h'.get? x=some o):Fr h₀ L h' m:=by
 obtain⟨oL,es,ep,hL,r⟩:=F.ns
 exact⟨⟨oL,es,ep,he _ _ hL,r⟩,fun a o e=>he a o (F.keep a o e),F.above⟩
theorem u3(F:Fr h₀ L s.heap m)(N:News h₀ L s.heap news)(hz:b.size<=16777216)
  (h:∀x h' k,Fr h₀ L h' m->News h₀ L h' ((x,dD b)::news)->(∀p∈news,p.1<x)->Q (.ref x) {s with heap:=h',toks:=k}) :
  j3 (model prog w) A (call (.type "bytearray") [.bytes b t]) Q E s:=by
 refine m8 (zl (Heap.get?_push_size _ rfl) (by rw [sizeLine_eq];exact hz) fun h' ho hk=>⟨rfl,?_⟩)
 have he:∀x o,s.heap.get? x=some o->h'.get? x=some o:=fun x o e=>hk x o (Nat.ne_of_lt (Heap.lt_size e)) (Heap.get?_push_of_some _ e)
 refine h _ h' s.toks (EG F he) (fun p hp=>?_) fun p hp=>Heap.lt_size (N p hp).1
 rcases List.mem_cons.mp hp with rfl | hp
 ·refine⟨ho,?_,?_⟩
  ·obtain⟨oL,es,ep,hL,r⟩:=F.ns
   exact fun q=>Nat.lt_irrefl _ (q▸Heap.lt_size hL)
  ·cases q:h₀.get? s.heap.objs.size with
   |none=>rfl
   |some o=>exact absurd (Heap.lt_size (F.keep _ _ q)) (Nat.lt_irrefl _)
 ·exact⟨he _ _ (N p hp).1,(N p hp).2⟩
theorem zu{n:Int}(F:Fr h₀ L s.heap m)(N:News h₀ L s.heap news)(h0:0<n)(hz:n<=16777216)
  (h:∀x h' k,Fr h₀ L h' m->News h₀ L h' ((x,dD (Array.replicate n.toNat 0))::news)->(∀p∈news,p.1<x)->Q (.ref x) {s with heap:=h',toks:=k}) :
  j3 (model prog w) A (call (.type "bytearray") [.int n t]) Q E s:=by
 refine m8 (C3 (Heap.get?_push_size _ rfl) h0 hz fun h' ho hk=>⟨rfl,?_⟩)
 have he:∀x o,s.heap.get? x=some o->h'.get? x=some o:=fun x o e=>hk x o (Nat.ne_of_lt (Heap.lt_size e)) (Heap.get?_push_of_some _ e)
 refine h _ h' s.toks (EG F he) (fun p hp=>?_) fun p hp=>Heap.lt_size (N p hp).1
 rcases List.mem_cons.mp hp with rfl | hp
 ·refine⟨ho,?_,?_⟩
  ·obtain⟨oL,es,ep,hL,r⟩:=F.ns
   exact fun q=>Nat.lt_irrefl _ (q▸Heap.lt_size hL)
  ·cases q:h₀.get? s.heap.objs.size with
   |none=>rfl
   |some o=>exact absurd (Heap.lt_size (F.keep _ _ q)) (Nat.lt_irrefl _)
 ·exact⟨he _ _ (N p hp).1,(N p hp).2⟩
end
section
variable{prog:Program}{w:World}{A:Around}{E:Value->Shared->Prop}{s:Shared}{b:Array UInt8}{x:Addr}{h₀:Heap}{L:Addr}{m:PySem.Str->Option Value}{rest:List (Addr×Obj)}{Q:Unit->Shared->Prop}
end
section
open Builtin
namespace O5
theorem LK:Slot "bytes" (cmpInfo .Lt).2.1 "bytes.__lt__" :=
 .of (owner := "bytes") (n := "__lt__") (by rw [typeLookup_type,builtinLookup_eq_fast];kernel_rfl) (by decide +kernel) (by decide +kernel) (by decide +kernel)
  (by first | exact .inl (by decide +kernel) | exact .inr (by decide +kernel)) (by rw [isSubtype_type];kernel_rfl)
theorem HV:entryFor table "bytes.__lt__" = some Builtin.«bytes.__lt__» := entryFor_of_tree (by kernel_rfl)
theorem LL(a b:Value):argsOk "bytes.__lt__" ⟨[a,b],[]⟩:=by
 unfold argsOk;rw [signature?_of (id := "bytes.__lt__") (n:=['_','_','t','l','_','_']) (o:=['s','e','t','y','b']) (by kernel_rfl) FB.owner_bytes];kernel_rfl
theorem LM:Slot "bytes" (cmpInfo .Gt).2.1 "bytes.__gt__" :=
 .of (owner := "bytes") (n := "__gt__") (by rw [typeLookup_type,builtinLookup_eq_fast];kernel_rfl) (by decide +kernel) (by decide +kernel) (by decide +kernel)
  (by first | exact .inl (by decide +kernel) | exact .inr (by decide +kernel)) (by rw [isSubtype_type];kernel_rfl)
theorem HW:entryFor table "bytes.__gt__" = some Builtin.«bytes.__gt__» := entryFor_of_tree (by kernel_rfl)
theorem LN(a b:Value):argsOk "bytes.__gt__" ⟨[a,b],[]⟩:=by
 unfold argsOk;rw [signature?_of (id := "bytes.__gt__") (n:=['_','_','t','g','_','_']) (o:=['s','e','t','y','b']) (by kernel_rfl) FB.owner_bytes];kernel_rfl
end O5
noncomputable def ym(a b:Array UInt8):Bool:=Bytes.order a.toList b.toList == .lt
theorem pD:∀a b:List UInt8,(Bytes.order a b == .gt)=(Bytes.order b a == .lt)
 | [],[] | [],_::_ | _::_,[]=>rfl
 |x::a,y::b=>by
  simp only [Bytes.order]
  by_cases h1:x<y
  ·have h2:¬y<x:=fun h=>absurd (UInt8.lt_trans h1 h) (UInt8.lt_irrefl _)
   simp [h1,h2]
  ·by_cases h2:x > y
   ·have h3:y<x:=h2
    simp [h1,h3]
   ·have h3:¬y<x:=h2
    have h4:¬y > x:=h1
    simp only [h1,h2,h3,h4,if_false]
    exact pD a b
theorem HX(b c:Array UInt8)(t u:Tok):Gives («bytes.__lt__» ⟨[.bytes b t,.bytes c u],[]⟩) (.val (.bool (ym b c))):=by
 refine .of_wp fun M A E s Q hq=>?_
 show wpAny M A (isInstance (.bytes c u) (.type "bytes") >>= fun r=>_) _ E s
 refine wpAny_bind (wpAny_isInstance (typeIs_bytes s c u) F.sub_bytes_bytes ?_)
 exact wpAny_pure ⟨_,rfl,hq⟩
theorem HY(b c:Array UInt8)(t u:Tok):Gives («bytes.__gt__» ⟨[.bytes b t,.bytes c u],[]⟩) (.val (.bool (ym c b))):=by
 refine .of_wp fun M A E s Q hq=>?_
 show wpAny M A (isInstance (.bytes c u) (.type "bytes") >>= fun r=>_) _ E s
 refine wpAny_bind (wpAny_isInstance (typeIs_bytes s c u) F.sub_bytes_bytes ?_)
 exact wpAny_pure ⟨_,rfl,by unfold ym at hq;rw [← pD]at hq;exact hq⟩
section
variable{prog:Program}{w:World}{A:Around}{E:Value->Shared->Prop}{s:Shared}{b c:Array UInt8}{t u:Tok}{Q:Value->Shared->Prop}
theorem HZ(h:Q (.bool (ym b c)) s):wpAny (model prog w) A (compareOp .Lt (.bytes b t) (.bytes c u)) Q E s :=
 compareOp_gives (op := .Lt) (typeIs_bytes s b t) (typeIs_bytes s c u) O5.LK O5.HV (O5.LL _ _) (HX b c t u) (fun e=>nomatch e) h
theorem Ia(h:Q (.bool (ym c b)) s):wpAny (model prog w) A (compareOp .Gt (.bytes b t) (.bytes c u)) Q E s :=
 compareOp_gives (op := .Gt) (typeIs_bytes s b t) (typeIs_bytes s c u) O5.LM O5.HW (O5.LN _ _) (HY b c t u) (fun e=>nomatch e) h
theorem u4(a:Array UInt8):ym a a=false:=by
 unfold ym
 have:=order_eq a.toList a.toList
 rw [beq_self_eq_true]at this
 rw [beq_iff_eq.mp this];rfl
theorem O6{a b:Array UInt8}(h1:ym a b=false)(h2:ym b a=false):a=b:=by
 unfold ym at h1 h2
 rw [← pD]at h2
 have h3:(Bytes.order a.toList b.toList == .eq)=true:=by
  cases e:Bytes.order a.toList b.toList
  ·rw [e]at h1;cases h1
  ·rfl
  ·rw [e]at h2;cases h2
 rw [order_eq]at h3
 exact Array.toList_inj.mp (beq_iff_eq.mp h3)
theorem tC:∀a b c:List UInt8,Bytes.order a b = .lt->Bytes.order b c = .lt->Bytes.order a c = .lt
 | [],b,c,h1,h2=>by
  cases b with
  |nil=>cases h1
  |cons y b=>cases c with
   |nil=>cases h2
   |cons z c=>rfl
 |x::a,[],c,h1,h2=>by cases h1
 |x::a,y::b,[],h1,h2=>by cases h2
 |x::a,y::b,z::c,h1,h2=>by
  simp only [Bytes.order]at h1 h2 ⊢
  by_cases h3:x<y
  ·by_cases h4:y<z
   ·have:=UInt8.lt_trans h3 h4;simp [this]
   ·by_cases h5:y > z
    ·simp [h4,h5]at h2
    ·have:y=z:=UInt8.le_antisymm (UInt8.not_lt.mp h5) (UInt8.not_lt.mp h4)
     subst this;simp [h3]
  ·by_cases h4:x > y
   ·simp [h3,h4]at h1
   ·have:x=y:=UInt8.le_antisymm (UInt8.not_lt.mp h4) (UInt8.not_lt.mp h3)
    subst this
    simp only [h3,h4,if_false]at h1
    by_cases h5:x<z
    ·simp [h5]
    ·by_cases h6:x > z
     ·simp [h5,h6]at h2
     ·simp only [h5,h6,if_false]at h2 ⊢
      exact tC a b c h1 h2
theorem yn{a b c:Array UInt8}(h1:ym a b=true)(h2:ym b c=true):ym a c=true:=by
 unfold ym at *
 rw [beq_iff_eq]at *
 exact tC _ _ _ h1 h2
theorem Gp{a b:Array UInt8}(h1:ym a b=true):ym b a=false:=by
 cases h:ym b a with
 |false=>rfl
 |true=>have:=yn h1 h;rw [u4]at this;cases this
end
end
section
set_option genSizeOf false
noncomputable abbrev b7:=List (Addr×Obj)
inductive Fd | child | rowid | size | jC | overflow | data | A8 | eg | base | gQ | free | changes | kind | raws | right | bA | ay | m9 | message
 deriving DecidableEq
noncomputable def Fd.str:Fd->Str
 | .child => "child" | .rowid => "rowid" | .size => "size" | .jC => "local" | .overflow => "overflow" | .data => "data" | .A8 => "page" | .eg => "usable" | .base => "base" | .gQ => "pager" | .free => "free"
 | .changes => "changes" | .kind => "kind" | .raws => "raws" | .right => "right" | .bA => "page_size" | .ay => "pages" | .m9 => "spare" | .message => "message"
noncomputable def Fd.all:List Fd:=[.child,.rowid,.size,.jC,.overflow,.data,.A8,.eg,.base,.gQ,.free,.changes,.kind,.raws,.right,.bA,.ay,.m9,.message]
theorem Fd.mem(a:Fd):Fd.all.contains a=true:=by cases a<;>rfl
theorem Fd.inj(a b:Fd)(h:a.str=b.str):a=b:=by
 have t:(Fd.all.all fun a=>Fd.all.all fun b=>decide (a=b) || !decide (a.str=b.str))=true:=by decide +kernel
 have t:=List.all_eq_true.mp (List.all_eq_true.mp t a (List.contains_iff_mem.mp a.mem)) b (List.contains_iff_mem.mp b.mem)
 rw [decide_eq_true h]at t
 exact of_decide_eq_true ((Bool.or_false _).symm.trans t)
inductive V
 |none | bool (b:Bool) | int (i:Int) | bytes (b:List UInt8) | str (x:Str) | tup (vs:List V) | ref (n:Nat) | inst (c:Addr) (n:Nat) | oO | undef | olist (ns:List Int)
inductive AO
 |list (vs:List V) | ba (b:List UInt8) | dict (fs:List (Fd×V)) | tab (ks:List (Nat×Nat))
noncomputable abbrev AH:=List AO
inductive R(α:Type)
 |ok (a:α) (H:AH) | exc (H:AH) | stuck
noncomputable abbrev M(α:Type):=AH->R α
theorem R.qm{α:Type}{a:α}{H:AH}{p:Prop}(h:(.stuck:R α) = .ok a H):p:=nomatch h
noncomputable def R.bind{α β:Type}:R α->(α->AH->R β)->R β
 | .ok a H,k=>k a H
 | .exc H,_ => .exc H
 | .stuck,_ => .stuck
@[simp] theorem R.cZ{α β:Type}(a:α)(H:AH)(k:α->AH->R β):(R.ok a H).bind k=k a H:=rfl
@[simp] theorem R.Rv{α β:Type}(H:AH)(k:α->AH->R β):(R.exc H:R α).bind k = .exc H:=rfl
@[simp] theorem R.O7{α β:Type}(k:α->AH->R β):(R.stuck:R α).bind k = .stuck:=rfl
theorem ns{α:Type}{b:α}{p:Prop}(h:none=some b):p:=nomatch h
noncomputable def cC{α β:Type}:Option α->(α->R β)->R β
 |some a,k=>k a
 |none,_ => .stuck
@[simp] theorem oj{α β:Type}{a:α}{k:α->R β}:cC (some a) k=k a:=rfl
@[simp] theorem Rd{α β:Type}{k:α->R β}:cC none k = .stuck:=rfl
noncomputable abbrev sh(s:Shared)(h:Heap)(tk:Nat):Shared:={s with heap:=h,toks:=tk}
noncomputable abbrev Rw(vals:List Value)(c:Nat):Obj:={cls := .type "tuple",data := .seq vals.toArray c}
mutual
/-- a plain value,as it lies -/
noncomputable def cz(φ:List Addr)(T:b7):V->Value->Prop
 | .none,x=>x = .none
 | .bool b,x=>x = .bool b
 | .int i,x => ∃t,x = .int i t
 | .bytes b,x => ∃t,x = .bytes b.toArray t
 | .str y,x => ∃t,x = .str y t
 | .tup vs,x => ∃a vals c,x = .ref a/\(a,Rw vals c)∈T/\bj φ T vs vals
 | .ref n,x => ∃a,x = .ref a/\φ[n]? = some a
 | .inst c n,x => ∃a d,x = .ref a/\(a,instObj c d)∈T/\φ[n]? = some d
 | .oO,_=>True
 | .undef,_=>False
 | .olist ns,x => ∃(a:Addr)(vals:List Value)(c:Nat),x = .ref a/\(a,listOf vals.toArray c)∈T/\IntsAre vals ns
noncomputable def bj(φ:List Addr)(T:b7):List V->List Value->Prop
 | [],xs=>xs=[]
 |v::vs,xs => ∃x r,xs=x::r/\cz φ T v x/\bj φ T vs r
end
structure j4(φ:List Addr)(T:b7)(bc:List Addr)(T':b7):Prop where
 a:φ <+: bc
 t:∀p∈T,p∈T'
theorem j4.refl(φ:List Addr)(T:b7):j4 φ T φ T:=⟨List.prefix_refl _,fun _ h=>h⟩
theorem j4.trans{φ φ₁ φ₂:List Addr}{T T₁ T₂:b7}(x:j4 φ T φ₁ T₁)(y:j4 φ₁ T₁ φ₂ T₂):j4 φ T φ₂ T₂:=⟨x.a.trans y.a,fun p h=>y.t p (x.t p h)⟩
theorem j4.get{φ bc:List Addr}{T T':b7}(x:j4 φ T bc T'){n:Nat}{a:Addr}(h:φ[n]? = some a):bc[n]? = some a:=by
 obtain⟨r,rfl⟩:=x.a
 rw [List.getElem?_append_left (List.getElem?_eq_some_iff.mp h).1];exact h
mutual
theorem cz.mono{φ bc:List Addr}{T T':b7}(e:j4 φ T bc T'):∀{v:V}{x:Value},cz φ T v x->cz bc T' v x
 | .none,_,h=>h
 | .bool _,_,h=>h
 | .int _,_,h=>h
 | .bytes _,_,h=>h
 | .str _,_,h=>h
 | .tup vs,x,h=>by
  obtain⟨a,vals,c,h1,h2,h3⟩:=h
  exact⟨a,vals,c,h1,e.t _ h2,bj.mono e h3⟩
 | .ref _,_,h=>by
  obtain⟨a,h1,h2⟩:=h;exact⟨a,h1,e.get h2⟩
 | .inst _ _,_,h=>by
  obtain⟨a,d,h1,h2,h3⟩:=h;exact⟨a,d,h1,e.t _ h2,e.get h3⟩
 | .oO,_,h=>h
 | .undef,_,h=>h
 | .olist ns,x,h=>by
  obtain⟨a,vals,c,h1,h2,h3⟩:=h
  exact⟨a,vals,c,h1,e.t _ h2,h3⟩
theorem bj.mono{φ bc:List Addr}{T T':b7}(e:j4 φ T bc T'):∀{v:List V}{x:List Value},bj φ T v x->bj bc T' v x
 | [],_,h=>h
 |v::vs,x,h=>by
  obtain⟨y,r,h1,h2,h3⟩:=h
  exact⟨y,r,h1,cz.mono e h2,bj.mono e h3⟩
end
section
variable{φ:List Addr}{T:b7}{vs ws:List V}{xs ys:List Value}{i:Nat}{v:V}{x:Value}
theorem bj.length(h:bj φ T vs xs):xs.length=vs.length:=by
 induction vs generalizing xs with
 |nil=>exact congrArg List.length h
 |cons v vs ih=>obtain⟨y,r,rfl,_,h3⟩:=h;exact congrArg (· + 1) (ih h3)
theorem bj.get(h:bj φ T vs xs)(e:vs[i]? = some v):∃x,xs[i]? = some x/\cz φ T v x:=by
 induction vs generalizing xs i with
 |nil=>exact nomatch e
 |cons w vs ih =>
  obtain⟨y,r,rfl,h2,h3⟩:=h
  cases i with
  |zero=>exact⟨y,rfl,Option.some.inj e▸h2⟩
  |succ i=>exact ih (xs:=r) h3 e
theorem bj.append(h:bj φ T vs xs)(k:bj φ T ws ys):bj φ T (vs++ws) (xs++ys):=by
 induction vs generalizing xs with
 |nil=>cases h;exact k
 |cons w vs ih=>obtain⟨y,r,rfl,h2,h3⟩:=h;exact⟨y,_,rfl,h2,ih h3⟩
theorem bj.nil:bj φ T [] []:=rfl
theorem bj.cons(h:cz φ T v x)(k:bj φ T vs xs):bj φ T (v::vs) (x::xs):=⟨x,xs,rfl,h,k⟩
theorem bj.one(h:cz φ T v x):bj φ T [v] [x] := .cons h .nil
theorem bj.set(h:bj φ T vs xs)(k:cz φ T v x):bj φ T (vs.set i v) (xs.set i x):=by
 induction vs generalizing xs i with
 |nil=>cases h;exact .nil
 |cons w vs ih =>
  obtain⟨y,r,rfl,h2,h3⟩:=h
  cases i with
  |zero=>exact .cons k h3
  |succ i=>exact .cons h2 (ih h3)
theorem bj.drop(n:Nat)(h:bj φ T vs xs):bj φ T (vs.drop n) (xs.drop n):=by
 induction n generalizing vs xs with
 |zero=>exact h
 |succ n ih =>
  cases vs with
  |nil=>cases h;exact .nil
  |cons w vs=>obtain⟨y,r,rfl,h2,h3⟩:=h;exact ih (vs:=vs) (xs:=r) h3
theorem bj.take(n:Nat)(h:bj φ T vs xs):bj φ T (vs.take n) (xs.take n):=by
 induction n generalizing vs xs with
 |zero=>exact .nil
 |succ n ih =>
  cases vs with
  |nil=>cases h;exact .nil
  |cons w vs=>obtain⟨y,r,rfl,h2,h3⟩:=h;exact .cons h2 (ih h3)
theorem bj.reverse(h:bj φ T vs xs):bj φ T vs.reverse xs.reverse:=by
 induction vs generalizing xs with
 |nil=>cases h;exact .nil
 |cons w vs ih =>
  obtain⟨y,r,rfl,h2,h3⟩:=h
  rw [List.reverse_cons,List.reverse_cons]
  exact bj.append (ih h3) (.one h2)
end
inductive fK{α β:Type}(r:α->β->Prop):List α->List β->Prop
 |nil:fK r [] []
 |cons {a b l m}:r a b->fK r l m->fK r (a::l) (b::m)
namespace fK
variable{α β:Type}{r q:α->β->Prop}{l:List α}{m:List β}
theorem imp(h:∀a b,r a b->q a b)(k:fK r l m):fK q l m:=by
 induction k with
 |nil=>exact .nil
 |cons a _ b=>exact .cons (h _ _ a) b
theorem length(k:fK r l m):l.length=m.length:=by
 induction k with
 |nil=>rfl
 |cons _ _ b=>exact congrArg (· + 1) b
theorem get{i:Nat}{a:α}(k:fK r l m)(e:l[i]? = some a):∃b,m[i]? = some b/\r a b:=by
 induction k generalizing i with
 |nil=>exact nomatch e
 |cons h _ ih =>
  cases i with
  |zero=>exact⟨_,rfl,Option.some.inj e▸h⟩
  |succ i=>exact ih e
theorem set{i:Nat}{a:α}{b:β}(k:fK r l m)(h:r a b):fK r (l.set i a) (m.set i b):=by
 induction k generalizing i with
 |nil=>exact .nil
 |cons x y ih =>
  cases i with
  |zero=>exact .cons h y
  |succ i=>exact .cons x ih
theorem append{l':List α}{m':List β}(k:fK r l m)(h:fK r l' m'):fK r (l++l') (m++m'):=by
 induction k with
 |nil=>exact h
 |cons a _ b=>exact .cons a b
end fK
noncomputable def u5(φ:List Addr)(T:b7)(f:Fd×V)(e:DictEntry):Prop:=(∃tk,e.key = .str f.1.str tk)/\cz φ T f.2 e.val
noncomputable def zv(φ:List Addr)(T:b7):AO->Obj->Prop
 | .list vs,o => ∃vals c,o=listOf vals.toArray c/\bj φ T vs vals
 | .ba b,o=>o=dD b.toArray
 | .dict fs,o => ∃es n,o=dictOf es n/\fK (u5 φ T) fs es
 | .tab ks,o => ∃ps:Array Value,o=tabObj ps/\TriplesOk ps.toList /\ ∀pos:Pos,(pos.line,pos.col)∉ks->codeAmong pos ps.toList=none
theorem zv.mono{φ bc:List Addr}{T T':b7}(e:j4 φ T bc T'):∀{v:AO}{x:Obj},zv φ T v x->zv bc T' v x
 | .list _,_,⟨vals,c,h1,h2⟩=>⟨vals,c,h1,h2.mono e⟩
 | .ba _,_,h=>h
 | .dict _,_,⟨es,n,h1,h2⟩=>⟨es,n,h1,h2.imp fun _ _ q=>⟨q.1,q.2.mono e⟩⟩
 | .tab _,_,h=>h
structure CV(φ:List Addr)(T:b7)(H:AH)(obs:List Obj):Prop where
 len:φ.length=obs.length
 rep:fK (zv φ T) H obs
noncomputable def fW:List Addr:=[836,831,824]
noncomputable def codeOf(sc:List (Str×NameKind)):Option Addr:=if sc.lookup (Str.ofString "keys")=some .cell then some 840 else if sc.lookup (Str.ofString "some")=some .local then some 833 else if sc.lookup (Str.ofString "asked")=some .local then some 828 else none
set_option genInjectivity false in
structure Cfg where
 w:World
 prog:Program
 K:Frag
 p:Program
 loose:List Str
 exc:Addr
set_option genInjectivity false in
structure Fm(C:Cfg) where
 dp:Nat
 un:Nat
 gd:Option (List Code)
 cn:Str
 cs:Scope
 a:Addr
 ccd:Value
 cl:List (Str×Addr)
 outer:List Env
 A₀:Around
 base:Heap
 g₀:Heap
 L:Addr
 mean:ExcName->Option Value
 mg:Str->Option Value
 mb:Str->Option Value
 XB:C.K.In base
 TB:Top C.p C.loose mean mg mb base
 hk:cs.kind = .function
 hc:∀c,codeOf cs.names=some c->ccd = .ref c
 CB:CodeAll [(840,836),(833,831),(828,824)] base
noncomputable abbrev Fm.env{C:Cfg}(f:Fm C):Env:=envX f.cn f.cs f.L f.a f.ccd f.cl
noncomputable abbrev Fm.A{C:Cfg}(f:Fm C):Around:=ktrTop f.dp f.un f.gd f.cn f.cs f.L f.a f.ccd f.cl f.outer
noncomputable abbrev Fm.fs{C:Cfg}(f:Fm C):List Addr:=f.outer.filterMap (·.frame)
structure Gr{C:Cfg}(f:Fm C)(h₀:Heap):Prop where
 B:Below f.A₀ f.base f.outer h₀
 D:KtsDicts f.fs h₀
 T:KtsTurn f.fs f.g₀ h₀
section
variable{C:Cfg}{f:Fm C}{h₀:Heap}
theorem Gr.X(G:Gr f h₀):C.K.In h₀:=f.XB.keeps G.B.stays
theorem Gr.P(G:Gr f h₀):Top C.p C.loose f.mean f.mg f.mb h₀:=f.TB.keeps G.B.stays
end
structure Off(φ:List Addr)(T Z:b7):Prop where
 fi:∀p∈T++Z,p.1∉φ
 tz:∀p∈T,∀q∈Z,p.1≠q.1
 zn:(Z.map (·.1)).Nodup
 tb:fW <+: φ
inductive St{C:Cfg}(f:Fm C)(m:Str->Option Value)(φ:List Addr)(T Z:b7)(H:AH)(h:Heap):Prop
 |mk (h₀:Heap) (obs:List Obj) (G:Gr f h₀) (F:Fr h₀ f.L h m) (N:News h₀ f.L h (φ.zip obs++(T++Z))) (O:CV φ T H obs) (nd:φ.Nodup) (off:Off φ T Z)
theorem St.nd{C:Cfg}{f:Fm C}{m:Str->Option Value}{φ:List Addr}{T Z:b7}{H:AH}{h:Heap}:St f m φ T Z H h->φ.Nodup
 |⟨_,_,_,_,_,_,nd,_⟩=>nd
theorem St.off{C:Cfg}{f:Fm C}{m:Str->Option Value}{φ:List Addr}{T Z:b7}{H:AH}{h:Heap}:St f m φ T Z H h->Off φ T Z
 |⟨_,_,_,_,_,_,_,off⟩=>off
noncomputable def MadeX(h h':Heap)(e:Addr)(cls:Value):Prop :=
 (∀b o,h.get? b=some o->h'.get? b=some o)/\h.get? e=none /\ ∃oe vs a0,h'.get? e=some oe/\oe.cls=cls/\oe.data = .fields vs/\vs[1]? = some Value.none/\vs[0]? = some a0
inductive t8{C:Cfg}(f:Fm C)(φ:List Addr)(T Z:b7)(H:AH)(e:Addr)(h':Heap):Prop
 |made {m bc T' h}:St f m bc T' Z H h->j4 φ T bc T'->MadeX h h' e (.ref C.exc)->t8 f φ T Z H e h'
 |NQ {m bc T' obs g G}:Gr f g->Fr g f.L G m->G.UpToSlots h'->RaisedSN f.base G (f.env::f.outer) e (.ref C.exc) (bc.zip obs++(T'++Z)) h'->CV bc T' H obs->bc.Nodup->Off bc T' Z->j4 φ T bc T'->t8 f φ T Z H e h'
theorem t8.mono{C:Cfg}{f:Fm C}{φ φ₁:List Addr}{T T₁ Z:b7}{H:AH}{e:Addr}{h':Heap}(x:j4 φ T φ₁ T₁):t8 f φ₁ T₁ Z H e h'->t8 f φ T Z H e h'
 | .made a b c => .made a (x.trans b) c
 | .NQ a b c d e g i j => .NQ a b c d e g i (x.trans j)
noncomputable def Post{α β:Type}(rep:List Addr->b7->α->β->Prop){C:Cfg}(f:Fm C)(m:Str->Option Value)(φ:List Addr)(T Z:b7)(s:Shared)(r:R α)(Q:β->Shared->Prop)(E:Value->Shared->Prop):Prop :=
 match r with
 | .ok v H => ∀bc T' x h tk,j4 φ T bc T'->St f m bc T' Z H h->rep bc T' v x->Q x (sh s h tk)
 | .exc H => ∀e h tk,t8 f φ T Z H e h->E (.ref e) (sh s h tk)
 | .stuck=>False
noncomputable def Runs{α β:Type}(rep:List Addr->b7->α->β->Prop){C:Cfg}(f:Fm C)(m:Str->Option Value)(φ:List Addr)(T Z:b7)(s:Shared)(cb:Bool)(t:Sem β)(r:R α):Prop :=
 ∀Q E,Post rep f m φ T Z s r Q E->bS cb (model C.prog C.w) f.A t Q E s
section
variable{α β γ δ:Type}{C:Cfg}{f:Fm C}{m:Str->Option Value}{φ φ₁:List Addr}{T T₁ Z:b7}{H:AH}{s:Shared}{cb:Bool}{rep:List Addr->b7->α->β->Prop}{LP:List Addr->b7->γ->δ->Prop}
theorem Post.ext{r:R α}{Q:β->Shared->Prop}{E:Value->Shared->Prop}{h:Heap}{tk:Nat}(x:j4 φ T φ₁ T₁)(P:Post rep f m φ T Z s r Q E):Post rep f m φ₁ T₁ Z (sh s h tk) r Q E:=by
 cases r with
 |ok v H=>exact fun bc T' y h' tk' e st rv=>P bc T' y h' tk' (x.trans e) st rv
 |exc H=>exact fun e h' tk' a=>P e h' tk' (a.mono x)
 |stuck=>exact P
theorem Post.opt{η:Type}{o:Option η}{k:η->R α}{Q:β->Shared->Prop}{E:Value->Shared->Prop}(P:Post rep f m φ T Z s (cC o k) Q E):∃a,o=some a/\Post rep f m φ T Z s (k a) Q E:=by
 cases o with
 |none=>exact P.elim
 |some a=>exact⟨a,rfl,P⟩
theorem Post.guard{c:Prop}[Decidable c]{r:R α}{Q:β->Shared->Prop}{E:Value->Shared->Prop}(P:Post rep f m φ T Z s (if c then r else .stuck) Q E):c/\Post rep f m φ T Z s r Q E:=by
 by_cases q:c
 ·rw [if_pos q]at P;exact⟨q,P⟩
 ·rw [if_neg q]at P;exact P.elim
theorem Runs.stuck{t:Sem β}:Runs rep f m φ T Z s cb t (.stuck:R α):=fun _ _ P=>P.elim
theorem Runs.opt{δ:Type}{o:Option δ}{t:Sem β}{k:δ->R α}(h:∀a,o=some a->Runs rep f m φ T Z s cb t (k a)):Runs rep f m φ T Z s cb t (cC o k):=by
 cases o with
 |none=>exact .stuck
 |some a=>exact h a rfl
theorem Runs.guard{c:Prop}[Decidable c]{t:Sem β}{r:R α}(h:c->Runs rep f m φ T Z s cb t r):Runs rep f m φ T Z s cb t (if c then r else .stuck):=by
 by_cases q:c
 ·rw [if_pos q];exact h q
 ·rw [if_neg q];exact .stuck
theorem Runs.bind{t:Sem β}{k:β->Sem δ}{r:R α}{kr:α->AH->R γ}(h:Runs rep f m φ T Z s cb t r)
  (hk:∀v H' bc T' x h' tk',r = .ok v H'->j4 φ T bc T'->St f m bc T' Z H' h'->rep bc T' v x->Runs LP f m bc T' Z (sh s h' tk') cb (k x) (kr v H')) :
  Runs LP f m φ T Z s cb (t >>= k) (r.bind kr):=fun Q E P=>by
 refine bw (h _ _ ?_)
 cases r with
 |ok v H'=>exact fun bc T' x h' tk' e st rv=>hk v H' bc T' x h' tk' rfl e st rv Q E (P.ext e)
 |exc H'=>exact fun e h' tk' a=>P e h' tk' a
 |stuck=>exact P
theorem Runs.iz{t:Sem β}{r:R α}{kr:α->AH->R γ}{Q:δ->Shared->Prop}{E:Value->Shared->Prop}{G:β->Shared->Prop}(h:Runs rep f m φ T Z s cb t r)(P:Post LP f m φ T Z s (r.bind kr) Q E)
  (hk:∀v H' bc T' x h' tk',j4 φ T bc T'->St f m bc T' Z H' h'->rep bc T' v x->Post LP f m bc T' Z (sh s h' tk') (kr v H') Q E->G x (sh s h' tk')) :
  bS cb (model C.prog C.w) f.A t G E s:=by
 refine h _ _ ?_
 cases r with
 |ok v H'=>exact fun bc T' x h' tk' e st rv=>hk v H' bc T' x h' tk' e st rv (P.ext e)
 |exc H'=>exact fun e h' tk' a=>P e h' tk' a
 |stuck=>exact P
theorem Runs.any{a:α}{t:Sem β}(st:St f m φ T Z H s.heap)(h:∀Q E,(∀x tk,rep φ T a x->Q x {s with toks:=tk})->wpAny (model C.prog C.w) f.A t Q E s):Runs rep f m φ T Z s cb t (.ok a H):=fun Q E P=>bS.any (h Q E fun x tk rv=>P φ T x s.heap tk (.refl _ _) st rv)
theorem Runs.pure{a:α}{x:β}(st:St f m φ T Z H s.heap)(h:rep φ T a x):Runs rep f m φ T Z s cb (Pure.pure x) (.ok a H):=fun _ _ P=>bD (P φ T x s.heap s.toks (.refl _ _) st h)
theorem Runs.standAt{pos:Pos}{k:Unit->Sem β}{r:R α}(h:Runs rep f m φ T Z s cb (k ()) r):Runs rep f m φ T Z s cb (PySem.standAt pos >>= k) r:=fun Q E P=>bM (h Q E P)
theorem Runs.holding{vs:List Value}{t:Sem β}{r:R α}(h:Runs rep f m φ T Z s cb t r):Runs rep f m φ T Z s cb (PySem.holding vs t) r:=fun Q E P=>dz (h Q E P)
theorem Runs.of_eq{t t':Sem β}{r:R α}(e:t=t')(h:Runs rep f m φ T Z s cb t' r):Runs rep f m φ T Z s cb t r:=e▸h
theorem Runs.up{t:Sem β}{r:R α}(h:Runs rep f m φ T Z s false t r):Runs rep f m φ T Z s cb t r:=fun Q E P=>O2 (h Q E P)
end
section
variable{α:Type}{C:Cfg}{f:Fm C}{m:Str->Option Value}{φ:List Addr}{T Z:b7}{s:Shared}{cb:Bool}{rep:List Addr->b7->α->Value->Prop}
theorem Runs.operate{vs:List Value}{t:Sem Value}{r:R α}(h:Runs rep f m φ T Z s cb t r):Runs rep f m φ T Z s cb (PySem.operate vs t) r:=fun Q E P=>tB (h Q E P)
end
inductive qn{C:Cfg}(f:Fm C)(env:Env)(m:Str->Option Value)(Z:b7)(x:Str)(val:Value):Prop
 |loc:env.locals=f.L->env.kindOf x=some .local->m x=some val->qn f env m Z x val
 |cell {c o}:env.kindOf x=some .cell->env.cells.lookup x=some c->(c,o)∈Z->o.data = .cell (some val)->qn f env m Z x val
 |free {c o}:env.kindOf x=some .free->(x==("__classdict__" : Str))=false->env.cells.lookup x=some c->(c,o)∈Z->o.data = .cell (some val)->qn f env m Z x val
 |comp {oC m₂}:env.kindOf x=some .local->(env.locals,oC)∈Z->LCg.NsObj oC m₂->m₂ x=some val->qn f env m Z x val
structure fg(env:Env)(sc:List (Str×NameKind)):Prop where
 kind:env.scope.kind = .function
 glob:env.globals=mainGlobals
 NR:env.builtins=builtinsNs
 names:env.scope.names=sc
 code:∀c,codeOf sc=some c->env.code = .ref c
structure ER{C:Cfg}(f:Fm C)(env:Env)(m:Str->Option Value)(Z:b7)(names:List Str)(ρ:List V)(φ:List Addr)(T:b7):Prop where
 len:names.length=ρ.length
 at_:∀(i:Nat)(x:Str)(v:V),names[i]? = some x->ρ[i]? = some v->v ≠ .undef -> ∃val,qn f env m Z x val/\cz φ T v val
theorem ER.mono{C:Cfg}{f:Fm C}{env:Env}{m:Str->Option Value}{Z:b7}{names:List Str}{ρ:List V}{φ bc:List Addr}{T T':b7}(e:j4 φ T bc T')(h:ER f env m Z names ρ φ T):ER f env m Z names ρ bc T' :=
 ⟨h.len,fun i x v a b c=>let ⟨val,p,q⟩:=h.at_ i x v a b c;⟨val,p,q.mono e⟩⟩
structure iC{C:Cfg}(f:Fm C)(d:Nat):Prop where
 dp:f.dp+d<recursionLimit
 un:f.un+8*d+8<cLine
noncomputable def O8{α β:Type}(rep:List Addr->b7->α->β->Prop)(C:Cfg)(cb:Bool)(d:Nat)(sc:List (Str×NameKind))(names:List Str)(t:Env->Sem β)(fn:List V->AH->R α):Prop :=
 ∀(f:Fm C)(env:Env)(m:Str->Option Value)(ρ:List V)(φ:List Addr)(T Z:b7)(H:AH)(s:Shared),iC f d->fg env sc->ER f env m Z names ρ φ T->St f m φ T Z H s.heap->Runs rep f m φ T Z s cb (t env) (fn ρ H)
noncomputable def ez(C:Cfg)(cb:Bool)(d:Nat)(sc:List (Str×NameKind))(names:List Str)(e:Expr)(fn:List V->AH->R V):Prop:=O8 cz C cb d sc names (fun env=>eval e env) fn
noncomputable def LQ(_:List Addr)(_:b7)(a b:Bool):Prop:=a=b
noncomputable def yo(C:Cfg)(cb:Bool)(d:Nat)(sc:List (Str×NameKind))(names:List Str)(e:Expr)(fn:List V->AH->R Bool):Prop:=O8 LQ C cb d sc names (fun env=>isTrue e env (eval e env)) fn
end
theorem qo{φ:List Addr}{obs:List Obj}{n:Nat}{a:Addr}{o:Obj}(ha:φ[n]? = some a)(ho:obs[n]? = some o):(a,o)∈φ.zip obs :=
 List.mem_of_getElem? (i:=n) (by rw [List.getElem?_zip_eq_some];exact⟨ha,ho⟩)
theorem lV{R:b7}{a:Addr}{o o':Obj}{φ:List Addr}{obs:List Obj}{n:Nat}(nd:φ.Nodup)(off:∀p∈R,p.1∉φ)(hl:φ.length=obs.length)(ha:φ[n]? = some a)(ho:obs[n]? = some o) :
  Upd a o o' (φ.zip obs++R) (φ.zip (obs.set n o')++R):=by
 induction φ generalizing obs n with
 |nil=>exact nomatch ha
 |cons b φ ih =>
  cases obs with
  |nil=>exact nomatch ho
  |cons ob obs =>
   have zw:=List.nodup_cons.mp nd
   cases n with
   |zero =>
    obtain rfl:b=a:=Option.some.inj ha
    obtain rfl:ob=o:=Option.some.inj ho
    refine Upd.head fun p hp q=>?_
    rcases List.mem_append.mp hp with hp | hp
    ·exact zw.1 (q▸(List.of_mem_zip (a:=p.1) (b:=p.2) hp).1)
    ·exact off p hp (q▸List.mem_cons_self)
   |succ n =>
    exact Upd.tail (fun q:b=a=>zw.1 (q▸List.mem_of_getElem? (i:=n) ha)) (ih zw.2 (fun p hp q=>off p hp (List.mem_cons_of_mem _ q)) (Nat.succ.inj hl) ha ho)
section
variable{C:Cfg}{f:Fm C}{m m':Str->Option Value}{φ:List Addr}{T Z:b7}{H:AH}{h h' h₀:Heap}{obs:List Obj}
theorem CV.get(O:CV φ T H obs){n:Nat}{a:Addr}{ao:AO}(ha:φ[n]? = some a)(ho:H[n]? = some ao):∃ob,obs[n]? = some ob/\zv φ T ao ob/\(a,ob)∈φ.zip obs:=by
 obtain⟨ob,h1,h2⟩:=O.rep.get ho
 exact⟨ob,h1,h2,qo ha h1⟩
theorem St.frame(st:St f m φ T Z H h)(k:∀h₀,Gr f h₀->Fr h₀ f.L h m->Fr h₀ f.L h m'):St f m' φ T Z H h:=by
 obtain⟨h₀,obs,G,F,N,O,nd,off⟩:=st
 exact⟨h₀,obs,G,k h₀ G F,N,O,nd,off⟩
theorem St.set(G:Gr f h₀)(F:Fr h₀ f.L h' m)(nd:φ.Nodup)(off:Off φ T Z){n:Nat}{ao:AO}{o':Obj}(N:News h₀ f.L h' (φ.zip (obs.set n o')++(T++Z)))(O:CV φ T H obs)(r:zv φ T ao o'):St f m φ T Z (H.set n ao) h' :=
 ⟨h₀,_,G,F,N,⟨by rw [List.length_set];exact O.len,O.rep.set r⟩,nd,off⟩
theorem u6(nd:φ.Nodup)(off:Off φ T Z){L l:Addr}{ao:AO}{o:Obj}(N:News h₀ L h' ((l,o)::(φ.zip obs++(T++Z))))(ne:∀p∈φ.zip obs++(T++Z),p.1≠l)(O:CV φ T H obs)
  (r:zv φ T ao o):News h₀ L h' ((φ++[l]).zip (obs++[o])++(T++Z))/\CV (φ++[l]) T (H++[ao]) (obs++[o])/\(φ++[l]).Nodup/\Off (φ++[l]) T Z/\j4 φ T (φ++[l]) T:=by
 have e:j4 φ T (φ++[l]) T:=⟨List.prefix_append _ _,fun _ hp=>hp⟩
 have nl:∀a∈φ,a≠l:=fun a hm q=>by
  obtain⟨i,hi,rfl⟩:=List.getElem_of_mem hm
  exact ne _ (List.mem_append_left _ (qo (n:=i) (List.getElem?_eq_getElem hi) (List.getElem?_eq_getElem (O.len▸hi)))) q
 refine⟨fun p hp=>N p ?_,⟨by rw [List.length_append,List.length_append,O.len];rfl,(O.rep.imp fun _ _ q=>q.mono e).append (.cons (r.mono e) .nil)⟩,List.nodup_append.mpr ⟨nd,List.nodup_cons.mpr ⟨List.not_mem_nil,.nil⟩,fun a ha b hb=>List.mem_singleton.mp hb▸nl a ha⟩,⟨fun p hp q=>?_,off.tz,off.zn,off.tb.trans (List.prefix_append _ _)⟩,e⟩
 ·rw [List.zip_append O.len,List.append_assoc]at hp
  exact List.perm_middle.mem_iff.mp hp
 ·rcases List.mem_append.mp q with q | q
  ·exact off.fi p hp q
  ·exact ne p (List.mem_append_right _ hp) (List.mem_singleton.mp q)
theorem St.push(G:Gr f h₀)(F:Fr h₀ f.L h' m)(nd:φ.Nodup)(off:Off φ T Z){l:Addr}{ao:AO}{o:Obj}(N:News h₀ f.L h' ((l,o)::(φ.zip obs++(T++Z))))(lt:∀p∈φ.zip obs++(T++Z),p.1<l)(O:CV φ T H obs)
  (r:zv φ T ao o):St f m (φ++[l]) T Z (H++[ao]) h'/\j4 φ T (φ++[l]) T :=
 have⟨N',O',zw,off',e⟩:=u6 nd off N (fun p hp=>Nat.ne_of_lt (lt p hp)) O r
 ⟨⟨h₀,_,G,F,N',O',zw,off'⟩,e⟩
theorem St.NS(G:Gr f h₀)(F:Fr h₀ f.L h' m)(nd:φ.Nodup)(off:Off φ T Z){l:Addr}{o:Obj}(N:News h₀ f.L h' ((l,o)::(φ.zip obs++(T++Z))))(lt:∀p∈φ.zip obs++(T++Z),p.1<l)(O:CV φ T H obs) :
  St f m φ ((l,o)::T) Z H h'/\j4 φ T φ ((l,o)::T):=by
 have e:j4 φ T φ ((l,o)::T):=⟨List.prefix_refl _,fun _ hp=>List.mem_cons_of_mem _ hp⟩
 refine⟨⟨h₀,obs,G,F,fun p hp=>N p (List.perm_middle.mem_iff.mp hp),⟨O.len,O.rep.imp fun _ _ q=>q.mono e⟩,nd,fun p hp hm=>?_,fun p hp q hq qe=>?_,off.zn,off.tb⟩,e⟩
 ·rcases List.mem_cons.mp hp with rfl | hp
  ·obtain⟨i,hi,q⟩:=List.getElem_of_mem hm
   exact absurd (lt _ (List.mem_append_left _ (qo (n:=i) (List.getElem?_eq_getElem hi) (List.getElem?_eq_getElem (O.len▸hi))))) (q▸Nat.lt_irrefl _)
  ·exact off.fi p hp hm
 ·rcases List.mem_cons.mp hp with rfl | hp
  ·exact absurd (lt q (List.mem_append_right _ (List.mem_append_right _ hq))) (qe▸Nat.lt_irrefl _)
  ·exact off.tz p hp q hq qe
end
section
variable{C:Cfg}{cb:Bool}{d:Nat}{sc:List (Str×NameKind)}{names:List Str}
noncomputable abbrev EF:=List V->AH->R V
noncomputable abbrev BF:=List V->AH->R Bool
noncomputable def ak(v:V):EF:=fun _ H => .ok v H
noncomputable def O9:V->AH->R V
 | .undef,_ => .stuck
 |v,H => .ok v H
theorem EH(x:V)(H:AH):(O9 x H = .stuck)\/(x ≠ .undef/\O9 x H = .ok x H):=by cases x<;>first | exact .inl rfl | exact .inr ⟨fun h=>V.noConfusion h,rfl⟩
noncomputable def gA:List V->Nat->AH->R V
 | [],_,_ => .stuck
 |v::_,0,H=>O9 v H
 |_::r,n+1,H=>gA r n H
theorem zx(ρ:List V)(i:Nat)(H:AH):(gA ρ i H = .stuck) \/ ∃v,ρ[i]? = some v/\v ≠ .undef/\gA ρ i H = .ok v H:=by
 induction ρ generalizing i with
 |nil=>exact .inl rfl
 |cons x ρ ih =>
  cases i with
  |zero=>exact(EH x H).imp_right fun h=>⟨x,rfl,h⟩
  |succ i=>exact ih i
noncomputable def ai(i:Nat):EF:=fun ρ H=>gA ρ i H
theorem aB{i:Int}{k pos}:ez C cb d sc names (.Constant (.int i) k pos) (ak (.int i)):=fun f env m ρ φ T Z H s _ _ _ st Q E P=>bS.any (wpAny_Constant_int (P φ T _ s.heap _ (.refl _ _) st ⟨_,rfl⟩))
theorem cO{i:Bool}{k pos}:ez C cb d sc names (.Constant (.bool i) k pos) (ak (.bool i)):=fun f env m ρ φ T Z H s _ _ _ st Q E P=>bS.any (wpAny_Constant_bool (P φ T _ s.heap s.toks (.refl _ _) st rfl))
theorem zy{k pos}:ez C cb d sc names (.Constant .none k pos) (ak .none):=fun f env m ρ φ T Z H s _ _ _ st Q E P=>bS.any (wpAny_Constant_none (P φ T _ s.heap s.toks (.refl _ _) st rfl))
theorem cT{x:List UInt8}{k pos}:ez C cb d sc names (.Constant (.bytes x) k pos) (ak (.bytes x)):=fun f env m ρ φ T Z H s _ _ _ st Q E P=>bS.any (Constant_bytes (P φ T _ s.heap _ (.refl _ _) st ⟨_,rfl⟩))
theorem C5{x:Str}{k pos}:ez C cb d sc names (.Constant (.str x) k pos) (ak (.str x)):=fun f env m ρ φ T Z H s _ _ _ st Q E P=>bS.any (wpAny_Constant_str (P φ T _ s.heap _ (.refl _ _) st ⟨_,rfl⟩))
theorem zz{f:Fm C}{env:Env}{m:Str->Option Value}{φ:List Addr}{T Z:b7}{H:AH}{s:Shared}{x:Str}{val:Value}{Q:Value->Shared->Prop}{E:Value->Shared->Prop}(g:fg env sc)(st:St f m φ T Z H s.heap)(a:qn f env m Z x val)(h:Q val s) :
  wpAny (model C.prog C.w) f.A (loadName env x) Q E s:=by
 obtain⟨h₀,obs,G,F,N,O,nd,off⟩:=st
 cases a with
 |loc a b c=>exact wpAny_loadName_local g.kind b (by rw [a];exact F.ns) c h
 |cell a b c e=>exact wpAny_loadName_cell g.kind a b ⟨_,N.get (List.mem_append_right _ (List.mem_append_right _ c)),e⟩ h
 |free a n b c e=>exact wpAny_loadName_free g.kind a b ⟨_,N.get (List.mem_append_right _ (List.mem_append_right _ c)),e⟩ h n
 |comp a b c e=>exact wpAny_loadName_local g.kind a (c.ns (N.get (List.mem_append_right _ (List.mem_append_right _ b)))) e h
theorem ae{x:Str}{pos}{i:Nat}(hi:names[i]? = some x)(hd:(x==("__debug__" : Str))=false:=by decide):ez C cb d sc names (.Name x pos) (ai i):=fun f env m ρ φ T Z H s _ g er st Q E P=>by
 rcases zx ρ i H with h | ⟨v,a,b,h⟩
 ·rw [show ai i ρ H = _ from h]at P;exact P.elim
 ·rw [show ai i ρ H = _ from h]at P
  obtain⟨val,va,vr⟩:=er.at_ i x v hi a b
  exact bS.any (wpAny_Name (zz g st va (P φ T val s.heap s.toks (.refl _ _) st vr)) hd)
theorem gF{x:Str}{pos}{v:V}{val:Value}(e:nsIn C.K mainGlobals x=some (some val))(hv:cz [] [] v val)(hx:sc.lookup x=some .globalImplicit:=by rfl)(hd:(x==("__debug__" : Str))=false:=by decide) :
  ez C cb d sc names (.Name x pos) (ak v):=fun f env m ρ φ T Z H s _ g er st Q E P=>by
 have st':=st
 obtain⟨h₀,obs,G,F,N,O,nd,off⟩:=st
 refine bS.any (Name_function_global g.kind (by show env.scope.names.lookup x = _;rw [g.names];exact hx) (loadGlobal_global (env:=env) (by rw [g.glob];exact G.P.g.keeps F.keep) (mg_of G.X G.P.g e) ?_) hd)
 exact P φ T val s.heap s.toks (.refl _ _) st' (hv.mono ⟨List.nil_prefix,fun _ h=>by cases h⟩)
noncomputable def aH(k:V->V->AH->R V)(a b:EF):EF:=fun ρ H=>(a ρ H).bind fun x H=>(b ρ H).bind fun y H=>k x y H
noncomputable def uq(C:Cfg)(cb:Bool)(d:Nat)(t:Value->Value->Sem Value)(k:V->V->AH->R V):Prop :=
 ∀(f:Fm C)(m:Str->Option Value)(φ:List Addr)(T Z:b7)(H:AH)(s:Shared)(a b:V)(x y:Value),iC f d->St f m φ T Z H s.heap->cz φ T a x->cz φ T b y->Runs cz f m φ T Z s cb (t x y) (k a b H)
theorem aG{op l r pos}{k:V->V->AH->R V}{a b:EF}(ho:uq C cb d (binaryOp op) k)(ha:ez C cb d sc names l a)(hb:ez C cb d sc names r b):ez C cb d sc names (.BinOp l op r pos) (aH k a b) :=
 fun f env m ρ φ T Z H s rm g er st=>by
  dsimp only
  rw [show eval (Expr.BinOp l op r pos) env=(do let a<-eval l env;let b<-holding [a] (eval r env);standAt pos;operate [a,b] (binaryOp op a b))from rfl]
  refine Runs.bind (ha f env m ρ φ T Z H s rm g er st) fun v H' bc T' x h' tk' _ e st' rv=>?_
  refine Runs.bind (Runs.holding (hb f env m ρ bc T' Z H' _ rm g (er.mono e) st')) fun v₂ H₂ φ₂ T₂ y h₂ tk₂ _ e₂ bN rv₂=>?_
  exact Runs.standAt (Runs.operate (ho f m φ₂ T₂ Z H₂ _ v v₂ x y rm bN (rv.mono e₂) rv₂))
theorem gB{op l r pos}{k:V->V->AH->R V}{a b:EF}(ho:uq C cb d (compareOp op) k)(ha:ez C cb d sc names l a)(hb:ez C cb d sc names r b)(hm:behindInMarks op r=false:=by rfl):ez C cb d sc names (.Compare l [op] [r] pos) (aH k a b) :=
 fun f env m ρ φ T Z H s rm g er st=>by
  dsimp only
  rw [show eval (Expr.Compare l [op] [r] pos) env=(do let a<-eval l env;let b<-holding [a] (markedBehindIn op r (eval r env));standAt pos;operate [a,b] (compareOp op a b))from rfl,markedBehindIn_of_false hm]
  refine Runs.bind (ha f env m ρ φ T Z H s rm g er st) fun v H' bc T' x h' tk' _ e st' rv=>?_
  refine Runs.bind (Runs.holding (hb f env m ρ bc T' Z H' _ rm g (er.mono e) st')) fun v₂ H₂ φ₂ T₂ y h₂ tk₂ _ e₂ bN rv₂=>?_
  exact Runs.standAt (Runs.operate (ho f m φ₂ T₂ Z H₂ _ v v₂ x y rm bN (rv.mono e₂) rv₂))
noncomputable def nC:V->AH->R Bool
 | .bool b,H => .ok b H
 |_,_ => .stuck
theorem j7{f:Fm C}{m:Str->Option Value}{φ:List Addr}{T Z:b7}{H:AH}{s:Shared}{v:V}{x:Value}(st:St f m φ T Z H s.heap)(rv:cz φ T v x):Runs LQ f m φ T Z s cb (truthy x) (nC v H):=by
 cases v<;>try exact Runs.stuck
 obtain rfl:x = .bool _:=rv
 exact Runs.pure st rfl
noncomputable def cR(a:EF):BF:=fun ρ H=>(a ρ H).bind nC
theorem cj{e:Expr}{a:EF}(ha:ez C cb d sc names e a)(he:∀env,isTrue e env (eval e env)=(do let v<-eval e env;standAt e.pos;holding [v] (truthy v)):=by intro _;rfl):yo C cb d sc names e (cR a) :=
 fun f env m ρ φ T Z H s rm g er st=>by
  dsimp only
  rw [he env]
  refine Runs.bind (ha f env m ρ φ T Z H s rm g er st) fun v H' bc T' x h' tk' _ e st' rv=>?_
  exact Runs.standAt (Runs.holding (j7 st' rv))
theorem aX{op l r pos}{k:V->V->AH->R V}{a b:EF}(ho:uq C cb d (compareOp op) k)(ha:ez C cb d sc names l a)(hb:ez C cb d sc names r b)(hm:behindInMarks op r=false:=by rfl):yo C cb d sc names (.Compare l [op] [r] pos) (cR (aH k a b)) :=
 fun f env m ρ φ T Z H s rm g er st=>by
  dsimp only
  rw [show isTrue (Expr.Compare l [op] [r] pos) env (eval (Expr.Compare l [op] [r] pos) env)=(do let a<-eval l env;let b<-holding [a] (markedBehindIn op r (eval r env));standAt pos;let c<-operate [a,b] (compareOp op a b);holding [c] (truthy c))from rfl,markedBehindIn_of_false hm]
  unfold cR aH
  have as:∀(x:R V)(k₁:V->AH->R V)(k₂:V->AH->R Bool),(x.bind k₁).bind k₂=x.bind fun v H=>(k₁ v H).bind k₂:=by intro x _ _;cases x<;>rfl
  rw [as]
  refine Runs.bind (ha f env m ρ φ T Z H s rm g er st) fun v H' bc T' x h' tk' _ e st' rv=>?_
  rw [as]
  refine Runs.bind (Runs.holding (hb f env m ρ bc T' Z H' _ rm g (er.mono e) st')) fun v₂ H₂ φ₂ T₂ y h₂ tk₂ _ e₂ bN rv₂=>?_
  refine Runs.standAt (Runs.bind (Runs.operate (ho f m φ₂ T₂ Z H₂ _ v v₂ x y rm bN (rv.mono e₂) rv₂)) fun v₃ oQ tD A9 z h₃ j8 _ kT eA Rx=>?_)
  exact Runs.holding (j7 eA Rx)
noncomputable def nD(a:BF):BF:=fun ρ H=>(a ρ H).bind fun b H => .ok (!b) H
noncomputable def u7(a b:BF):BF:=fun ρ H=>(a ρ H).bind fun x H=>match x with | true=>b ρ H | false => .ok false H
noncomputable def tE(a b:BF):BF:=fun ρ H=>(a ρ H).bind fun x H=>match x with | true => .ok true H | false=>b ρ H
noncomputable def r6(b:Bool):BF:=fun _ H => .ok b H
theorem kU{x pos}{a:BF}(ha:yo C cb d sc names x a):yo C cb d sc names (.UnaryOp .Not x pos) (nD a) :=
 fun f env m ρ φ T Z H s rm g er st=>by
  refine Runs.of_eq (t':=do let b<-isTrue x env (eval x env);Pure.pure (!b)) rfl (Runs.bind (ha f env m ρ φ T Z H s rm g er st) fun v H' bc T' y h' tk' _ e st' rv=>?_)
  obtain rfl:v=y:=rv
  exact Runs.pure st' rfl
theorem eK{op pos}:yo C cb d sc names (.BoolOp op [] pos) (r6 (op == .And)):=fun f env m ρ φ T Z H s rm g er st=>Runs.pure st rfl
theorem Ib{x rest pos}{a b:BF}(ha:yo C cb d sc names x a)(hb:yo C cb d sc names (.BoolOp .And rest pos) b):yo C cb d sc names (.BoolOp .And (x::rest) pos) (u7 a b) :=
 fun f env m ρ φ T Z H s rm g er st=>by
  refine Runs.of_eq (t':=do
   let r<-isTrue x env (eval x env)
   match BoolOp.And,r with
   | .And,false=>Pure.pure false
   | .Or,true=>Pure.pure true
   |_,_=>allTrue .And rest env) rfl (Runs.bind (ha f env m ρ φ T Z H s rm g er st) fun v H' bc T' y h' tk' _ e st' rv=>?_)
  obtain rfl:v=y:=rv
  cases v with
  |false=>exact Runs.pure st' rfl
  |true=>exact hb f env m ρ bc T' Z H' _ rm g (er.mono e) st'
theorem iP{x rest pos}{a b:BF}(ha:yo C cb d sc names x a)(hb:yo C cb d sc names (.BoolOp .Or rest pos) b):yo C cb d sc names (.BoolOp .Or (x::rest) pos) (tE a b) :=
 fun f env m ρ φ T Z H s rm g er st=>by
  refine Runs.of_eq (t':=do
   let r<-isTrue x env (eval x env)
   match BoolOp.Or,r with
   | .And,false=>Pure.pure false
   | .Or,true=>Pure.pure true
   |_,_=>allTrue .Or rest env) rfl (Runs.bind (ha f env m ρ φ T Z H s rm g er st) fun v H' bc T' y h' tk' _ e st' rv=>?_)
  obtain rfl:v=y:=rv
  cases v with
  |true=>exact Runs.pure st' rfl
  |false=>exact hb f env m ρ bc T' Z H' _ rm g (er.mono e) st'
noncomputable def jD(c:BF)(a b:EF):EF:=fun ρ H=>(c ρ H).bind fun x H=>match x with | true=>a ρ H | false=>b ρ H
theorem gD{t x y pos}{c:BF}{a b:EF}(hc:yo C cb d sc names t c)(ha:ez C cb d sc names x a)(hb:ez C cb d sc names y b):ez C cb d sc names (.IfExp t x y pos) (jD c a b) :=
 fun f env m ρ φ T Z H s rm g er st=>by
  refine Runs.of_eq (t':=do let r<-isTrue t env (eval t env);if r then eval x env else eval y env) rfl (Runs.bind (hc f env m ρ φ T Z H s rm g er st) fun v H' bc T' z h' tk' _ e st' rv=>?_)
  obtain rfl:v=z:=rv
  cases v with
  |true=>exact ha f env m ρ bc T' Z H' _ rm g (er.mono e) st'
  |false=>exact hb f env m ρ bc T' Z H' _ rm g (er.mono e) st'
noncomputable def u9(a b:EF):EF:=fun ρ H=>(a ρ H).bind fun v H=>(nC v H).bind fun x H=>match x with | true=>b ρ H | false => .ok v H
noncomputable def LR(a b:EF):EF:=fun ρ H=>(a ρ H).bind fun v H=>(nC v H).bind fun x H=>match x with | true => .ok v H | false=>b ρ H
theorem C6{x y pos}{a b:EF}(ha:ez C cb d sc names x a)(hb:ez C cb d sc names y b):ez C cb d sc names (.BoolOp .And [x,y] pos) (u9 a b) :=
 fun f env m ρ φ T Z H s rm g er st=>by
  refine Runs.of_eq (t':=do
   let v<-eval x env
   standAt pos
   let t<-holding [v] (truthy v)
   match BoolOp.And,t with
   | .And,false | .Or,true=>Pure.pure v
   |_,_=>eval y env) rfl (Runs.bind (ha f env m ρ φ T Z H s rm g er st) fun v H' bc T' z h' tk' _ e st' rv=>?_)
  refine Runs.standAt (Runs.bind (Runs.holding (j7 st' rv)) fun c H₂ φ₂ T₂ c' h₂ tk₂ he e₂ bN rv₂=>?_)
  obtain rfl:c=c':=rv₂
  cases c with
  |true=>exact hb f env m ρ φ₂ T₂ Z H₂ _ rm g ((er.mono e).mono e₂) bN
  |false=>exact Runs.pure bN (rv.mono e₂)
theorem NT{x y pos}{a b:EF}(ha:ez C cb d sc names x a)(hb:ez C cb d sc names y b):ez C cb d sc names (.BoolOp .Or [x,y] pos) (LR a b) :=
 fun f env m ρ φ T Z H s rm g er st=>by
  refine Runs.of_eq (t':=do
   let v<-eval x env
   standAt pos
   let t<-holding [v] (truthy v)
   match BoolOp.Or,t with
   | .And,false | .Or,true=>Pure.pure v
   |_,_=>eval y env) rfl (Runs.bind (ha f env m ρ φ T Z H s rm g er st) fun v H' bc T' z h' tk' _ e st' rv=>?_)
  refine Runs.standAt (Runs.bind (Runs.holding (j7 st' rv)) fun c H₂ φ₂ T₂ c' h₂ tk₂ he e₂ bN rv₂=>?_)
  obtain rfl:c=c':=rv₂
  cases c with
  |false=>exact hb f env m ρ φ₂ T₂ Z H₂ _ rm g ((er.mono e).mono e₂) bN
  |true=>exact Runs.pure bN (rv.mono e₂)
end
theorem Gq{x y:Int}(hx:0<=x)(hy:0<=y):Builtin.bitOr x y=((x.toNat ||| y.toNat:Nat):Int):=by
 unfold Builtin.bitOr Builtin.bitAnd Builtin.bitNot
 have h1:decide (0 <= -x - 1)=false:=decide_eq_false (by lia)
 have h2:decide (0 <= -y - 1)=false:=decide_eq_false (by lia)
 rw [h1,h2]
 dsimp only
 have e1 : -(-x - 1) - 1=x:=by lia
 have e2 : -(-y - 1) - 1=y:=by lia
 rw [e1,e2]
 lia
theorem r9{n r:Int}(k:Nat)(hn:0<=n)(hr:0<=r)(hk:r<2 ^ k):Builtin.bitOr (n*2 ^ k) r=n*2 ^ k+r:=by
 have hp:(0:Int)<2 ^ k:=pow_pos_of (by decide) k
 have h0:0<=n*2 ^ k:=Int.mul_nonneg hn (Int.le_of_lt hp)
 rw [Gq h0 hr]
 obtain⟨n,rfl⟩:=Int.eq_ofNat_of_zero_le hn
 obtain⟨r,rfl⟩:=Int.eq_ofNat_of_zero_le hr
 have hk':r<2 ^ k:=by
  have:((r:Nat):Int)<((2 ^ k:Nat):Int):=by rw [kbt_cast];exact hk
  lia
 have e:((n:Int)*2 ^ k)=((n <<< k:Nat):Int):=by rw [Nat.shiftLeft_eq,Int.natCast_mul,kbt_cast]
 rw [e,Int.toNat_natCast,Int.toNat_natCast,<- Nat.shiftLeft_add_eq_or_of_lt hk',Int.natCast_add]
theorem Gs{r:Int}(hr:0<=r)(hk:r<128):Builtin.bitOr r 128=r+128:=by
 rw [show Builtin.bitOr r 128=Builtin.bitOr 128 r from by unfold Builtin.bitOr;rw [bitAnd_comm]]
 have:=r9 7 (n:=1) (r:=r) (by decide) hr (by lia)
 rw [show(1:Int)*2 ^ 7=128 by decide]at this
 rw [this];lia
section
variable{prog:Program}{w:World}{A:Around}{E:Value->Shared->Prop}{s:Shared}{Q:Value->Shared->Prop}{n r:Int}{t u:Tok}
theorem C7(h:Q (.int (n % 128) s.toks) {s with toks:=s.toks+1}):wpAny (model prog w) A (binaryOp .BitAnd (.int n t) (.int 127 u)) Q E s:=and_int (by rw [bitAnd_m7];exact h)
theorem C8(h:Q (.int (n % 256) s.toks) {s with toks:=s.toks+1}):wpAny (model prog w) A (binaryOp .BitAnd (.int n t) (.int 255 u)) Q E s:=and_int (by rw [bitAnd_m8];exact h)
theorem LS(h0:0<=n)(h1:0<=r)(h2:r<128)(h:Q (.int (n*128+r) s.toks) {s with toks:=s.toks+1}):wpAny (model prog w) A (binaryOp .BitOr (.int (n*128) t) (.int r u)) Q E s :=
 or_int (by rw [show n*128=n*2 ^ 7 from rfl,r9 7 h0 h1 (by lia)];exact h)
theorem LU(h0:0<=n)(h1:0<=r)(h2:r<256)(h:Q (.int (n*256+r) s.toks) {s with toks:=s.toks+1}):wpAny (model prog w) A (binaryOp .BitOr (.int (n*256) t) (.int r u)) Q E s :=
 or_int (by rw [show n*256=n*2 ^ 8 from rfl,r9 8 h0 h1 (by lia)];exact h)
theorem Gu(h1:0<=r)(h2:r<128)(h:Q (.int (r+128) s.toks) {s with toks:=s.toks+1}):wpAny (model prog w) A (binaryOp .BitOr (.int r t) (.int 128 u)) Q E s :=
 or_int (by rw [Gs h1 h2];exact h)
end
open PySem.SeqAt
noncomputable def AO.WN:AO->Option (List V)
 | .list vs=>some vs
 |_=>none
noncomputable def AO.NU:AO->Option (List UInt8)
 | .ba b=>some b
 |_=>none
@[simp] theorem Ry{vs:List V}:(AO.list vs).WN=some vs:=rfl
@[simp] theorem Vm{vs:List UInt8}:(AO.ba vs).NU=some vs:=rfl
noncomputable def lst(H:AH)(i:Nat):Option (List V):=H[i]?.bind AO.WN
noncomputable def bar(H:AH)(i:Nat):Option (List UInt8):=H[i]?.bind AO.NU
theorem fh{H:AH}{i:Nat}{vs:List V}(h:lst H i=some vs):H[i]? = some (.list vs):=by
 obtain⟨o,h1,h2⟩:=Option.bind_eq_some_iff.mp h
 cases o with
 |list ws=>exact Option.some.inj h2▸h1
 |_=>exact ns h2
theorem j9{H:AH}{i:Nat}{b:List UInt8}(h:bar H i=some b):H[i]? = some (.ba b):=by
 obtain⟨o,h1,h2⟩:=Option.bind_eq_some_iff.mp h
 cases o with
 |ba ws=>exact Option.some.inj h2▸h1
 |_=>exact ns h2
noncomputable def EI(g:Int->Int->AH->R V):V->V->AH->R V
 | .int a,.int b,H=>g a b H
 |_,_,_ => .stuck
noncomputable def aS:V->V->AH->R V
 | .int a,.int b,H => .ok (.int (a+b)) H
 | .bytes a,.bytes b,H=>if a.length+b.length<=16777216 then .ok (.bytes (a++b)) H else .stuck
 | .ref i,.ref j,H=>cC (lst H i) fun vs=>cC (lst H j) fun ws=>if vs.length+ws.length<=16777216 then .ok (.ref H.length) (H++[.list (vs++ws)])else .stuck
 |_,_,_ => .stuck
noncomputable def eH:V->V->AH->R V:=EI fun a b H => .ok (.int (a - b)) H
noncomputable def iQ:V->V->AH->R V:=EI fun a b H=>if a.natAbs<2 ^ 64\/b.natAbs<2 ^ 64 then .ok (.int (a*b)) H else .stuck
noncomputable def iR:V->V->AH->R V:=EI fun a b H=>if 0<b/\b<1073741824 then .ok (.int (a / b)) H else .stuck
noncomputable def iS:V->V->AH->R V:=EI fun a b H=>if 0<b then .ok (.int (a % b)) H else .stuck
noncomputable def xu:V->V->AH->R V:=EI fun a b H=>if 0<=b/\b<=64/\a.natAbs<2 ^ 64 then .ok (.int (a ^ b.toNat)) H else .stuck
noncomputable def Ba:V->V->AH->R V:=EI fun a b H=>if 0<=b/\b<=64/\a.natAbs<2 ^ 64 then .ok (.int (a*2 ^ b.toNat)) H else .stuck
noncomputable def vc:V->V->AH->R V:=EI fun a b H=>if 0<=b then .ok (.int (a / 2 ^ b.toNat)) H else .stuck
noncomputable def qp:V->V->AH->R V:=EI fun a b H=>if b=127 then .ok (.int (a % 128)) H else if b=255 then .ok (.int (a % 256)) H else .stuck
noncomputable def C9:V->V->AH->R V:=EI fun a b H=>if b=128/\0<=a/\a<128 then .ok (.int (a+128)) H
  else if 0<=a/\0<=b/\b<128/\a % 128=0 then .ok (.int (a+b)) H
  else if 0<=a/\0<=b/\b<256/\a % 256=0 then .ok (.int (a+b)) H else .stuck
noncomputable def Pa:V->V->AH->R V:=EI fun a b H => .ok (.bool (decide (a<=b))) H
noncomputable def Dc:V->V->AH->R V:=EI fun a b H => .ok (.bool (decide (b<=a))) H
noncomputable def ltV:V->V->AH->R V
 | .int a,.int b,H => .ok (.bool (decide (a<b))) H
 | .bytes a,.bytes b,H => .ok (.bool (ym a.toArray b.toArray)) H
 |_,_,_ => .stuck
noncomputable def oR(a b:V)(H:AH):R V:=ltV b a H
noncomputable def allEq(f:V->V->Option Bool):List V->List V->Option Bool
 | [],[]=>some true
 |v::vs,w::ws=>(f v w).bind fun a=>(allEq f vs ws).bind fun b=>some (a&&b)
 |_,_=>none
noncomputable def Vn:V->V->Option Bool
 | .none,.none=>some true
 | .none,.int _=>some false
 | .int _,.none=>some false
 | .bool a,.bool b=>some (a==b)
 | .int a,.int b=>some (a==b)
 | .bytes a,.bytes b=>some (a==b)
 |_,_=>none
noncomputable def tF(H:AH):Nat->V->V->Option Bool
 | 0,v,w=>Vn v w
 |n+1,v,w=>match v,w with
  | .tup vs,.tup ws=>if vs.length=ws.length then allEq (tF H n) vs ws else none
  | .ref i,.ref j=>(lst H i).bind fun vs=>(lst H j).bind fun ws=>if vs.length=ws.length then allEq (tF H n) vs ws else some false
  |v,w=>Vn v w
noncomputable abbrev Rz(H:AH)(n:Nat):List V->List V->Option Bool:=allEq (tF H n)
noncomputable def iw(a b:V)(H:AH):R V:=cC (tF H 4 a b) fun r => .ok (.bool r) H
noncomputable def xw(a b:V)(H:AH):R V:=cC (tF H 4 a b) fun r => .ok (.bool (!r)) H
section
variable{C:Cfg}{cb:Bool}{d:Nat}{f:Fm C}{m:Str->Option Value}{φ:List Addr}{T Z:b7}{H:AH}{s:Shared}{h:Heap}
theorem CV.hlen{obs:List Obj}(O:CV φ T H obs):H.length=φ.length:=by rw [O.len];exact O.rep.length
theorem St.dU(st:St f m φ T Z H h){i:Nat}{a:Addr}{vs:List V}(ha:φ[i]? = some a)(hl:lst H i=some vs):∃vals,h.IsList a vals.toArray/\bj φ T vs vals:=by
 obtain⟨h₀,obs,G,F,N,O,nd,off⟩:=st
 obtain⟨ob,h1,⟨vals,c,rfl,h2⟩,h3⟩:=O.get ha (fh hl)
 exact⟨vals,⟨_,N.get (List.mem_append_left _ h3),rfl,c,rfl⟩,h2⟩
theorem St.Ic(st:St f m φ T Z H h){a:Addr}{o:Obj}(hm:(a,o)∈T):h.get? a=some o:=by
 obtain⟨h₀,obs,G,F,N,O,nd,off⟩:=st
 exact N.get (List.mem_append_right _ (List.mem_append_left _ hm))
theorem vd{α:Type}{φ:List α}{i j:Nat}{a:α}(nd:φ.Nodup)(h:φ[i]? = some a)(k:φ[j]? = some a):i=j :=
 (List.getElem?_inj (List.getElem?_eq_some_iff.mp h).1 nd).mp (h.trans k.symm)
theorem St.Vo(st:St f m φ T Z H h){i j:Nat}{a:Addr}(ha:φ[i]? = some a)(hb:φ[j]? = some a):i=j:=vd st.nd ha hb
theorem yp{A:Around}{s:Shared}{a b:List UInt8}{t u:Tok}:EqAt A s (.bytes a.toArray t) (.bytes b.toArray u) (a==b):=fun prog w E Q hq=>eqBool_bytes (by
 have:decide (a.toArray.toList=b.toArray.toList)=(a==b):=by simp [Bool.beq_eq_decide_eq]
 rw [this];exact hq)
theorem Ie{A:Around}{s:Shared}{a b:List UInt8}{t u:Tok}:RcAt A s (.bytes a.toArray t) (.bytes b.toArray u) (a==b):=fun prog w E Q hq=>eq_bytes (by simpa using hq)
theorem Dd{A:Around}{s:Shared}{a b:List UInt8}{t u:Tok}:RcNeAt A s (.bytes a.toArray t) (.bytes b.toArray u) (!(a==b)):=fun prog w E Q hq=>ne_bytes (by
 have:(a.toArray.toList != b.toArray.toList)=(!(a==b)):=by simp [bne]
 rw [this];exact hq)
theorem Ig{H:AH}{n:Nat}{vs ws:List V}{b:Bool}(h:Rz H n vs ws=some b):vs.length=ws.length /\ ∃e:Nat->Bool,b=(List.range vs.length).all e /\ ∀j v w,vs[j]? = some v->ws[j]? = some w->tF H n v w=some (e j):=by
 induction vs generalizing ws b with
 |nil =>
  cases ws with
  |nil=>exact⟨rfl,fun _=>b,(Option.some.inj h).symm,fun j v w a=>ns a⟩
  |cons w ws=>exact ns h
 |cons v vs ih =>
  cases ws with
  |nil=>exact ns h
  |cons w ws =>
   obtain⟨x,hx,h⟩:=Option.bind_eq_some_iff.mp h
   obtain⟨y,hy,h⟩:=Option.bind_eq_some_iff.mp h
   obtain⟨hl,e,rfl,he⟩:=ih hy
   refine⟨congrArg (· + 1) hl,fun j=>j.casesOn x e,?_,fun j a b ha hb=>?_⟩
   ·rw [List.length_cons,List.range_succ_eq_map,List.all_cons,List.all_map];exact(Option.some.inj h).symm
   ·cases j with
    |zero=>cases ha;cases hb;exact hx
    |succ j=>exact he j a b ha hb
theorem ve{n:Nat}{e:Nat->Bool}(h:∀j,j<n->e j=true):(List.range n).all e=true:=by
 rw [List.all_eq_true];intro j hj;exact h j (List.mem_range.mp hj)
noncomputable def xx(A:Around)(s:Shared)(x y:Value)(b:Bool):Prop:=EqAt A s x y b/\(x=y->b=true)/\RcAt A s x y b/\RcNeAt A s x y (!b)
theorem xx.refs{A:Around}{s:Shared}{a c:Addr}{b:Bool}(h:a=c->b=true)(r:RcAt A s (.ref a) (.ref c) b)(k:RcNeAt A s (.ref a) (.ref c) (!b)):xx A s (.ref a) (.ref c) b:=by
 refine⟨?_,fun q=>h (by injection q),r,k⟩
 by_cases q:a=c
 ·have:=h q
  subst q;subst this
  exact EqAt.same _
 ·exact EqAt.of_refs q r
theorem yq(st:St f m φ T Z H s.heap){n:Nat}(ih:∀(A:Around)(v w:V)(x y:Value)(b:Bool),A.units+n<cLine->tF H n v w=some b->cz φ T v x->cz φ T w y->xx A s x y b)
  {A:Around} {vs ws:List V} {xs ys:List Value} {b:Bool} (hu:A.units+n<cLine) (h:Rz H n vs ws=some b) (hx:bj φ T vs xs) (hy:bj φ T ws ys) :
  xs.length=ys.length /\ ∃e:Nat->Bool,b=(List.range xs.length).all e/\(∀j(h1:j<xs.toArray.size)(h2:j<ys.toArray.size),EqAt A s xs.toArray[j] ys.toArray[j] (e j))/\(xs=ys->b=true):=by
 obtain⟨hl,e,rfl,he⟩:=Ig h
 have h1:=hx.length
 have h2:=hy.length
 have key(j:Nat)(j1:j<xs.length)(j2:j<ys.length):xx A s xs[j] ys[j] (e j):=by
  have hv:=List.getElem?_eq_getElem (h1▸j1)
  have hw:=List.getElem?_eq_getElem (h2▸j2)
  obtain⟨x,ex,rx⟩:=hx.get hv
  obtain⟨y,ey,ry⟩:=hy.get hw
  rw [Option.some.inj ((List.getElem?_eq_getElem j1).symm.trans ex),Option.some.inj ((List.getElem?_eq_getElem j2).symm.trans ey)]
  exact ih A _ _ x y (e j) hu (he j _ _ hv hw) rx ry
 refine⟨h1.trans (hl.trans h2.symm),e,h1▸rfl,fun j j1 j2=>(key j j1 j2).1,fun q=>?_⟩
 subst q
 exact ve fun j hj=>(key j (h1▸hj) (h1▸hj)).2.1 rfl
theorem Ih{A:Around}{s:Shared}{v w:V}{x y:Value}{b:Bool}(h:Vn v w=some b)(hv:cz φ T v x)(hw:cz φ T w y):xx A s x y b:=by
 cases v with
 |none =>
  obtain rfl:x = .none:=hv
  cases w with
  |none=>obtain rfl:y = .none:=hw;obtain rfl:=Option.some.inj h;exact⟨EqAt.same _,fun _=>rfl,RcAt.none_none,RcNeAt.none_none⟩
  |int i=>obtain⟨t,rfl⟩:=hw;obtain rfl:=Option.some.inj h;exact⟨EqAt.none_int _ _,fun q=>Value.noConfusion q,RcAt.none_int _ _,RcNeAt.none_int _ _⟩
  |_=>exact ns h
 |bool i =>
  obtain rfl:x = .bool i:=hv
  cases w with
  |bool j=>obtain rfl:y = .bool j:=hw;obtain rfl:=Option.some.inj h;exact⟨EqAt.bool_bool _ _,fun q=>beq_iff_eq.mpr (Value.bool.inj q),RcAt.bool_bool _ _,RcNeAt.bool_bool _ _⟩
  |_=>exact ns h
 |int i =>
  obtain⟨t,rfl⟩:=hv
  cases w with
  |none=>obtain rfl:y = .none:=hw;obtain rfl:=Option.some.inj h;exact⟨EqAt.int_none _ _,fun q=>Value.noConfusion q,RcAt.int_none _ _,RcNeAt.int_none _ _⟩
  |int j=>obtain⟨u,rfl⟩:=hw;obtain rfl:=Option.some.inj h;exact⟨EqAt.int_int _ _ _ _,fun q=>beq_iff_eq.mpr (Value.int.inj q).1,RcAt.int_int _ _ _ _,RcNeAt.int_int _ _ _ _⟩
  |_=>exact ns h
 |bytes i =>
  obtain⟨t,rfl⟩:=hv
  cases w with
  |bytes j=>obtain⟨u,rfl⟩:=hw;obtain rfl:=Option.some.inj h;exact⟨yp,fun q=>beq_iff_eq.mpr (congrArg Array.toList (Value.bytes.inj q).1),Ie,Dd⟩
  |_=>exact ns h
 |_=>exact ns h
theorem Pb(st:St f m φ T Z H s.heap)(n:Nat)(A:Around)(v w:V)(x y:Value)(b:Bool)(hu:A.units+n<cLine)(h:tF H n v w=some b)(hv:cz φ T v x)(hw:cz φ T w y):xx A s x y b:=by
 induction n generalizing A v w x y b with
 |zero=>exact Ih h hv hw
 |succ n ih =>
  have lt:A.units<cLine:=Nat.lt_of_le_of_lt (Nat.le_add_right _ _) hu
  have Vp:A.in1.units+n<cLine:=Nat.add_right_comm A.units 1 n▸hu
  cases v with
  |tup vs =>
   cases w with
   |tup ws =>
    obtain⟨a,xs,c,rfl,ma,rx⟩:=hv
    obtain⟨a',ys,c',rfl,UO,ry⟩:=hw
    obtain⟨hl,h⟩:=Option.ite_none_right_eq_some.mp h
    obtain⟨hlen,e,rfl,he,hsame⟩:=yq st ih Vp h rx ry
    have g:=st.Ic ma
    have g':=st.Ic UO
    have hb:((List.range (min xs.toArray.size ys.toArray.size)).all e&&xs.toArray.size==ys.toArray.size)=(List.range xs.length).all e:=by
     show((List.range (min xs.length ys.length)).all e&&xs.length==ys.length) = _
     rw [← hlen,Nat.min_self,beq_self_eq_true,Bool.and_true]
    refine xx.refs (fun q=>hsame ?_) (hb▸RcAt.tuples (s:=s) ⟨_,g,rfl,c,rfl⟩ ⟨_,g',rfl,c',rfl⟩ lt he) (hb▸RcNeAt.tuples (s:=s) ⟨_,g,rfl,c,rfl⟩ ⟨_,g',rfl,c',rfl⟩ lt he)
    subst q
    cases g.symm.trans g'
    rfl
   |_=>exact ns h
  |ref i =>
   cases w with
   |ref j =>
    obtain⟨a,rfl,ma⟩:=hv
    obtain⟨a',rfl,UO⟩:=hw
    obtain⟨vs,h1,h⟩:=Option.bind_eq_some_iff.mp h
    obtain⟨ws,h2,h⟩:=Option.bind_eq_some_iff.mp h
    obtain⟨xs,g,rx⟩:=st.dU ma h1
    obtain⟨ys,g',ry⟩:=st.dU UO h2
    by_cases hl:vs.length=ws.length
    ·rw [if_pos hl]at h
     obtain⟨hlen,e,rfl,he,hsame⟩:=yq st ih Vp h rx ry
     refine xx.refs (fun q=>hsame ?_) (RcAt.lists (A:=A) (s:=s) (e:=e) g g' hlen lt he) (RcNeAt.lists (A:=A) (s:=s) (e:=e) g g' hlen lt he)
     subst q
     obtain⟨o,e1,_,c,e2⟩:=g
     obtain⟨o',XM,_,c',XN⟩:=g'
     cases e1.symm.trans XM
     cases e2.symm.trans XN
     rfl
    ·rw [if_neg hl]at h
     obtain rfl:=Option.some.inj h
     have hz:(xs.toArray.size != ys.toArray.size)=true:=bne_iff_ne.mpr fun q=>hl (rx.length.symm.trans (q.trans ry.length))
     refine xx.refs (fun q=>?_) (RcAt.lists_lengths g g' hz lt) (RcNeAt.lists_lengths g g' hz lt)
     subst q
     cases st.Vo ma UO
     cases h1.symm.trans h2
     exact absurd rfl hl
   |_=>exact ns h
  |_=>first | exact ns h | exact Ih h hv hw
theorem Ii(st:St f m φ T Z H s.heap)(rm:iC f d){a b:V}{x y:Value}{r:Bool}(ra:cz φ T a x)(rb:cz φ T b y)(h:tF H 4 a b=some r):xx f.A s x y r :=
 Pb st 4 f.A a b x y r (Nat.lt_of_le_of_lt (Nat.le_trans (Nat.add_le_add_right (Nat.le_add_right f.un (8*d)) 4) (Nat.add_le_add_left (by decide) _)) rm.un) h ra rb
theorem eV:uq C cb d (compareOp .Eq) iw:=fun f m φ T Z H s a b x y rm st ra rb => .opt fun r h=>fun Q E P =>
 bS.any ((Ii st rm ra rb h).2.2.1 _ _ _ _ (P φ T _ s.heap s.toks (.refl _ _) st rfl))
theorem qq:uq C cb d (compareOp .NotEq) xw:=fun f m φ T Z H s a b x y rm st ra rb => .opt fun r h=>fun Q E P =>
 bS.any ((Ii st rm ra rb h).2.2.2 _ _ _ _ (P φ T _ s.heap s.toks (.refl _ _) st rfl))
end
section
variable{C:Cfg}{cb:Bool}{d:Nat}
theorem intBits_le{a:Int}{k:Nat}(h:a.natAbs<2 ^ k):Builtin.Int.intBits a<=k:=by
 unfold Builtin.Int.intBits
 split
 ·exact Nat.zero_le _
 ·rename_i h0
  have h0':a.natAbs≠0:=by simpa using h0
  have:=(Nat.log2_lt h0').mpr h
  lia
theorem nc{t:Value->Value->Sem Value}{g:Int->Int->AH->R V}(h:∀(f:Fm C)(m:Str->Option Value)(φ:List Addr)(T Z:b7)(H:AH)(s:Shared)(a b:Int)(ta tb:Tok),St f m φ T Z H s.heap->Runs cz f m φ T Z s cb (t (.int a ta) (.int b tb)) (g a b H)):uq C cb d t (EI g):=fun f m φ T Z H s a b x y rm st ra rb=>by
 cases a<;>first | exact .stuck | (cases b<;>first | exact .stuck | (obtain⟨ta,rfl⟩:=ra;obtain⟨tb,rfl⟩:=rb;exact h f m φ T Z H s _ _ ta tb st))
theorem fb:uq C cb d (binaryOp .Sub) eH:=nc fun f m φ T Z H s a b ta tb st => .any st fun Q E P=>sub_int (P _ _ ⟨_,rfl⟩)
theorem jE:uq C cb d (binaryOp .Mult) iQ:=nc fun f m φ T Z H s a b ta tb st => .guard fun h => .any st fun Q E P =>
 PyProof.Rows.mul_int (P _ _ ⟨_,rfl⟩) (h.elim (fun h=>IntMulOk.of_left (intBits_le h)) fun h=>IntMulOk.of_right (intBits_le h))
theorem kW:uq C cb d (binaryOp .FloorDiv) iR:=nc fun f m φ T Z H s a b ta tb st => .guard fun h => .any st fun Q E P =>
 floordiv_int (Int.ne_of_gt h.1) (by rw [Int.fdiv_eq_ediv_of_nonneg _ (Int.le_of_lt h.1)];exact P _ _ ⟨_,rfl⟩) (Or.inl (PyProof.noPylong_small (by lia)))
theorem jF:uq C cb d (binaryOp .Mod) iS:=nc fun f m φ T Z H s a b ta tb st => .guard fun h => .any st fun Q E P =>
 mod_int' (Int.ne_of_gt h) (by rw [Int.fmod_eq_emod_of_nonneg _ (Int.le_of_lt h)];exact P _ _ ⟨_,rfl⟩)
theorem De:uq C cb d (binaryOp .Pow) xu:=nc fun f m φ T Z H s a b ta tb st => .guard fun h => .any st fun Q E P =>
 pow_int h.1 (Int.le_trans (Int.mul_le_mul (Int.ofNat_le.mpr (intBits_le h.2.2)) h.2.1 h.1 (by decide)) (by decide)) (P _ _ ⟨_,rfl⟩)
theorem Ij:uq C cb d (binaryOp .LShift) Ba:=nc fun f m φ T Z H s a b ta tb st => .guard fun h => .any st fun Q E P =>
 lshift_int_small h.1 (Int.le_trans h.2.1 (by decide)) h.2.2 (P _ _ ⟨_,rfl⟩)
theorem Runs.ite{α β:Type}{f:Fm C}{m:Str->Option Value}{φ:List Addr}{T Z:b7}{s:Shared}{rep:List Addr->b7->α->β->Prop}{c:Prop}[Decidable c]{t:Sem β}{r q:R α}(h:c->Runs rep f m φ T Z s cb t r)(k:Runs rep f m φ T Z s cb t q):Runs rep f m φ T Z s cb t (if c then r else q):=by
 by_cases w:c
 ·rw [if_pos w];exact h w
 ·rw [if_neg w];exact k
theorem vh:uq C cb d (binaryOp .BitAnd) qp:=nc fun f m φ T Z H s a b ta tb st =>
 .ite (fun h => .any st fun Q E P=>h▸C7 (P _ _ ⟨_,rfl⟩)) (.guard fun h => .any st fun Q E P=>h▸C8 (P _ _ ⟨_,rfl⟩))
theorem Ik{a k:Int}(h:a % k=0):∃n,a=n*k:=⟨a / k,((Int.ediv_mul_cancel (Int.dvd_of_emod_eq_zero h))).symm⟩
theorem EJ:uq C cb d (binaryOp .BitOr) C9:=nc fun f m φ T Z H s a b ta tb st =>
 .ite (fun h => .any st fun Q E P=>by obtain⟨rfl,h1,h2⟩:=h;exact Gu h1 h2 (P _ _ ⟨_,rfl⟩)) (.ite (fun h => .any st fun Q E P=>by
  obtain⟨n,rfl⟩:=Ik h.2.2.2
  exact LS (by lia) h.2.1 h.2.2.1 (P _ _ ⟨_,rfl⟩)) (.guard fun h => .any st fun Q E P=>by
  obtain⟨n,rfl⟩:=Ik h.2.2.2
  exact LU (by lia) h.2.1 h.2.2.1 (P _ _ ⟨_,rfl⟩)))
theorem NV:uq C cb d (compareOp .LtE) Pa:=nc fun f m φ T Z H s a b ta tb st Q E P=>bS.any (PyProof.Rows.le_int (P φ T _ s.heap s.toks (.refl _ _) st rfl))
theorem Bb:uq C cb d (compareOp .GtE) Dc:=nc fun f m φ T Z H s a b ta tb st Q E P=>bS.any (PyProof.Rows.ge_int (P φ T _ s.heap s.toks (.refl _ _) st rfl))
theorem fT:uq C cb d (compareOp .Lt) ltV:=fun f m φ T Z H s a b x y rm st ra rb=>by
 cases a with
 |int a=>cases b with
  |int b=>obtain⟨t,rfl⟩:=ra;obtain⟨u,rfl⟩:=rb;exact fun Q E P=>bS.any (PyProof.Rows.lt_int (P φ T _ s.heap s.toks (.refl _ _) st rfl))
  |_=>exact .stuck
 |bytes a=>cases b with
  |bytes b=>obtain⟨t,rfl⟩:=ra;obtain⟨u,rfl⟩:=rb;exact fun Q E P=>bS.any (HZ (P φ T _ s.heap s.toks (.refl _ _) st rfl))
  |_=>exact .stuck
 |_=>exact .stuck
theorem kg:uq C cb d (compareOp .Gt) oR:=fun f m φ T Z H s a b x y rm st ra rb=>by
 cases b with
 |int b=>cases a with
  |int a=>obtain⟨t,rfl⟩:=ra;obtain⟨u,rfl⟩:=rb;exact fun Q E P=>bS.any (PyProof.Rows.gt_int (P φ T _ s.heap s.toks (.refl _ _) st rfl))
  |_=>exact .stuck
 |bytes b=>cases a with
  |bytes a=>obtain⟨t,rfl⟩:=ra;obtain⟨u,rfl⟩:=rb;exact fun Q E P=>bS.any (Ia (P φ T _ s.heap s.toks (.refl _ _) st rfl))
  |_=>exact .stuck
 |_=>exact .stuck
theorem kh{φ:List Addr}{H:AH}{l:Addr}{T:b7}(h:H.length=φ.length):cz (φ++[l]) T (.ref H.length) (.ref l):=⟨l,rfl,h▸List.getElem?_concat_length⟩
theorem aU:uq C cb d (binaryOp .Add) aS:=fun f m φ T Z H s a b x y rm st ra rb=>by
 cases a with
 |int a=>cases b with
  |int b=>obtain⟨t,rfl⟩:=ra;obtain⟨u,rfl⟩:=rb;exact .any st fun Q E P=>PyProof.Rows.add_int (P _ _ ⟨_,rfl⟩)
  |_=>exact .stuck
 |bytes a=>cases b with
  |bytes b =>
   obtain⟨t,rfl⟩:=ra;obtain⟨u,rfl⟩:=rb
   exact .guard fun h => .any st fun Q E P=>KBy.add_bytes h fun t' k=>P _ _ ⟨t',congrArg (Value.bytes · t') (List.append_toArray _ _)⟩
  |_=>exact .stuck
 |ref i=>cases b with
  |ref j =>
   obtain⟨la,rfl,ma⟩:=ra;obtain⟨lb,rfl,mb⟩:=rb
   refine .opt fun vs h1 => .opt fun ws h2 => .guard fun hz=>fun Q E P=>?_
   obtain⟨xs,g,rx⟩:=st.dU ma h1
   obtain⟨ys,g',ry⟩:=st.dU mb h2
   obtain⟨h₀,obs,G,F,N,O,nd,off⟩:=st
   refine bS.any (kmk_add_lit F N g g' rfl (fun D h' F' N' lt=>?_) (by
    rw [sizeLine_eq];show xs.length+ys.length<=_;rw [rx.length,ry.length];exact Nat.le_trans hz (by decide)))
   obtain⟨st',e⟩:=St.push G F' nd off N' lt O (ao := .list (vs++ws)) ⟨_,_,rfl,rx.append ry⟩
   exact P _ _ _ h' s.toks e st' (kh O.hlen)
  |_=>exact .stuck
 |_=>exact .stuck
end
noncomputable def Fm.child{C:Cfg}(f:Fm C)(qual:Str)(scope:Scope)(L fn:Addr)(cdv:Value)(cl:List (Str×Addr))(g:Heap)(hk:scope.kind = .function)(hc:∀c,codeOf scope.names=some c->cdv = .ref c):Fm C :=
 {dp:=f.dp+1,un:=f.un+3,gd:=f.gd,cn:=qual,cs:=scope,a:=fn,ccd:=cdv,cl:=cl,outer:=f.env::f.outer,A₀:=f.A,base:=f.base,g₀:=g,L:=L,mean:=f.mean,mg:=f.mg,mb:=f.mb,XB:=f.XB,TB:=f.TB,hk:=hk,hc:=hc,CB:=f.CB}
theorem om{env:Env}{outer:List Env}{L b:Addr}(hf:env.frame=some L)(hm:b∈(env::outer).filterMap (·.frame)):b=L\/b∈outer.filterMap (·.frame):=by
 obtain⟨env',he,hf'⟩:=List.mem_filterMap.mp hm
 rcases List.mem_cons.mp he with rfl | he
 ·rw [hf]at hf';exact .inl (Option.some.inj hf').symm
 ·exact .inr (List.mem_filterMap.mpr ⟨env',he,hf'⟩)
theorem vj{α:Type}{A T Zc Z:List α}{p:α}(h:p∈A++(T++Z)):p∈A++(T++(Zc++Z)):=(List.Sublist.append_left (List.Sublist.append_left (List.sublist_append_right Zc Z) T) A).subset h
theorem Off.less{φ:List Addr}{T Zc Z:b7}(o:Off φ T (Zc++Z)):Off φ T Z :=
 ⟨fun p hp=>o.fi p (vj (A:=[]) hp),fun p hp q hq=>o.tz p hp q (List.mem_append_right _ hq),by
  have:=o.zn;rw [List.map_append]at this;exact(List.nodup_append.mp this).2.1,o.tb⟩
section
variable{C:Cfg}{f:Fm C}{m m₂:Str->Option Value}{φ:List Addr}{T Z Zc:b7}{H:AH}{h h₀ g g':Heap}
theorem yr(G:Gr f h₀)(F:Fr h₀ f.L g m)(t:KtsTurn ((f.env::f.outer).filterMap (·.frame)) g g'):∃h₀',Gr f h₀'/\Fr h₀' f.L g' m:=by
 have RA:h₀.get? f.L=none:=kts_self F
 obtain⟨oL,es,ep,XO,Vq,XQ,hLf⟩:=F.ns
 obtain⟨sl,hs⟩:=t.up XO
 obtain⟨T₁,S₁⟩:=kts_turn_at (h:=g') (fs:=f.fs) (g:=h₀)
  (fun b hb=>by
   obtain⟨_,o,ho',_⟩:=G.B.frames.mem hb
   exact⟨o,ho'⟩)
  (fun b o e Vr=>t.other b o (F.keep b o e) (fun q=>by
   rcases om (L:=f.L) rfl q with z | z
   ·rw [z,RA]at e;cases e
   ·exact Vr z))
  (fun b o e hm=>t.up (F.keep b o e))
 refine⟨ktsHeap g' f.fs h₀,⟨⟨G.B.stack,fun b o e=>T₁.other b o (G.B.stays b o e) (fun hm=>by
  rw [(G.B.frames.mem hm).1]at e
  cases e),G.B.frames.of_keeps fun b o e _=>?_⟩,G.D.turn T₁,G.T.trans T₁⟩,⟨⟨_,es,ep,hs,Vq,XQ,hLf⟩,S₁,by rw [T₁.size];exact F.above⟩⟩
 obtain⟨YU,hs'⟩:=T₁.up e
 exact⟨_,hs',rfl⟩
theorem St.back{qual:Str}{scope:Scope}{L fn:Addr}{cdv:Value}{cl:List (Str×Addr)}{hk:scope.kind = .function}{hc:∀c,codeOf scope.names=some c->cdv = .ref c}(G:Gr f h₀)(F:Fr h₀ f.L g m)(st:St (f.child qual scope L fn cdv cl g hk hc) m₂ φ T (Zc++Z) H h):St f m φ T Z H h:=by
 obtain⟨g',obs,G',F',N',O,nd,off⟩:=st
 obtain⟨h₀',Pc,Il⟩:=yr G F G'.T
 refine⟨h₀',obs,Pc,Il.keeps F'.keep,fun p hp=>?_,O,nd,off.less⟩
 ·have n:=N' p (vj hp)
  refine⟨n.1,fun q=>?_,?_⟩
  ·obtain⟨oL,_,_,hL,_⟩:=Il.ns
   have:=n.2.2;rw [q,hL]at this;cases this
  ·cases q:h₀'.get? p.1 with
   |none=>rfl
   |some o=>have:=Il.keep _ _ q;rw [n.2.2]at this;cases this
theorem t8.RB{M:Model}{s:Shared}{e:Addr}{h':Heap}{Q:Unit->Shared->Prop}{E:Value->Shared->Prop}(x:t8 f φ T Z H e h')
  (hQ:∀h'' g bc T' obs,Gr f g->g.UpToSlots h''->RaisedSN f.base g f.outer e (.ref C.exc) (bc.zip obs++(T'++Z)) h''->CV bc T' H obs->bc.Nodup->Off bc T' Z->j4 φ T bc T'->Q () {s with heap:=h''}) :
  wpAny M f.A (leaving f.env (.ref e)) Q E {s with heap:=h'}:=by
 cases x with
 | @made m bc T' h st ext mx =>
  obtain⟨g,obs,G,F,N,O,nd,off⟩:=st
  obtain⟨mk,mn,oe,vs,a0,he,hcls,hd,h1,h0⟩:=mx
  have K':=pushX G.B F (env:=f.env) rfl f.hk
  have fr:=funFrames_hide K'.frames (h:=h) fun env he b hb=>List.mem_filterMap.mpr ⟨env,he,hb⟩
  have nf:∀b∈(f.env::f.outer).filterMap (·.frame),b=f.L\/b∈f.outer.filterMap (·.frame):=fun b hm=>om (L:=f.L) rfl hm
  have hg:∀b o,h.get? b=some o->b∉(f.env::f.outer).filterMap (·.frame)->(hideAll h ((f.env::f.outer).filterMap (·.frame))).get? b=some o:=fun b o=>hideAll_get _
  have hof:∀b o,(hideAll h ((f.env::f.outer).filterMap (·.frame))).get? b=some o->h.get? b=some o:=fun b o=>of_hideAll _
  have kf:=fun b hm=>(K'.frames.mem (b:=b) hm).1
  have st:=K'.stays
  generalize hideAll h ((f.env::f.outer).filterMap (·.frame))=K at fr hg hof
  generalize (f.env::f.outer).filterMap (·.frame)=fs at nf hg kf
  refine wpAny_leaving_firstW (s:={s with heap:=h'}) (a0:=a0) (outer:=f.outer) rfl (fr.of_keeps fun b o hb _=>⟨o,mk b o hb,rfl⟩) rfl he (fun b o hb=>mk b o (hof b o hb)) (Option.eq_none_iff_forall_ne_some.mpr fun o q=>ns (mn.symm.trans (hof e o q))) hd h1 h0 fun h'' hL=>?_
  obtain⟨k1,⟨_,_,k2⟩,k3,k4⟩:=hL
  refine hQ h'' g bc T' obs G (((Heap.UpToSlots.of_keeps F.keep).trans (Heap.UpToSlots.of_keeps mk)).trans k4) ⟨K,a0,fun b o q=>hg b o (st b o q) fun hm=>ns ((kf b hm).symm.trans q),fun b o q nm=>hg b o (F.keep b o q) fun hm=>?_,fun q hq=>⟨hg _ _ (N q hq).1 fun hm=>?_,(N q hq).2.2,fresh_of_stays G.B.stays (N q hq).2.2⟩,k1,Option.eq_none_iff_forall_ne_some.mpr fun o q=>ns (mn.symm.trans (hof e o q)),k2,hcls▸k3⟩ O nd off ext
  ·rcases nf b hm with z | z
   ·exact ns ((kts_self F).symm.trans (z▸q))
   ·exact nm z
  ·rcases nf _ hm with z | z
   ·exact(N q hq).2.1 z
   ·obtain⟨o,ho,_⟩:=(G.B.frames.mem z).2
    exact ns ((N q hq).2.2.symm.trans ho)
 | @NQ m bc T' obs g g₂ G F hsm R O nd off ext =>
  obtain⟨B,a0,hB,hBG,hl,hfl⟩:=R
  refine wpAny_leaves_onW (s:={s with heap:=h'}) (outer:=f.outer) rfl rfl hfl fun h'' x1 x2=>?_
  refine hQ h'' g bc T' obs G ((Heap.UpToSlots.of_keeps F.keep).trans (hsm.trans x2)) ⟨B,a0,hB,fun b o q nm=>hBG b o (F.keep b o q) (fun hm=>by
   rcases om (L:=f.L) rfl hm with z | z
   ·exact ns ((kts_self F).symm.trans (z▸q))
   ·exact nm z),fun q hq=>⟨(hl q hq).1,kts_none F.keep (hl q hq).2.1,(hl q hq).2.2⟩,x1⟩ O nd off ext
theorem St.ground{s:Shared}(st:St f m φ T Z H s.heap){iy:Prop} (k:∀h₀ g₁ obs,Gr f h₀->Fr h₀ f.L s.heap m->Fr h₀ f.L g₁ m->Below f.A f.base (f.env::f.outer) g₁->KtsDicts ((f.env::f.outer).filterMap (·.frame)) g₁->(∀b o,g₁.get? b=some o->s.heap.get? b=some o)->g₁.objs.size<=s.heap.objs.size →
  (∀p∈φ.zip obs++(T++Z),s.heap.get? p.1=some p.2/\g₁.get? p.1=none)->CV φ T H obs->φ.Nodup->Off φ T Z->iy):iy:=by
 obtain⟨h₀,obs,G,F,N,O,nd,off⟩:=st
 obtain⟨FG,BG,sg,_⟩:=groundX (A:=f.A) (R:=fun _ _=>True) (env:=f.env) G.B F N rfl rfl f.hk
 refine k h₀ _ obs G F FG BG (fun b hb=>?_) (fun b o=>of_hideAll _) (Nat.le_of_eq (hideAll_size _ _)) (fun p hp=>⟨(N p hp).1,hideAll_none _ (List.mem_map_of_mem hp)⟩) O nd off
 rcases om (L:=f.L) rfl hb with rfl | hb
 ·obtain⟨oL,es,ep,hL,Vq,_⟩:=FG.ns;exact⟨oL,es,ep,hL,Vq⟩
 ·obtain⟨o,es',n',ho',hd'⟩:=G.D b hb
  exact⟨o,es',n',sg b o ho',hd'⟩
structure WO(f:Fm C)(φ:List Addr)(T Z:b7)(H:AH)(e:Addr)(h':Heap):Prop where
 ex:∀{iy:Prop},(∀(m:Str->Option Value)(bc:List Addr)(T':b7)(obs:List Obj)(g G:Heap),Gr f g →
  Fr g f.L G m →
  G.UpToSlots h' →
  RaisedSN f.base G (f.env::f.outer) e (.ref C.exc) (bc.zip obs++(T'++Z)) h' →
  CV bc T' H obs →
  bc.Nodup →
  Off bc T' Z →
  j4 φ T bc T'->iy)->iy
theorem t8.WQ{M:Model}{s:Shared}{e:Addr}{h':Heap}{Q:Unit->Shared->Prop}{E:Value->Shared->Prop}{qual:Str}{scope:Scope}{L fn:Addr}{cdv:Value}{cl:List (Str×Addr)}{hk:scope.kind = .function}{hc:∀c,codeOf scope.names=some c->cdv = .ref c}(G:Gr f h₀)(F:Fr h₀ f.L g m)
  (x:t8 (f.child qual scope L fn cdv cl g hk hc) φ T (Zc++Z) H e h') (hQ:∀h'',WO f φ T Z H e h''->Q () {s with heap:=h''}) :
  wpAny M (f.child qual scope L fn cdv cl g hk hc).A (leaving (f.child qual scope L fn cdv cl g hk hc).env (.ref e)) Q E {s with heap:=h'}:=by
 refine x.RB fun h'' g' bc T' obs G' hsm R O nd off ext=>hQ h'' ?_
 obtain⟨h₀',Pc,Il⟩:=yr G F G'.T
 obtain⟨B,a0,hB,hBG,hl,hfl⟩:=R
 exact⟨fun k=>k _ bc T' obs _ _ Pc Il hsm ⟨B,a0,hB,hBG,fun q hq=>hl q (vj hq),hfl⟩ O nd off.less ext⟩
theorem t8.up{M:Model}{s:Shared}{e:Addr}{h':Heap}{Q:Unit->Shared->Prop}{E:Value->Shared->Prop}{qual:Str}{scope:Scope}{L fn:Addr}{cdv:Value}{cl:List (Str×Addr)}{hk:scope.kind = .function}{hc:∀c,codeOf scope.names=some c->cdv = .ref c}(G:Gr f h₀)(F:Fr h₀ f.L g m)
  (x:t8 (f.child qual scope L fn cdv cl g hk hc) φ T (Zc++Z) H e h') (hQ:∀h'',t8 f φ T Z H e h''->Q () {s with heap:=h''}) :
  wpAny M (f.child qual scope L fn cdv cl g hk hc).A (leaving (f.child qual scope L fn cdv cl g hk hc).env (.ref e)) Q E {s with heap:=h'} :=
 x.WQ G F fun h'' fl=>hQ h'' (fl.ex fun _ _ _ _ _ _ G F hsm R O nd off ext => .NQ G F hsm R O nd off ext)
end
inductive RS
 |next (ρ:List V) (H:AH) | ret (v:V) (H:AH) | exc (H:AH) | stuck
noncomputable abbrev SF:=List V->AH->RS
noncomputable def dF{C:Cfg}(f:Fm C)(ES:List V->(Str->Option Value)->b7->List Addr->b7->Prop)(φ:List Addr)(T Z:b7)(s:Shared)(r:RS)(Q:Flow->Shared->Prop)(E:Value->Shared->Prop):Prop :=
 match r with
 | .next ρ H => ∀bc T' m' i9 h tk,j4 φ T bc T'->St f m' bc T' (i9++Z) H h->ES ρ m' i9 bc T'->Q .next (sh s h tk)
 | .ret v H => ∀bc T' m' i9 x h tk,j4 φ T bc T'->St f m' bc T' (i9++Z) H h->cz bc T' v x->Q (.ret x) (sh s h tk)
 | .exc H => ∀e h tk i9,t8 f φ T (i9++Z) H e h->E (.ref e) (sh s h tk)
 | .stuck=>False
structure ES{C:Cfg}(f:Fm C)(names:List Str)(ρ:List V)(m:Str->Option Value)(Zc:b7)(φ:List Addr)(T:b7):Prop where
 er:ER f f.env m Zc names ρ φ T
 nd:names.Nodup
 cells:∀x,f.cs.names.lookup x=some .cell -> ∃c o v₀,f.cl.lookup x=some c/\(c,o)∈Zc/\o.data = .cell v₀
 sep:∀x y c,f.cl.lookup x=some c->f.cl.lookup y=some c->x=y
 zc:(Zc.map (·.1)).Nodup
theorem ES.mono{C:Cfg}{f:Fm C}{names:List Str}{ρ:List V}{m:Str->Option Value}{Zc:b7}{φ bc:List Addr}{T T':b7}(e:j4 φ T bc T')(h:ES f names ρ m Zc φ T):ES f names ρ m Zc bc T' :=
 ⟨h.er.mono e,h.nd,h.cells,h.sep,h.zc⟩
theorem qn.more{C:Cfg}{f:Fm C}{env:Env}{m:Str->Option Value}{Z Z':b7}{x:Str}{val:Value}(h:∀p∈Z,p∈Z'):qn f env m Z x val->qn f env m Z' x val
 | .loc a b c => .loc a b c
 | .cell a b c d => .cell a b (h _ c) d
 | .free a n b c d => .free a n b (h _ c) d
 | .comp a b c d => .comp a (h _ b) c d
theorem ER.more{C:Cfg}{f:Fm C}{env:Env}{m:Str->Option Value}{Z Z':b7}{names:List Str}{ρ:List V}{φ:List Addr}{T:b7}(h:∀p∈Z,p∈Z')(e:ER f env m Z names ρ φ T):ER f env m Z' names ρ φ T :=
 ⟨e.len,fun i x v a b c=>let ⟨val,p,q⟩:=e.at_ i x v a b c;⟨val,p.more h,q⟩⟩
noncomputable def RC(C:Cfg)(cb:Bool)(d:Nat)(sc:Scope)(names:List Str)(t:Env->Sem Flow)(fn:SF):Prop :=
 ∀(f:Fm C),f.cs=sc -> ∀(m:Str->Option Value)(ρ:List V)(φ:List Addr)(T Zc Z:b7)(H:AH)(s:Shared)(Q:Flow->Shared->Prop)(E:Value->Shared->Prop),iC f d->PassesOwn (model C.prog C.w) f.A f.env E →
  ES f names ρ m Zc φ T->St f m φ T (Zc++Z) H s.heap->dF f (ES f names) φ T Z s (fn ρ H) Q E->bS cb (model C.prog C.w) f.A (t f.env) Q E s
noncomputable def aE(C:Cfg)(cb:Bool)(d:Nat)(fn:Addr)(k:List V->AH->R V):Prop :=
 ∀(f:Fm C)(m:Str->Option Value)(φ:List Addr)(T Z:b7)(H:AH)(s:Shared)(vs:List V)(vals:List Value)(R:Result->Shared->Prop),iC f d->St f m φ T Z H s.heap->bj φ T vs vals →
  Post cz f m φ T Z s (k vs H) (fun v s'=>R (.ok (.ret v)) s') (fun e s'=>R (.error e) s')->eE cb (model C.prog C.w) f.A (.call (.ref fn) ⟨vals,[]⟩) R s
noncomputable def bz(C:Cfg)(cb:Bool)(d:Nat)(fv:Value)(k:List V->AH->R V):Prop :=
 ∀(f:Fm C)(m:Str->Option Value)(φ:List Addr)(T Z:b7)(H:AH)(s:Shared)(vs:List V)(vals:List Value),iC f d->St f m φ T Z H s.heap->bj φ T vs vals->Runs cz f m φ T Z s cb (call fv vals) (k vs H)
theorem aE.call{C:Cfg}{cb:Bool}{d:Nat}{fn:Addr}{k:List V->AH->R V}(h:aE C cb d fn k):bz C cb d (.ref fn) k:=fun f m φ T Z H s vs vals rm st rv Q E P =>
 lC (h f m φ T Z H s vs vals _ rm st rv P)
theorem iC.up{C:Cfg}{f:Fm C}{d d':Nat}(rm:iC f d')(h:d<=d'):iC f d :=
 ⟨Nat.lt_of_le_of_lt (Nat.add_le_add_left h _) rm.dp,Nat.lt_of_le_of_lt (Nat.add_le_add_right (Nat.add_le_add_left (Nat.mul_le_mul_left 8 h) _) 8) rm.un⟩
theorem room_in{u d:Nat}:u+3+8*d+8<=u+8*(d+1)+8:=Nat.add_le_add_right (Nat.add_right_comm u 3 (8*d)▸Nat.add_le_add_left (by decide:3<=8) (u+8*d)) 8
theorem iC.in{C:Cfg}{f f₂:Fm C}{d:Nat}(rm:iC f (d+1))(h1:f₂.dp=f.dp+1)(h2:f₂.un=f.un+3):iC f₂ d :=
 ⟨by rw [h1,Nat.add_assoc,Nat.add_comm 1];exact rm.dp,by rw [h2];exact Nat.lt_of_le_of_lt room_in rm.un⟩
theorem aE.up{C:Cfg}{cb:Bool}{d d':Nat}{fn:Addr}{k:List V->AH->R V}(h:aE C cb d fn k)(hd:d<=d'):aE C cb d' fn k:=fun f m φ T Z H s vs vals R rm st rv P =>
 h f m φ T Z H s vs vals R (rm.up hd) st rv P
theorem bz.up{C:Cfg}{cb:Bool}{d d':Nat}{fv:Value}{k:List V->AH->R V}(h:bz C cb d fv k)(hd:d<=d'):bz C cb d' fv k:=fun f m φ T Z H s vs vals rm st rv =>
 h f m φ T Z H s vs vals (rm.up hd) st rv
theorem bz.any{C:Cfg}{cb:Bool}{d:Nat}{fv:Value}{k:List V->AH->R V}(h:bz C false d fv k):bz C cb d fv k:=fun f m φ T Z H s vs vals rm st rv=>(h f m φ T Z H s vs vals rm st rv).up
noncomputable def cD(n k:Nat)(sf:SF):List V->AH->R V:=fun vs H =>
 if vs.length=n then match sf (vs++List.replicate k .undef) H with
  | .next _ H => .ok .none H
  | .ret v H => .ok v H
  | .exc H => .exc H
  | .stuck => .stuck
 else .stuck
theorem lookup_append_none{α:Type}{x:Str}{l r:List (Str×α)}(h:l.lookup x=none):(l++r).lookup x=r.lookup x:=by rw [List.lookup_append,h];rfl
theorem pF{α:Type}{x:Str}{v:α}{l r:List (Str×α)}(h:l.lookup x=some v):(l++r).lookup x=some v:=by rw [List.lookup_append,h];rfl
theorem vm{α:Type}{ns:List Str}{vs:List α}{i:Nat}{x:Str}{v:α}(nd:ns.Nodup)(h:ns[i]? = some x)(k:vs[i]? = some v):(ns.zip vs).reverse.lookup x=some v:=by
 induction ns generalizing vs i with
 |nil=>exact nomatch h
 |cons n ns ih =>
  cases vs with
  |nil=>exact nomatch k
  |cons w vs =>
   have zw:=List.nodup_cons.mp nd
   rw [List.zip_cons_cons,List.reverse_cons]
   cases i with
   |zero =>
    obtain rfl:=Option.some.inj h
    obtain rfl:=Option.some.inj k
    rw [lookup_append_none,List.lookup_cons,beq_self_eq_true]
    exact List.lookup_eq_none_iff.mpr fun p hp=>bne_iff_ne.mpr fun q=>zw.1 (q▸(List.of_mem_zip (a:=p.1) (b:=p.2) (List.mem_reverse.mp hp)).1)
   |succ i=>exact pF (ih zw.2 h k)
theorem lookup_mem{α:Type}{x:Str}{v:α}{l:List (Str×α)}(h:l.lookup x=some v):(x,v)∈l:=by
 obtain⟨a,b,e,_⟩:=List.lookup_eq_some_iff.mp h
 exact e▸List.mem_append_right _ List.mem_cons_self
theorem ES.start{C:Cfg}{f:Fm C}{ps ls:List Str}{vs:List V}{vals:List Value}{φ:List Addr}{T:b7}(rv:bj φ T vs vals)(hn:vs.length=ps.length)(nd:(ps++ls).Nodup)(hloc:∀x∈ps,f.cs.names.lookup x=some .local)(hcl:f.cl=[])(hnc:∀x∈f.cs.names,x.2 ≠ .cell) :
  ES f (ps++ls) (vs++List.replicate ls.length .undef) (fun y=>(ps.zip vals).reverse.lookup y) [] φ T:=by
 refine⟨⟨by rw [List.length_append,List.length_append,hn,List.length_replicate],fun i x v hi hv hu=>?_⟩,nd,fun x hx=>absurd rfl (hnc _ (lookup_mem hx)),fun x y c hx=>(by rw [hcl]at hx;cases hx),.nil⟩
 by_cases hlt:i<ps.length
 ·rw [List.getElem?_append_left hlt]at hi
  rw [List.getElem?_append_left (hn▸hlt)]at hv
  obtain⟨x',e,r⟩:=rv.get hv
  exact⟨x',.loc rfl (hloc x (List.mem_of_getElem? hi)) (vm (List.nodup_append.mp nd).1 hi e),r⟩
 ·rw [List.getElem?_append_right (hn▸Nat.le_of_not_lt hlt)]at hv
  exact absurd (List.eq_of_mem_replicate (List.mem_of_getElem? hv)) hu
section
variable{α:Type}{cb:Bool}{M:Model}{A:Around}{E:Value->Shared->Prop}{s:Shared}{env:Env}
theorem pG{f:Value}{args:List (Bool×Sem Value)}(hp:args.any (·.1)=false){Q:Args->Shared->Prop}(h:bS cb M A (spliced args) (fun vs s'=>Q ⟨vs,[]⟩ s') E s):bS cb M A (evalArgs f true args []) Q E s:=by
 have key:bS cb M A (spliced args >>= fun pos=>holding (pos++[]) (do
   let kw:=((([]:List (Option Str×Sem Value)).filterMap (·.1)).zip (← evalAll (([]:List (Option Str×Sem Value)).map (·.2))))
   return (⟨(← (Pure.pure pos:Sem (List Value))),kw⟩:Args))) Q E s:=by
  refine bw (cJ h (fun vs s' h'=>?_) fun _ _ x=>x)
  refine dz ?_
  exact aQ (wpAny_pure (aQ (wpAny_pure (bD h'))))
 unfold evalArgs
 cases args with
 |nil=>exact key
 |cons a r =>
  obtain⟨star,x⟩:=a
  cases star with
  |true=>exact nomatch hp
  |false=>exact key
theorem fB{f:Value}{pos:Pos}{first:List Value}{P:Heap->Prop}{args:List (Bool×Sem Value)}{Q:Value->Shared->Prop}(hplain:args.any (·.1)=false)
  (hk:∀h,P h -> ∃k,(k=Keeper.frame\/k=Keeper.machine\/k=Keeper.boundFrame)/\Looks M h (keeperOf f) k)
  (h:bS cb M A (spliced args) (fun vs s₁=>P s₁.heap/\bS cb M A (call f (first++vs)) Q E s₁) E s):bS cb M A (callWith pos f first args []) Q E s:=by
 unfold callWith
 refine bw (dz (pG hplain (cJ h (fun vs s₁ h₁=>aQ (wpAny_standAt ?_)) fun _ _ x=>x)))
 obtain⟨k,hk',L⟩:=hk _ h₁.1
 have XR:(args.any (·.1) || ([]:List (Option Str×Sem Value)).any (·.1.isNone))=false:=by rw [hplain];rfl
 rw [XR]
 refine aQ (L.here ?_)
 have tail:∀{t:Sem Value},bS cb M A t Q E s₁->bS cb M A (t >>= fun r=>holding [r] point >>= fun _=>pure r) Q E s₁ :=
  fun ht=>bw (cJ ht (fun r s₂ hr=>aQ (wpAny_holding (wpAny_point (bD hr)))) fun _ _ x=>x)
 have marked(mk:Value):bS cb M A (callMarked mk f (first++vs) []) Q E s₁:=by unfold callMarked;exact HP h₁.2
 have two(mk:Value){n:Nat}:bS cb M A (if n > 30 then call f (first++vs) [] >>= fun r=>holding [r] point >>= fun _=>pure r else callMarked mk f (first++vs) [] >>= fun r=>holding [r] point >>= fun _=>pure r) Q E s₁:=by
  by_cases c:n > 30
  ·rw [if_pos c];exact tail h₁.2
  ·rw [if_neg c];exact tail (marked _)
 rcases hk' with rfl | rfl | rfl
 ·exact two _
 ·exact tail h₁.2
 ·exact two _
end
section
variable{C:Cfg}{cb:Bool}{d:Nat}{sc:List (Str×NameKind)}{names:List Str}
noncomputable abbrev LF:=List V->AH->R (List V)
structure HE(C:Cfg)(cb:Bool)(d:Nat)(sc:List (Str×NameKind))(names:List Str)(es:List Expr)(fn:LF):Prop where
 plain:∀env pos,(backTo pos (starEach es env)).any (·.1)=false
 run:∀pos,O8 bj C cb d sc names (fun env=>spliced (backTo pos (starEach es env))) fn
noncomputable def aC:LF:=fun _ H => .ok [] H
noncomputable def af(a:EF)(l:LF):LF:=fun ρ H=>(a ρ H).bind fun v H=>(l ρ H).bind fun vs H => .ok (v::vs) H
theorem aj:HE C cb d sc names [] aC:=⟨fun _ _=>rfl,fun pos f env m ρ φ T Z H s rm g er st=>Runs.pure st bj.nil⟩
theorem aa{e:Expr}{es:List Expr}{a:EF}{l:LF}(ha:ez C cb d sc names e a)(hl:HE C cb d sc names es l)(he:∀env,starEach (e::es) env=(false,eval e env)::starEach es env:=by intro _;rfl):HE C cb d sc names (e::es) (af a l) :=
 ⟨fun env pos=>by rw [he];show(false || _)=false;exact hl.plain env pos,fun pos f env m ρ φ T Z H s rm g er st=>by
  dsimp only
  rw [he]
  refine Runs.of_eq (t':=do
   let v<-eval e env
   let here<-(Pure.pure [v]:Sem (List Value))
   let r<-PySem.holding here (spliced (backTo pos (starEach es env)))
   Pure.pure (here++r)) rfl ?_
  refine Runs.bind (ha f env m ρ φ T Z H s rm g er st) fun v H' bc T' x h' tk' _ e st' rv=>?_
  refine Runs.bind (kr:=fun _ H=>(l ρ H).bind fun vs H => .ok (v::vs) H) (rep:=fun _ _ (_:Unit) y=>y=[x]) (r := .ok () H') (Runs.pure st' rfl) fun _ H₁ φ₁ T₁ y h₁ tk₁ Im e₁ Io ry=>?_
  subst ry
  refine Runs.bind (Runs.holding (hl.run pos f env m ρ φ₁ T₁ Z H₁ _ rm g ((er.mono e).mono e₁) Io)) fun vs H₂ φ₂ T₂ ys h₂ tk₂ _ e₂ bN rv₂=>?_
  exact Runs.pure bN (.cons (rv.mono (e₁.trans e₂)) rv₂)⟩
noncomputable def aR(C:Cfg)(fv:Value):Prop := ∀h,C.K.In h -> ∃k,(k=Keeper.frame\/k=Keeper.machine\/k=Keeper.boundFrame)/\Looks (model C.prog C.w) h (keeperOf fv) k
theorem aV{fv:Value}(h:keepIn C.K fv=true):aR C fv:=keeps_K h
theorem bI{id:String}:aR C (.builtin id):=fun h _=>⟨.machine,.inr (.inl rfl),Looks.of_pure rfl⟩
theorem cF{id:String}:aR C (.type id):=fun h _=>⟨.machine,.inr (.inl rfl),Looks.of_pure rfl⟩
theorem St.Lu{f:Fm C}{m:Str->Option Value}{φ:List Addr}{T Z:b7}{H:AH}{h:Heap}(st:St f m φ T Z H h):C.K.In h:=by
 obtain⟨h₀,obs,G,F,N,O,nd,off⟩:=st
 exact G.X.keeps F.keep
theorem kX{fv:Value}{es:List Expr}{l:LF}{f:Fm C}{env:Env}{m:Str->Option Value}{ρ:List V}{φ:List Addr}{T Z:b7}{H:AH}{s:Shared}{pos:Pos}{first:List Value}{RD:List V}{k:List V->AH->R V}(hk:aR C fv)(hl:HE C cb d sc names es l)(hc:bz C cb d fv k)
  (rm:iC f d) (g:fg env sc) (er:ER f env m Z names ρ φ T) (st:St f m φ T Z H s.heap) (rf:bj φ T RD first):Runs cz f m φ T Z s cb (callWith pos fv first (backTo pos (starEach es env)) []) ((l ρ H).bind fun vs H=>k (RD++vs) H):=fun Q E P=>by
 refine fB (P:=C.K.In) (hl.plain env pos) hk (hl.run pos f env m ρ φ T Z H s rm g er st _ _ ?_)
 revert P
 cases l ρ H with
 |ok vs H'=>exact fun P bc T' x h tk e st' rv=>⟨st'.Lu,hc f m bc T' Z H' _ _ _ rm st' ((rf.mono e).append rv) _ _ (P.ext e)⟩
 |exc H'=>exact fun P e h tk x=>P e h tk x
 |stuck=>exact fun P=>P.elim
noncomputable def aW(C:Cfg)(sc:List (Str×NameKind))(x:Str)(fv:Value):Prop :=
 ∀(f:Fm C)(env:Env)(m:Str->Option Value)(φ:List Addr)(T Z:b7)(H:AH)(s:Shared)(pos:Pos)(Q:Value->Shared->Prop)(E:Value->Shared->Prop),fg env sc->St f m φ T Z H s.heap->Q fv s->wpAny (model C.prog C.w) f.A (eval (.Name x pos) env) Q E s
theorem aM{x:Str}{val:Value}(e:nsIn C.K mainGlobals x=some (some val))(hx:sc.lookup x=some .globalImplicit:=by rfl)(hd:(x==("__debug__" : Str))=false:=by decide):aW C sc x val:=fun f env m φ T Z H s pos Q E g st q=>by
 obtain⟨h₀,obs,G,F,N,O,nd,off⟩:=st
 exact Name_function_global g.kind (by show env.scope.names.lookup x = _;rw [g.names];exact hx) (loadGlobal_global (env:=env) (by rw [g.glob];exact G.P.g.keeps F.keep) (mg_of G.X G.P.g e) q) hd
theorem fC{x:Str}{val:Value}(e:nsIn C.K mainGlobals x=some none)(hv:bootBuiltins x=some val)(hn:x ≠ "__name__" := by decide)(hx:sc.lookup x=some .globalImplicit:=by rfl)(hd:(x==("__debug__" : Str))=false:=by decide):aW C sc x val:=fun f env m φ T Z H s pos Q E g st q=>by
 obtain⟨h₀,obs,G,F,N,O,nd,off⟩:=st
 exact Name_function_global g.kind (by show env.scope.names.lookup x = _;rw [g.names];exact hx) (loadGlobal_builtin (env:=env) (by rw [g.glob];exact G.P.g.keeps F.keep) (mg_none_of G.X G.P.g e) (by rw [g.NR];exact G.P.b.keeps F.keep) ((G.P.builtins x hn).trans hv) q) hd
noncomputable def aF(k:List V->AH->R V)(l:LF):EF:=fun ρ H=>(l ρ H).bind k
theorem az{x:Str}{np pos:Pos}{es:List Expr}{fv:Value}{k:List V->AH->R V}{l:LF}(hn:aW C sc x fv)(hk:aR C fv)(hc:bz C cb d fv k)(hl:HE C cb d sc names es l):ez C cb d sc names (.Call (.Name x np) es [] pos) (aF k l) :=
 fun f env m ρ φ T Z H s rm g er st Q E P=>by
  show bS cb _ f.A (eval (.Name x np) env >>= fun fv=>callWith pos fv [] (backTo pos (starEach es env)) []) Q E s
  refine aQ (hn f env m φ T Z H s np _ _ g st ?_)
  exact kX (RD:=[]) hk hl hc rm g er st bj.nil Q E P
noncomputable def cS(l:LF):EF:=fun ρ H=>(l ρ H).bind fun vs H=>if vs.length<=16777216 then .ok (.tup vs) H else .stuck
noncomputable def bk(l:LF):EF:=fun ρ H=>(l ρ H).bind fun vs H=>if vs.length<=16777216 then .ok (.ref H.length) (H++[.list vs])else .stuck
theorem zA{f:Fm C}{m:Str->Option Value}{φ:List Addr}{T Z:b7}{H:AH}{s:Shared}{vs:List V}{xs:List Value}(st:St f m φ T Z H s.heap)(rv:bj φ T vs xs) :
  Runs cz f m φ T Z s cb (newList xs) (if vs.length<=16777216 then .ok (.ref H.length) (H++[.list vs])else .stuck) := .guard fun hz Q E P=>by
 obtain⟨h₀,obs,G,F,N,O,nd,off⟩:=st
 refine bS.any (newList_K F N (fun l h' F' N' lt=>?_) (by rw [rv.length,sizeLine_eq];exact hz))
 obtain⟨st',e⟩:=St.push (ao := .list vs) G F' nd off N' lt O ⟨_,_,rfl,rv⟩
 exact P _ _ _ h' s.toks e st' (kh O.hlen)
theorem aO{es:List Expr}{pos:Pos}{l:LF}(hl:HE C cb d sc names es l):ez C cb d sc names (.List es pos) (bk l):=fun f env m ρ φ T Z H s rm g er st=>by
 refine Runs.of_eq (t':=do PySem.standAt pos;let vs<-spliced (backTo pos (starEach es env));newList vs) rfl (Runs.standAt (Runs.bind (hl.run pos f env m ρ φ T Z H s rm g er st) fun vs H' bc T' xs h' tk' _ e st' rv=>?_))
 exact zA st' rv
theorem bC{es:List Expr}{k:Nat}{pos:Pos}{l:LF}(hl:HE C cb d sc names es l):ez C cb d sc names (.Tuple es k pos) (cS l):=fun f env m ρ φ T Z H s rm g er st=>by
 refine Runs.of_eq (t':=do PySem.standAt pos;let vs<-spliced (backTo pos (starEach es env));newTuple vs) rfl (Runs.standAt (Runs.bind (hl.run pos f env m ρ φ T Z H s rm g er st) fun vs H' bc T' xs h' tk' _ e st' rv=>?_))
 refine .guard fun hz Q E P=>?_
 obtain⟨h₀,obs,G,F,N,O,nd,off⟩:=st'
 refine bS.any (newTuple_N F N (fun h'' F' N'=>?_) (by rw [rv.length,sizeLine_eq];exact hz))
 obtain⟨Ip,e'⟩:=St.NS G F' nd off N' (fun p hp=>Heap.lt_size (N p hp).1) O
 exact P _ _ _ h'' tk' e' Ip ⟨_,xs,0,rfl,List.mem_cons_self,rv.mono e'⟩
noncomputable def NW(vs:List V)(i:Int)(H:AH):R V:=if vs.length<=16777216 then
 (if 0<=i then(if i<vs.length then cC vs[i.toNat]? fun v => .ok v H else .stuck)
 else(if 0<=i+vs.length then cC vs[(i+vs.length).toNat]? fun v => .ok v H else .stuck))else .stuck
noncomputable def WR(b:List UInt8)(i:Int)(H:AH):R V:=if b.length<=16777216/\0<=i/\i<b.length then .ok (.int ((b.getD i.toNat 0).toNat:Int)) H else .stuck
noncomputable def ki:V->V->AH->R V
 | .ref n,.int i,H=>(lst H n).elim (cC (bar H n) fun b=>WR b i H) fun vs=>NW vs i H
 | .bytes b,.int i,H=>WR b i H
 | .olist ns,.int i,H=>if ns.length<=16777216/\0<=i/\i<ns.length then cC ns[i.toNat]? fun n => .ok (.int n) H else .stuck
 |_,_,_ => .stuck
theorem IntsAre.get{vs:List Value}{ns:List Int}(h:IntsAre vs ns):vs.length=ns.length /\ ∀(i:Nat)(n:Int),ns[i]? = some n -> ∃t,vs[i]? = some (.int n t):=by
 induction h with
 |nil=>exact⟨rfl,fun i n h=>nomatch h⟩
 |cons n t _ ih =>
  refine⟨congrArg (· + 1) ih.1,fun i m h=>?_⟩
  cases i with
  |zero=>exact⟨t,congrArg (fun n=>some (Value.int n t)) (Option.some.inj h)⟩
  |succ i=>exact ih.2 i m h
theorem St.Bc{f:Fm C}{m:Str->Option Value}{φ:List Addr}{T Z:b7}{H:AH}{h:Heap}(st:St f m φ T Z H h){a:Addr}{vals:List Value}{c:Nat}(hm:(a,listOf vals.toArray c)∈T):h.IsList a vals.toArray:=by
 obtain⟨h₀,obs,G,F,N,O,nd,off⟩:=st
 exact⟨_,N.get (List.mem_append_right _ (List.mem_append_left _ hm)),rfl,_,rfl⟩
theorem St.EK{f:Fm C}{m:Str->Option Value}{φ:List Addr}{T Z:b7}{H:AH}{h:Heap}(st:St f m φ T Z H h){i:Nat}{a:Addr}{b:List UInt8}(ha:φ[i]? = some a)(hl:bar H i=some b):h.get? a=some (dD b.toArray):=by
 obtain⟨h₀,obs,G,F,N,O,nd,off⟩:=st
 obtain⟨ob,h1,rfl,h3⟩:=O.get ha (j9 hl)
 exact N.get (List.mem_append_left _ h3)
theorem nE{value slice:Expr}{o i:Value}{A:Around}{T id:String}{Q:Value->Shared->Prop}{E:Value->Shared->Prop}{s:Shared}(hT:s.TypeIs o T)(hl:typeLookup (.type T) "__getitem__" = pure (some (.builtin id)))
  (hg:wpAny (model C.prog C.w) A (getItem o i) Q E s) (hs:∀o i,subscripted slice false o i=operate [o,i] (getItem o i)):wpAny (model C.prog C.w) A (subscriptTail value slice o i) Q E s:=tail_any hT hl hg (hs o i)
theorem Df{k:Int}{n:Nat}(z:n<=16777216)(h:k<n):k<2 ^ 63:=by lia
theorem EN{k:Int}{n:Nat}(z:n<=16777216)(h:0<=k+n) : -(n:Int)<=k /\ -(2 ^ 63)<=k:=by lia
section
variable{value slice:Expr}{f:Fm C}{m:Str->Option Value}{φ:List Addr}{T Z:b7}{H:AH}{s:Shared}{v w:V}{o i:Value}{a:Addr}{k:Int}{u:Tok}(hs:∀o i,subscripted slice false o i=PySem.operate [o,i] (getItem o i))(st:St f m φ T Z H s.heap)
include hs st
theorem Iq{vs:List V}{xs:List Value}(g:s.heap.IsList a xs.toArray)(rx:bj φ T vs xs):Runs cz f m φ T Z s cb (subscriptTail value slice (.ref a) (.int k u)) (NW vs k H):=by
 have hl:xs.length=vs.length:=rx.length
 have hT:s.TypeIs (.ref a) "list" := by obtain⟨o,e,c,_⟩:=g;exact⟨o,e,c⟩
 refine .guard fun hz=>?_
 by_cases h0:0<=k
 ·rw [if_pos h0]
  refine .guard fun h1 => .opt fun v he Q E P=>?_
  obtain⟨x,hx,rv⟩:=rx.get he
  exact bS.any (nE hT slot_list_getitem.lookup (wpAny_getItem_list g h0 (Df hz h1) (List.getElem?_toArray▸hx) (P φ T x s.heap s.toks (.refl _ _) st rv)) hs)
 ·rw [if_neg h0]
  refine .guard fun h1 => .opt fun v he Q E P=>?_
  obtain⟨x,hx,rv⟩:=rx.get he
  exact bS.any (nE hT slot_list_getitem.lookup (wpAny_getItem_list_neg g (Int.not_le.mp h0) (by show -(xs.length:Int)<=k;rw [hl];exact(EN hz h1).1) (EN hz h1).2 (by rw [List.getElem?_toArray];show xs[(k+(xs.length:Int)).toNat]? = _;rw [hl];exact hx) (P φ T x s.heap s.toks (.refl _ _) st rv)) hs)
theorem Gv(ro:cz φ T v o)(ri:cz φ T w i):Runs cz f m φ T Z s cb (subscriptTail value slice o i) (ki v w H):=by
 cases v with
 |bytes b=>cases w with
  |int i =>
   obtain⟨t,rfl⟩:=ro;obtain⟨u,rfl⟩:=ri
   exact .guard fun hb => .any st fun Q E P=>nE (typeIs_bytes _ _ _) FB.slot_bytes_getitem.lookup (getItem_bytes (l:=b) (Nat.le_trans hb.1 (by decide)) hb.2.1 hb.2.2 (P _ _ ⟨_,rfl⟩)) hs
  |_=>exact .stuck
 |ref n=>cases w with
  |int i =>
   obtain⟨a,rfl,ha⟩:=ro;obtain⟨u,rfl⟩:=ri
   show Runs cz f m φ T Z s cb _ ((lst H n).elim _ _)
   cases hv:lst H n with
   |none=>exact .opt fun b hb => .guard fun h1 => .any st fun Q E P=>nE ⟨_,st.EK ha hb,rfl⟩ BF.gP.lookup (uZ (st.EK ha hb) h1.1 h1.2.1 h1.2.2 (P _ _ ⟨s.toks,by simp⟩)) hs
   |some vs=>obtain⟨xs,g,rx⟩:=st.dU ha hv;exact Iq hs st g rx
  |_=>exact .stuck
 |olist ns=>cases w with
  |int i =>
   obtain⟨a,vals,c,rfl,hm,hi⟩:=ro;obtain⟨u,rfl⟩:=ri
   obtain⟨hl,hg⟩:=IntsAre.get hi
   refine .guard fun hb => .opt fun n hn Q E P=>?_
   obtain⟨t,ht⟩:=hg _ _ hn
   have g:=st.Bc hm
   exact bS.any (nE (by obtain⟨o,e,c,_⟩:=g;exact⟨o,e,c⟩) slot_list_getitem.lookup (wpAny_getItem_list g hb.2.1 (Df hb.1 hb.2.2) (List.getElem?_toArray▸ht) (P φ T _ s.heap s.toks (.refl _ _) st ⟨_,rfl⟩)) hs)
  |_=>exact .stuck
 |_=>exact .stuck
end
end
noncomputable def Bd:List (Fd×V)->Fd->Option V
 | [],_=>none
 |(a,v)::r,k=>if a=k then some v else Bd r k
noncomputable def xy:List (Fd×V)->Fd->V->List (Fd×V)
 | [],k,v=>[(k,v)]
 |(a,w)::r,k,v=>if a=k then(a,v)::r else(a,w)::xy r k v
noncomputable def AO.WS:AO->Option (List (Fd×V))
 | .dict fs=>some fs
 |_=>none
@[simp] theorem RE{fs:List (Fd×V)}:(AO.dict fs).WS=some fs:=rfl
noncomputable def dct(H:AH)(n:Nat):Option (List (Fd×V)):=H[n]?.bind AO.WS
theorem iG{H:AH}{i:Nat}{fs:List (Fd×V)}(h:dct H i=some fs):H[i]? = some (.dict fs):=by
 obtain⟨o,h1,h2⟩:=Option.bind_eq_some_iff.mp h
 cases o with
 |dict ws=>exact Option.some.inj h2▸h1
 |_=>exact ns h2
theorem Ir{a k:Fd}(h:a≠k):(a.str==k.str)=false:=by
 rw [beq_eq_false_iff_ne];exact fun q=>h (Fd.inj _ _ q)
section
variable{φ:List Addr}{T:b7}
theorem EO{name:Str}{fs:List (Fd×V)}{es:List DictEntry}(a:fK (u5 φ T) fs es):es.any (·.refKey)=false:=by
 induction a with
 |nil=>rfl
 |cons h _ ih =>
  obtain⟨⟨tk,h⟩,_⟩:=h
  rw [List.any_cons,ih,DictEntry.refKey,h];rfl
theorem key_is{a:Fd}{w:V}{e:DictEntry}(h:u5 φ T (a,w) e)(n:Str):e.key.isStr n=(a.str==n):=by obtain⟨⟨tk,h⟩,_⟩:=h;rw [h];rfl
theorem find_some{k:Fd}{v:V}{fs:List (Fd×V)}{es:List DictEntry}(a:fK (u5 φ T) fs es)(g:Bd fs k=some v):∃e,es.find? (·.key.isStr k.str)=some e/\cz φ T v e.val:=by
 induction a with
 |nil=>exact ns g
 | @cons p e _ _ h _ ih =>
  replace g:(if p.1=k then some p.2 else Bd _ k)=some v:=g
  by_cases q:p.1=k
  ·rw [if_pos q]at g
   exact⟨e,by rw [List.find?_cons,key_is h,q,beq_self_eq_true],Option.some.inj g▸h.2⟩
  ·rw [if_neg q]at g
   rw [List.find?_cons,key_is h,Ir q]
   exact ih g
theorem Gw{k:Fd}{v:V}{fs:List (Fd×V)}{es:List DictEntry}(a:fK (u5 φ T) fs es)(g:Bd fs k=some v):∃x,getL k.str es=some (some x)/\cz φ T v x:=by
 obtain⟨e,h,r⟩:=find_some a g
 exact⟨e.val,by unfold getL;rw [h],r⟩
theorem find_none{name:Str}{fs:List (Fd×V)}{es:List DictEntry}(a:fK (u5 φ T) fs es)(g:∀p∈fs,p.1.str≠name):es.find? (·.key.isStr name)=none:=by
 induction a with
 |nil=>rfl
 |cons h _ ih =>
  rw [List.find?_cons,key_is h,beq_eq_false_iff_ne.mpr (g _ List.mem_cons_self)]
  exact ih fun p hp=>g p (List.mem_cons_of_mem _ hp)
theorem Gx{name:Str}{fs:List (Fd×V)}{es:List DictEntry}(a:fK (u5 φ T) fs es)(g:∀p∈fs,p.1.str≠name):getL name es=some none:=by
 unfold getL;rw [find_none a g,EO (name:=name) a];rfl
theorem Be{name:Str}{fs:List (Fd×V)}{es:List DictEntry}(a:fK (u5 φ T) fs es):(getL name es).isSome=true:=by
 unfold getL;rw [EO (name:=name) a];cases es.find? (·.key.isStr name)<;>rfl
theorem EP{k:Fd}{v:V}{x:Value}{hsh:Int}{tk:Tok}(hx:cz φ T v x){fs:List (Fd×V)}{es:List DictEntry}(a:fK (u5 φ T) fs es):fK (u5 φ T) (xy fs k v) (putL k.str hsh (.str k.str tk) x es):=by
 induction a with
 |nil=>exact .cons ⟨⟨tk,rfl⟩,hx⟩ .nil
 | @cons p e fs es h t ih =>
  show fK _ (if p.1=k then(p.1,v)::fs else p::xy fs k v) (if e.key.isStr k.str then {e with val:=x}::es else e::putL k.str hsh (.str k.str tk) x es)
  rw [key_is h]
  by_cases q:p.1=k
  ·rw [if_pos q,if_pos (beq_iff_eq.mpr (congrArg Fd.str q))];exact .cons ⟨h.1,hx⟩ t
  ·rw [if_neg q,if_neg (Bool.eq_false_iff.mp (Ir q))];exact .cons h ih
theorem Bf{fs:List (Fd×V)}{k:Fd}{v:V}:(xy fs k v).length<=fs.length+1:=by
 induction fs with
 |nil=>exact Nat.le_refl _
 |cons p fs ih =>
  show(if p.1=k then(p.1,v)::fs else p::xy fs k v).length<=_
  by_cases q:p.1=k
  ·rw [if_pos q];exact Nat.le_succ _
  ·rw [if_neg q];exact Nat.succ_le_succ ih
end
section
variable{C:Cfg}{cb:Bool}{d:Nat}{sc:List (Str×NameKind)}{names:List Str}
structure iD(C:Cfg)(c:Addr)(name:Str):Prop where
 get:plainGet C.K c name=true
 dict:hasDictIn C.K c=true
 find:∃attr,findIn C.K (.ref c) name=some attr/\noGet C.K attr=true
structure gS(C:Cfg)(c:Addr)(name:Str):Prop where
 set:findIn C.K (.ref c) "__setattr__" = some (some (.builtin "object.__setattr__"))
 over:plainOver C.K c=true
 Iu:takerIn C.K c name=some none
 dict:hasDictIn C.K c=true
structure eL(C:Cfg)(c:Addr)(name:Str)(fn:Addr):Prop where
 get:plainGet C.K c name=true
 find:findIn C.K (.ref c) name=some (some (.ref fn))
 XS:isFn C.K (.ref fn)=true
theorem handed{φ:List Addr}{T:b7}{v:V}{x:Value}(hv:cz φ T v x)(h:v ≠ .oO):handedIn x=true:=by
 cases v with
 |none=>cases hv;rfl
 |bool=>cases hv;rfl
 |int=>obtain⟨_,rfl⟩:=hv;rfl
 |bytes=>obtain⟨_,rfl⟩:=hv;rfl
 |str=>obtain⟨_,rfl⟩:=hv;rfl
 |tup=>obtain⟨_,_,_,rfl,_⟩:=hv;rfl
 |ref=>obtain⟨_,rfl,_⟩:=hv;rfl
 |inst=>obtain⟨_,_,rfl,_⟩:=hv;rfl
 |oO=>exact absurd rfl h
 |undef=>exact hv.elim
 |olist=>obtain⟨_,_,_,rfl,_⟩:=hv;rfl
theorem St.inst{f:Fm C}{m:Str->Option Value}{φ:List Addr}{T Z:b7}{H:AH}{h:Heap}(st:St f m φ T Z H h){a dx c:Addr}{n:Nat}{fs:List (Fd×V)}(ha:(a,instObj c dx)∈T)(hd:φ[n]? = some dx)(hf:dct H n=some fs) :
  ∃es k,InstAt h a (instObj c dx) c (some (dictOf es k))/\fK (u5 φ T) fs es:=by
 obtain⟨h₀,obs,G,F,N,O,nd,off⟩:=st
 obtain⟨ob,h1,⟨es,k,rfl,h2⟩,h3⟩:=O.get hd (iG hf)
 exact⟨es,k,InstAt.of_news N (List.mem_append_right _ (List.mem_append_left _ ha)) (List.mem_append_left _ h3),h2⟩
noncomputable def xA:V->AH->R V
 | .oO,_ => .stuck
 |v,H => .ok v H
theorem LV(v:V)(H:AH):xA v H = .stuck\/(v ≠ .oO/\xA v H = .ok v H):=by cases v<;>first | exact .inl rfl | exact .inr ⟨fun h=>V.noConfusion h,rfl⟩
theorem LW{v:V}{H:AH}(h:v ≠ .oO):xA v H = .ok v H:=by cases v<;>first | rfl | exact absurd rfl h
noncomputable def Bg(c:Addr)(k:Fd):V->AH->R V
 | .inst c' n,H=>if c'=c then cC (dct H n) fun fs=>cC (Bd fs k) fun v=>xA v H else .stuck
 |_,_ => .stuck
theorem zB{c:Addr}{k:Fd}(ok:iD C c k.str){f:Fm C}{m:Str->Option Value}{φ:List Addr}{T Z:b7}{H:AH}{s:Shared}{v:V}{x:Value}(st:St f m φ T Z H s.heap)(rv:cz φ T v x) :
  Runs cz f m φ T Z s cb (getAttr x k.str true) (Bg c k v H):=by
 cases v with
 |inst c' n =>
  refine .guard fun hc => .opt fun fs hf => .opt fun w hg=>?_
  rcases LV w H with e | ⟨hj,e⟩<;>rw [e]
  ·exact .stuck
  subst hc
  obtain⟨a,dx,rfl,ha,hd⟩:=rv
  obtain⟨es,n',I,A2⟩:=st.inst ha hd hf
  obtain⟨y,hl,ry⟩:=Gw A2 hg
  obtain⟨attr,h1,h2⟩:=ok.find
  have st':=st
  obtain⟨h₀,obs,G,F,N,O,nd,off⟩:=st
  exact fun Q E P=>bS.any (get_own F G.X I ok.get ok.dict h1 h2 hl (handed ry hj) (P φ T y s.heap _ (.refl _ _) st' ry))
 |_=>exact .stuck
noncomputable def b8(c:Addr)(k:Fd)(o:EF):EF:=fun ρ H=>(o ρ H).bind (Bg c k)
theorem be{value:Expr}{attr:Str}{pos:Pos}{c:Addr}{k:Fd}{o:EF}(hk:k.str=attr)(ok:iD C c k.str)(ho:ez C cb d sc names value o)
  (he:∀env,eval (.Attribute value attr pos) env=(do
    let o<-eval value env
    PySem.standAt pos.atName
    let r<-PySem.holding [o] (getAttr o attr true)
    letTemporaryGo value o r
    pure r):=by intro _;with_unfolding_all rfl):ez C cb d sc names (.Attribute value attr pos) (b8 c k o):=fun f env m ρ φ T Z H s rm g er st=>by
 dsimp only
 rw [he env]
 refine Runs.bind (ho f env m ρ φ T Z H s rm g er st) fun v H' bc T' x h' tk' _ e st' rv=>Runs.standAt ?_
 rw [← hk]
 intro Q E P
 refine bw (dz (zB ok st' rv _ _ ?_))
 revert P
 cases Bg c k v H' with
 |ok w H₂=>exact fun P φ₂ T₂ y h₂ tk₂ e₂ bN rv₂=>bw (bS.any (wpAny_letTemporaryGo (bD (P φ₂ T₂ y h₂ tk₂ e₂ bN rv₂))))
 |exc H₂=>exact fun P=>P
 |stuck=>exact fun P=>P
noncomputable def cy(o i:EF):EF:=fun ρ H=>(o ρ H).bind fun v H=>(i ρ H).bind fun w H=>ki v w H
theorem br{value slice:Expr}{pos:Pos}{o i:EF}(ho:ez C cb d sc names value o)(hi:ez C cb d sc names slice i)(hs:∀o i,subscripted slice false o i=PySem.operate [o,i] (getItem o i):=by intro _ _;rfl):ez C cb d sc names (.Subscript value slice pos) (cy o i) :=
 fun f env m ρ φ T Z H s rm g er st=>by
  refine Runs.of_eq (t':=do
   let o<-eval value env
   let i<-PySem.holding [o] (eval slice env)
   PySem.standAt pos
   subscriptTail value slice o i) rfl ?_
  refine Runs.bind (ho f env m ρ φ T Z H s rm g er st) fun v H' bc T' x h' tk' _ e st' rv=>?_
  refine Runs.bind (Runs.holding (hi f env m ρ bc T' Z H' _ rm g (er.mono e) st')) fun w H₂ φ₂ T₂ y h₂ tk₂ _ e₂ bN rv₂=>Runs.standAt ?_
  exact Gv hs bN (rv.mono e₂) rv₂
noncomputable def fD{α:Type}(l:List α)(lo hi:Option Int):List α:=(l.drop (lo.elim 0 (clipAt l.length))).take (hi.elim l.length (clipAt l.length) - lo.elim 0 (clipAt l.length))
noncomputable def Vs(_:List Addr)(_:b7)(o:Option Int)(x:Value):Prop:=IsPart x o
noncomputable abbrev OF:=List V->AH->R (Option Int)
noncomputable def qs:OF:=fun _ H => .ok none H
noncomputable def nG{α:Type}(k:Int->AH->R α):V->AH->R α
 | .int i,H=>k i H
 |_,_ => .stuck
noncomputable def iT(a:EF):OF:=fun ρ H=>(a ρ H).bind (nG fun i H => .ok (some i) H)
noncomputable def UP(C:Cfg)(cb:Bool)(d:Nat)(sc:List (Str×NameKind))(names:List Str)(e:Option Expr)(fn:OF):Prop:=O8 Vs C cb d sc names (fun env=>valueOrNone (evalOpt e env)) fn
theorem oq:UP C cb d sc names none qs:=fun f env m ρ φ T Z H s rm g er st=>Runs.of_eq (t':=Pure.pure Value.none) rfl (Runs.pure st IsPart.none)
theorem gm{e:Expr}{a:EF}(ha:ez C cb d sc names e a):UP C cb d sc names (some e) (iT a):=fun f env m ρ φ T Z H s rm g er st Q E P=>by
 show bS cb _ f.A (eval e env) Q E s
 refine ha f env m ρ φ T Z H s rm g er st Q E ?_
 replace P:Post _ _ _ _ _ _ _ ((a ρ H).bind (nG fun i H => .ok (some i) H)) _ _:=P
 revert P
 cases a ρ H with
 |ok v H' =>
  cases v with
  |int i=>exact fun P bc T' x h tk e st' rv=>P bc T' x h tk e st' (by obtain⟨t,rfl⟩:=rv;exact IsPart.int _ _)
  |_=>exact fun P=>P.elim
 |exc H'=>exact fun P=>P
 |stuck=>exact fun P=>P
noncomputable def Vt(lo hi:Option Int)(b:List UInt8)(H:AH):R V:=if b.length<=16777216 then .ok (.ref H.length) (H++[.ba (fD b lo hi)])else .stuck
noncomputable def zC(lo hi:Option Int):V->AH->R V
 | .ref n,H=>(lst H n).elim (cC (bar H n) fun b=>Vt lo hi b H) fun vs=>if vs.length<=16777216 then .ok (.ref H.length) (H++[.list (fD vs lo hi)])else .stuck
 | .bytes b,H=>if b.length<=16777216 then .ok (.bytes (fD b lo hi)) H else .stuck
 |_,_ => .stuck
theorem Gy{vs:List Value}{lo hi:Option Int}:slicePick vs.toArray lo hi none=(fD vs lo hi).toArray:=by
 rw [kmk_pick_nat _ (sliceBounds_plain lo hi _)];rfl
theorem tG{b:List UInt8}{lo hi:Option Int}:KBy.picked b.toArray lo hi=(fD b lo hi).toArray:=by
 rw [KBc.picked_eq];rfl
theorem bj.cut{φ:List Addr}{T:b7}{vs:List V}{xs:List Value}(r:bj φ T vs xs)(lo hi:Option Int):bj φ T (fD vs lo hi) (fD xs lo hi):=by
 unfold fD;rw [r.length];exact(r.drop _).take _
theorem Pd{value:Expr}{lower upper:Option Expr}{p pos:Pos}{f:Fm C}{m:Str->Option Value}{φ:List Addr}{T Z:b7}{H:AH}{s:Shared}{v:V}{o l u:Value}{lo hi:Option Int}{Q:Value->Shared->Prop}{E:Value->Shared->Prop}(st:St f m φ T Z H s.heap)(ro:cz φ T v o)(hl:IsPart l lo)(hu:IsPart u hi)
  (P:Post cz f m φ T Z s (zC lo hi v H) Q E) :
  bS cb (model C.prog C.w) f.A (newFields "slice" [l,u,.none]) (fun i s'=>bS cb (model C.prog C.w) f.A (PySem.standAt pos >>= fun _=>subscriptTail value (.Slice lower upper none p) o i) Q E s') E s:=by
 have hns:∀{Q':Value->Shared->Prop},Q' (.ref s.heap.objs.size) {s with heap:=s.heap.push {cls := .type "slice",data := .fields #[l,u,.none]}}->wpAny (model C.prog C.w) f.A (newFields "slice" [l,u,.none]) Q' E s:=fun q=>wpAny_newObj_type q
 refine bS.any (hns (bS.any (wpAny_bind (wpAny_standAt ?_))))
 cases v with
 |bytes b =>
  obtain⟨t,rfl⟩:=ro
  obtain⟨hz,P⟩:=Post.guard P
  obtain⟨h₀,obs,G,F,N,O,nd,off⟩:=st
  refine tail_any (typeIs_bytes _ _ _) FB.slot_bytes_getitem.lookup (getItem_meets (typeIs_bytes _ _ _) (by decide) FB.slot_bytes_getitem FB.entry_bytes_getitem (FB.args_bytes_getitem_2 _ _) (KBc.meets_slice2 b.toArray t _ hl hu)
   ⟨Heap.IsSliceOf.new _ _ _ _,Nat.le_trans (KBc.size_picked_le _ lo hi) (by rw [sizeLine_eq];exact hz),fun t' k=>?_⟩) rfl
  rw [tG]
  exact P φ T _ _ k (.refl _ _) ⟨h₀,obs,G,F.push _,News.pushKeep N _,O,nd,off⟩ ⟨_,rfl⟩
 |ref n =>
  obtain⟨a,rfl,ha⟩:=ro
  replace P:Post cz f m φ T Z s ((lst H n).elim _ _) Q E:=P
  cases hv:lst H n with
  |none =>
   rw [hv]at P
   obtain⟨b,hb,P⟩:=Post.opt P
   obtain⟨hz,P⟩:=Post.guard P
   obtain⟨h₀,obs,G,F,N,O,nd,off⟩:=st
   obtain⟨ob,h1,rfl,h3⟩:=O.get ha (j9 hb)
   refine HU F N (List.mem_append_left _ h3) hl hu hz (fun D h' k F' N' lt=>?_) rfl
   rw [tG]at N'
   obtain⟨st',e⟩:=St.push (ao := .ba (fD b lo hi)) G F' nd off N' lt O rfl
   exact P _ _ _ h' k e st' (kh O.hlen)
  |some vs =>
   rw [hv]at P
   obtain⟨hz,P⟩:=Post.guard P
   obtain⟨xs,g,rx⟩:=st.dU ha hv
   obtain⟨h₀,obs,G,F,N,O,nd,off⟩:=st
   refine tail_any (Heap.IsList.typeIs (s:={s with heap:=s.heap.push {cls := .type "slice",data := .fields #[l,u,.none]}}) (g.push _)) list_getitem_lookup
    (wpAny_getItem_list_slice (g.push _) (Heap.IsSliceOf.new ..) hl hu .none nofun ?_ (by rw [sizeLine_eq,List.size_toArray,rx.length];exact hz)) rfl
   have N1:=News.push (F.push {cls := .type "slice",data := .fields #[l,u,.none]}) (N.grown fun _ _ e=>Heap.get?_push_of_some _ e) {cls := .type "list",data := .seq (slicePick xs.toArray lo hi none)}
   rw [Gy]at N1 ⊢
   obtain⟨st',e⟩:=St.push (ao := .list (fD vs lo hi)) G ((F.push _).push _) nd off N1 (fun p hp=>by rw [Heap.size_push];exact Nat.lt_succ_of_lt (Heap.lt_size (N p hp).1)) O ⟨_,_,rfl,rx.cut lo hi⟩
   exact P _ _ _ _ s.toks e st' (kh O.hlen)
 |_=>exact P.elim
end
noncomputable def vInt:V->Option Int
 | .int i=>some i
 |_=>none
noncomputable def WT:V->Option (List UInt8)
 | .bytes b=>some b
 |_=>none
noncomputable def allOf{α:Type}(g:V->Option α):List V->Option (List α)
 | []=>some []
 |v::r=>(g v).bind fun a=>(allOf g r).bind fun l=>some (a::l)
noncomputable def intsOf:List V->Option (List Int):=allOf vInt
noncomputable def tH:List V->Option (List (List UInt8)):=allOf WT
theorem yt{α:Type}{g:V->Option α}{P:Value->α->Prop}{φ:List Addr}{T:b7}{vs:List V}{xs:List Value}{ns:List α}(hg:∀v x a,cz φ T v x->g v=some a->P x a)(h:bj φ T vs xs)(e:allOf g vs=some ns):fK P xs ns:=by
 induction vs generalizing xs ns with
 |nil=>cases h;cases e;exact .nil
 |cons v vs ih =>
  obtain⟨x,r,rfl,hv,hr⟩:=h
  obtain⟨a,h1,e⟩:=Option.bind_eq_some_iff.mp e
  obtain⟨l,h2,e⟩:=Option.bind_eq_some_iff.mp e
  cases e
  exact .cons (hg _ _ _ hv h1) (ih hr h2)
noncomputable def Vu(x:Value)(a:Int):Prop := ∃t,x = .int a t
noncomputable def Pe(x:Value)(a:List UInt8):Prop := ∃t,x = .bytes a.toArray t
theorem Bh{φ:List Addr}{T:b7}{vs:List V}{xs:List Value}{ns:List Int}(h:bj φ T vs xs)(e:intsOf vs=some ns):fK Vu xs ns:=yt (fun v x a r e=>by
 cases v with
 |int i=>exact Option.some.inj e▸r
 |_=>exact Mine.ns e) h e
theorem EQ{φ:List Addr}{T:b7}{vs:List V}{xs:List Value}{bs:List (List UInt8)}(h:bj φ T vs xs)(e:tH vs=some bs):fK Pe xs bs:=yt (fun v x a r e=>by
 cases v with
 |bytes i=>exact Option.some.inj e▸r
 |_=>exact Mine.ns e) h e
theorem vn{φ:List Addr}{T:b7}{vs:List V}{xs:List Value}{ns:List Int}(h:bj φ T vs xs)(e:intsOf vs=some ns):IntsAre xs ns:=by
 have a:=Bh h e
 clear h e
 induction a with
 |nil=>exact .nil
 |cons h _ ih=>obtain⟨t,rfl⟩:=h;exact .cons _ _ ih
section
variable{C:Cfg}{cb:Bool}{d:Nat}{sc:List (Str×NameKind)}{names:List Str}
noncomputable def qt(o:EF)(lo hi:OF):EF:=fun ρ H=>(o ρ H).bind fun v H=>(lo ρ H).bind fun l H=>(hi ρ H).bind fun u H=>zC l u v H
theorem lW{value:Expr}{lower upper:Option Expr}{p pos:Pos}{o:EF}{lo hi:OF}(ho:ez C cb d sc names value o)(hl:UP C cb d sc names lower lo)(hu:UP C cb d sc names upper hi):ez C cb d sc names (.Subscript value (.Slice lower upper none p) pos) (qt o lo hi) :=
 fun f env m ρ φ T Z H s rm g er st=>by
  refine Runs.of_eq (t':=do
   let o<-eval value env
   let i<-PySem.holding [o] (do
    let l<-valueOrNone (evalOpt lower env)
    let u<-PySem.holding [l] (valueOrNone (evalOpt upper env))
    let s<-PySem.holding [l,u] (Pure.pure Value.none)
    newFields "slice" [l,u,s])
   PySem.standAt pos
   subscriptTail value (.Slice lower upper none p) o i) rfl ?_
  refine Runs.bind (ho f env m ρ φ T Z H s rm g er st) fun v H' bc T' x h' tk' _ e st' rv=>?_
  intro Q E P
  refine bw (dz (bw ((hl f env m ρ bc T' Z H' _ rm g (er.mono e) st').iz P fun l H₂ φ₂ T₂ lx h₂ tk₂ e₂ bN rl P=>?_)))
  refine bw (dz ((hu f env m ρ φ₂ T₂ Z H₂ _ rm g ((er.mono e).mono e₂) bN).iz P fun u oQ tD A9 ux h₃ j8 kT eA ru P=>?_))
  refine bw (dz (bD ?_))
  exact Pd eA (rv.mono (e₂.trans kT)) rl ru P
end
section
variable{C:Cfg}{cb:Bool}{d:Nat}{sc:List (Str×NameKind)}{names:List Str}
noncomputable def UQ:Option Fd->List (Fd×V)->Bool
 |none,_=>true
 |some k,fs=>fs.all fun p=>p.1 != k
noncomputable def Iv(c:Addr)(nm:Option Fd)(kv:V->AH->R V):V->AH->R V
 | .inst c' n,H=>if c'=c then cC (dct H n) fun fs=>if UQ nm fs=true then kv (.inst c' n) H else .stuck else .stuck
 |_,_ => .stuck
noncomputable def bq(c:Addr)(nm:Option Fd)(k:List V->AH->R V)(o:EF)(l:LF):EF:=fun ρ H=>(o ρ H).bind (Iv c nm fun v H=>(l ρ H).bind fun vs H=>k (v::vs) H)
theorem fc{name:Str}{nm:Option Fd}(t:(Fd.all.all fun a=>decide (nm=some a) || !decide (a.str=name))=true)(a:Fd)(h:a.str=name):nm=some a:=by
 have t:=List.all_eq_true.mp t a (List.contains_iff_mem.mp a.mem)
 rw [decide_eq_true h]at t
 exact of_decide_eq_true ((Bool.or_false _).symm.trans t)
theorem bh{o:Expr}{name:Str}{apos pos:Pos}{es:List Expr}{c fn:Addr}{nm:Option Fd}{oe:EF}{l:LF}{k:List V->AH->R V}{pl:Env->Sem Bool}(ok:eL C c name fn)(hnm:∀fd:Fd,fd.str=name->nm=some fd)(hk:aR C (.ref fn))(hc:bz C cb d (.ref fn) k)
  (ho:ez C cb d sc names o oe) (hl:HE C cb d sc names es l)
  (he:∀env,eval (.Call (.Attribute o name apos) es [] pos) env=(do
   let ov<-eval o env
   PySem.standAt apos.atName
   let (f,first)<-PySem.holding [ov] (getMethod ov name (pl env))
   callWith pos f first (backTo pos (starEach es env)) []):=by intro _;rfl):ez C cb d sc names (.Call (.Attribute o name apos) es [] pos) (bq c nm k oe l):=fun f env m ρ φ T Z H s rm g er st=>by
 dsimp only
 rw [he env]
 refine Runs.bind (ho f env m ρ φ T Z H s rm g er st) fun v H' bc T' x h' tk' hr0 e st' rv=>Runs.standAt ?_
 cases v with
 |inst c' n =>
  refine .guard fun hc' => .opt fun fs hf => .guard fun hno Q E P=>?_
  subst hc'
  have XT:=rv
  have bN:=st'
  obtain⟨a,dx,rfl,ha,hd⟩:=rv
  obtain⟨es',n',I,A2⟩:=st'.inst ha hd hf
  obtain⟨h₀,obs,G,F,N,O,nd,off⟩:=st'
  refine aQ (wpAny_holding (method_inst F G.X I ok.get ok.find ok.XS (Gx A2 fun p hp q=>?_) ?_))
  ·cases hnm p.1 q
   exact bne_iff_ne.mp (List.all_eq_true.mp hno p hp) rfl
  ·exact kX (RD:=[.inst c' n]) hk hl hc rm g (er.mono e) bN (.one XT) Q E P
 |_=>exact .stuck
noncomputable def vo(C:Cfg)(name:Str)(id:String)(ap:V->AH->Bool):Prop :=
 ∀(f:Fm C)(m:Str->Option Value)(φ:List Addr)(T Z:b7)(H:AH)(s:Shared)(v:V)(x:Value)(pl:Sem Bool)(Q:Value×List Value->Shared->Prop)(E:Value->Shared->Prop),St f m φ T Z H s.heap->cz φ T v x->ap v H=true->Q (.builtin id,[x]) s->wpAny (model C.prog C.w) f.A (getMethod x name pl) Q E s
noncomputable def cE(ap:V->AH->Bool)(k:List V->AH->R V)(o:EF)(l:LF):EF:=fun ρ H=>(o ρ H).bind fun v H=>if ap v H=true then(l ρ H).bind fun vs H=>k (v::vs) H else .stuck
theorem cB{o:Expr}{name:Str}{apos pos:Pos}{es:List Expr}{id:String}{ap:V->AH->Bool}{oe:EF}{l:LF}{k:List V->AH->R V}{pl:Env->Sem Bool}(ok:vo C name id ap)(hc:bz C cb d (.builtin id) k)
  (ho:ez C cb d sc names o oe) (hl:HE C cb d sc names es l)
  (he:∀env,eval (.Call (.Attribute o name apos) es [] pos) env=(do
   let ov<-eval o env
   PySem.standAt apos.atName
   let (f,first)<-PySem.holding [ov] (getMethod ov name (pl env))
   callWith pos f first (backTo pos (starEach es env)) []):=by intro _;rfl):ez C cb d sc names (.Call (.Attribute o name apos) es [] pos) (cE ap k oe l):=fun f env m ρ φ T Z H s rm g er st=>by
 dsimp only
 rw [he env]
 refine Runs.bind (ho f env m ρ φ T Z H s rm g er st) fun v H' bc T' x h' tk' _ e st' rv=>Runs.standAt ?_
 exact .guard fun ha Q E P=>aQ (wpAny_holding (ok f m bc T' Z H' _ v x _ _ _ st' rv ha (kX (RD:=[v]) bI hl hc rm g (er.mono e) st' (.one rv) Q E P)))
noncomputable def iU(v:V)(H:AH):Bool:=match v with | .ref n=>(lst H n).isSome | _=>false
noncomputable def Pf(v:V)(_:AH):Bool:=match v with | .int _=>true | _=>false
noncomputable def Dg(v:V)(_:AH):Bool:=match v with | .bytes _=>true | _=>false
theorem ET{v:V}{H:AH}(h:iU v H=true):∃n vs,v = .ref n/\lst H n=some vs:=by
 cases v with
 |ref n=>obtain⟨vs,hv⟩:=Option.isSome_iff_exists.mp h;exact⟨n,vs,rfl,hv⟩
 |_=>exact Bool.noConfusion h
theorem St.zD{f:Fm C}{m:Str->Option Value}{φ:List Addr}{T Z:b7}{H:AH}{h:Heap}(st:St f m φ T Z H h){i:Nat}{a:Addr}{vs:List V}(ha:φ[i]? = some a)(hl:lst H i=some vs):∃vals c,h.get? a=some (listOf vals.toArray c)/\bj φ T vs vals:=by
 obtain⟨h₀,obs,G,F,N,O,nd,off⟩:=st
 obtain⟨ob,h1,⟨vals,c,rfl,h2⟩,h3⟩:=O.get ha (fh hl)
 exact⟨vals,c,N.get (List.mem_append_left _ h3),h2⟩
theorem EU{name:Str}{id:String}(slot:Slot "list" name id)(hty:typeOf (.builtin id)=pure (.type "method_descriptor")):vo C name id iU:=fun f m φ T Z H s v x pl Q E st rv ha q=>by
 obtain⟨n,vs,rfl,hv⟩:=ET ha
 obtain⟨a,rfl,hn⟩:=rv
 obtain⟨vals,c,e,r⟩:=st.zD hn hv
 exact getMethod_list_of slot hty ⟨_,e,rfl,c,rfl⟩ (by
  first | exact⟨_,e,rfl⟩ | exact fun o ho=>by rw [e]at ho;cases ho;rfl) q
theorem cQ:vo C (Str.ofString "append") "list.append" iU:=fun f m φ T Z H s v x pl Q E st rv ha q=>by
 obtain⟨n,vs,rfl,hv⟩:=ET ha
 obtain⟨a,rfl,hn⟩:=rv
 obtain⟨vals,c,e,r⟩:=st.zD hn hv
 exact Calls.getMethod_list_append e rfl rfl q
theorem vp:vo C (Str.ofString "reverse") "list.reverse" iU:=EU PySem.F.slot_list_reverse PySem.F.type_list_reverse
theorem Gz:vo C (Str.ofString "extend") "list.extend" iU:=EU PySem.F.slot_list_extend PySem.F.type_list_extend
theorem nH:vo C (Str.ofString "to_bytes") "int.to_bytes" Pf:=fun f m φ T Z H s v x pl Q E st rv ha q=>by
 cases v with
 |int i=>obtain⟨t,rfl⟩:=rv;exact KTBy.method q
 |_=>exact Bool.noConfusion ha
noncomputable def k1(g:V->AH->R V):List V->AH->R V
 | [v],H=>g v H
 |_,_ => .stuck
noncomputable def k2(g:V->V->AH->R V):List V->AH->R V
 | [v,w],H=>g v w H
 |_,_ => .stuck
noncomputable def t9{α:Type}(g:Nat->AH->R α):V->AH->R α
 | .ref n,H=>g n H
 |_,_ => .stuck
@[simp] theorem WU{g:V->AH->R V}{v:V}{H:AH}:k1 g [v] H=g v H:=rfl
@[simp] theorem WV{g:V->V->AH->R V}{v w:V}{H:AH}:k2 g [v,w] H=g v w H:=rfl
@[simp] theorem LX{α:Type}{g:Nat->AH->R α}{n:Nat}{H:AH}:t9 g (.ref n) H=g n H:=rfl
theorem bz.k1{fv:Value}{g:V->AH->R V}(h:∀(f:Fm C)(m:Str->Option Value)(φ:List Addr)(T Z:b7)(H:AH)(s:Shared)(v:V)(x:Value),St f m φ T Z H s.heap->cz φ T v x->Runs cz f m φ T Z s cb (call fv [x]) (g v H)):bz C cb d fv (k1 g):=fun f m φ T Z H s vs vals rm st rv=>by
 cases vs with
 |nil=>exact .stuck
 |cons v vs =>
  cases vs with
  |nil=>obtain⟨x,r,rfl,h1,rfl⟩:=rv;exact h f m φ T Z H s v x st h1
  |cons=>exact .stuck
theorem bz.k2{fv:Value}{g:V->V->AH->R V}(h:∀(f:Fm C)(m:Str->Option Value)(φ:List Addr)(T Z:b7)(H:AH)(s:Shared)(v w:V)(x y:Value),St f m φ T Z H s.heap->cz φ T v x->cz φ T w y->Runs cz f m φ T Z s cb (call fv [x,y]) (g v w H)):bz C cb d fv (k2 g):=fun f m φ T Z H s vs vals rm st rv=>by
 cases vs with
 |nil=>exact .stuck
 |cons v vs =>
  cases vs with
  |nil=>exact .stuck
  |cons w vs =>
   cases vs with
   |nil=>obtain⟨x,r,rfl,h1,y,r',rfl,h2,rfl⟩:=rv;exact h f m φ T Z H s v w x y st h1 h2
   |cons=>exact .stuck
theorem Runs.ref{α β:Type}{f:Fm C}{m:Str->Option Value}{φ:List Addr}{T Z:b7}{H:AH}{s:Shared}{rep:List Addr->b7->α->β->Prop}{t:Value->Sem β}{g:Nat->AH->R α}{v:V}{x:Value}(rv:cz φ T v x)(h:∀n a,φ[n]? = some a->Runs rep f m φ T Z s cb (t (.ref a)) (g n H)):Runs rep f m φ T Z s cb (t x) (t9 g v H):=by
 cases v with
 |ref n=>obtain⟨a,rfl,ha⟩:=rv;exact h n a ha
 |_=>exact .stuck
noncomputable def aY:List V->AH->R V:=k2 fun x v H=>t9 (fun n H=>cC (lst H n) fun vs=>if vs.length<=16777214 then .ok .none (H.set n (.list (vs++[v])))else .stuck) x H
theorem yu{f:Fm C}{m:Str->Option Value}{φ:List Addr}{T Z:b7}{H:AH}{s:Shared}{n:Nat}{a:Addr}{vs vs':List V}{t:Sem Value}{Q:Value->Shared->Prop}{E:Value->Shared->Prop}(st:St f m φ T Z H s.heap)(ha:φ[n]? = some a)(hl:lst H n=some vs)(P:Post cz f m φ T Z s (.ok .none (H.set n (.list vs'))) Q E)
  (k:∀vals c h₀ news,bj φ T vs vals->Gr f h₀->Fr h₀ f.L s.heap m->News h₀ f.L s.heap news->(a,listOf vals.toArray c)∈news →
   (∀vals' c',bj φ T vs' vals' -> ∃news',Upd a (listOf vals.toArray c) (listOf vals'.toArray c') news news' /\ ∀h',Fr h₀ f.L h' m->News h₀ f.L h' news'->Q .none {s with heap:=h'})->wpAny (model C.prog C.w) f.A t Q E s):wpAny (model C.prog C.w) f.A t Q E s:=by
 obtain⟨h₀,obs,G,F,N,O,nd,off⟩:=st
 obtain⟨ob,h1,⟨vals,c,rfl,h2⟩,h3⟩:=O.get ha (fh hl)
 refine k vals c h₀ _ h2 G F N (List.mem_append_left _ h3) fun vals' c' r=>⟨_,lV nd off.fi O.len ha h1,fun h' F' N'=>?_⟩
 exact P φ T .none h' s.toks (.refl _ _) (St.set G F' nd off N' O ⟨_,_,rfl,r⟩) rfl
theorem Bj{n k:Nat}(e:n=k)(h:k<=16777214):n<=sizeLine:=by rw [sizeLine_eq,e];exact Nat.le_trans h (by decide)
theorem b9:bz C cb d (.builtin "list.append") aY := .k2 fun f m φ T Z H s v w x y st rv Pg => .ref (t:=fun x=>call (.builtin "list.append") [x,y]) rv fun n a ha => .opt fun ws hw => .guard fun hz Q E P =>
 bS.any (yu st ha hw P fun us c h₀ news ru G F N hm k=>by
  obtain⟨news',U,q⟩:=k (us++[y]) (c+1) (ru.append (.one Pg))
  exact append_K F N (by rw [List.push_toArray];exact U) q (Bj ru.length hz))
noncomputable def jG:List V->AH->R V:=k1 (t9 fun n H=>cC (lst H n) fun vs=>if vs.length<=16777214 then .ok .none (H.set n (.list vs.reverse))else .stuck)
theorem qu:bz C cb d (.builtin "list.reverse") jG := .k1 fun f m φ T Z H s v x st rv => .ref (t:=fun x=>call (.builtin "list.reverse") [x]) rv fun n a ha => .opt fun ws hw => .guard fun hz Q E P =>
 bS.any (yu st ha hw P fun us c h₀ news ru G F N hm k=>by
  obtain⟨news',U,q⟩:=k us.reverse c ru.reverse
  exact kl_reverse F N rfl U (Bj ru.length hz) q)
noncomputable def ur:List V->AH->R V:=k2 fun x y H=>t9 (fun n H=>t9 (fun j H=>cC (lst H n) fun vs=>cC (lst H j) fun ws=>if vs.length+ws.length<=16777214 then .ok .none (H.set n (.list (vs++ws)))else .stuck) y H) x H
theorem Bk:bz C cb d (.builtin "list.extend") ur := .k2 fun f m φ T Z H s v w x y st rv Pg => .ref (t:=fun x=>call (.builtin "list.extend") [x,y]) rv fun n a ha => .ref (t:=fun y=>call (.builtin "list.extend") [.ref a,y]) Pg fun j b hb => .opt fun ws hw => .opt fun us hu => .guard fun hz Q E P=>by
 obtain⟨h₀,obs,G,F,N,O,nd,off⟩:=st
 obtain⟨ob,h1,⟨xs,c,rfl,h2⟩,h3⟩:=O.get ha (fh hw)
 obtain⟨WW,YV,⟨ys,c',rfl,Vv⟩,WX⟩:=O.get hb (fh hu)
 have hl:xs.length+ys.length<=16777214:=by rw [h2.length,Vv.length];exact hz
 have hx:xs.length<=sizeLine:=Bj rfl (Nat.le_trans (Nat.le_add_right _ _) hl)
 have hd:¬(!xs.toArray.isEmpty&&Builtin.List.listTooLong (xs.toArray.size+ys.toArray.size))=true:=by
  rw [show Builtin.List.listTooLong (xs.toArray.size+ys.toArray.size)=false from decide_eq_false (Nat.not_lt.mpr (Bj rfl hl)),Bool.and_false]
  exact Bool.noConfusion
 have hs:xs.toArray.size+ys.toArray.size<=sizeLine+1:=Nat.le_succ_of_le (Bj rfl hl)
 cases ys with
 |nil =>
  cases us with
  |nil =>
   refine bS.any (kxn_extend F N (List.mem_append_left _ WX) rfl (lV nd off.fi O.len ha h1) hd hx hs fun h' F' N'=>?_)
   exact P φ T .none h' s.toks (.refl _ _) (St.set G F' nd off N' O ⟨_,_,rfl,(List.append_nil ws).symm▸h2⟩) rfl
  |cons u us=>exact absurd Vv.length (Nat.succ_ne_zero _).symm
 |cons y ys =>
  refine bS.any (kl_extend F N (List.mem_append_left _ WX) rfl (Nat.succ_ne_zero _) (lV nd off.fi O.len ha h1) hd hx hs fun h' F' N'=>?_)
  exact P φ T .none h' s.toks (.refl _ _) (St.set G F' nd off N' O ⟨_,_,rfl,h2.append Vv⟩) rfl
end
section
variable{C:Cfg}{cb:Bool}{d:Nat}
@[simp] theorem LY{α:Type}{k:Int->AH->R α}{i:Int}{H:AH}:nG k (.int i) H=k i H:=rfl
theorem Runs.int{α β:Type}{f:Fm C}{m:Str->Option Value}{φ:List Addr}{T Z:b7}{H:AH}{s:Shared}{rep:List Addr->b7->α->β->Prop}{t:Value->Sem β}{g:Int->AH->R α}{v:V}{x:Value}(rv:cz φ T v x)(h:∀i tk,Runs rep f m φ T Z s cb (t (.int i tk)) (g i H)):Runs rep f m φ T Z s cb (t x) (nG g v H):=by
 cases v with
 |int n=>obtain⟨tk,rfl⟩:=rv;exact h n tk
 |_=>exact .stuck
noncomputable def GA{α:Type}(l:List α)(H:AH):R V:=if l.length<=16777216 then .ok (.int l.length) H else .stuck
noncomputable def Vw:V->AH->R V
 | .ref n,H=>(lst H n).elim (cC (bar H n) fun b=>GA b H) fun vs=>GA vs H
 | .bytes b,H=>GA b H
 | .olist ns,H=>GA ns H
 |_,_ => .stuck
noncomputable def bT:List V->AH->R V:=k1 Vw
theorem uu{f:Fm C}{m:Str->Option Value}{φ:List Addr}{T Z:b7}{H:AH}{s:Shared}{n k:Nat}{x:Value}(st:St f m φ T Z H s.heap)(e:k=n)(h:∀Q:Value->Shared->Prop,∀E,Q (.int k (s.toks+1)) {s with toks:=s.toks+1+1}->wpAny (model C.prog C.w) f.A (call (.builtin "len") [x]) Q E s):Runs cz f m φ T Z s cb (call (.builtin "len") [x]) (.ok (.int n) H):=fun Q E P =>
 bS.any (h _ _ (e▸P φ T _ s.heap _ (.refl _ _) st ⟨s.toks+1,rfl⟩))
theorem EV{n k:Nat}(e:n=k)(h:k<=16777216):(n:Int)<2 ^ 63:=e▸Int.lt_of_le_of_lt (Int.ofNat_le.mpr h) (by decide)
theorem bg:bz C cb d (.builtin "len") bT := .k1 fun f m φ T Z H s v x st rv=>by
 cases v with
 |ref n =>
  obtain⟨a,rfl,ha⟩:=rv
  show Runs cz f m φ T Z s cb _ ((lst H n).elim _ _)
  cases hw:lst H n with
  |none=>exact .opt fun b hb => .guard fun hz=>uu st rfl fun Q E q=>uY (st.EK ha hb) hz q
  |some ws =>
   obtain⟨xs,g,rx⟩:=st.dU ha hw
   exact .guard fun hz=>uu st rx.length fun Q E q=>PyProof.Rows.len_list g (EV rx.length hz) q
 |bytes b=>obtain⟨t,rfl⟩:=rv;exact .guard fun hz=>uu st rfl fun Q E q=>len_bytes (Nat.le_trans hz (by decide)) q
 |olist ns =>
  obtain⟨a,vals,c,rfl,hm,hi⟩:=rv
  exact .guard fun hz=>uu st (IntsAre.get hi).1 fun Q E q=>PyProof.Rows.len_list (st.Bc hm) (EV (IntsAre.get hi).1 hz) q
 |_=>exact .stuck
noncomputable def Vx:V->AH->R V
 | .bool b,H => .ok (.int (if b=true then 1 else 0)) H
 | .int i,H => .ok (.int i) H
 |_,_ => .stuck
noncomputable def iE:List V->AH->R V:=k1 Vx
theorem eW:bz C cb d (.type "int") iE := .k1 fun f m φ T Z H s v x st rv=>by
 cases v with
 |bool b=>obtain rfl:x = .bool b:=rv;exact .any st fun Q E P=>call_int_bool (P _ _ ⟨_,rfl⟩)
 |int i=>obtain⟨t,rfl⟩:=rv;exact .any st fun Q E P=>call_int_int (P _ s.toks ⟨_,rfl⟩)
 |_=>exact .stuck
theorem Ph(a b:Int):(if b > a then b else a)=max a b:=by
 rw [Int.max_def]
 by_cases h:b > a
 ·rw [if_pos h,if_pos (Int.le_of_lt h)]
 ·rw [if_neg h]
  by_cases q:a<=b
  ·rw [if_pos q];exact Int.le_antisymm q (Int.not_lt.mp h)
  ·rw [if_neg q]
noncomputable def zE:List V->AH->R V:=k2 fun v w H=>nG (fun a H=>nG (fun b H => .ok (.int (max a b)) H) w H) v H
theorem qv:bz C cb d (.builtin "max") zE := .k2 fun f m φ T Z H s v w x y st rv Pg => .int (t:=fun x=>call (.builtin "max") [x,y]) rv fun a t => .int (t:=fun y=>call (.builtin "max") [.int a t,y]) Pg fun b u Q E P=>by
 obtain⟨h₀,obs,G,F,N,O,nd,off⟩:=st
 exact bS.any (max_two_N rfl F N fun h' tk F' N'=>P φ T _ h' tk (.refl _ _) ⟨h₀,obs,G,F',N',O,nd,off⟩ ⟨_,congrArg (Value.int · _) (Ph a b)⟩)
noncomputable def Dh:List V->AH->R V:=k1 (t9 fun n H=>cC ((lst H n).bind intsOf) fun ns => .ok (.int ns.sum) H)
theorem Bl:bz C cb d (.builtin "sum") Dh := .k1 fun f m φ T Z H s v x st rv => .ref (t:=fun x=>call (.builtin "sum") [x]) rv fun n a ha => .opt fun is hn Q E P=>by
 obtain⟨ws,hw,hi⟩:=Option.bind_eq_some_iff.mp hn
 obtain⟨xs,g,rx⟩:=st.dU ha hw
 obtain⟨h₀,obs,G,F,N,O,nd,off⟩:=st
 exact bS.any (sumK rfl F N g (vn rx hi) fun h' tk t' F' N'=>P φ T _ h' tk (.refl _ _) ⟨h₀,obs,G,F',N',O,nd,off⟩ ⟨t',rfl⟩)
noncomputable def lD:List V->AH->R V:=k1 (t9 fun n H=>cC (lst H n) fun vs=>if vs.length<=16777216 then .ok (.ref H.length) (H++[.list vs])else .stuck)
theorem yv:bz C cb d (.type "list") lD := .k1 fun f m φ T Z H s v x st rv => .ref (t:=fun x=>call (.type "list") [x]) rv fun n a ha => .opt fun ws hw => .guard fun hz Q E P=>by
 obtain⟨xs,g,rx⟩:=st.dU ha hw
 obtain⟨h₀,obs,G,F,N,O,nd,off⟩:=st
 refine bS.any (list_copyK F N g (fun D c h' F' N' lt=>?_) (by rw [List.size_toArray,rx.length,sizeLine_eq];exact hz))
 obtain⟨st',e⟩:=St.push (ao := .list ws) G F' nd off N' lt O ⟨_,_,rfl,rx⟩
 exact P _ _ _ h' s.toks e st' (kh O.hlen)
noncomputable def Pj:V->AH->R V
 | .int n,H=>if 0<=n/\n<=16777216 then .ok (.bytes (List.replicate n.toNat 0)) H else .stuck
 | .bytes b,H => .ok (.bytes b) H
 | .ref n,H=>(bar H n).elim (cC ((lst H n).bind intsOf) fun ns=>if ns.length<=16777216/\(ns.all fun n=>decide (0<=n/\n<256))=true then .ok (.bytes (ns.map fun n=>n.toNat.toUInt8)) H else .stuck)
   fun b=>if b.length<=16777216 then .ok (.bytes b) H else .stuck
 |_,_ => .stuck
noncomputable def bJ:List V->AH->R V:=k1 Pj
theorem St.keeps{f:Fm C}{m:Str->Option Value}{φ:List Addr}{T Z:b7}{H:AH}{h h':Heap}(st:St f m φ T Z H h)(k:∀b o,h.get? b=some o->h'.get? b=some o):St f m φ T Z H h':=by
 obtain⟨h₀,obs,G,F,N,O,nd,off⟩:=st
 exact⟨h₀,obs,G,F.keeps k,N.grown k,O,nd,off⟩
theorem cA:bz C cb d (.type "bytes") bJ := .k1 fun f m φ T Z H s v x st rv=>by
 cases v with
 |int n =>
  obtain⟨t,rfl⟩:=rv
  exact .guard fun hn => .any st fun Q E P=>u0 hn.1 hn.2 fun t k=>P _ _ ⟨t,rfl⟩
 |bytes b=>obtain⟨t,rfl⟩:=rv;exact .any st fun Q E P=>xr fun t k=>P _ _ ⟨t,rfl⟩
 |ref n =>
  obtain⟨a,rfl,ha⟩:=rv
  show Runs cz f m φ T Z s cb _ ((bar H n).elim _ _)
  cases hb:bar H n with
  |some b=>exact .guard fun hz => .any st fun Q E P=>kR (fun _ h₁=>zo (st.EK ha hb) hz h₁) fun t k=>P _ _ ⟨t,rfl⟩
  |none =>
   refine .opt fun ns hn => .guard fun hz Q E P=>?_
   obtain⟨ws,hw,hi⟩:=Option.bind_eq_some_iff.mp hn
   obtain⟨xs,g,rx⟩:=st.dU ha hw
   have ia:=vn rx hi
   exact bS.any (call_bytes_ints g ia (fun n hn=>of_decide_eq_true (List.all_eq_true.mp hz.2 n hn)) (by rw [ia.length,sizeLine_eq];exact hz.1) rfl fun h' t k hk=>P φ T _ h' k (.refl _ _) (st.keeps hk) ⟨t,rfl⟩)
 |_=>exact .stuck
noncomputable def XU:V->AH->R V
 | .bytes b,H=>if b.length<=16777216 then .ok (.ref H.length) (H++[.ba b])else .stuck
 | .int n,H=>if 0<n/\n<=16777216 then .ok (.ref H.length) (H++[.ba (List.replicate n.toNat 0)])else .stuck
 |_,_ => .stuck
noncomputable def Pk:List V->AH->R V:=k1 XU
theorem EW:bz C true d (.type "bytearray") Pk := .k1 fun f m φ T Z H s v x st rv=>by
 cases v with
 |bytes b =>
  obtain⟨t,rfl⟩:=rv
  refine .guard fun hz Q E P=>?_
  obtain⟨h₀,obs,G,F,N,O,nd,off⟩:=st
  refine NP (u3 F N hz fun D h' tk F' N' lt=>?_)
  obtain⟨st',e⟩:=St.push (ao := .ba b) G F' nd off N' lt O rfl
  exact P _ _ _ h' tk e st' (kh O.hlen)
 |int n =>
  obtain⟨t,rfl⟩:=rv
  refine .guard fun hz Q E P=>?_
  obtain⟨h₀,obs,G,F,N,O,nd,off⟩:=st
  refine NP (zu F N hz.1 hz.2 fun D h' tk F' N' lt=>?_)
  obtain⟨st',e⟩:=St.push (ao := .ba (List.replicate n.toNat 0)) G F' nd off N' lt O rfl
  exact P _ _ _ h' tk e st' (kh O.hlen)
 |_=>exact .stuck
noncomputable def Iw(x k:Int):V->AH->R V
 | .str o,H=>if k=2/\0<=x/\x<65536/\o=Str.ofString "big" then .ok (.bytes [(x / 256).toNat.toUInt8,(x % 256).toNat.toUInt8]) H else .stuck
 |_,_ => .stuck
noncomputable def iV:List V->AH->R V
 | [a,b,o],H=>nG (fun x H=>nG (fun k H=>Iw x k o H) b H) a H
 |_,_ => .stuck
theorem xB{l r:List UInt8}(h:(l.map fun c=>(c.toNat:Int))=(r.map fun c=>(c.toNat:Int))):l=r:=(List.map_inj_right fun a b q=>UInt8.toNat_inj.mp (Int.ofNat.inj q)).mp h
theorem ph{x:Int}(h0:0<=x)(h1:x<256):((x.toNat.toUInt8.toNat:Nat):Int)=x:=byte_back h0 h1
theorem Pn{x:Int}(h0:0<=x)(h1:x<65536):(KTBy.little 2 x).reverse=[(x / 256).toNat.toUInt8,(x % 256).toNat.toUInt8].map fun c=>(c.toNat:Int):=by
 have a:=ph (Int.emod_nonneg x (by decide:(256:Int)≠0)) (Int.emod_lt_of_pos x (by decide))
 have b:=ph (Int.ediv_nonneg h0 (by decide:(0:Int)<=256)) (Int.ediv_lt_of_lt_mul (by decide) h1)
 show [x / 256 % 256,x % 256]=[((x / 256).toNat.toUInt8.toNat:Int),((x % 256).toNat.toUInt8.toNat:Int)]
 rw [a,b,Int.emod_eq_of_lt (Int.ediv_nonneg h0 (by decide)) (Int.ediv_lt_of_lt_mul (by decide) h1)]
theorem kY:bz C cb d (.builtin "int.to_bytes") iV:=fun f m φ T Z H s vs vals rm st rv=>by
 match vs,rv with
 | [],_ | [_],_ | [_,_],_ | _::_::_::_::_,_=>exact .stuck
 | [a,b,o],rv =>
  obtain⟨x,r,rfl,h1,y,r',rfl,h2,z,r'',rfl,h3,rfl⟩:=rv
  refine .int (t:=fun x=>call (.builtin "int.to_bytes") [x,y,z]) h1 fun x t => .int (t:=fun y=>call (.builtin "int.to_bytes") [.int x t,y,z]) h2 fun k u=>?_
  cases o with
  |str o =>
   obtain⟨v,rfl⟩:=h3
   refine .guard fun h => .any st fun Q E P=>?_
   obtain⟨rfl,h0,h1,rfl⟩:=h
   exact KTBy.to_big (k:=2) (B:=65536) (by decide) (by decide) h0 h1 fun b t' k' hb _=>P _ _ ⟨t',congrArg (Value.bytes · t') (congrArg List.toArray (xB (hb.trans (Pn h0 h1))))⟩
  |_=>exact .stuck
end
noncomputable def rs{α:Type}(r:R α)(k:α->AH->RS):RS:=match r with | .ok a H=>k a H | .exc H => .exc H | .stuck => .stuck
@[simp] theorem WY{α:Type}(a:α)(H:AH)(k:α->AH->RS):rs (.ok a H) k=k a H:=rfl
@[simp] theorem Vy{α:Type}(H:AH)(k:α->AH->RS):rs (.exc H) k = .exc H:=rfl
@[simp] theorem RG{α:Type}(k:α->AH->RS):rs .stuck k = .stuck:=rfl
noncomputable def RS.iz:RS->SF->RS
 | .next ρ H,k=>k ρ H
 | .ret v H,_ => .ret v H
 | .exc H,_ => .exc H
 | .stuck,_ => .stuck
@[simp] theorem RS.Rf(ρ:List V)(H:AH)(k:SF):(RS.next ρ H).iz k=k ρ H:=rfl
@[simp] theorem RS.RH(v:V)(H:AH)(k:SF):(RS.ret v H).iz k = .ret v H:=rfl
@[simp] theorem RS.RI(H:AH)(k:SF):(RS.exc H).iz k = .exc H:=rfl
@[simp] theorem RS.Po(k:SF):RS.stuck.iz k = .stuck:=rfl
section
variable{α β:Type}{C:Cfg}{f:Fm C}{m:Str->Option Value}{φ φ₁:List Addr}{T T₁ Z Zc:b7}{H:AH}{s:Shared}{cb:Bool}{rep:List Addr->b7->α->β->Prop}{es:List V->(Str->Option Value)->b7->List Addr->b7->Prop}
theorem dF.guard{c:Prop}[Decidable c]{r:RS}{Q:Flow->Shared->Prop}{E:Value->Shared->Prop}(P:dF f es φ T Z s (if c then r else .stuck) Q E):c/\dF f es φ T Z s r Q E:=by
 by_cases q:c
 ·rw [if_pos q]at P;exact⟨q,P⟩
 ·rw [if_neg q]at P;exact P.elim
theorem dF.ext{r:RS}{Q:Flow->Shared->Prop}{E:Value->Shared->Prop}{h:Heap}{tk:Nat}(x:j4 φ T φ₁ T₁)(P:dF f es φ T Z s r Q E):dF f es φ₁ T₁ Z (sh s h tk) r Q E:=by
 cases r with
 |next ρ H=>exact fun bc T' m' i9 h' tk' e st q=>P bc T' m' i9 h' tk' (x.trans e) st q
 |ret v H=>exact fun bc T' m' i9 y h' tk' e st q=>P bc T' m' i9 y h' tk' (x.trans e) st q
 |exc H=>exact fun e h' tk' i9 a=>P e h' tk' i9 (a.mono x)
 |stuck=>exact P
theorem Runs.ou{t:Sem β}{r:R α}{kr:α->AH->RS}{Q:Flow->Shared->Prop}{E:Value->Shared->Prop}{G:β->Shared->Prop}(h:Runs rep f m φ T (Zc++Z) s cb t r)(P:dF f es φ T Z s (rs r kr) Q E)
  (hk:∀v H' bc T' x h' tk',j4 φ T bc T'->St f m bc T' (Zc++Z) H' h'->rep bc T' v x->dF f es bc T' Z (sh s h' tk') (kr v H') Q E->G x (sh s h' tk')) :
  bS cb (model C.prog C.w) f.A t G E s:=by
 refine h _ _ ?_
 cases r with
 |ok v H'=>exact fun bc T' x h' tk' e st rv=>hk v H' bc T' x h' tk' e st rv (P.ext e)
 |exc H'=>exact fun e h' tk' a=>P e h' tk' Zc a
 |stuck=>exact P
end
section
variable{C:Cfg}{cb:Bool}{d:Nat}{sc:Scope}{names:List Str}
noncomputable abbrev oS(C:Cfg)(cb:Bool)(d:Nat)(sc:Scope)(names:List Str)(st:Stmt)(fn:SF):Prop:=RC C cb d sc names (fun env=>exec st env) fn
noncomputable abbrev vq(C:Cfg)(cb:Bool)(d:Nat)(sc:Scope)(names:List Str)(st:List Stmt)(fn:SF):Prop:=RC C cb d sc names (fun env=>execs st env) fn
noncomputable def aI:SF:=fun ρ H => .next ρ H
noncomputable def aq(a b:SF):SF:=fun ρ H=>(a ρ H).iz b
noncomputable def bZ:SF:=fun _ _ => .stuck
theorem dc{t:Env->Sem Flow}:RC C cb d sc names t bZ:=fun f hf m ρ φ T Zc Z H s Q E rm po es st P=>P.elim
theorem aD:vq C cb d sc names [] aI:=fun f hf m ρ φ T Zc Z H s Q E rm po es st P=>kP (P φ T m Zc s.heap s.toks (.refl _ _) st es)
theorem ah{st:Stmt}{rest:List Stmt}{a b:SF}(ha:oS C cb d sc names st a)(hb:vq C cb d sc names rest b):vq C cb d sc names (st::rest) (aq a b):=fun f hf m ρ φ T Zc Z H s Q E rm po es st P=>by
 refine fy (ha f hf m ρ φ T Zc Z H s _ E rm po es st ?_)
 unfold aq at P
 revert P
 cases a ρ H with
 |next ρ' H'=>exact fun P bc T' m' i9 h tk e st' es'=>hb f hf m' ρ' bc T' i9 Z H' _ Q E rm po es' st' (P.ext e)
 |ret v H'=>exact fun P=>P
 |exc H'=>exact fun P=>P
 |stuck=>exact fun P=>P.elim
theorem gT{f:Fm C}(hf:f.cs=sc):fg f.env sc.names:=⟨f.hk,rfl,rfl,by rw [← hf],by rw [← hf];exact f.hc⟩
theorem ES.Pp{f:Fm C}{names:List Str}{ρ:List V}{m:Str->Option Value}{Zc Z:b7}{φ:List Addr}{T:b7}(e:ES f names ρ m Zc φ T):ER f f.env m (Zc++Z) names ρ φ T:=e.er.more fun p hp=>List.mem_append_left _ hp
theorem ez.ou{e:Expr}{a:EF}(ha:ez C cb d sc.names names e a){f:Fm C}(hf:f.cs=sc){m:Str->Option Value}{ρ:List V}{φ:List Addr}{T Zc Z:b7}{H:AH}{s:Shared}(rm:iC f d)(es:ES f names ρ m Zc φ T)(st:St f m φ T (Zc++Z) H s.heap) :
  Runs cz f m φ T (Zc++Z) s cb (eval e f.env) (a ρ H):=ha f f.env m ρ φ T (Zc++Z) H s rm (gT hf) es.Pp st
theorem yo.ou{e:Expr}{a:BF}(ha:yo C cb d sc.names names e a){f:Fm C}(hf:f.cs=sc){m:Str->Option Value}{ρ:List V}{φ:List Addr}{T Zc Z:b7}{H:AH}{s:Shared}(rm:iC f d)(es:ES f names ρ m Zc φ T)(st:St f m φ T (Zc++Z) H s.heap) :
  Runs LQ f m φ T (Zc++Z) s cb (isTrue e f.env (eval e f.env)) (a ρ H):=ha f f.env m ρ φ T (Zc++Z) H s rm (gT hf) es.Pp st
theorem get_set{ρ:List V}{i j:Nat}{v w:V}(h:(ρ.set i v)[j]? = some w):(i=j/\w=v)\/(i≠j/\ρ[j]? = some w):=by
 by_cases e:i=j
 ·refine .inl ⟨e,?_⟩
  subst e
  have hl:i<ρ.length:=List.length_set▸(List.getElem?_eq_some_iff.mp h).1
  rw [List.getElem?_set_self hl]at h;exact(Option.some.inj h).symm
 ·rw [List.getElem?_set_ne e]at h;exact .inr ⟨e,h⟩
theorem EX{names:List Str}(nd:names.Nodup){i j:Nat}{x y:Str}(hi:names[i]? = some x)(hj:names[j]? = some y)(h:i≠j):y≠x:=fun q=>h (vd nd hi (q▸hj))
theorem iW{f:Fm C}{m:Str->Option Value}{ρ:List V}{φ:List Addr}{T Zc Z:b7}{H:AH}{s:Shared}{i:Nat}{x:Str}{v:V}{val:Value}{Q:Unit->Shared->Prop}{E:Value->Shared->Prop}(st:St f m φ T (Zc++Z) H s.heap)(es:ES f names ρ m Zc φ T)(hi:names[i]? = some x)(hx:f.cs.names.lookup x=some .local)(rv:cz φ T v val)
  (k:∀h' m',St f m' φ T (Zc++Z) H h'->ES f names (ρ.set i v) m' Zc φ T->Q () (sh s h' (s.toks+1))):wpAny (model C.prog C.w) f.A (storeName f.env x val) Q E s:=by
 obtain⟨h₀,obs,G,F,N,O,nd,off⟩:=st
 refine storeX_L F N (fun h' F' N'=>k h' _ ⟨h₀,obs,G,F',N',O,nd,off⟩ ⟨⟨by rw [List.length_set];exact es.er.len,fun j y w hj hw hu=>?_⟩,es.nd,es.cells,es.sep,es.zc⟩) f.hk hx
 rcases get_set hw with⟨rfl,rfl⟩ | ⟨hne,hw⟩
 ·obtain rfl:x=y:=Option.some.inj (hi.symm.trans hj)
  exact⟨val,.loc rfl hx (by simp),rv⟩
 ·obtain⟨val',va,r⟩:=es.er.at_ j y w hj hw hu
  refine⟨val',?_,r⟩
  have hyx:=EX es.nd hi hj hne
  cases va with
  |loc a b c=>exact .loc a b (by simp [hyx,c])
  |cell a b c e=>exact .cell a b c e
  |free a n b c e=>exact .free a n b c e
  |comp a b c e=>exact .comp a b c e
noncomputable def a8(i:Nat)(a:EF):SF:=fun ρ H=>rs (a ρ H) fun v H => .next (ρ.set i v) H
theorem aN{x:Str}{p pos:Pos}{e:Expr}{i:Nat}{a:EF}(hi:names[i]? = some x)(hx:sc.names.lookup x=some .local)(ha:ez C cb d sc.names names e a)(hs:∀env,swapsWith e (some (.Name x p)) pos.line env=pure false:=by intro _;rfl) :
  oS C cb d sc names (.Assign [.Name x p] e pos) (a8 i a):=fun f hf m ρ φ T Zc Z H s Q E rm po es st P=>by
 refine m6 ((ha.ou hf rm es st).ou P fun v H' bc T' y h' tk' ext st' rv P=>?_) (hs _)
 exact iW st' (es.mono ext) hi (by rw [hf];exact hx) rv fun h'' m' Ip es'=>P bc T' m' Zc h'' _ (.refl _ _) Ip es'
noncomputable def bL(a:EF):SF:=fun ρ H=>rs (a ρ H) fun v H => .ret v H
theorem aP{e:Expr}{pos:Pos}{a:EF}(ha:ez C cb d sc.names names e a):oS C cb d sc names (.Return (some e) pos) (bL a):=fun f hf m ρ φ T Zc Z H s Q E rm po es st P=>by
 refine uP ((ha.ou hf rm es st).ou P fun v H' bc T' y h' tk' ext st' rv P=>?_)
 exact P bc T' m Zc y h' tk' (.refl _ _) st' rv
noncomputable def pH:V->Bool
 | .none=>true | .bool _=>true | .int _=>true | .bytes _=>true | .str _=>true | _=>false
noncomputable def cI(a:EF):SF:=fun ρ H=>rs (a ρ H) fun v H=>if pH v=true then .next ρ H else .stuck
theorem bY{e:Expr}{pos:Pos}{a:EF}(ha:ez C cb d sc.names names e a)(hs:∀env,swapsWith e none pos.line env=pure false:=by intro _;rfl):oS C cb d sc names (.Expr e pos) (cI a):=fun f hf m ρ φ T Zc Z H s Q E rm po es st P=>by
 refine A1 ((ha.ou hf rm es st).ou P fun v H' bc T' y h' tk' ext st' rv P=>?_) (by show(f.cs.kind == .module&&_)=false;rw [f.hk];rfl) (hs _)
 obtain⟨hp,P⟩:=P.guard
 have q:=P bc T' m Zc h' tk' (.refl _ _) st' (es.mono ext)
 cases v with
 |none=>cases rv;exact q
 |bool=>cases rv;exact q
 |int=>obtain⟨_,rfl⟩:=rv;exact q
 |bytes=>obtain⟨_,rfl⟩:=rv;exact q
 |str=>obtain⟨_,rfl⟩:=rv;exact q
 |_=>exact Bool.noConfusion hp
noncomputable def fj(c:BF)(a b:SF):SF:=fun ρ H=>rs (c ρ H) fun x H=>match x with | true=>a ρ H | false=>b ρ H
theorem bU{t:Expr}{body orelse:List Stmt}{pos:Pos}{c:BF}{a b:SF}(hc:yo C cb d sc.names names t c)(ha:vq C cb d sc names body a)(hb:vq C cb d sc names orelse b):oS C cb d sc names (.If t body orelse pos) (fj c a b):=fun f hf m ρ φ T Zc Z H s Q E rm po es st P=>by
 refine O3 ((hc.ou hf rm es st).ou P fun v H' bc T' y h' tk' ext st' rv P=>?_)
 obtain rfl:v=y:=rv
 cases v with
 |true=>exact ha f hf m ρ bc T' Zc Z H' _ Q E rm po (es.mono ext) st' P
 |false=>exact hb f hf m ρ bc T' Zc Z H' _ Q E rm po (es.mono ext) st' P
noncomputable def dP:Nat->BF->SF->SF
 | 0,_,_=>bZ
 |n+1,c,b=>fun ρ H=>rs (c ρ H) fun x H=>match x with | true=>(b ρ H).iz (dP n c b) | false => .next ρ H
theorem RJ{test:Expr}{body:List Stmt}{c:BF}{b:SF}(hc:yo C cb d sc.names names test c)(hb:vq C cb d sc names body b){f:Fm C}(hf:f.cs=sc)(rm:iC f d){Q:Flow->Shared->Prop}{E:Value->Shared->Prop}(po:PassesOwn (model C.prog C.w) f.A f.env E){Z:b7} :
  ∀(n:Nat)(m:Str->Option Value)(ρ:List V)(φ:List Addr)(T Zc:b7)(H:AH)(s:Shared),ES f names ρ m Zc φ T->St f m φ T (Zc++Z) H s.heap->dF f (ES f names) φ T Z s (dP n c b ρ H) Q E->uR cb C.prog C.w f.A E f.env test body [] Q s:=by
 intro n
 induction n with
 |zero=>intro m ρ φ T Zc H s es st P;exact P.elim
 |succ n ih =>
  intro m ρ φ T Zc H s es st P
  refine uR.turn po ((hc.ou hf rm es st).ou P fun v H' bc T' y h' tk' ext st' rv P=>?_)
  obtain rfl:v=y:=rv
  cases v with
  |false=>exact kP (P bc T' m Zc h' tk' (.refl _ _) st' (es.mono ext))
  |true =>
   refine hb f hf m ρ bc T' Zc Z H' _ _ E rm po (es.mono ext) st' ?_
   revert P
   dsimp only
   cases b ρ H' with
   |next Bm H₂=>exact fun P φ₂ T₂ m₂ Bo h₂ tk₂ e₂ bN qw=>ih m₂ Bm φ₂ T₂ Bo H₂ _ qw bN (P.ext e₂)
   |ret w H₂=>exact fun P=>P
   |exc H₂=>exact fun P=>P
   |stuck=>exact fun P=>P.elim
theorem lE{test:Expr}{body:List Stmt}{pos:Pos}{c:BF}{b:SF}(n:Nat)(hc:yo C cb d sc.names names test c)(hb:vq C cb d sc names body b):oS C cb d sc names (.While test body [] pos) (dP n c b):=fun f hf m ρ φ T Zc Z H s Q E rm po es st P =>
 Gk (RJ hc hb hf rm po n m ρ φ T Zc H s es st P)
end
theorem Off.sub{φ:List Addr}{T Z Z':b7}(o:Off φ T Z)(hs:Z'.Sublist Z):Off φ T Z' :=
 ⟨fun p hp=>o.fi p ((List.Sublist.append_left hs T).subset hp),fun p hp q hq=>o.tz p hp q (hs.subset hq),List.Nodup.sublist (hs.map _) o.zn,o.tb⟩
theorem qx{α:Type}{A T Z' Z:List α}{p:α}(hs:Z'.Sublist Z)(h:p∈A++(T++Z')):p∈A++(T++Z):=(List.Sublist.append_left (List.Sublist.append_left hs T) A).subset h
theorem Bp{α:Type}{A T Z' Z:List α}{p:α}(hs:Z'.Perm Z)(h:p∈A++(T++Z')):p∈A++(T++Z):=((hs.append_left T).append_left A).subset h
section
variable{C:Cfg}{f:Fm C}{m:Str->Option Value}{φ:List Addr}{T Z Z' Zc:b7}{H:AH}{h h':Heap}{I:Addr}{o o':Obj}
theorem St.sub(st:St f m φ T Z H h)(hs:Z'.Sublist Z):St f m φ T Z' H h:=by
 obtain⟨h₀,obs,G,F,N,O,nd,off⟩:=st
 exact⟨h₀,obs,G,F,fun p hp=>N p (qx hs hp),O,nd,off.sub hs⟩
theorem St.perm(st:St f m φ T Z H h)(hp:Z'.Perm Z):St f m φ T Z' H h:=by
 obtain⟨h₀,obs,G,F,N,O,nd,off⟩:=st
 exact⟨h₀,obs,G,F,fun p hq=>N p (Bp hp hq),O,nd,fun p hq=>off.fi p (Bp (A:=[]) hp hq),fun p hq q hr=>off.tz p hq q (hp.subset hr),(hp.map _).nodup_iff.mpr off.zn,off.tb⟩
theorem t8.sub{e:Addr}(x:t8 f φ T Z H e h)(hs:Z'.Sublist Z):t8 f φ T Z' H e h:=by
 cases x with
 |made a b c=>exact .made (a.sub hs) b c
 |NQ G F hsm R O nd off ext =>
  obtain⟨B,a0,hB,hBG,hl,hfl⟩:=R
  exact .NQ G F hsm ⟨B,a0,hB,hBG,fun q hq=>hl q (qx hs hq),hfl⟩ O nd (off.sub hs) ext
theorem St.old{p:Addr×Obj}(st:St f m φ T Z H h)(hp:p∈Z):h.get? p.1=some p.2:=by
 obtain⟨h₀,obs,G,F,N,O,nd,off⟩:=st
 exact(N p (List.mem_append_right _ (List.mem_append_right _ hp))).1
theorem Iz{α:Type}{A T Z:List α}{x p:α}(h:p∈A++(T++x::Z)):p∈x::(A++(T++Z)):=by
 rw [← List.append_assoc]at h ⊢
 exact List.perm_middle.mem_iff.mp h
theorem Off.add{obs:List Obj}(off:Off φ T Z)(hl:φ.length=obs.length)(ne:∀p∈φ.zip obs++(T++Z),p.1≠I):Off φ T ((I,o)::Z):=by
 refine⟨fun p hp=>?_,fun p hp q hq=>?_,List.nodup_cons.mpr ⟨fun hm=>?_,off.zn⟩,off.tb⟩
 ·rcases List.mem_cons.mp (Iz (A:=[]) hp)with rfl | hp
  ·intro hm
   obtain⟨i,hi,q⟩:=List.getElem_of_mem hm
   exact ne _ (List.mem_append_left _ (qo (n:=i) (List.getElem?_eq_getElem hi) (List.getElem?_eq_getElem (hl▸hi)))) q
  ·exact off.fi p hp
 ·rcases List.mem_cons.mp hq with rfl | hq
  ·exact ne p (List.mem_append_right _ (List.mem_append_left _ hp))
  ·exact off.tz p hp q hq
 ·obtain⟨q,hq,e⟩:=List.mem_map.mp hm
  exact ne q (List.mem_append_right _ (List.mem_append_right _ hq)) e
theorem St.NX(st:St f m φ T Z H h)(o:Obj)(hfree:o.isFreed=false):St f m φ T ((h.objs.size,o)::Z) H (h.push o):=by
 obtain⟨h₀,obs,G,F,N,O,nd,off⟩:=st
 exact⟨h₀,obs,G,F.push o,fun p hp=>News.push F N o hfree p (Iz hp),O,nd,off.add O.len fun p hp=>Nat.ne_of_lt (Heap.lt_size (N p hp).1)⟩
theorem St.qy(st:St f m φ T (Zc++Z) H h)(o:Obj)(hfree:o.isFreed=false:=by rfl):St f m φ T (Zc++(h.objs.size,o)::Z) H (h.push o):=(st.NX o hfree).perm List.perm_middle
theorem Off.ne(off:Off φ T ((I,o)::Z)){obs:List Obj}:∀p∈φ.zip obs++(T++Z),p.1≠I:=fun p hp q=>by
 rcases List.mem_append.mp hp with hp | hp
 ·exact off.fi (I,o) (List.mem_append_right _ List.mem_cons_self) (q▸(List.of_mem_zip (a:=p.1) (b:=p.2) hp).1)
 ·rcases List.mem_append.mp hp with hp | hp
  ·exact off.tz p hp (I,o) List.mem_cons_self q
  ·exact(List.nodup_cons.mp off.zn).1 (q▸List.mem_map_of_mem (f:=(·.1)) hp)
theorem St.RK(st:St f m φ T ((I,o)::Z) H h)(hs:Heap.SameBut I h h')(ho:h'.get? I=some o'):St f m φ T ((I,o')::Z) H h':=by
 obtain⟨h₀,obs,G,F,N,O,nd,off⟩:=st
 have nI:=N (I,o) (List.mem_append_right _ (List.mem_append_right _ List.mem_cons_self))
 refine⟨h₀,obs,G,F.change hs nI.2.1 nI.2.2,fun p hp=>?_,O,nd,fun p hp=>?_,fun p hp q hq=>?_,off.zn,off.tb⟩
 ·rcases List.mem_cons.mp (Iz hp)with rfl | hp
  ·exact⟨ho,nI.2⟩
  ·have n:=N p (qx (List.sublist_cons_self _ _) hp)
   exact⟨(hs.2 _ (off.ne p hp)).trans n.1,n.2⟩
 ·rcases List.mem_cons.mp (Iz (A:=[]) hp)with rfl | hp
  ·exact off.fi (I,o) (List.mem_append_right _ List.mem_cons_self)
  ·exact off.fi p (qx (A:=[]) (List.sublist_cons_self _ _) hp)
 ·rcases List.mem_cons.mp hq with rfl | hq
  ·exact off.tz p hp (I,o) List.mem_cons_self
  ·exact off.tz p hp q (List.mem_cons_of_mem _ hq)
theorem St.ng(st:St f m φ T (Zc++(I,o)::Z) H h)(hs:Heap.SameBut I h h')(ho:h'.get? I=some o'):St f m φ T (Zc++(I,o')::Z) H h':=((st.perm List.perm_middle.symm).RK hs ho).perm List.perm_middle
theorem St.mid{p:Addr×Obj}(st:St f m φ T (p::(Zc++Z)) H h):St f m φ T (Zc++p::Z) H h:=st.perm List.perm_middle
theorem St.RL(st:St f m φ T ((I,o)::Z) H h)(he:Heap.ExtBut I h h'):St f m φ T Z H h':=by
 obtain⟨h₀,obs,G,F,N,O,nd,off⟩:=st
 have nI:=N (I,o) (List.mem_append_right _ (List.mem_append_right _ List.mem_cons_self))
 refine⟨h₀,obs,G,⟨F.ns.extBut he (fun e=>nI.2.1 e.symm),fun b o e=>he b o (fun q=>ns (nI.2.2.symm.trans (q▸e))) (F.keep b o e),F.above⟩,fun p hp=>?_,O,nd,off.sub (List.sublist_cons_self _ _)⟩
 have n:=N p (qx (List.sublist_cons_self _ _) hp)
 exact⟨he _ _ (off.ne p hp) n.1,n.2⟩
theorem St.vt(st:St f m φ T (Zc++(I,o)::Z) H h)(he:Heap.ExtBut I h h'):St f m φ T (Zc++Z) H h':=(st.perm List.perm_middle.symm).RL he
end
section
variable{C:Cfg}{cb:Bool}{d:Nat}{sc:Scope}{names:List Str}
theorem sub_one{Zc Z:b7}{p:Addr×Obj}:(Zc++Z).Sublist (Zc++p::Z):=List.Sublist.append_left (List.sublist_cons_self _ _) _
theorem dF.less{f:Fm C}{φ:List Addr}{T Z:b7}{s:Shared}{r:RS}{es:List V->(Str->Option Value)->b7->List Addr->b7->Prop}{Q:Flow->Shared->Prop}{E:Value->Shared->Prop}{I:Addr}{o:Obj}
  (P:dF f es φ T Z s r Q E):dF f es φ T ((I,o)::Z) s r Q E:=by
 cases r with
 |next ρ H=>exact fun bc T' m' i9 h tk e st q=>P bc T' m' i9 h tk e (st.sub sub_one) q
 |ret v H=>exact fun bc T' m' i9 x h tk e st q=>P bc T' m' i9 x h tk e (st.sub sub_one) q
 |exc H=>exact fun e h tk i9 x=>P e h tk i9 (x.sub sub_one)
 |stuck=>exact P
theorem dF.loop{f:Fm C}{es:List V->(Str->Option Value)->b7->List Addr->b7->Prop}{φ:List Addr}{T Z:b7}{s:Shared}{r:RS}{k:SF}{Q Q':Flow->Shared->Prop}{E:Value->Shared->Prop}{p:Addr×Obj}
  (P:dF f es φ T Z s (r.iz k) Q E) (hn:∀ ρ H bc T' m' i9 h tk,j4 φ T bc T'->St f m' bc T' (i9++p::Z) H h->es ρ m' i9 bc T'->dF f es bc T' Z (sh s h tk) (k ρ H) Q E->Q' .next (sh s h tk))
  (hr:∀x s',Q (.ret x) s'->Q' (.ret x) s'):dF f es φ T (p::Z) s r Q' E:=by
 cases r with
 |next ρ H=>exact fun bc T' m' i9 h tk e st es'=>hn ρ H bc T' m' i9 h tk e st es' (P.ext e)
 |ret v H=>exact fun bc T' m' i9 x h tk e st q=>hr _ _ (P bc T' m' i9 x h tk e (st.sub sub_one) q)
 |exc H=>exact fun e h tk i9 x=>P e h tk i9 (x.sub sub_one)
 |stuck=>exact P
noncomputable def forR(i:Nat)(b:SF):Nat->Nat->SF
 | 0,_=>aI
 |n+1,k=>fun ρ H=>(b (ρ.set i (.int (k:Int))) H).iz (forR i b n (k+1))
theorem Di{x:Str}{px:Pos}{i:Nat}{body:List Stmt}{b:SF}(hi:names[i]? = some x)(hx:sc.names.lookup x=some .local)(hb:vq C cb d sc names body b){f:Fm C}(hf:f.cs=sc)(rm:iC f d){Q:Flow->Shared->Prop}{E:Value->Shared->Prop}(po:PassesOwn (model C.prog C.w) f.A f.env E){Z:b7}{I:Addr} :
  ∀(n k:Nat)(m:Str->Option Value)(ρ:List V)(φ:List Addr)(T Zc:b7)(H:AH)(s:Shared),ES f names ρ m Zc φ T->St f m φ T (Zc++(I,{cls := .type "range_iterator",data := .fields #[rawInt (k:Int),rawInt (n:Int),rawInt 1]})::Z) H s.heap →
   dF f (ES f names) φ T Z s (forR i b n k ρ H) Q E->uS cb C.prog C.w f.A E f.env x px body Q (.ref I) s:=by
 intro n
 induction n with
 |zero =>
  intro k m ρ φ T Zc H s es st P
  refine uS.turn po (wpAny_pyNext_range_end rfl (st.old (List.mem_append_right _ List.mem_cons_self)) (by simp) fun h' he=>?_)
  exact P φ T m Zc h' s.toks (.refl _ _) (st.vt he) es
 |succ n ih =>
  intro k m ρ φ T Zc H s es st P
  refine uS.turn po (wpAny_pyNext_range_item (st.old (List.mem_append_right _ List.mem_cons_self)) (by simp) fun h' hit hs=>?_)
  have Io:=st.ng hs hit
  refine iW (s:=(sh s h' (s.toks+1))) Io es hi (by rw [hf];exact hx) (v := .int (k:Int)) ⟨_,rfl⟩ fun h₂ m₂ bN qw=>?_
  refine hb f hf m₂ _ φ T Zc ((I,{cls := .type "range_iterator",data := .fields #[rawInt ((k:Int)+1),rawInt (((n+1:Nat):Int) - 1),rawInt 1]})::Z) H _ _ E rm po qw bN ?_
  refine dF.loop (r:=b (ρ.set i (.int (k:Int))) H) P (fun Bm H₂ tD A9 m₃ qz h₃ j8 kT eA qA P=>ih (k+1) m₃ Bm tD A9 qz H₂ _ qA ?_ P) fun x s' q=>q
  rw [show(((n+1:Nat):Int) - 1)=(n:Int)from Int.add_sub_cancel (n:Int) 1]at eA
  exact eA
noncomputable def RM(k:Int->AH->RS):V->AH->RS
 | .int n,H=>k n H
 |_,_ => .stuck
@[simp] theorem UR{k:Int->AH->RS}{n:Int}{H:AH}:RM k (.int n) H=k n H:=rfl
noncomputable def zF{α:Type}:Option α->(α->RS)->RS
 |some a,k=>k a
 |none,_ => .stuck
@[simp] theorem yw{α:Type}{a:α}{k:α->RS}:zF (some a) k=k a:=rfl
theorem dF.opt{α:Type}{f:Fm C}{es:List V->(Str->Option Value)->b7->List Addr->b7->Prop}{φ:List Addr}{T Z:b7}{s:Shared}{o:Option α}{k:α->RS}{Q:Flow->Shared->Prop}{E:Value->Shared->Prop}(P:dF f es φ T Z s (zF o k) Q E):∃a,o=some a/\dF f es φ T Z s (k a) Q E:=by
 cases o with
 |none=>exact P.elim
 |some a=>exact⟨a,rfl,P⟩
noncomputable def fX(i:Nat)(a:EF)(b:SF):SF:=fun ρ H=>rs (a ρ H) (RM fun n H=>if -1073741824<=n/\n<1073741824 then forR i b n.toNat 0 ρ H else .stuck)
theorem RN{n:Int}:Builtin.Range.rangeSize 0 n 1=((n.toNat:Nat):Int):=by rw [rangeSize_one];split<;>lia
theorem IA{n:Int}(h : -1073741824<=n/\n<1073741824) : -(2 ^ 62)<=n/\n<2 ^ 62:=by lia
theorem vv{e:Expr}{np pos:Pos}{a:EF}(hn:aW C sc.names (Str.ofString "range") (.type "range"))(ha:ez C cb d sc.names names e a)(hl:HE C cb d sc.names names [e] (af a aC)){f:Fm C}{env:Env}{m:Str->Option Value}{ρ:List V}{φ:List Addr}{T Z:b7}{H:AH}{s:Shared}{Q:Value->Shared->Prop}{E:Value->Shared->Prop}
  (rm:iC f d) (g:fg env sc.names) (er:ER f env m Z names ρ φ T) (st:St f m φ T Z H s.heap)
  (P:match a ρ H with
   | .ok (.int n) H'=>(-1073741824<=n/\n<1073741824) /\ ∀bc T' h tk I,j4 φ T bc T'->St f m bc T' ((I,{cls := .type "range_iterator",data := .fields #[rawInt ((0:Nat):Int),rawInt ((n.toNat:Nat):Int),rawInt 1]})::Z) H' h->Q (.ref I) (sh s h tk)
   | .exc H' => ∀e h tk,t8 f φ T Z H' e h->E (.ref e) (sh s h tk)
   |_=>False) :
  bS cb (model C.prog C.w) f.A (eval (.Call (.Name (Str.ofString "range") np) [e] [] pos) env) (fun xv s₁=>wpAny (model C.prog C.w) f.A (pyIter xv) Q E s₁) E s:=by
 show bS cb _ f.A (eval (.Name (Str.ofString "range") np) env >>= fun fv=>callWith pos fv [] (backTo pos (starEach [e] env)) []) _ E s
 refine aQ (hn f env m φ T Z H s np _ _ g st ?_)
 refine fB (P:=C.K.In) (hl.plain env pos) cF (hl.run pos f env m ρ φ T Z H s rm g er st _ _ ?_)
 unfold af aC
 revert P
 cases a ρ H with
 |ok v H' =>
  cases v with
  |int n =>
   rintro ⟨hz,P⟩ bc T' xs h tk e st' ⟨x,r,rfl,⟨t,rfl⟩,rfl⟩
   refine⟨st'.Lu,bS.any (call_range_1 (wpAny_pyIter_range (IsRange.new _ _ _ _ _ _ _) (small_one (by decide) (by decide) (IA hz).1 (IA hz).2) ?_))⟩
   have s1:=(St.qy (Zc:=[]) st' {cls := .type "range",data := .fields #[.int 0 tk,.int n t,.int 1 (tk+1)]})
   have s3:=St.sub (Z':=(_,{cls := .type "range_iterator",data := .fields #[rawInt 0,rawInt (Builtin.Range.rangeSize 0 n 1),rawInt 1]})::Z) (St.qy (Zc:=[]) s1 {cls := .type "range_iterator",data := .fields #[rawInt 0,rawInt (Builtin.Range.rangeSize 0 n 1),rawInt 1]}) (List.Sublist.cons_cons _ (List.sublist_cons_self _ _))
   rw [RN]at s3 ⊢
   exact P bc T' _ _ _ e s3
  |_=>exact fun P=>P.elim
 |exc H'=>exact fun P e h tk x=>P e h tk x
 |stuck=>exact fun P=>P.elim
theorem kj{x:Str}{px np pos cpos:Pos}{i:Nat}{e:Expr}{body:List Stmt}{a:EF}{b:SF}(hi:names[i]? = some x)(hx:sc.names.lookup x=some .local)(hn:aW C sc.names (Str.ofString "range") (.type "range"))(ha:ez C cb d sc.names names e a)(hb:vq C cb d sc names body b)
  (he:∀env,starEach [e] env=(false,eval e env)::starEach [] env:=by intro _;rfl) (hs:∀env x,foldedSetIterable (.Call (.Name (Str.ofString "range") np) [e] [] cpos) env x=pure x:=by intro _ _;rfl) :
  oS C cb d sc names (.For (.Name x px) (.Call (.Name (Str.ofString "range") np) [e] [] cpos) body [] pos) (fX i a b):=fun f hf m ρ φ T Zc Z H s Q E rm po es st P=>by
 refine ED (vv hn ha (aa ha aj he) rm (gT hf) es.Pp st ?_) (hs _)
 unfold fX at P
 revert P
 cases a ρ H with
 |ok v H' =>
  cases v with
  |int n=>exact fun P=>⟨(dF.guard P).1,fun bc T' h tk I e st'=>Di hi hx hb hf rm po n.toNat 0 m ρ bc T' Zc H' _ (es.mono e) (St.mid st') ((dF.guard P).2.ext e)⟩
  |_=>exact fun P=>P.elim
 |exc H'=>exact fun P e h tk x=>P e h tk _ x
 |stuck=>exact fun P=>P.elim
noncomputable def forL(i n:Nat)(b:SF):Nat->Nat->SF
 | 0,_=>bZ
 |q+1,k=>fun ρ H=>zF (lst H n) fun vs=>(vs[k]?).elim (.next ρ H) fun v=>(b (ρ.set i v) H).iz (forL i n b q (k+1))
theorem GB{x:Str}{px:Pos}{i j:Nat}{a:Addr}{body:List Stmt}{b:SF}(hi:names[i]? = some x)(hx:sc.names.lookup x=some .local)(hb:vq C cb d sc names body b){f:Fm C}(hf:f.cs=sc)(rm:iC f d){Q:Flow->Shared->Prop}{E:Value->Shared->Prop}(po:PassesOwn (model C.prog C.w) f.A f.env E){Z:b7}{I:Addr} :
  ∀(n k:Nat)(it:Obj)(m:Str->Option Value)(ρ:List V)(φ:List Addr)(T Zc:b7)(H:AH)(s:Shared),φ[j]? = some a->it.cls = .type "list_iterator" -> it.data = .fields #[.ref a,.int k 0]->ES f names ρ m Zc φ T->St f m φ T (Zc++(I,it)::Z) H s.heap →
   dF f (ES f names) φ T Z s (forL i j b n k ρ H) Q E->uS cb C.prog C.w f.A E f.env x px body Q (.ref I) s:=by
 intro n
 induction n with
 |zero=>intro k it m ρ φ T Zc H s _ _ _ es st P;exact P.elim
 |succ n ih =>
  intro k it m ρ φ T Zc H s ha XW hid es st P
  obtain⟨vs,hv,P⟩:=dF.opt P
  obtain⟨xs,g,rx⟩:=st.dU ha hv
  have hit:s.heap.IsListIter I a k:=⟨it,st.old (p:=(I,it)) (List.mem_append_right _ List.mem_cons_self),XW,hid⟩
  cases hk:vs[k]? with
  |none =>
   rw [hk]at P
   exact uS.turn po (wpAny_pyNext_list_end rfl hit g (List.getElem?_toArray▸List.getElem?_eq_none_iff.mpr (Nat.le_trans (Nat.le_of_eq rx.length) (List.getElem?_eq_none_iff.mp hk))) fun h' he=>P φ T m Zc h' s.toks (.refl _ _) (st.vt he) es)
  |some v =>
   rw [hk]at P
   obtain⟨y,hy,ry⟩:=rx.get hk
   refine uS.turn po (wpAny_pyNext_list_item hit g (List.getElem?_toArray▸hy) fun h' Pq hs=>?_)
   obtain⟨it',ho,hc',hd'⟩:=Pq
   refine iW (s:={s with heap:=h'}) (st.ng hs ho) es hi (by rw [hf];exact hx) ry fun h₂ m₂ bN qw=>?_
   exact hb f hf m₂ _ φ T Zc ((I,it')::Z) H _ _ E rm po qw bN (dF.loop (r:=b (ρ.set i v) H) P (fun Bm H₂ tD A9 m₃ qz h₃ j8 kT eA qA P=>ih (k+1) it' m₃ Bm tD A9 qz H₂ _ (kT.get ha) hc' hd' qA eA P) fun x s' q=>q)
noncomputable def RO(k:Nat->AH->RS):V->AH->RS
 | .ref n,H=>k n H
 |_,_ => .stuck
@[simp] theorem US{k:Nat->AH->RS}{n:Nat}{H:AH}:RO k (.ref n) H=k n H:=rfl
noncomputable def lF(i:Nat)(a:EF)(b:SF):SF:=fun ρ H=>rs (a ρ H) (RO fun n H=>zF (lst H n) fun vs=>forL i n b (vs.length+1) 0 ρ H)
theorem uv{x:Str}{px pos:Pos}{i:Nat}{e:Expr}{body:List Stmt}{a:EF}{b:SF}(hi:names[i]? = some x)(hx:sc.names.lookup x=some .local)(ha:ez C cb d sc.names names e a)(hb:vq C cb d sc names body b)
  (hs:∀env x,foldedSetIterable e env x=pure x:=by intro _ _;rfl):oS C cb d sc names (.For (.Name x px) e body [] pos) (lF i a b):=fun f hf m ρ φ T Zc Z H s Q E rm po es st P=>by
 refine ED ((ha.ou hf rm es st).ou P fun v H' bc T' y h' tk' ext st' rv P=>?_) (hs _)
 cases v with
 |ref n =>
  obtain⟨a,rfl,hn⟩:=rv
  obtain⟨vs,hv,P⟩:=dF.opt P
  obtain⟨xs,g,rx⟩:=st'.dU hn hv
  exact wpAny_pyIter_list g (GB hi hx hb hf rm po _ 0 _ m ρ bc T' Zc H' _ hn rfl rfl (es.mono ext) (St.qy st' _) P)
 |_=>exact P.elim
end
section
variable{cb:Bool}{M:Model}{A:Around}{E:Value->Shared->Prop}{s:Shared}{env:Env}
theorem qB{elts k tpos value pos}{names:List Str}{Q:Flow->Shared->Prop}
  (h:bS cb M A (eval value env) (fun v s₁=>wpAny M A (unpackItems v names.length none) (fun items s₂ =>
   wpAny M A (assignInOrder (names.reverse.map fun n=>bindName env n) items.reverse) (fun _=>Q .next) E s₂) E s₁) E s)
  (hs:swapsWithSole [.Tuple elts k tpos] value pos.line env=pure false)
  (hw:swappedStores [.Tuple elts k tpos] value env=pure (some names)):bS cb M A (exec (.Assign [.Tuple elts k tpos] value pos) env) Q E s:=by
 rw [exec_Assign]
 refine bM ?_
 rw [hs]
 refine aQ (wpAny_pure ?_)
 rw [if_neg (by decide)]
 refine bw (cJ h (fun v s₁ h₁=>?_) fun _ _ x=>x)
 rw [hw]
 refine aQ (wpAny_pure ?_)
 show bS cb M A (do rule "assign.swapped-stores";let items<-unpackItems v names.length none;assignInOrder (names.reverse.map fun n=>bindName env n) items.reverse;pure .next) Q E s₁
 exact bS.any (wpAny_bind (wpAny_rule (wpAny_bind (wpAny_mono h₁ (fun items s₂ h₂=>wpAny_bind (wpAny_mono h₂ (fun _ _ x=>wpAny_pure x) fun _ _ x=>x)) fun _ _ x=>x))))
theorem nJ{o i pos' value pos}{Q:Flow->Shared->Prop}
  (h:bS cb M A (eval value env) (fun v s₁=>wpAny M A (eval o env) (fun ov s₂=>wpAny M A (eval i env) (fun iv s₃ =>
   wpAny M A (setItem ov iv v) (fun _=>Q .next) E s₃) E s₂) E s₁) E s)
  (hs:swapsWith value (some (.Subscript o i pos')) pos.line env=pure false):bS cb M A (exec (.Assign [.Subscript o i pos'] value pos) env) Q E s:=by
 rw [exec_Assign_Subscript o i pos' value pos hs]
 refine bM (bw (cJ h (fun v s₁ h₁=>bS.any (wpAny_bind ?_)) fun _ _ x=>x))
 rw [assign_Subscript]
 exact wpAny_bind (wpAny_holding (wpAny_mono h₁ (fun ov s₂ h₂=>wpAny_bind (wpAny_holding (wpAny_mono h₂ (fun iv s₃ h₃=>wpAny_bind (wpAny_standAt (wpAny_bind (wpAny_holding (wpAny_mono h₃ (fun _ _ x=>wpAny_release (wpAny_pure x)) fun _ _ x=>x))))) fun _ _ x=>x))) fun _ _ x=>x))
theorem pI{x pos' op value pos}{Q:Flow->Shared->Prop}
  (h:wpAny M A (loadName env x) (fun old s₁=>bS cb M A (eval value env) (fun v s₂=>wpAny M A (inplaceOp op old v)
   (fun r s₃=>wpAny M A (storeName env x r) (fun _=>Q .next) E s₃) E s₂) E s₁) E s) :
  bS cb M A (exec (.AugAssign (.Name x pos') op value pos) env) Q E s:=by
 rw [exec_AugAssign_Name]
 exact bM (aQ (wpAny_mono h (fun old s₁ h₁=>bw (dz (cJ h₁ (fun v s₂ h₂=>bM (bS.any (wpAny_bind (wpAny_operateT (wpAny_mono h₂ (fun r s₃ h₃=>wpAny_bind (wpAny_standAt (wpAny_bind (wpAny_bindName (wpAny_mono h₃ (fun _ _ x=>wpAny_pure x) fun _ _ x=>x))))) fun _ _ x=>x))))) fun _ _ x=>x))) fun _ _ x=>x))
end
section
variable{C:Cfg}{cb:Bool}{d:Nat}{sc:Scope}{names:List Str}
theorem Dj{f:Fm C}{m:Str->Option Value}{ρ:List V}{φ:List Addr}{T Zc Z:b7}{H:AH}{s:Shared}{i:Nat}{x:Str}{v:V}{val:Value}{Q:Unit->Shared->Prop}{E:Value->Shared->Prop}(st:St f m φ T (Zc++Z) H s.heap)(es:ES f names ρ m Zc φ T)(hi:names[i]? = some x)(hx:f.cs.names.lookup x=some .cell)(rv:cz φ T v val)
  (k:∀h' i9,St f m φ T (i9++Z) H h'->ES f names (ρ.set i v) m i9 φ T->Q () {s with heap:=h'}):wpAny (model C.prog C.w) f.A (storeName f.env x val) Q E s:=by
 obtain⟨c,o,v₀,hc,hm,hd⟩:=es.cells x hx
 obtain⟨pre,post,rfl⟩:=List.append_of_mem hm
 rw [List.append_assoc,List.cons_append]at st
 refine wpAny_storeName_cell f.hk hx hc ⟨o,st.old (p:=(c,o)) (List.mem_append_right _ List.mem_cons_self),hd⟩ fun h' hv hs=>?_
 obtain⟨o',ho',hd'⟩:=hv
 have zw:((pre++(c,o')::post).map (·.1)).Nodup:=by
  have zc:=es.zc
  rw [List.map_append,List.map_cons]at zc ⊢;exact zc
 have me:(c,o')∈pre++(c,o')::post:=List.mem_append_right _ List.mem_cons_self
 have mv:∀b ob,b≠c->(b,ob)∈pre++(c,o)::post->(b,ob)∈pre++(c,o')::post:=fun b ob hb hm=>by
  rcases List.mem_append.mp hm with hm | hm
  ·exact List.mem_append_left _ hm
  ·rcases List.mem_cons.mp hm with hm | hm
   ·exact absurd (congrArg Prod.fst hm) hb
   ·exact List.mem_append_right _ (List.mem_cons_of_mem _ hm)
 have cl:∀oC,(f.env.locals,oC)∉pre++(c,o)::post:=fun oC b=>by
  obtain⟨h₀,obs,G,F,N,O,nd,off⟩:=st
  refine absurd rfl (N (f.env.locals,oC) (List.mem_append_right _ (List.mem_append_right _ ?_))).2.1
  rw [← List.cons_append,<- List.append_assoc];exact List.mem_append_left _ b
 refine k h' (pre++(c,o')::post) (by rw [List.append_assoc,List.cons_append];exact st.ng hs ho') ⟨⟨by rw [List.length_set];exact es.er.len,fun j y w hj hw hu=>?_⟩,es.nd,fun y hy=>?_,es.sep,zw⟩
 ·rcases get_set hw with⟨rfl,rfl⟩ | ⟨hne,hw⟩
  ·obtain rfl:x=y:=Option.some.inj (hi.symm.trans hj)
   exact⟨val,.cell hx hc me hd',rv⟩
  ·obtain⟨val',va,r⟩:=es.er.at_ j y w hj hw hu
   have hyx:=EX es.nd hi hj hne
   refine⟨val',?_,r⟩
   cases va with
   |loc a b c=>exact .loc a b c
   |cell a b c e=>exact .cell a b (mv _ _ (fun q=>hyx (es.sep _ _ _ (q▸b) hc)) c) e
   |free a n b c e=>exact .free a n b (mv _ _ (fun q=>hyx (es.sep _ _ _ (q▸b) hc)) c) e
   |comp a b c e=>exact absurd b (cl _)
 ·obtain⟨c',XX,v',h1,h2,h3⟩:=es.cells y hy
  by_cases q:c'=c
  ·exact⟨c',o',_,h1,q▸me,hd'⟩
  ·exact⟨c',XX,v',h1,mv _ _ q h2,h3⟩
noncomputable def qC(sc:Scope)(names:List Str)(x:Str)(i:Nat):Prop:=names[i]? = some x/\(sc.names.lookup x=some .local\/sc.names.lookup x=some .cell)
theorem ow{f:Fm C}(hf:f.cs=sc){m:Str->Option Value}{ρ:List V}{φ:List Addr}{T Zc Z:b7}{H:AH}{s:Shared}{i:Nat}{x:Str}{v:V}{val:Value}{Q:Unit->Shared->Prop}{E:Value->Shared->Prop}(ok:qC sc names x i)(st:St f m φ T (Zc++Z) H s.heap)(es:ES f names ρ m Zc φ T)(rv:cz φ T v val)
  (k:∀h' m' i9 tk,St f m' φ T (i9++Z) H h'->ES f names (ρ.set i v) m' i9 φ T->Q () (sh s h' tk)):wpAny (model C.prog C.w) f.A (storeName f.env x val) Q E s:=by
 rcases ok.2 with hx | hx
 ·exact iW st es ok.1 (by rw [hf];exact hx) rv fun h' m' a b=>k h' m' Zc _ a b
 ·exact Dj st es ok.1 (by rw [hf];exact hx) rv fun h' i9 a b=>k h' m i9 s.toks a b
theorem EY{x:Str}{p pos:Pos}{e:Expr}{i:Nat}{a:EF}(ok:qC sc names x i)(ha:ez C cb d sc.names names e a)(hs:∀env,swapsWith e (some (.Name x p)) pos.line env=pure false:=by intro _;rfl) :
  oS C cb d sc names (.Assign [.Name x p] e pos) (a8 i a):=fun f hf m ρ φ T Zc Z H s Q E rm po es st P=>by
 refine m6 ((ha.ou hf rm es st).ou P fun v H' bc T' y h' tk' ext st' rv P=>?_) (hs _)
 exact ow hf ok st' (es.mono ext) rv fun h'' m' i9 tk Ip es'=>P bc T' m' i9 h'' _ (.refl _ _) Ip es'
noncomputable def dX:List V->List Nat->List V->List V
 | ρ,i::is,v::vs=>dX (ρ.set i v) is vs
 | ρ,_,_=>ρ
inductive dY(sc:Scope)(names:List Str):List Str->List Nat->Prop
 |nil:dY sc names [] []
 |cons {x i xs is}:qC sc names x i->dY sc names xs is->dY sc names (x::xs) (i::is)
theorem dY.len{xs:List Str}{is:List Nat}(h:dY sc names xs is):xs.length=is.length:=by
 induction h with
 |nil=>rfl
 |cons _ _ ih=>exact congrArg (· + 1) ih
theorem dY.app{xs ys:List Str}{is js:List Nat}(h:dY sc names xs is)(k:dY sc names ys js):dY sc names (xs++ys) (is++js):=by
 induction h with
 |nil=>exact k
 |cons a _ ih=>exact .cons a ih
theorem dY.rev{xs:List Str}{is:List Nat}(h:dY sc names xs is):dY sc names xs.reverse is.reverse:=by
 induction h with
 |nil=>exact .nil
 |cons a _ ih=>rw [List.reverse_cons,List.reverse_cons];exact ih.app (.cons a .nil)
theorem stores{g:Env->Str->Value->Sem Unit}{f:Fm C}(hg:∀x v Q E s,wpAny (model C.prog C.w) f.A (storeName f.env x v) Q E s->wpAny (model C.prog C.w) f.A (g f.env x v) Q E s)(hf:f.cs=sc){φ:List Addr}{T Z:b7}{H:AH}{Q:Unit->Shared->Prop}{E:Value->Shared->Prop}{xs:List Str}{is:List Nat}(ok:dY sc names xs is) :
  ∀{m:Str->Option Value}{ρ:List V}{Zc:b7}{s:Shared}{vs:List V}{vals:List Value},St f m φ T (Zc++Z) H s.heap->ES f names ρ m Zc φ T->bj φ T vs vals->vs.length=xs.length →
  (∀h' m' i9 tk,St f m' φ T (i9++Z) H h'->ES f names (dX ρ is vs) m' i9 φ T->Q () (sh s h' tk))->wpAny (model C.prog C.w) f.A (assignInOrder (xs.map (g f.env)) vals) Q E s:=by
 induction ok with
 |nil =>
  intro m ρ Zc s vs vals st es rv hl k
  exact assignInOrder_nil (k s.heap m Zc s.toks st (by
   cases vs with | nil=>exact es | cons _ _=>cases hl))
 |cons a t ih =>
  intro m ρ Zc s vs vals st es rv hl k
  cases vs with
  |nil=>cases hl
  |cons v vs =>
   obtain⟨y,r,rfl,r1,r2⟩:=rv
   refine assignInOrder_cons (hg _ _ _ _ _ (ow hf a st es r1 fun h' m' i9 tk st' es'=>?_))
   exact ih (s:=(sh s h' tk)) st' es' r2 (Nat.succ.inj hl) fun h₂ m₂ Bo tk₂ bN qw=>k h₂ m₂ Bo tk₂ bN qw
noncomputable def tupS(k:List V->AH->RS):V->AH->RS
 | .tup vs,H=>k vs H
 |_,_ => .stuck
@[simp] theorem UT{k:List V->AH->RS}{vs:List V}{H:AH}:tupS k (.tup vs) H=k vs H:=rfl
noncomputable def jH(is:List Nat)(a:EF):SF:=fun ρ H=>rs (a ρ H) (tupS fun vs H=>if vs.length=is.length then .next (dX ρ is vs) H else .stuck)
noncomputable def ji(is:List Nat)(a:EF):SF:=fun ρ H=>rs (a ρ H) (tupS fun vs H=>if vs.length=is.length then .next (dX ρ is.reverse vs.reverse) H else .stuck)
theorem St.grow{f:Fm C}{m:Str->Option Value}{φ:List Addr}{T Z:b7}{H:AH}{h h':Heap}(st:St f m φ T Z H h)(he:Heap.ExtBut h.objs.size h h'):St f m φ T Z H h':=by
 obtain⟨h₀,obs,G,F,N,O,nd,off⟩:=st
 exact⟨h₀,obs,G,F.extBut he (Nat.le_refl _),N.extBut he (Nat.le_refl _),O,nd,off⟩
theorem St.tup_is{f:Fm C}{m:Str->Option Value}{φ:List Addr}{T Z:b7}{H:AH}{h:Heap}(st:St f m φ T Z H h){vs:List V}{x:Value}(r:cz φ T (.tup vs) x):∃a vals,x = .ref a/\IsTup h a vals.toArray/\bj φ T vs vals:=by
 obtain⟨a,vals,c,rfl,hm,rv⟩:=r
 obtain⟨h₀,obs,G,F,N,O,nd,off⟩:=st
 exact⟨a,vals,rfl,⟨_,N.get (List.mem_append_right _ (List.mem_append_left _ hm)),rfl,_,rfl⟩,rv⟩
inductive bG(sc:Scope)(names:List Str):List Expr->List Str->List Nat->Prop
 |nil:bG sc names [] [] []
 |cons {x i p es xs is}:qC sc names x i->bG sc names es xs is->bG sc names (.Name x p::es) (x::xs) (i::is)
theorem bG.stores{es:List Expr}{xs:List Str}{is:List Nat}(h:bG sc names es xs is):dY sc names xs is:=by
 induction h with
 |nil=>exact .nil
 |cons a _ ih=>exact .cons a ih
theorem bG.len{es:List Expr}{xs:List Str}{is:List Nat}(h:bG sc names es xs is)(env:Env):(assignEach es env).length=is.length:=by
 induction h with
 |nil=>rfl
 |cons a _ ih=>show _+1 = _;rw [ih];rfl
theorem bG.star{es:List Expr}{xs:List Str}{is:List Nat}(h:bG sc names es xs is)(env:Env):(assignEach es env).findIdx? (·.1)=none:=by
 have:∀p∈assignEach es env,p.1=false:=by
  induction h with
  |nil=>intro p hp;cases hp
  |cons a _ ih =>
   intro p hp
   rcases List.mem_cons.mp (show p∈(false,_)::assignEach _ env from hp)with rfl | hp
   ·rfl
   ·exact ih p hp
 exact List.findIdx?_eq_none_iff.mpr fun p hp=>this p hp
theorem targets{f:Fm C}(hf:f.cs=sc){φ:List Addr}{T Z:b7}{H:AH}{Q:Unit->Shared->Prop}{E:Value->Shared->Prop}{el:List Expr}{xs:List Str}{is:List Nat}(ok:bG sc names el xs is) :
  ∀{m:Str->Option Value}{ρ:List V}{Zc:b7}{s:Shared}{vs:List V}{vals:List Value},St f m φ T (Zc++Z) H s.heap->ES f names ρ m Zc φ T->bj φ T vs vals->vs.length=is.length →
  (∀h' m' i9 tk,St f m' φ T (i9++Z) H h'->ES f names (dX ρ is vs) m' i9 φ T->Q () (sh s h' tk))->wpAny (model C.prog C.w) f.A (assignInOrder ((assignEach el f.env).map (·.2)) vals) Q E s:=by
 induction ok with
 |nil =>
  intro m ρ Zc s vs vals st es rv hl k
  exact assignInOrder_nil (k s.heap m Zc s.toks st (by
   cases vs with | nil=>exact es | cons _ _=>cases hl))
 |cons a t ih =>
  intro m ρ Zc s vs vals st es rv hl k
  cases vs with
  |nil=>cases hl
  |cons v vs =>
   obtain⟨y,r,rfl,r1,r2⟩:=rv
   refine assignInOrder_cons (assign_Name (ow hf a st es r1 fun h' m' i9 tk st' es'=>?_))
   exact ih (s:=(sh s h' tk)) st' es' r2 (Nat.succ.inj hl) fun h₂ m₂ Bo tk₂ bN qw=>k h₂ m₂ Bo tk₂ bN qw
theorem Dk{f:Fm C}(hf:f.cs=sc):f.env=envX f.cn sc f.L f.a f.ccd f.cl:=by rw [← hf]
theorem gU{elts:List Expr}{k:Nat}{tpos pos:Pos}{value:Expr}{xs:List Str}{is:List Nat}{a:EF}(ok:bG sc names elts xs is)(ha:ez C cb d sc.names names value a)
  (hs:∀env,swapsWithSole [.Tuple elts k tpos] value pos.line env=pure false:=by intro _;rfl)
  (hw:∀cn L a ccd cl,swappedStores [.Tuple elts k tpos] value (envX cn sc L a ccd cl)=pure none:=by intro _ _ _ _ _;rfl):oS C cb d sc names (.Assign [.Tuple elts k tpos] value pos) (jH is a):=fun f hf m ρ φ T Zc Z H s Q E rm po es st P=>by
 refine r7 ((ha.ou hf rm es st).ou P fun v H' bc T' y h' tk' ext st' rv P=>?_) (hs _) (by rw [Dk hf];exact hw _ _ _ _ _)
 cases v with
 |tup vs =>
  obtain⟨hl,P⟩:=dF.guard P
  obtain⟨t,vals,rfl,ht,RP⟩:=st'.tup_is rv
  refine assign_Tuple_tuple rfl ht (by rw [ok.len,List.size_toArray,RP.length,hl]) (ok.star _) fun h₂ he=>?_
  exact targets (s:=(sh s h₂ tk')) hf ok (St.grow st' he) (es.mono ext) RP hl fun h₃ m₃ qz j8 eA qA=>P bc T' m₃ qz h₃ j8 (.refl _ _) eA qA
 |_=>exact P.elim
theorem gV{elts:List Expr}{k:Nat}{tpos pos:Pos}{value:Expr}{xs:List Str}{is:List Nat}{a:EF}(ok:bG sc names elts xs is)(ha:ez C cb d sc.names names value a)
  (hs:∀env,swapsWithSole [.Tuple elts k tpos] value pos.line env=pure false:=by intro _;rfl)
  (hw:∀cn L a ccd cl,swappedStores [.Tuple elts k tpos] value (envX cn sc L a ccd cl)=pure (some xs):=by intro _ _ _ _ _;rfl):oS C cb d sc names (.Assign [.Tuple elts k tpos] value pos) (ji is a):=fun f hf m ρ φ T Zc Z H s Q E rm po es st P=>by
 refine qB (names:=xs) ((ha.ou hf rm es st).ou P fun v H' bc T' y h' tk' ext st' rv P=>?_) (hs _) (by rw [Dk hf];exact hw _ _ _ _ _)
 cases v with
 |tup vs =>
  obtain⟨hl,P⟩:=dF.guard P
  obtain⟨t,vals,rfl,ht,RP⟩:=st'.tup_is rv
  rw [show xs.length=vals.toArray.size by rw [ok.stores.len,List.size_toArray,RP.length,hl]]
  refine unpackItems_tuple rfl ht fun h₂ he=>?_
  exact stores (s:=(sh s h₂ tk')) (g:=bindName) (fun x v Q E s h=>bindName_ h) hf ok.stores.rev (St.grow st' he) (es.mono ext) RP.reverse (by rw [List.length_reverse,List.length_reverse,ok.stores.len,hl]) fun h₃ m₃ qz j8 eA qA=>P bc T' m₃ qz h₃ j8 (.refl _ _) eA qA
 |_=>exact P.elim
noncomputable def LZ(c:Addr)(k:Fd)(ρ:List V)(v:V):V->AH->RS
 | .inst c' n,H=>if c'=c then zF (dct H n) fun fs=>if fs.length<=900 then .next ρ (H.set n (.dict (xy fs k v)))else .stuck else .stuck
 |_,_ => .stuck
noncomputable def cG(c:Addr)(k:Fd)(i:Nat)(a:EF):SF:=fun ρ H=>rs (a ρ H) fun v H=>rs (gA ρ i H) (LZ c k ρ v)
theorem cf{x attr:Str}{np p pos:Pos}{e:Expr}{c:Addr}{k:Fd}{i:Nat}{a:EF}(hk:k.str=attr)(ok:gS C c k.str)(hi:names[i]? = some x)(ha:ez C cb d sc.names names e a)(hd:(x==("__debug__" : Str))=false:=by decide)
  (hs:∀env,swapsWith e (some (.Attribute (.Name x np) attr p)) pos.line env=pure false:=by intro _;rfl):oS C cb d sc names (.Assign [.Attribute (.Name x np) attr p] e pos) (cG c k i a):=fun f hf m ρ φ T Zc Z H s Q E rm po es st P=>by
 refine iO ((ha.ou hf rm es st).ou P fun v H' bc T' y h' tk' ext st' rv P=>?_) (hs _)
 have er:=(es.mono ext).Pp.mono (.refl _ _) (Z:=Zc++Z)
 refine m5 ((ae (cb:=false) (C:=C) (d:=d) (sc:=sc.names) hi hd f f.env m ρ bc T' (Zc++Z) H' _ rm (gT hf) er st').ou P fun o H₂ φ₂ T₂ z h₂ tk₂ nN bN ro P₂=>?_)
 clear P
 cases o with
 |inst c' n =>
  obtain⟨hc,Vz⟩:=dF.guard P₂
  obtain⟨fs,hfs,VA⟩:=dF.opt Vz
  obtain⟨hz,Pr⟩:=dF.guard VA
  subst hc
  obtain⟨a,dx,rfl,XY,hd'⟩:=ro
  obtain⟨h₀,obs,G,F,N,O,nd,off⟩:=bN
  obtain⟨ob,h1,⟨es',n',rfl,A2⟩,h3⟩:=O.get hd' (iG hfs)
  have rv:=rv.mono nN
  subst hk
  refine set_dict F G.X N (InstAt.of_news N (List.mem_append_right _ (List.mem_append_left _ XY)) (List.mem_append_left _ h3)) rfl ok.set ok.over ok.Iu ok.dict (Be A2) rfl (lV nd off.fi O.len hd' h1) ?_ fun h₃ Pu VB=>Pr φ₂ T₂ m Zc h₃ _ (.refl _ _) (St.set G Pu nd off VB O ⟨_,_,rfl,EP rv A2⟩) ((es.mono ext).mono nN)
  show(putL _ _ _ _ _).length<=1000
  rw [← (EP (k:=k) (hsh:=PyData.keyHash C.w.params k.str) (tk:=tk₂+1) rv A2).length]
  exact Nat.le_trans Bf (Nat.le_trans (Nat.succ_le_succ hz) (by decide))
 |_=>exact P₂.elim
noncomputable def setB(n:Nat)(i:Int)(b:List UInt8):V->AH->R Unit:=nG fun x H=>if 0<=i/\i<b.length/\b.length<=16777216/\0<=x/\x<256 then .ok () (H.set n (.ba (b.set i.toNat x.toNat.toUInt8)))else .stuck
noncomputable def Bq(v o i:V)(H:AH):R Unit:=t9 (fun n H=>nG (fun i H=>(lst H n).elim (cC (bar H n) fun b=>setB n i b v H)
 fun vs=>if 0<=i/\i<vs.length/\vs.length<=16777216 then .ok () (H.set n (.list (vs.set i.toNat v)))else .stuck) i H) o H
noncomputable def RQ(_:List Addr)(_:b7)(_ _:Unit):Prop:=True
theorem L0{i:Int}{n k:Nat}(e:n=k)(h:i<k/\k<=16777216):i<n/\i<2 ^ 63:=e▸⟨h.1,Df h.2 h.1⟩
theorem zG{f:Fm C}{m:Str->Option Value}{φ:List Addr}{T Z:b7}{H:AH}{s:Shared}{v o i:V}{x y z:Value}(st:St f m φ T Z H s.heap)(rv:cz φ T v x)(ro:cz φ T o y)(ri:cz φ T i z):Runs RQ f m φ T Z s false (setItem y z x) (Bq v o i H):=by
 cases o with
 |ref n=>cases i with
  |int i =>
   obtain⟨a,rfl,ha⟩:=ro
   obtain⟨u,rfl⟩:=ri
   show Runs RQ f m φ T Z s false _ ((lst H n).elim _ _)
   cases hv:lst H n with
   |some vs =>
    refine .guard fun hz Q E P=>?_
    obtain⟨h₀,obs,G,F,N,O,nd,off⟩:=st
    obtain⟨ob,h1,⟨vals,c,rfl,h2⟩,h3⟩:=O.get ha (fh hv)
    have fs:=L0 h2.length hz.2
    refine bS.any (ki_setAt (n:=c) (N.get (List.mem_append_left _ h3)) hz.1 fs.2 fs.1 ?_)
    obtain⟨pre,post,e1,e2,a1,b1⟩:=(lV nd off.fi O.len ha h1 (o':=listOf (vals.set i.toNat x).toArray c)).split
    rw [e1]at N
    have z:=N (a,_) (List.mem_append.mpr (.inr (.head _)))
    have N':=ki_turn (n':=c) (its':=(vals.set i.toNat x).toArray) (·.setIfInBounds i.toNat x) N a1 b1 (List.setIfInBounds_toArray _ _ _) (if_pos (beq_iff_eq.mpr List.length_set))
    rw [← e2]at N'
    exact P φ T () _ s.toks (.refl _ _) (St.set G (F.change (Heap.SameBut.update ..) z.2.1 z.2.2) nd off N' O ⟨_,_,rfl,h2.set rv⟩) trivial
   |none =>
    refine .opt fun b hb => .int (t:=setItem (.ref a) (.int i u)) rv fun w t => .guard fun hz Q E P=>?_
    obtain⟨h₀,obs,G,F,N,O,nd,off⟩:=st
    obtain⟨ob,h1,rfl,h3⟩:=O.get ha (j9 hb)
    refine bS.any (C4 (N.get (List.mem_append_left _ h3)) hz.2.2.1 hz.1 hz.2.1 hz.2.2.2.1 hz.2.2.2.2 fun k=>?_)
    obtain⟨pre,post,e1,e2,a1,b1⟩:=(lV nd off.fi O.len ha h1 (o':=dD (b.set i.toNat w.toNat.toUInt8).toArray)).split
    rw [e1]at N
    have N':=news_upd (f:=Obj.mapBytearray (·.setIfInBounds i.toNat w.toNat.toUInt8)) (o':=dD (b.set i.toNat w.toNat.toUInt8).toArray) F N a1 b1 (congrArg dD (List.setIfInBounds_toArray _ _ _)) rfl
    rw [← e2]at N'
    exact P φ T () _ k (.refl _ _) (St.set G N'.1 nd off N'.2 O rfl) trivial
  |_=>exact .stuck
 |_=>exact .stuck
noncomputable def fY(o i a:EF):SF:=fun ρ H=>rs (a ρ H) fun v H=>rs (o ρ H) fun ov H=>rs (i ρ H) fun iv H=>rs (Bq v ov iv H) fun _ H => .next ρ H
theorem jI{oe ie e:Expr}{p pos:Pos}{o i a:EF}(ho:ez C false d sc.names names oe o)(hi:ez C false d sc.names names ie i)(ha:ez C cb d sc.names names e a)(hs:∀env,swapsWith e (some (.Subscript oe ie p)) pos.line env=pure false:=by intro _;rfl) :
  oS C cb d sc names (.Assign [.Subscript oe ie p] e pos) (fY o i a):=fun f hf m ρ φ T Zc Z H s Q E rm po es st P=>by
 refine nJ ((ha.ou hf rm es st).ou P fun v H' bc T' y h' tk' ext st' rv P=>?_) (hs _)
 refine m5 ((ho.ou hf rm (es.mono ext) st').ou P fun ov H₂ φ₂ T₂ z h₂ tk₂ nN bN ro P=>?_)
 refine m5 ((hi.ou hf rm ((es.mono ext).mono nN) bN).ou P fun iv oQ tD A9 q h₃ j8 Dl eA ri P=>?_)
 refine m5 ((zG eA ((rv.mono nN).mono Dl) (ro.mono Dl) ri).ou P fun _ zH NY RT _ h₄ NZ Pw vy _ P=>?_)
 exact P NY RT m Zc h₄ NZ (.refl _ _) vy ((((es.mono ext).mono nN).mono Dl).mono Pw)
noncomputable def nO(k:V->V->AH->R V)(i:Nat)(a:EF):SF:=fun ρ H=>rs (gA ρ i H) fun o H=>rs (a ρ H) fun v H=>rs (k o v H) fun w H => .next (ρ.set i w) H
theorem vz{x:Str}{p pos:Pos}{op:Operator}{e:Expr}{i:Nat}{k:V->V->AH->R V}{a:EF}(ok:qC sc names x i)(ho:uq C false d (inplaceOp op) k)(ha:ez C cb d sc.names names e a):oS C cb d sc names (.AugAssign (.Name x p) op e pos) (nO k i a):=fun f hf m ρ φ T Zc Z H s Q E rm po es st P=>by
 rcases zx ρ i H with h | ⟨v,a1,b1,h⟩
 ·rw [show nO k i a ρ H = .stuck by rw [nO,h];rfl]at P;exact P.elim
 ·rw [show nO k i a ρ H=rs (a ρ H) fun w H=>rs (k v w H) fun w H => .next (ρ.set i w) H by rw [nO,h];rfl]at P
  obtain⟨val,va,vr⟩:=es.Pp.at_ (Z:=Zc++Z) i x v ok.1 a1 b1
  refine pI (zz (gT hf) st va ?_)
  refine(ha.ou hf rm es st).ou P fun w H' bc T' y h' tk' ext st' rv P=>?_
  refine m5 ((ho f m bc T' (Zc++Z) H' _ v w val y rm st' (vr.mono ext) rv).ou P fun u H₂ φ₂ T₂ z h₂ tk₂ nN bN ru P=>?_)
  exact ow (s:=(sh s h₂ tk₂)) hf ok bN ((es.mono ext).mono nN) ru fun h₃ m₃ qz j8 eA qA=>P φ₂ T₂ m₃ qz h₃ j8 (.refl _ _) eA qA
theorem L4:uq C cb d (inplaceOp .Add) (EI fun a b H => .ok (.int (a+b)) H):=nc fun f m φ T Z H s a b ta tb st => .any st fun Q E P=>wpAny_iadd_int (P _ _ ⟨_,rfl⟩)
theorem lX:uq C cb d (inplaceOp .RShift) vc:=nc fun f m φ T Z H s a b ta tb st => .guard fun hz => .any st fun Q E P =>
 irshift_int hz (P _ _ ⟨s.toks,by rw [Int.fdiv_eq_ediv_of_nonneg _ (Int.le_of_lt (Int.pow_pos (by decide)))]⟩)
end
section
variable{C:Cfg}{cb:Bool}{d:Nat}{sc:List (Str×NameKind)}{names:List Str}
noncomputable def UU(a:Int):Value->Bool | .int b _=>b==a | _=>false
noncomputable def eqB(a:List UInt8):Value->Bool | .bytes b _=>b.toList==a | _=>false
theorem EZ{α:Type}{P:Value->α->Prop}{p:Value->Bool}{q:α->Bool}{R:Value->Prop}{xs:List Value}{ns:List α}(h:fK P xs ns)(k:∀x a,P x a->R x/\p x=q a):(∀y∈xs,R y)/\xs.any p=ns.any q:=by
 induction h with
 |nil=>exact⟨(fun y hy=>absurd hy List.not_mem_nil),rfl⟩
 |cons h _ ih =>
  obtain⟨a1,a2⟩:=k _ _ h
  refine⟨fun y hy=>?_,by rw [List.any_cons,List.any_cons,ih.2,a2]⟩
  rcases List.mem_cons.mp hy with rfl | hy
  ·exact a1
  ·exact ih.1 y hy
theorem E0{A:Around}{s:Shared}{a:Int}{u:Tok}{xs:List Value}{ns:List Int}(h:fK Vu xs ns):(∀y∈xs,EqAt A s y (.int a u) (UU a y))/\xs.any (UU a)=ns.any (· == a) :=
 EZ h fun x b h=>by obtain⟨t,rfl⟩:=h;exact⟨EqAt.int_int _ _ _ _,rfl⟩
theorem Px{A:Around}{s:Shared}{a:List UInt8}{u:Tok}{xs:List Value}{ns:List (List UInt8)}(h:fK Pe xs ns):(∀y∈xs,EqAt A s y (.bytes a.toArray u) (eqB a y))/\xs.any (eqB a)=ns.any (· == a) :=
 EZ h fun x b h=>by obtain⟨t,rfl⟩:=h;exact⟨yp,rfl⟩
noncomputable def XZ(n:Nat):V->AH->R V
 | .int a,H=>cC ((lst H n).bind intsOf) fun ns => .ok (.bool (ns.any (· == a))) H
 | .bytes a,H=>cC ((lst H n).bind tH) fun ns => .ok (.bool (ns.any (· == a))) H
 |_,_ => .stuck
noncomputable def L6(v w:V)(H:AH):R V:=t9 (fun n H=>XZ n v H) w H
theorem IB:uq C cb d (compareOp .In) L6:=fun f m φ T Z H s a b x y rm st ra rb => .ref (t:=compareOp .In x) rb fun n l hl=>by
 cases a with
 |int a =>
  refine .opt fun ns hns Q E P=>?_
  obtain⟨u,rfl⟩:=ra
  obtain⟨vs,hv,hi⟩:=Option.bind_eq_some_iff.mp hns
  obtain⟨xs,g,rx⟩:=st.dU hl hv
  obtain⟨e1,e2⟩:=E0 (A:=f.A.in1) (s:=s) (a:=a) (u:=u) (Bh rx hi)
  refine bS.any (in_listAt (UU a) g (fun y hy=>e1 y (List.mem_toArray.mp hy)) ?_)
  rw [List.any_toArray,e2]
  exact P φ T _ s.heap s.toks (.refl _ _) st rfl
 |bytes a =>
  refine .opt fun ns hns Q E P=>?_
  obtain⟨u,rfl⟩:=ra
  obtain⟨vs,hv,hi⟩:=Option.bind_eq_some_iff.mp hns
  obtain⟨xs,g,rx⟩:=st.dU hl hv
  obtain⟨e1,e2⟩:=Px (A:=f.A.in1) (s:=s) (a:=a) (u:=u) (EQ rx hi)
  refine bS.any (in_listAt (eqB a) g (fun y hy=>e1 y (List.mem_toArray.mp hy)) ?_)
  rw [List.any_toArray,e2]
  exact P φ T _ s.heap s.toks (.refl _ _) st rfl
 |_=>exact .stuck
noncomputable def vA(ks:List Int)(a:EF):BF:=fun ρ H=>(a ρ H).bind (nG fun i H => .ok (!ks.any (· == i)) H)
theorem IC{l:Expr}{x:Str}{np pos:Pos}{ta:Addr}{ks:List Int}{xs:List Value}{c:Nat}{ty:Obj}{a:EF}(hn:aW C sc x (.ref ta))(hk:C.K.lookup ta=some ty)(ht:ty.cls = .type "tuple")(hd:ty.data = .seq xs.toArray c)(hx:fK Vu xs ks)(ha:ez C cb d sc names l a) :
  yo C cb d sc names (.Compare l [.NotIn] [.Name x np] pos) (vA ks a):=fun f env m ρ φ T Z H s rm g er st=>by
 refine Runs.of_eq (t':=do let a<-eval l env;let b<-holding [a] (eval (.Name x np) env);standAt pos;let c<-operate [a,b] (compareOp .NotIn a b);holding [c] (truthy c)) rfl (Runs.bind (ha f env m ρ φ T Z H s rm g er st) fun v H' bc T' x' h' tk' _ e st' rv=>?_)
 cases v with
 |int i =>
  obtain⟨u,rfl⟩:=rv
  obtain⟨e1,e2⟩:=E0 (A:=f.A.in1) (s:=(sh s h' tk')) (a:=i) (u:=u) hx
  intro Q E P
  refine aQ (wpAny_holding (hn f env m bc T' Z H' _ np _ _ g st' (bM (bw (tB (bS.any (notIn_tupleAt (UU i) (items:=xs.toArray) ⟨ty,st'.Lu _ _ hk,ht,_,hd⟩ (fun y hy=>e1 y (List.mem_toArray.mp hy)) ?_)))))))
  rw [List.any_toArray,e2]
  exact dz (bD (P bc T' _ h' tk' (.refl _ _) st' rfl))
 |_=>exact .stuck
end
section
open PySem.Builtin
namespace JF
theorem slot:Slot "bytes" "join" "bytes.join" :=
 .of (owner := "bytes") (n := "join") (by rw [typeLookup_type,builtinLookup_eq_fast];kernel_rfl) (by decide +kernel) (by decide +kernel) (by decide +kernel)
  (by first | exact .inl (by decide +kernel) | exact .inr (by decide +kernel)) (by rw [isSubtype_type];kernel_rfl)
theorem type_eq:typeOf (.builtin "bytes.join")=pure (.type "method_descriptor"):=by show builtinType _ = _;rw [builtinType_eq_fast];kernel_rfl
theorem entry:entryFor table "bytes.join" = some Builtin.«bytes.join» := entryFor_of_fast (by kernel_rfl)
theorem args(a b:Value):argsOk "bytes.join" ⟨[a,b],[]⟩:=by unfold argsOk;kernel_rfl
theorem vB:typeLookup (.type "bytes") "__buffer__" = pure (some (.builtin "bytes.__buffer__")):=by rw [typeLookup_type,builtinLookup_eq_fast];kernel_rfl
theorem uW:("bytes.__buffer__".endsWith ("." ++ "__buffer__"))=true:=by decide +kernel
theorem uX:("bytes.__buffer__".dropRight ("__buffer__".length+1)) = "bytes" := by decide +kernel
theorem sub:isSubtype (.type "bytes") (.type "bytes")=pure true:=by rw [isSubtype_type];kernel_rfl
end JF
section
variable{prog:Program}{w:World}{A:Around}{E:Value->Shared->Prop}{s:Shared}
theorem GC{M:Model}{b:Array UInt8}{t:Tok}{Q:Bool->Shared->Prop}(h:Q true s):wpAny M A (Bytes.slotIsOwn (.bytes b t) "__buffer__") Q E s:=by
 unfold Bytes.slotIsOwn
 refine wpAny_bind (wpAny_specialOf (typeIs_bytes _ _ _) JF.vB ?_)
 show wpAny _ _ (if (!("bytes.__buffer__".endsWith ("." ++ "__buffer__")))=true then pure false else isInstance (.bytes b t) (.type ("bytes.__buffer__".dropRight ("__buffer__".length+1)))) _ _ _
 rw [JF.uW,JF.uX]
 exact bm_if_false rfl (wpAny_isInstance (typeIs_bytes _ _ _) JF.sub h)
theorem L7{M:Model}{id:String}{b:Array UInt8}{t:Tok}{Q:Option (Array UInt8×Option Value)->Shared->Prop}(h:Q (some (b,none)) s):wpAny M A (Bytes.takeBufferQuiet? id (.bytes b t) 0) Q E s:=by
 unfold Bytes.takeBufferQuiet?
 refine wpAny_bind (wpAny_attempt ?_)
 unfold Bytes.takeBuffer?
 refine wpAny_bind (wpAny_specialOf (typeIs_bytes _ _ _) JF.vB ?_)
 refine wpAny_bind (GC ?_)
 refine bm_if_false rfl ?_
 refine wpAny_bind (wpAny_specialOf (typeIs_bytes _ _ _) JF.vB ?_)
 exact wpAny_bind (wpAny_of_eq yl (wpAny_pure (wpAny_pure h)))
theorem N5{M:Model}{Q:Unit->Shared->Prop}:∀{l:List (List UInt8×Tok)}{keep:List Value},Q () s->wpAny M A (Bytes.joinLetGo (l.map fun p=>(Value.bytes p.1.toArray p.2,none)) keep) Q E s
 | [],_,h=>wpAny_pure h
 |p::l,keep,h=>by
  show wpAny M A (do
   letGo [Value.bytes p.1.toArray p.2] _
   Bytes.joinLetGo (l.map fun p=>(Value.bytes p.1.toArray p.2,none)) keep) Q E s
  refine wpAny_bind ?_
  show wpAny M A (do holding _ point;letGo [] _) _ _ s
  exact wpAny_bind (wpAny_holding (wpAny_point (wpAny_pure (N5 h))))
theorem mo{α:Type}{M:Model}{a:Array Value}{f:Value->Sem α}{g:Array Value->Sem α}{Q:α->Shared->Prop}(h:a.size≠1)(k:wpAny M A (g a) Q E s):wpAny M A (Bytes.joinM.match_1 (fun _=>Sem α) a f g) Q E s:=by
 unfold Bytes.joinM.match_1
 rw [dif_neg h];exact k
theorem Dm{M:Model}{β:Type}{n:Nat}(f:Nat->β->Sem (ForInStep β))(I:Nat->β->Shared->Prop){Q:β->Shared->Prop}(turn:∀i b s,i<n->I i b s->wpAny M A (f i b) (fun r s'=>match r with | .yield b'=>I (i+1) b' s' | .done b'=>Q b' s') E s)
  (fin:∀b s,I n b s->Q b s) (b:β) (h:I 0 b s):wpAny M A (forIn [0:n] b f) Q E s:=by
 rw [Std.Legacy.Range.forIn_eq_forIn_range',show Std.Legacy.Range.size [0:n]=n by show(n - 0+1 - 1) / 1=n;rw [Nat.div_one];rfl]
 refine wpAny_forIn_list f (fun rest b s => ∃i,rest=List.range' i (n - i)/\i<=n/\I i b s) Q ?_ ?_ _ b ⟨0,rfl,Nat.zero_le _,h⟩
 ·rintro x rest b s ⟨i,hr,hi,hI⟩
  rcases Nat.lt_or_ge i n with hlt | hge
  ·rw [show n - i=(n - (i+1))+1 from(Nat.sub_add_cancel (Nat.sub_pos_of_lt hlt)).symm,List.range'_succ]at hr
   obtain⟨rfl,rfl⟩:=List.cons.inj hr
   refine wpAny_mono (turn x b s hlt hI) (fun r s' hr=>?_) fun _ _ h=>h
   cases r with
   |yield b'=>exact⟨x+1,rfl,hlt,hr⟩
   |done b'=>exact hr
  ·rw [Nat.sub_eq_zero_of_le hge]at hr;exact nomatch hr
 ·rintro b s ⟨i,hr,hi,hI⟩
  rcases Nat.lt_or_ge i n with hlt | hge
  ·rw [show n - i=(n - (i+1))+1 from(Nat.sub_add_cancel (Nat.sub_pos_of_lt hlt)).symm,List.range'_succ]at hr;exact nomatch hr
  ·exact fin b s (Nat.le_antisymm hi hge▸hI)
theorem GD{l:List (List UInt8×Tok)}:(l.map fun p=>(Value.bytes p.1.toArray p.2,(none:Option Value))).any (fun x=>x.1.onHeap)=false:=by
 induction l with
 |nil=>rfl
 |cons p l ih=>rw [List.map_cons,List.any_cons,ih];rfl
theorem Dn{l:List (List UInt8)}:Bytes.joined #[] (l.map (·.toArray))=l.flatten.toArray:=by
 have:∀(l:List (List UInt8))(k:Nat)(a:List UInt8),((l.map (·.toArray)).zipIdx k).foldl (fun out (x:Array UInt8×Nat)=>(if x.2 > 0 then out ++ #[]else out)++x.1) a.toArray=(a++l.flatten).toArray:=by
  intro l
  induction l with
  |nil=>intro k a;rw [List.flatten_nil,List.append_nil];rfl
  |cons b l ih =>
   intro k a
   rw [List.map_cons,List.zipIdx_cons,List.foldl_cons,List.flatten_cons,<- List.append_assoc,<- ih (k+1)]
   refine congrArg (List.foldl _ · _) ?_
   show(if k > 0 then a.toArray ++ #[]else a.toArray)++b.toArray = _
   rw [Array.append_empty,ite_self,List.append_toArray]
 exact this l 0 []
theorem ID(l:List (List UInt8×Tok))(n:Nat):List.foldl (fun(x1:Nat)(x2:Array UInt8)=>x1+x2.size) n (l.map (·.1.toArray))=n+(l.map (·.1.length)).sum:=by
 induction l generalizing n with
 |nil=>rfl
 |cons p l ih=>rw [List.map_cons,List.foldl_cons,ih,List.map_cons,List.sum_cons,Nat.add_assoc];rfl
section
variable{a:Addr}{c:Nat}{l:List (List UInt8×Tok)}{t:Tok}{Q:Value->Shared->Prop}(ho:s.heap.get? a=some {cls := .type "list",data := .seq (l.map fun p=>Value.bytes p.1.toArray p.2).toArray c})(hz:(l.map (·.1.length)).sum<=16777216)
include ho in
theorem vC{M:Model}{A:Around}{E:Value->Shared->Prop}{α:Type}{k:Option (Array Value)->Sem α}{Q:α->Shared->Prop}(h:wpAny M A (k (some (l.map fun p=>Value.bytes p.1.toArray p.2).toArray)) Q E s):wpAny M A (seqItems? (.ref a) >>= k) Q E s:=wpAny_bind (wpAny_seqItems ho rfl h)
include ho hz
theorem L8(h:∀t' k,Q (.bytes (l.map (·.1)).flatten.toArray t') {s with toks:=k}):wpAny (model prog w) A (call (.builtin "bytes.join") [.bytes #[] t,.ref a]) Q E s:=by
 refine wpAny_call_entry JF.slot (typeIs_bytes s _ t) JF.entry ?_ (JF.args _ _)
 show wpAny _ _ (Bytes.joinM .bytes ⟨[.bytes #[] t,.ref a],[]⟩) _ _ s
 delta Bytes.joinM
 refine wpAny_bind (wpAny_pure (bm_if_true rfl (wpAny_bind ?_)))
 delta Bytes.joinItems
 refine wpAny_bind (wpAny_typeOf ⟨_,ho,rfl⟩ (bm_if_true rfl (wpAny_pure (vC ho (bm_if_true rfl ?_)))))
 by_cases h1:l.length=1
 ·match l,h1 with
  | [p],_ =>
   refine wpAny_bind (wpAny_typeOf (typeIs_bytes _ p.1.toArray p.2) (bm_if_true rfl (wpAny_bind (wpAny_rule (wpAny_pure ⟨_,rfl,?_⟩)))))
   have:=h p.2 s.toks
   rw [show(List.map (·.1) [p]).flatten=p.1 from List.append_nil p.1]at this
   exact this
 refine mo (by rw [List.size_toArray,List.length_map];exact h1) (wpAny_bind ?_)
 refine Dm _ (fun i q s'=>s'=s/\i<=l.length/\q=(((l.take i).map (·.1.toArray)).toArray,(l.take i).map fun p=>(Value.bytes p.1.toArray p.2,(none:Option Value)))) ?_ ?_ _ ⟨rfl,Nat.zero_le _,rfl⟩
 ·rintro x q s' hlt ⟨rfl,_,rfl⟩
  rw [List.size_toArray,List.length_map]at hlt
  refine vC ho (bm_if_false (by rw [GD];rfl) ?_)
  have hg:((l.map fun p=>Value.bytes p.1.toArray p.2).toArray).getD x Value.none=Value.bytes (l[x]).1.toArray (l[x]).2:=by simp [hlt]
  rw [hg]
  refine wpAny_bind (wpAny_holding (L7 (vC ho (bm_if_false (bne_self_eq_false _) (wpAny_pure ⟨rfl,hlt,?_⟩)))))
  rw [List.take_succ_eq_append_getElem hlt,List.map_append,List.map_append];exact congrArg (·,_) (List.push_toArray _ _)
 ·rintro q s' ⟨rfl,hi,rfl⟩
  rw [List.size_toArray,List.length_map,List.take_length]
  refine wpAny_bind (wpAny_pure (bm_if_false ?_ (wpAny_bind ?_)))
  ·refine decide_eq_false (Nat.not_lt.mpr ?_)
   rw [List.foldl_toArray,ID,Array.size_empty,Nat.zero_mul,Nat.zero_add,sizeLine_eq];exact hz
  ·have hj:Bytes.joined #[] (l.map (·.1.toArray))=(l.map (·.1)).flatten.toArray:=by rw [← Dn,List.map_map];rfl
   show wpAny _ _ (mkBytes (Bytes.joined #[] (l.map (·.1.toArray)))) _ _ _
   rw [hj]
   refine wpAny_mkBytes (wpAny_bind (wpAny_holding (wpAny_point (wpAny_bind (N5 (wpAny_pure ⟨_,rfl,h _ _⟩)))))) ?_
   rw [sizeLine_eq,List.size_toArray,List.length_flatten,List.map_map];exact hz
end
end
end
namespace JF
theorem ga:typeLookup (.type "bytes") "__getattribute__" = pure (some (.builtin "bytes.__getattribute__")):=by rw [typeLookup_type,builtinLookup_eq_fast];kernel_rfl
theorem canon:(Manifest.canonical "bytes.__getattribute__" != "object.__getattribute__")=false:=by decide +kernel
theorem RU:typeLookup (.type "bytes") "__getattr__" = pure none:=by rw [typeLookup_type,builtinLookup_eq_fast];kernel_rfl
end JF
section
variable{C:Cfg}{cb:Bool}{d:Nat}{sc:List (Str×NameKind)}{names:List Str}
theorem Ma:vo C (Str.ofString "join") "bytes.join" Dg:=fun f m φ T Z H s v x pl Q E st rv ha q=>by
 cases v with
 |bytes b =>
  obtain⟨t,rfl⟩:=rv
  exact getMethod_value (T := "bytes") (name:=PySem.Str.ofString "join") (ga := "bytes.__getattribute__") (id := "bytes.join") (typeIs_bytes s _ t) (fun _ x=>nomatch x) JF.ga JF.canon JF.RU JF.slot.lookup JF.type_eq q
 |_=>exact Bool.noConfusion ha
noncomputable def RV(n:Nat):V->AH->R V
 | .bytes [],H=>cC ((lst H n).bind tH) fun bs=>if (bs.map (·.length)).sum<=16777216 then .ok (.bytes bs.flatten) H else .stuck
 |_,_ => .stuck
noncomputable def tI:List V->AH->R V:=k2 fun x y H=>t9 (fun n H=>RV n x H) y H
theorem IE{xs:List Value}{bs:List (List UInt8)}(h:fK Pe xs bs):∃l:List (List UInt8×Tok),xs=l.map (fun p=>Value.bytes p.1.toArray p.2)/\l.map (·.1)=bs:=by
 induction h with
 |nil=>exact⟨[],rfl,rfl⟩
 |cons h _ ih =>
  obtain⟨t,rfl⟩:=h
  obtain⟨l,rfl,rfl⟩:=ih
  exact⟨(_,t)::l,rfl,rfl⟩
theorem GF:bz C cb d (.builtin "bytes.join") tI := .k2 fun f m φ T Z H s v w x y st rv Pg => .ref (t:=fun y=>call (.builtin "bytes.join") [x,y]) Pg fun n a ha=>by
 cases v with
 |bytes b =>
  cases b with
  |nil =>
   refine .opt fun bs hb => .guard fun hz => .any st fun Q E P=>?_
   obtain⟨t,rfl⟩:=rv
   obtain⟨ws,hw,hi⟩:=Option.bind_eq_some_iff.mp hb
   obtain⟨xs,c,e,rx⟩:=st.zD ha hw
   obtain⟨l,rfl,rfl⟩:=IE (EQ rx hi)
   exact L8 (c:=c) e (by rw [List.map_map]at hz;exact hz) fun t' k=>P _ _ ⟨t',rfl⟩
  |cons=>exact .stuck
 |_=>exact .stuck
noncomputable def jJ(a:EF):EF:=fun ρ H=>(a ρ H).bind (nG fun i H => .ok (.int (-i)) H)
theorem fE{x:Expr}{pos:Pos}{a:EF}(ha:ez C cb d sc names x a):ez C cb d sc names (.UnaryOp .USub x pos) (jJ a):=fun f env m ρ φ T Z H s rm g er st=>by
 dsimp only
 rw [arm_eval_UnaryOp]
 refine Runs.bind (ha f env m ρ φ T Z H s rm g er st) fun v H' bc T' y h' tk' _ e st' rv=>Runs.standAt (Runs.holding ?_)
 exact .int (t:=unaryOp .USub) rv fun i t => .any st' fun Q E P=>neg_int (P _ _ ⟨_,rfl⟩)
noncomputable def Dp:EF:=fun _ H => .ok .oO H
theorem IF{pos:Pos}:ez C cb d sc names (.Dict [] [] pos) Dp:=fun f env m ρ φ T Z H s rm g er st Q E P=>by
 refine bS.any (wpAny_Dict_empty ?_)
 obtain⟨h₀,obs,G,F,N,O,nd,off⟩:=st
 exact P φ T _ _ s.toks (.refl _ _) ⟨h₀,obs,G,F.push _,News.pushKeep N _,O,nd,off⟩ trivial
end
theorem RW(c:Addr)(rest:List Value):(Code.builtin "type.__call__" ⟨.ref c::rest,[]⟩).weight=1:=by kernel_rfl
theorem RX(args:Args):(Code.builtin "type.__call__" args).cUnits=1:=by kernel_rfl
theorem RY(args:Args):(Code.builtin "type.__call__" args).envs=[]:=by kernel_rfl
theorem RZ(args:Args):(Code.builtin "type.__call__" args).guards=[]:=by kernel_rfl
theorem WZ(c:Addr)(rest:List Value)(A:Around):A.under (.builtin "type.__call__" ⟨.ref c::rest,[]⟩) = {A with depth:=A.depth+1,units:=A.units+1}:=by
 unfold Around.under
 rw [RW,RX,RY,RZ]
 obtain⟨h,d,fr,g,u⟩:=A
 cases fr<;>cases g<;>rfl
section
variable{C:Cfg}{cb:Bool}{d:Nat}
noncomputable abbrev Fm.lower(f:Fm C)(a b:Nat):Fm C:={f with dp:=f.dp+a,un:=f.un+b}
section
variable{f:Fm C}{m:Str->Option Value}{φ:List Addr}{T Z:b7}{H:AH}{h h' h₀:Heap}{obs:List Obj}{a b:Nat}
theorem Gr.low(G:Gr f h₀):Gr (f.lower a b) h₀:=⟨G.B,G.D,G.T⟩
theorem Gr.high(G:Gr (f.lower a b) h₀):Gr f h₀:=⟨G.B,G.D,G.T⟩
theorem St.low(st:St f m φ T Z H h):St (f.lower a b) m φ T Z H h:=by
 obtain⟨h₀,obs,G,F,N,O,nd,off⟩:=st
 exact⟨h₀,obs,G.low,F,N,O,nd,off⟩
theorem St.high(st:St (f.lower a b) m φ T Z H h):St f m φ T Z H h:=by
 obtain⟨h₀,obs,G,F,N,O,nd,off⟩:=st
 exact⟨h₀,obs,G.high,F,N,O,nd,off⟩
theorem t8.high{e:Addr}(x:t8 (f.lower a b) φ T Z H e h):t8 f φ T Z H e h:=by
 cases x with
 |made a b c=>exact .made a.high b c
 |NQ G F hsm R O nd off ext=>exact .NQ G.high F hsm R O nd off ext
theorem St.Br(G:Gr f h₀)(F:Fr h₀ f.L h' m)(nd:φ.Nodup)(off:Off φ T Z){x dx c:Addr}(N:News h₀ f.L h' ((x,instObj c dx)::(dx,emptyDict)::(φ.zip obs++(T++Z))))(lt:∀p∈φ.zip obs++(T++Z),p.1<dx)(l2:dx<x)(O:CV φ T H obs) :
  St f m (φ++[dx]) ((x,instObj c dx)::T) Z (H++[.dict []]) h'/\j4 φ T (φ++[dx]) ((x,instObj c dx)::T)/\cz (φ++[dx]) ((x,instObj c dx)::T) (.inst c H.length) (.ref x):=by
 obtain⟨N1,O1,X0,off1,e1⟩:=u6 nd off (fun p hp=>N p (List.mem_cons_of_mem _ hp)) (fun p hp=>Nat.ne_of_lt (lt p hp)) O (ao := .dict []) ⟨[],0,rfl,.nil⟩
 obtain⟨st,e2⟩:=St.NS G F X0 off1 (l:=x) (o:=instObj c dx) (fun p hp=>by
  rcases List.mem_cons.mp hp with rfl | hp
  ·exact N _ List.mem_cons_self
  ·exact N1 p hp) (fun p hp=>by
  rw [List.zip_append O.len,List.append_assoc]at hp
  rcases List.mem_cons.mp (List.perm_middle.mem_iff.mp hp)with rfl | hp
  ·exact l2
  ·exact Nat.lt_trans (lt p hp) l2) O1
 exact⟨st,e1.trans e2,x,dx,rfl,List.mem_cons_self,by rw [O.hlen];exact List.getElem?_concat_length⟩
end
noncomputable def N6(k:AH->R V):V->AH->R V
 | .none,H=>k H
 |_,_ => .stuck
@[simp] theorem R0{k:AH->R V}{H:AH}:N6 k .none H=k H:=rfl
noncomputable def dg(c:Addr)(k:List V->AH->R V):List V->AH->R V:=fun vs H =>
 (k (.inst c H.length::vs) (H++[.dict []])).bind (N6 fun H' => .ok (.inst c H.length) H')
theorem IG{u d:Nat}:u+1+8*d+8<=u+8*(d+1)+8:=Nat.add_le_add_right (Nat.add_right_comm u 1 (8*d)▸Nat.add_le_add_left (by decide:1<=8) (u+8*d)) 8
theorem lG{c fI:Addr}{k:List V->AH->R V}(hm:makesIn C.K c=true)(hi:findIn C.K (.ref c) "__init__" = some (some (.ref fI)))(hf:typeIn C.K (.ref fI)=some (.type "function"))(hI:aE C cb d fI k):bz C cb (d+1) (.ref c) (dg c k):=fun f m φ T Z H s vs vals rm st rv Q E P=>by
 have X:=st.Lu
 obtain⟨h₀,obs,G,F,N,O,nd,off⟩:=st
 refine LH F N X hm hi hf fun x dx h' F' N' lt l2=>?_
 rw [WZ]
 obtain⟨st',e,rx⟩:=St.Br G F' nd off N' lt l2 O
 refine hI (f.lower 1 1) m _ _ Z _ {s with heap:=h'} (.inst c H.length::vs) (.ref x::vals) _ ⟨by show f.dp+1+d<_;rw [Nat.add_right_comm];exact rm.dp,Nat.lt_of_le_of_lt IG rm.un⟩ st'.low (.cons rx (rv.mono e)) ?_
 unfold dg at P
 revert P
 cases k (.inst c H.length::vs) (H++[.dict []]) with
 |ok v H' =>
  cases v with
  |none =>
   intro P φ₂ T₂ y h₂ tk₂ e₂ bN ry
   obtain rfl:y = .none:=ry
   exact⟨rfl,P φ₂ T₂ _ h₂ tk₂ (e.trans e₂) bN.high (rx.mono e₂)⟩
  |_=>exact fun P=>P.elim
 |exc H'=>exact fun P e' h₂ tk₂ x₂=>P e' h₂ tk₂ (x₂.high.mono e)
 |stuck=>exact fun P=>P.elim
noncomputable def kZ(c:Addr):List V->AH->R V
 | [],H => .ok (.inst c H.length) (H++[.dict []])
 |_,_ => .stuck
theorem Dq{c:Addr}(hm:makesIn C.K c=true)(hi:findIn C.K (.ref c) "__init__" = some (some (.builtin "object.__init__"))):bz C cb d (.ref c) (kZ c):=fun f m φ T Z H s vs vals rm st rv Q E P=>by
 cases vs with
 |cons _ _=>exact P.elim
 |nil =>
  obtain rfl:vals=[]:=rv
  obtain⟨h₀,obs,G,F,N,O,nd,off⟩:=st
  refine bS.any (call_cls0 F G.X N hm hi fun x dx h' F' N' lt l2=>?_)
  obtain⟨st',e,rx⟩:=St.Br G F' nd off N' lt l2 O
  exact P _ _ _ h' s.toks e st' rx
end
section
variable{C:Cfg}{cb:Bool}{d:Nat}
theorem GH{k:Str->Option NameKind}{x:Str}{bs:List (Str×Value)}{m:Str->Option Value}(h:x∉bs.map (·.1)):bindL k bs m x=m x:=by
 induction bs generalizing m with
 |nil=>rfl
 |cons p r ih =>
  refine(ih fun q=>h (List.mem_cons_of_mem _ q)).trans ?_
  by_cases c:k p.1=some .local
  ·rw [if_pos c];exact if_neg fun q:x=p.1=>h (q▸List.mem_cons_self)
  ·rw [if_neg c]
theorem GI{k:Str->Option NameKind}{x:Str}{bs:List (Str×Value)}{m:Str->Option Value}(h:x∉bs.map (·.1)):bindC k bs m x=m x:=by
 induction bs generalizing m with
 |nil=>rfl
 |cons p r ih =>
  refine(ih fun q=>h (List.mem_cons_of_mem _ q)).trans ?_
  by_cases c:k p.1=some .local
  ·rw [if_pos c]
  ·rw [if_neg c];exact if_neg fun q:x=p.1=>h (q▸List.mem_cons_self)
theorem Bs{ns:List Str}{vs:List Value}{x:Str}(h:x∈(ns.zip vs).map (·.1)):x∈ns:=by
 obtain⟨p,hp,rfl⟩:=List.mem_map.mp h
 exact(List.of_mem_zip (a:=p.1) (b:=p.2) hp).1
theorem Mb{k:Str->Option NameKind}{x:Str}{v:Value}{ns:List Str}{vs:List Value}{m:Str->Option Value}{i:Nat}(nd:ns.Nodup)(h:ns[i]? = some x)(e:vs[i]? = some v) :
  (k x=some .local->bindL k (ns.zip vs) m x=some v)/\(k x≠some .local->bindC k (ns.zip vs) m x=some v):=by
 induction ns generalizing vs m i with
 |nil=>exact nomatch h
 |cons n ns ih =>
  cases vs with
  |nil=>exact nomatch e
  |cons w vs =>
   have zw:=List.nodup_cons.mp nd
   cases i with
   |zero =>
    obtain rfl:n=x:=Option.some.inj h
    obtain rfl:w=v:=Option.some.inj e
    refine⟨fun q=>(GH fun q=>zw.1 (Bs q)).trans ?_,fun q=>(GI fun q=>zw.1 (Bs q)).trans ?_⟩
    ·rw [if_pos q];exact if_pos rfl
    ·rw [if_neg q];exact if_pos rfl
   |succ i=>exact⟨(ih zw.2 h e).1,(ih zw.2 h e).2⟩
theorem E1{cm:Str->Option Value}{n:Str}{c:Addr}{cs:List (Str×Addr)}{cells:List (Addr×Obj)}(a:CellsAre cm cs cells)(h:cs.lookup n=some c):∃o,(c,o)∈cells/\o.data = .cell (cm n):=by
 induction a with
 |nil=>exact nomatch h
 | @cons n' c' o cs cells hd _ ih =>
  rw [List.lookup_cons]at h
  cases q:n==n' with
  |true=>rw [q]at h;cases h;exact⟨o,List.mem_cons_self,beq_iff_eq.mp q▸hd⟩
  |false =>
   rw [q]at h
   obtain⟨o',h1,h2⟩:=ih h
   exact⟨o',List.mem_cons_of_mem _ h1,h2⟩
theorem zI{cm:Str->Option Value}{cs:List (Str×Addr)}{cells:List (Addr×Obj)}(a:CellsAre cm cs cells):cells.map (·.1)=cs.map (·.2):=by
 induction a with
 |nil=>rfl
 |cons _ _ ih=>rw [List.map_cons,List.map_cons,ih]
theorem II{cs:List (Str×Addr)}(h:cs.Pairwise fun x y=>x.2≠y.2){x y:Str}{c:Addr}(hx:(x,c)∈cs)(hy:(y,c)∈cs):x=y:=by
 induction h with
 |nil=>cases hx
 |cons a t ih =>
  rcases List.mem_cons.mp hx with rfl | hx<;>rcases List.mem_cons.mp hy with hy | hy
  ·exact(Prod.mk.inj hy).1.symm
  ·exact absurd rfl (a (y,c) hy)
  ·exact absurd (congrArg Prod.snd hy).symm (a (x,c) hx)
  ·exact ih hx hy
theorem ES.Py{f:Fm C}{ps ls:List Str}{vs:List V}{vals:List Value}{φ:List Addr}{T:b7}{cells:b7}(rv:bj φ T vs vals)(hn:vs.length=ps.length)(nd:(ps++ls).Nodup)
  (hkind:∀x∈ps,f.cs.names.lookup x=some .local\/f.cs.names.lookup x=some .cell) (n:Nat) (hcl:f.cl=cellsFrom n f.cs.names []) (ap:f.cl.Pairwise fun x y=>x.2≠y.2)
  (ca:CellsAre (bindC f.env.kindOf (ps.zip vals) fun _=>none) f.cl cells) :
  ES f (ps++ls) (vs++List.replicate ls.length .undef) (bindL f.env.kindOf (ps.zip vals) fun _=>none) cells φ T:=by
 have N7:∀x,f.cs.names.lookup x=some .cell -> ∃c,f.cl.lookup x=some c:=fun x h=>by
  have:=cellsFrom_some (x:=x) f.cs.names n [] (.inl h)
  rw [← hcl]at this
  exact Option.isSome_iff_exists.mp this
 refine⟨⟨by rw [List.length_append,List.length_append,hn,List.length_replicate],fun i x v hi hv hu=>?_⟩,nd,fun x hx=>?_,fun x y c hx hy=>II ap (lookup_mem hx) (lookup_mem hy),zI ca▸List.pairwise_map.mpr ap⟩
 ·by_cases hlt:i<ps.length
  ·rw [List.getElem?_append_left hlt]at hi
   rw [List.getElem?_append_left (hn▸hlt)]at hv
   obtain⟨x',e,r⟩:=rv.get hv
   have b:=Mb (k:=f.env.kindOf) (m:=fun _=>none) (List.nodup_append.mp nd).1 hi e
   refine⟨x',?_,r⟩
   rcases hkind x (List.mem_of_getElem? hi)with hk | hk
   ·exact .loc rfl hk (b.1 hk)
   ·obtain⟨c,hc⟩:=N7 x hk
    obtain⟨o,hm,hd⟩:=E1 ca hc
    exact .cell hk hc hm (hd.trans (congrArg _ (b.2 (show f.cs.names.lookup x≠_ from hk▸nofun))))
  ·rw [List.getElem?_append_right (hn▸Nat.le_of_not_lt hlt)]at hv
   exact absurd (List.eq_of_mem_replicate (List.mem_of_getElem? hv)) hu
 ·obtain⟨c,hc⟩:=N7 x hx
  obtain⟨o,hm,hd⟩:=E1 ca hc
  exact⟨c,o,_,hc,hm,hd⟩
theorem Bt{α:Type}{A T c Z:List α}{p:α}(h:p∈A++(T++(c++Z))):p∈c\/p∈A++(T++Z):=by
 rcases List.mem_append.mp h with h | h
 ·exact .inr (List.mem_append_left _ h)
 ·rcases List.mem_append.mp h with h | h
  ·exact .inr (List.mem_append_right _ (List.mem_append_left _ h))
  ·exact(List.mem_append.mp h).imp_right fun h=>List.mem_append_right _ (List.mem_append_right _ h)
theorem Off.cells{φ:List Addr}{T Z cells:b7}{obs:List Obj}(off:Off φ T Z)(hl:φ.length=obs.length)(hc:(cells.map (·.1)).Nodup)(hne:∀p∈φ.zip obs++(T++Z),∀q∈cells,p.1≠q.1):Off φ T (cells++Z):=by
 refine⟨fun p hp=>?_,fun p hp q hq=>?_,?_,off.tb⟩
 ·rcases Bt (A:=[]) hp with hp | hp
  ·intro hm
   obtain⟨i,hi,e⟩:=List.getElem_of_mem hm
   exact hne _ (List.mem_append_left _ (qo (n:=i) (List.getElem?_eq_getElem hi) (List.getElem?_eq_getElem (hl▸hi)))) p hp e
  ·exact off.fi p hp
 ·rcases List.mem_append.mp hq with hq | hq
  ·exact hne p (List.mem_append_right _ (List.mem_append_left _ hp)) q hq
  ·exact off.tz p hp q hq
 ·rw [List.map_append]
  refine List.nodup_append.mpr ⟨hc,off.zn,fun a ha b hb=>?_⟩
  obtain⟨p,hp,rfl⟩:=List.mem_map.mp ha
  obtain⟨q,hq,rfl⟩:=List.mem_map.mp hb
  exact(hne q (List.mem_append_right _ (List.mem_append_right _ hq)) p hp).symm
theorem aJ{name qual:Str}{params:Arguments}{body:List Stmt}{scope:Scope}{dV kV doc pm cdv ct oc:Value}{an od:Option Addr}{osl:Array (Option Value)}{fn:Addr}{ps ls:List Str}{sf:SF}
  (ho:C.K.lookup fn=some ⟨oc,od,.func (fnOf name qual params body scope dV kV doc pm an cdv ct),osl⟩) (hcd:codeIn C.K cdv qual=true)
  (hbind:∀s vals,vals.length=ps.length->BindsTo s (fnOf name qual params body scope dV kV doc pm an cdv ct) ⟨vals,[]⟩ (ps.zip vals))
  (cL:ps.all (fun x=>scope.names.lookup x==some .local || scope.names.lookup x==some .cell)=true) (hnd:(ps++ls).Nodup) (hdc:((cellsFrom 0 scope.names []).map (·.1)).Nodup)
  (hbody:RC C cb d scope (ps++ls) (fun env=>execs body env) sf) (hk:scope.kind = .function) (hco:scope.isCoroutine=false) (hgen:scope.isGenerator=false) (hcc:∀c,codeOf scope.names=some c->cdv = .ref c):aE C cb (d+1) fn (cD ps.length ls.length sf):=fun f m φ T Z H s vs vals R rm st rv P=>by
 obtain⟨hn,P⟩:=Post.guard (c:=vs.length=ps.length) P
 have hkind:∀x∈ps,scope.names.lookup x=some .local\/scope.names.lookup x=some .cell:=fun x hx=>((Bool.or_eq_true _ _).mp (List.all_eq_true.mp cL x hx)).imp beq_iff_eq.mp beq_iff_eq.mp
 refine st.ground fun h₀ g₁ obs G F FG BG DG hof hsz N O nd off=>?_
 have K:=G.X.keeps F.keep
 refine jh (fd:=fnX name qual params body scope [] dV kV doc pm an cdv ct) (Nat.lt_of_le_of_lt (Nat.le_add_right _ _) rm.dp) (K _ _ ho) rfl hco hgen rfl (codeRec_of K hcd) (hbind s vals (rv.length.trans hn) _ _ _ _ ?_)
 refine wpAny_newFunctionEnv_cells hk (kindsX (List.all_eq_true.mpr fun y hy=>?_) _) fun env' he s' x=>?_
 ·rcases hkind _ (List.of_mem_zip hy).1 with q | q<;>rw [q]<;>rfl
 subst he
 refine⟨(G.P.nolimit.keeps F.keep).keeps x.toInCall.keep,uV ?_⟩
 obtain⟨h₁,tk,rfl,_⟩:=x.done
 have hk₁:=x.toInCall.keep
 have ap:=x.apart
 obtain⟨cells,NC,Y⟩:=Cl.news (h₀:=s.heap) (Nat.le_refl _) fun n c hm=>⟨x.cell n c (lookup_of_mem_nodup (cellsFrom_names scope.names 0 (s.heap.objs.size+1) [] [] rfl▸hdc) hm),x.above n c hm⟩
 have X3:∀p∈cells,s.heap.objs.size<p.1:=fun p hp=>by
  have h1:=List.mem_map_of_mem (f:=(·.1)) hp
  rw [zI Y]at h1
  obtain⟨q,hq,e⟩:=List.mem_map.mp h1
  exact e▸x.above q.1 q.2 hq
 let f₂:=f.child qual scope s.heap.objs.size fn cdv (cellsFrom (s.heap.objs.size+1) scope.names []) g₁ hk hcc
 have bN:St f₂ (bindL f₂.env.kindOf (ps.zip vals) fun _=>none) φ T (cells++Z) H h₁:=by
  refine⟨_,obs,⟨BG,DG,KtsTurn.refl⟩,⟨x.toInCall.ns,fun b o e=>hk₁ b o (hof _ _ e),hsz⟩,fun p hp=>?_,O,nd,off.cells O.len (zI Y▸List.pairwise_map.mpr ap) fun p hp q hq=>Nat.ne_of_lt (Nat.lt_trans (Heap.lt_size (N p hp).1) (X3 q hq))⟩
  rcases Bt hp with hp | hp
  ·exact⟨(NC p hp).1,(NC p hp).2.1,Option.eq_none_iff_forall_ne_some.mpr fun o q=>ns ((NC p hp).2.2.symm.trans (hof _ _ q))⟩
  ·exact⟨hk₁ _ _ (N p hp).1,Nat.ne_of_lt (Heap.lt_size (N p hp).1),(N p hp).2⟩
 refine hbody f₂ rfl _ _ φ T cells Z H _ _ _ (rm.in rfl rfl) PassesOwn.leaving (ES.Py rv hn hnd hkind _ rfl ap Y) bN ?_
 revert P
 cases sf (vs++List.replicate ls.length .undef) H with
 |next ρ H'=>exact fun P bc T' m' i9 h tk e st' _=>P bc T' _ h tk e (St.back G FG st') rfl
 |ret v H'=>exact fun P bc T' m' i9 x h tk e st' r=>P bc T' x h tk e (St.back G FG st') r
 |exc H'=>exact fun P e h tk i9 x=>t8.up (s:={s with toks:=tk}) G FG x fun h'' y=>P e h'' tk y
 |stuck=>exact fun P=>P.elim
end
inductive Src | range (k n:Nat) | list (j k:Nat)
noncomputable def Src.next:Src->AH->Option (Option (V×Src))
 | .range _ 0,_=>some none
 | .range k (n+1),_=>some (some (.int (k:Int),.range (k+1) n))
 | .list j k,H=>(lst H j).bind fun vs=>some (vs[k]?.map fun v=>(v,.list j (k+1)))
noncomputable abbrev nP(k n:Nat):Obj:={cls := .type "range_iterator",data := .fields #[rawInt (k:Int),rawInt (n:Int),rawInt 1]}
noncomputable def Src.Is(φ:List Addr):Src->Obj->Prop
 | .range k n,o=>o=nP k n
 | .list j k,o => ∃a,φ[j]? = some a/\o.cls = .type "list_iterator" /\ o.data = .fields #[.ref a,.int k 0]
theorem Src.Is.mono{φ bc:List Addr}{T T':b7}(e:j4 φ T bc T'){src:Src}{o:Obj}(h:src.Is φ o):src.Is bc o:=by
 cases src with
 |range k n=>exact h
 |list j k=>obtain⟨a,h1,h2⟩:=h;exact⟨a,e.get h1,h2⟩
section
variable{C:Cfg}{cb:Bool}{d:Nat}
section
variable{f:Fm C}{m:Str->Option Value}{φ:List Addr}{T Zc Z:b7}{H:AH}{s:Shared}{A:Around}{I:Addr}{o:Obj}{src:Src}{Q:Option Value->Shared->Prop}{E:Value->Shared->Prop}(st:St f m φ T (Zc++(I,o)::Z) H s.heap)(hi:src.Is φ o)
include st hi
theorem zJ(hA:A.handled=none)(hn:src.next H=some none)(h:∀h',St f m φ T (Zc++Z) H h'->(∀p∈Zc++Z,h'.get? p.1=some p.2)->Q none {s with heap:=h'}):wpAny (model C.prog C.w) A (pyNext (.ref I)) Q E s:=by
 have hg:s.heap.get? I=some o:=st.old (p:=(I,o)) (List.mem_append_right _ List.mem_cons_self)
 have h:=fun h' he=>h h' (st.vt he) fun p hp=>(st.vt he).old hp
 cases src with
 |range k n =>
  obtain rfl:o=nP k n:=hi
  cases n with
  |zero=>exact wpAny_pyNext_range_end hA hg (Int.le_refl 0) h
  |succ n=>exact nomatch hn
 |list j k =>
  obtain⟨a,ha,hc,hd⟩:=hi
  obtain⟨vs,hv,hn⟩:=Option.bind_eq_some_iff.mp hn
  obtain⟨xs,g,rx⟩:=st.dU ha hv
  have hk:=List.getElem?_eq_none_iff.mp (Option.map_eq_none_iff.mp (Option.some.inj hn))
  exact wpAny_pyNext_list_end hA ⟨o,hg,hc,hd⟩ g (List.getElem?_toArray▸List.getElem?_eq_none_iff.mpr (Nat.le_trans (Nat.le_of_eq rx.length) hk)) h
theorem vE{v:V}{src':Src}(hn:src.next H=some (some (v,src')))(h:∀y o' h' tk,cz φ T v y->src'.Is φ o'->St f m φ T (Zc++(I,o')::Z) H h'->Q (some y) (sh s h' tk)):wpAny (model C.prog C.w) A (pyNext (.ref I)) Q E s:=by
 have hg:s.heap.get? I=some o:=st.old (p:=(I,o)) (List.mem_append_right _ List.mem_cons_self)
 cases src with
 |range k n =>
  obtain rfl:o=nP k n:=hi
  cases n with
  |zero=>exact nomatch hn
  |succ n =>
   cases hn
   refine wpAny_pyNext_range_item hg (Int.ofNat_lt.mpr (Nat.succ_pos n)) fun h' hit hs=>h _ _ h' _ ⟨_,rfl⟩ ?_ (st.ng hs hit)
   show _ = nP (k+1) n
   rw [show(((n+1:Nat):Int) - 1)=(n:Int)from Int.add_sub_cancel (n:Int) 1];rfl
 |list j k =>
  obtain⟨a,ha,hc,hd⟩:=hi
  obtain⟨vs,hv,hn⟩:=Option.bind_eq_some_iff.mp hn
  obtain⟨xs,g,rx⟩:=st.dU ha hv
  obtain⟨w,hk,hn⟩:=Option.map_eq_some_iff.mp (Option.some.inj hn)
  cases hn
  obtain⟨y,hy,ry⟩:=rx.get hk
  refine wpAny_pyNext_list_item ⟨o,hg,hc,hd⟩ g (List.getElem?_toArray▸hy) fun h' Pq hs=>?_
  obtain⟨o',ho,hc',hd'⟩:=Pq
  exact h y o' h' s.toks ry ⟨a,ha,hc',hd'⟩ (st.ng hs ho)
end
theorem vF{f:Fm C}{m:Str->Option Value}{φ:List Addr}{T Z:b7}{H:AH}{s:Shared}{A:Around}{I:Addr}{o:Obj}{src:Src}{Q:Value->Shared->Prop}{E:Value->Shared->Prop}(st:St f m φ T Z H s.heap)(hm:(I,o)∈Z)(hi:src.Is φ o)(h:Q (.ref I) s) :
  wpAny (model C.prog C.w) A (pyIter (.ref I)) Q E s:=by
 have hg:s.heap.get? I=some o:=st.old hm
 cases src with
 |range k n =>
  have hi':o=nP k n:=hi
  subst hi'
  exact wpAny_pyIter_rangeiter hg h
 |list j k =>
  obtain⟨a,ha,hc,hd⟩:=hi
  exact wpAny_pyIter_listiter ⟨o,hg,hc,hd⟩ h
noncomputable def HF{α β:Type}:R α->(α->AH->R β)->R β
 | .ok a H,k=>k a H
 |_,_ => .stuck
@[simp] theorem VC{α β:Type}{a:α}{H:AH}{k:α->AH->R β}:HF (.ok a H) k=k a H:=rfl
theorem IJ{α β:Type}{o:Option α}{k:α->R β}{v:β}{H:AH}(h:cC o k = .ok v H):∃a,o=some a/\k a = .ok v H:=by
 cases o with
 |none=>exact R.qm h
 |some a=>exact⟨a,rfl,h⟩
theorem E2{α β:Type}{o:R α}{k:α->AH->R β}{v:β}{H:AH}(h:HF o k = .ok v H):∃a H',o = .ok a H'/\k a H' = .ok v H:=by
 cases o with
 |ok a H'=>exact⟨a,H',rfl,h⟩
 |_=>exact R.qm h
theorem IK{β:Type}{c:Prop}[Decidable c]{r:R β}{v:β}{H:AH}(h:(if c then r else .stuck) = .ok v H):c/\r = .ok v H:=by
 by_cases q:c
 ·rw [if_pos q]at h;exact⟨q,h⟩
 ·rw [if_neg q]at h;exact R.qm h
noncomputable def iX(bO:List V)(jL:BF)(el:EF):Nat->Src->List V->AH->R (List V)
 | 0,_,_,_ => .stuck
 |q+1,src,acc,H=>cC (src.next H) fun o=>o.elim (.ok acc H) fun p=>HF (jL (p.1::bO) H) fun b H =>
   cond b (HF (el (p.1::bO) H) fun y H=>if acc.length<=16777214 then iX bO jL el q p.2 (acc++[y]) H else .stuck) (iX bO jL el q p.2 acc H)
noncomputable abbrev Mc(ifs:List Expr)(env:Env):Sem Bool:=forIn ifs true fun c r=>if r=true then do let ok<-isTrue c env (eval c env);pure (ForInStep.yield ok)else pure (ForInStep.yield r)
noncomputable def GJ(C:Cfg)(d:Nat)(sc:List (Str×NameKind))(names:List Str)(ifs:List Expr)(fn:BF):Prop:=O8 LQ C false d sc names (Mc ifs) fn
theorem zK{sc:List (Str×NameKind)}{names:List Str}:GJ C d sc names [] (r6 true):=fun f env m ρ φ T Z H s rm g er st Q E P=>bS.any (wpAny_tests_nil (P φ T true s.heap s.toks (.refl _ _) st rfl))
theorem uw{sc:List (Str×NameKind)}{names:List Str}{c:Expr}{b:BF}(h:yo C false d sc names c b):GJ C d sc names [c] b:=fun f env m ρ φ T Z H s rm g er st Q E P =>
 bS.any (wpAny_tests_one (m5 (h f env m ρ φ T Z H s rm g er st Q E P)))
theorem GK{iy:Prop}{bO:List V}{jL:BF}{el:EF}{n:Nat}{src:Src}{acc fv:List V}{H fH:AH}(hT:iX bO jL el (n+1) src acc H = .ok fv fH)(h0:src.next H=some none->acc=fv->H=fH->iy)
  (h1:∀v src' b oQ,src.next H=some (some (v,src'))->jL (v::bO) H = .ok b oQ->(b=false->iX bO jL el n src' acc oQ = .ok fv fH) →
   (b=true -> ∀{iy:Prop},(∀u zH,el (v::bO) oQ = .ok u zH->acc.length<=16777214->iX bO jL el n src' (acc++[u]) zH = .ok fv fH->iy)->iy)->iy):iy:=by
 obtain⟨o,e,hT⟩:=IJ hT
 cases o with
 |none=>cases hT;exact h0 e rfl rfl
 |some p =>
  obtain⟨b,oQ,eb,hT⟩:=E2 hT
  refine h1 p.1 p.2 b oQ e eb (fun q=>by subst q;exact hT) fun q _ k=>?_
  subst q
  obtain⟨u,zH,eu,hT⟩:=E2 hT
  obtain⟨hz,hT⟩:=IK hT
  exact k u zH eu hz hT
theorem O8.run{α β:Type}{rep:List Addr->b7->α->β->Prop}{cb:Bool}{sc:List (Str×NameKind)}{names:List Str}{t:Env->Sem β}{fn:List V->AH->R α}(h:O8 rep C cb d sc names t fn){f:Fm C}{env:Env}{m:Str->Option Value}{ρ:List V}{φ:List Addr}{T Z:b7}{H H':AH}{s:Shared}{v:α}{Q:β->Shared->Prop}{E:Value->Shared->Prop}
  (rm:iC f d) (g:fg env sc) (er:ER f env m Z names ρ φ T) (st:St f m φ T Z H s.heap) (hv:fn ρ H = .ok v H') (k:∀bc T' x h tk,j4 φ T bc T'->St f m bc T' Z H' h->rep bc T' v x->Q x (sh s h tk)):bS cb (model C.prog C.w) f.A (t env) Q E s :=
 h f env m ρ φ T Z H s rm g er st Q E (by rw [hv];exact k)
noncomputable def oz(f:Fm C)(m:Str->Option Value)(φ:List Addr)(T Z:b7)(I cc D:Addr)(bO:List V)(jL:BF)(el:EF)(fv:List V)(fH:AH)(s:Shared)(n:Nat)(s':Shared):Prop :=
 ∀{iy:Prop},(∀h tk bc T' src acc ys oI oC m₂ H,s'=(sh s h tk)->j4 φ T bc T'->src.Is bc oI->LCg.NsObj oC m₂->bj bc T' acc ys →
  St f m bc T' ((I,oI)::(cc,oC)::(D,LCg.lst ys)::Z) H h->iX bO jL el n src acc H = .ok fv fH->iy)->iy
theorem oz.mk{f:Fm C}{m:Str->Option Value}{φ:List Addr}{T Z:b7}{I cc D:Addr}{bO:List V}{jL:BF}{el:EF}{fv:List V}{fH:AH}{s:Shared}{n:Nat}{h:Heap}{tk:Nat}{bc:List Addr}{T':b7}{src:Src}{acc:List V}{ys:List Value}{oI oC:Obj}{m₂:Str->Option Value}{H:AH}
  (e:j4 φ T bc T') (hi:src.Is bc oI) (hc:LCg.NsObj oC m₂) (rv:bj bc T' acc ys) (st:St f m bc T' ((I,oI)::(cc,oC)::(D,LCg.lst ys)::Z) H h) (hT:iX bO jL el n src acc H = .ok fv fH):oz f m φ T Z I cc D bO jL el fv fH s n (sh s h tk) :=
 fun k=>k h tk bc T' src acc ys oI oC m₂ H rfl e hi hc rv st hT
theorem GL{f:Fm C}{env:Env}{m:Str->Option Value}{Z:b7}{A:Around}(hA:A=f.A){I cc D:Addr}{scope:Scope}{cl:List (Str×Addr)}{x:Str}{px:Pos}{iter elt:Expr}{ifs:List Expr}{pos:Pos}{R:Result->Shared->Prop}{bO:List V}{cnames:List Str}{pJ:List (Str×NameKind)}{jL:BF}{el:EF}{φ:List Addr}{T:b7}{s:Shared}{fv:List V}{fH:AH}
  (g:fg (compEnvC scope cl cc env) pJ) (hx:scope.names.lookup x=some .local) (hts:GJ C d pJ (x::cnames) ifs jL) (hel:ez C false d pJ (x::cnames) elt el) (rm:iC f d)
  (qD:∀bc T' Z' v y oC m₂,j4 φ T bc T'->(cc,oC)∈Z'->(∀p∈Z,p∈Z')->LCg.NsObj oC m₂->m₂ x=some y->cz bc T' v y->ER f (compEnvC scope cl cc env) m Z' (x::cnames) (v::bO) bc T')
  (hR:∀bc T' ys oC m₂ h tk,j4 φ T bc T'->LCg.NsObj oC m₂->bj bc T' fv ys->St f m bc T' ((cc,oC)::(D,LCg.lst ys)::Z) fH h->R (.ok .next) (sh s h tk))
  (n:Nat) (src:Src) (H:AH) (h:Heap) (tk:Nat) (oI oC:Obj) (m₂:Str->Option Value) (hi:src.Is φ oI) (hc:LCg.NsObj oC m₂) (st:St f m φ T ((I,oI)::(cc,oC)::(D,LCg.lst [])::Z) H h) (hT:iX bO jL el n src [] H = .ok fv fH) :
  codeAny (model C.prog C.w) A (.compLoop (.ListComp elt [⟨.Name x px,iter,ifs,0⟩] scope pos) 0 (.ref I) (.ref D) (compEnvC scope cl cc env)) R (sh s h tk):=by
 subst hA
 refine codeAny_compLoop_tests (oz f m φ T Z I cc D bO jL el fv fH s) ?_ n (oz.mk (.refl _ _) hi hc .nil st hT)
 clear hi hc st hT
 intro n s' K
 refine K fun h tk bc T' src acc ys oI oC m₂ H es e hi hc rv st hT=>?_
 clear K
 subst es
 cases n with
 |zero=>cases hT
 |succ n =>
  refine GK hT (fun IL ha hH=>?_) fun v src' b oQ IL hb hF hT=>?_
  ·refine zJ (s:=(sh s h tk)) (Zc:=[]) st hi rfl IL fun h' st' _=>?_
   exact hR bc T' ys oC m₂ h' tk e hc (ha▸rv) (hH▸st')
  ·refine vE (s:=(sh s h tk)) (Zc:=[]) st hi IL fun y o' h' tk' ry hi' st'=>?_
   refine wpAny_assign_Name (wpAny_storeName_local (lookup_relabel_local hx) (hc.ns (st'.old (p:=(cc,oC)) (.tail _ (.head _)))) (fun h₂ hn₂ hs₂=>?_) (by
    show(scope.kind == .class || (scope.kind == .module&&_))=false
    rw [show scope.kind = .function from g.kind];rfl))
   obtain⟨tJ,Me,HG⟩:=LCg.ns_obj hn₂
   have bN:=St.ng (Zc:=[(I,o')]) st' hs₂ Me
   have sub:∀p∈Z,p∈(I,o')::(cc,tJ)::(D,LCg.lst ys)::Z:=fun p hp => .tail _ (.tail _ (.tail _ hp))
   refine m5 (hts.run rm g (qD bc T' _ v y tJ _ e (.tail _ (.head _)) sub HG (by simp) ry) (s:=(sh s h₂ (tk'+1))) bN hb fun tD A9 z h₃ j8 kT eA rz=>?_)
   obtain rfl:b=z:=rz
   cases b with
   |false =>
    rw [if_neg Bool.false_ne_true]
    exact⟨n,Nat.lt_succ_self _,oz.mk (s:=s) (e.trans kT) (hi'.mono kT) HG (rv.mono kT) eA (hF rfl)⟩
   |true =>
    rw [if_pos rfl]
    refine hT rfl fun u zH hu hz hT=>?_
    refine m5 (hel.run rm g (qD tD A9 _ v y tJ _ (e.trans kT) (.tail _ (.head _)) sub HG (by simp) (ry.mono kT)) (s:=(sh s h₃ j8)) eA hu fun NY RT q h₄ NZ Pz vy rq=>?_)
    have N8:=(rv.mono kT).mono Pz
    refine append_at (hsz:=by rw [List.size_toArray,N8.length,sizeLine_eq];lia) (vy.old (p:=(D,LCg.lst ys)) (.tail _ (.tail _ (.head _)))) fun h₅ IM IP=>?_
    exact⟨n,Nat.lt_succ_self _,oz.mk (s:=s) ((e.trans kT).trans Pz) ((hi'.mono kT).mono Pz) HG (N8.append (.one rq)) (St.ng (Zc:=[(I,o'),(cc,tJ)]) vy IM (IP.trans (congrArg some (LCg.lst_snoc ys q)))) hT⟩
end
noncomputable def PA(ns:List (Str×NameKind))(sc:List (Str×NameKind)):List (Str×NameKind):=ns.map fun(n,k)=>if (k == .free&&sc.lookup n==some .cell) then(n,.cell) else(n,k)
theorem pn{env:Env}{sc:List (Str×NameKind)}(g:fg env sc)(scope:Scope):(relabel scope env).names=PA scope.names sc:=by
 unfold relabel PA
 have:(env.scope.kind == .function)=true:=by rw [g.kind];rfl
 dsimp only
 rw [this]
 simp only [Bool.and_true]
 unfold Env.kindOf
 rw [g.names]
section
variable{C:Cfg}{cb:Bool}{d:Nat}
theorem St.promote{f:Fm C}{m:Str->Option Value}{φ:List Addr}{T Z:b7}{H:AH}{h:Heap}{D:Addr}{o:Obj}{ao:AO}(st:St f m φ T ((D,o)::Z) H h)(r:zv φ T ao o):St f m (φ++[D]) T Z (H++[ao]) h/\j4 φ T (φ++[D]) T/\cz (φ++[D]) T (.ref H.length) (.ref D):=by
 obtain⟨h₀,obs,G,F,N,O,nd,off⟩:=st
 obtain⟨N',O',zw,off',e⟩:=u6 nd (off.sub (List.sublist_cons_self _ _)) (fun p hp=>N p (by
  rw [← List.append_assoc]at hp ⊢;exact List.perm_middle.mem_iff.mpr hp)) off.ne O r
 exact⟨⟨h₀,_,G,F,N',O',zw,off'⟩,e,kh O.hlen⟩
noncomputable def Bu(C:Cfg)(d:Nat)(sc:List (Str×NameKind))(names:List Str)(iter:Expr)(sf:List V->AH->R (Src×Nat)):Prop :=
 ∀(f:Fm C)(env:Env)(m:Str->Option Value)(ρ:List V)(φ:List Addr)(T Z:b7)(H:AH)(s:Shared)(Q:Value->Shared->Prop)(E:Value->Shared->Prop),iC f d->fg env sc->ER f env m Z names ρ φ T->St f m φ T Z H s.heap →
  (match sf ρ H with
   | .ok p H' => ∀bc T' I oI h tk,j4 φ T bc T'->p.1.Is bc oI->St f m bc T' ((I,oI)::Z) H' h->Q (.ref I) (sh s h tk)
   | .exc H' => ∀e h tk,t8 f φ T Z H' e h->E (.ref e) (sh s h tk)
   | .stuck=>False)->wpAny (model C.prog C.w) f.A (eval iter env) (fun xv s₁=>wpAny (model C.prog C.w) f.A (pyIter xv) Q E s₁) E s
noncomputable def iA(a:EF):List V->AH->R (Src×Nat):=fun ρ H=>(a ρ H).bind (t9 fun n H=>cC (lst H n) fun vs => .ok (.list n 0,vs.length+1) H)
noncomputable def lY(a:EF):List V->AH->R (Src×Nat):=fun ρ H=>(a ρ H).bind (nG fun n H=>if -1073741824<=n/\n<1073741824 then .ok (.range 0 n.toNat,n.toNat+1) H else .stuck)
theorem src_list{sc:List (Str×NameKind)}{names:List Str}{iter:Expr}{a:EF}(ha:ez C false d sc names iter a):Bu C d sc names iter (iA a):=fun f env m ρ φ T Z H s Q E rm g er st P=>by
 refine m5 (ha f env m ρ φ T Z H s rm g er st _ _ ?_)
 unfold iA at P
 revert P
 cases a ρ H with
 |ok v H' =>
  cases v with
  |ref n =>
   rw [R.cZ,LX]
   cases hw:lst H' n with
   |none=>exact fun P=>P.elim
   |some vs =>
    intro P bc T' x h tk e st' rv
    obtain⟨b,rfl,hb⟩:=rv
    obtain⟨xs,g',rx⟩:=st'.dU hb hw
    exact wpAny_pyIter_list g' (P bc T' _ _ _ tk e ⟨b,hb,rfl,rfl⟩ (St.qy (Zc:=[]) st' _))
  |_=>exact fun P=>P.elim
 |exc H'=>exact fun P e h tk x=>P e h tk x
 |stuck=>exact fun P=>P.elim
theorem src_range{sc:Scope}{names:List Str}{e:Expr}{np pos:Pos}{a:EF}(hn:aW C sc.names (Str.ofString "range") (.type "range"))(ha:ez C false d sc.names names e a)(he:∀env,starEach [e] env=(false,eval e env)::starEach [] env:=by intro _;rfl) :
  Bu C d sc.names names (.Call (.Name (Str.ofString "range") np) [e] [] pos) (lY a):=fun f env m ρ φ T Z H s Q E rm g er st P=>by
 refine m5 (vv hn ha (aa ha aj he) rm g er st ?_)
 unfold lY at P
 revert P
 cases a ρ H with
 |ok v H' =>
  cases v with
  |int n =>
   rw [R.cZ,LY]
   by_cases hz : -1073741824<=n/\n<1073741824
   ·rw [if_pos hz]
    exact fun P=>⟨hz,fun bc T' h tk I e st'=>P bc T' I _ h tk e rfl st'⟩
   ·rw [if_neg hz];exact fun P=>P.elim
  |_=>exact fun P=>P.elim
 |exc H'=>exact fun P e h tk x=>P e h tk x
 |stuck=>exact fun P=>P.elim
structure vG(sc:List (Str×NameKind))(scope:Scope)(x:Str)(pJ:List (Str×NameKind)):Prop where
 cell:∀y∈scope.names,y.2 ≠ .cell
 kind:scope.kind = .function
 locals:∀y∈scope.names,y.2 = .local->scope.names.lookup y.1=some .local
 hx:scope.names.lookup x=some .local
 rel:PA scope.names sc=pJ
 code:codeOf pJ=none
inductive sd(sc:List (Str×NameKind))(names:List Str)(scope:Scope)(pJ:List (Str×NameKind)):List Str->Option Nat->Prop
 |none:(∀y∈scope.names,y.2 ≠ .free)->sd sc names scope pJ [] none
 |one {y:Str} {j:Nat}:names[j]? = some y->sc.lookup y=some .cell->pJ.lookup y=some .cell->(∀env c,env.cells.lookup y=some c->closureFor scope env=pure [(y,c)])->sd sc names scope pJ [y] (some j)
noncomputable def IQ:V->Option (List V)
 | .undef=>none
 |v=>some [v]
theorem Bv{v:V}{l:List V}(h:IQ v=some l):v ≠ .undef/\l=[v]:=by
 cases v with
 |undef=>exact Mine.ns h
 |_=>exact⟨fun q=>V.noConfusion q,(Option.some.inj h).symm⟩
noncomputable def Bw:Option Nat->List V->Option (List V)
 |none,_=>some []
 |some j,ρ=>ρ[j]?.bind IQ
noncomputable def qE(bO:List V)(sf:List V->AH->R (Src×Nat))(jL:BF)(el:EF)(ρ:List V)(H:AH):R (List V):=(sf ρ H).bind fun p H=>HF (iX bO jL el p.2 p.1 [] H) .ok
noncomputable def gG(cap:Option Nat)(sf:List V->AH->R (Src×Nat))(jL:BF)(el:EF):EF:=fun ρ H=>cC (Bw cap ρ) fun bO=>(qE bO sf jL el ρ H).bind fun vs H => .ok (.ref H.length) (H++[.list vs])
theorem PB{sc pJ:List (Str×NameKind)}{names cnames:List Str}{scope:Scope}{x:Str}{cap:Option Nat}(ok:vG sc scope x pJ)(qD:sd sc names scope pJ cnames cap){f:Fm C}{env:Env}{m:Str->Option Value}{ρ bO:List V}{φ:List Addr}{T Z:b7}(g:fg env sc)(er:ER f env m Z names ρ φ T)(HH:Bw cap ρ=some bO) :
  ∃cl,closureFor scope env=pure cl /\ ∀cc bc T' Z' v y oC m₂,j4 φ T bc T'->(cc,oC)∈Z'->(∀p∈Z,p∈Z')->LCg.NsObj oC m₂->m₂ x=some y->cz bc T' v y->ER f (compEnvC scope cl cc env) m Z' (x::cnames) (v::bO) bc T':=by
 have kx:∀cl cc,(compEnvC scope cl cc env).kindOf x=some .local:=fun cl cc=>lookup_relabel_local ok.hx
 cases qD with
 |none hf =>
  cases HH
  refine⟨[],closureFor_none hf,fun cc bc T' Z' v y oC m₂ e hm sub hns hx rv=>⟨rfl,fun i z w hi hw hu=>?_⟩⟩
  cases i with
  |zero=>cases hi;cases hw;exact⟨y,.comp (kx _ _) hm hns hx,rv⟩
  |succ i=>exact nomatch hi
 | @one z j hj hk hkc hclos =>
  obtain⟨w,hw,HH⟩:=Option.bind_eq_some_iff.mp HH
  obtain⟨hu,rfl⟩:=Bv HH
  obtain⟨val,va,vr⟩:=er.at_ j z w hj hw hu
  have kz:env.kindOf z=some .cell:=by unfold Env.kindOf;rw [g.names];exact hk
  obtain⟨c,o,h1,h2,h3⟩:∃c o,env.cells.lookup z=some c/\(c,o)∈Z/\o.data = .cell (some val):=by
   cases va with
   |loc a b c=>exact nomatch kz.symm.trans b
   |cell a b c e=>exact⟨_,_,b,c,e⟩
   |free a n b c e=>exact nomatch kz.symm.trans a
   |comp a b c e=>exact nomatch kz.symm.trans a
  refine⟨[(z,c)],hclos env c h1,fun cc bc T' Z' v y oC m₂ e hm sub hns hx rv=>⟨rfl,fun i z' w' hi W0 Vp=>?_⟩⟩
  cases i with
  |zero=>cases hi;cases W0;exact⟨y,.comp (kx _ _) hm hns hx,rv⟩
  |succ i =>
   cases i with
   |succ i=>exact nomatch hi
   |zero =>
    cases hi;cases W0
    refine⟨val,.cell ?_ ?_ (sub _ h2) h3,vr.mono e⟩
    ·show(relabel scope env).names.lookup z = _
     rw [pn g,ok.rel];exact hkc
    ·show List.lookup z [(z,c)]=some c
     rw [List.lookup_cons,beq_self_eq_true]
theorem Bx{sc pJ:List (Str×NameKind)}{names cnames:List Str}{scope:Scope}{x:Str}{px pos pos':Pos}{elt iter:Expr}{ifs:List Expr}{cap:Option Nat}{sf:List V->AH->R (Src×Nat)}{jL:BF}{el:EF}(ok:vG sc scope x pJ)(qD:sd sc names scope pJ cnames cap)
  (R1:Bu C d sc names iter sf) (hts:GJ C d pJ (x::cnames) ifs jL) (hel:ez C false d pJ (x::cnames) elt el) (hs:∀env x,foldedSetIterable iter env x=pure x) {f:Fm C} {env:Env} {m:Str->Option Value} {ρ:List V} {φ:List Addr} {T Z:b7} {H:AH} {s:Shared} {use:Option (Value->Sem Unit)} {Q:Value->Shared->Prop} {E:Value->Shared->Prop}
  (rm:iC f d) (g:fg env sc) (er:ER f env m Z names ρ φ T) (st:St f m φ T Z H s.heap)
  {bO:List V} (HH:Bw cap ρ=some bO)
  (P:match qE bO sf jL el ρ H with
   | .ok vs H₂ => ∀bc T' D ys cc oC m₂ h tk,j4 φ T bc T'->LCg.NsObj oC m₂->bj bc T' vs ys->St f m bc T' ((cc,oC)::(D,LCg.lst ys)::Z) H₂ h->compPost (model C.prog C.w) f.A E use Q (.ref D) cc (.ok .next) (sh s h tk)
   | .exc H' => ∀e h tk,t8 f φ T Z H' e h->E (.ref e) (sh s h tk)
   | .stuck=>False) :
  wpAny (model C.prog C.w) f.A (comprehension (.ListComp elt [⟨.Name x px,iter,ifs,0⟩] scope pos) scope env pos' (newList []) false (eval iter env) use) Q E s:=by
 obtain⟨cl,hclos,hcl⟩:=PB ok qD g er HH
 refine wpAny_comprehension_free (use:=use) rfl (hs env) hclos ok.kind ok.locals (R1 f env m ρ φ T Z H s _ E rm g er st ?_)
 unfold qE at P
 revert P
 cases sf ρ H with
 |exc H'=>exact fun P=>P
 |stuck=>exact fun P=>P
 |ok p H' =>
  rw [R.cZ]
  cases hT:iX bO jL el p.2 p.1 [] H' with
  |ok vs H₂ =>
   intro P bc T' I oI h tk e hi st'
   refine wpAny_newObj_type (wpAny_newFunctionEnv ok.cell (fun y hy=>absurd hy List.not_mem_nil) (fun h₁ Dr Ds=>?_) ok.kind)
   obtain⟨oC,Me,HG⟩:=LCg.ns_obj Dr
   have st3:=St.ng (Zc:=[(I,oI)]) (St.qy (Zc:=[(I,oI)]) (St.qy (Zc:=[(I,oI)]) st' (LCg.lst [])) {cls := .type "dict",data := .dict #[]}) Ds Me
   have gC:fg (compEnvC scope cl (h.push (LCg.lst [])).objs.size env) pJ:=⟨ok.kind,g.glob,g.NR,(pn g _).trans ok.rel,fun c hc=>Mine.ns (ok.code.symm.trans hc)⟩
   have L:=GL (C:=C) (f:=f) (env:=env) (m:=m) (Z:=Z) rfl (I:=I) (cc:=(h.push (LCg.lst [])).objs.size) (D:=h.objs.size) (px:=px) (iter:=iter) (pos:=pos) (R:=compPost (model C.prog C.w) f.A E use Q (.ref h.objs.size) (h.push (LCg.lst [])).objs.size) (s:=s) gC ok.hx hts hel rm
    (fun φ₂ T₂ Z' v y oC m₂ e₂ hm sub ns hx rv=>hcl _ φ₂ T₂ Z' v y oC m₂ (e.trans e₂) hm sub ns hx rv)
    (fun φ₂ T₂ ys oC m₂ h₂ tk₂ e₂ ns rv bN=>P φ₂ T₂ _ ys _ oC m₂ h₂ tk₂ (e.trans e₂) ns rv bN) p.2 p.1 H' h₁ tk oI oC _ hi HG st3 hT
   exact codeAny_compStart_list L (vF (s:=(sh s h₁ tk)) st3 List.mem_cons_self hi L)
  |_=>exact fun P=>P.elim
theorem oA{sc pJ:List (Str×NameKind)}{names cnames:List Str}{scope:Scope}{x:Str}{px pos:Pos}{elt iter:Expr}{ifs:List Expr}{cap:Option Nat}{sf:List V->AH->R (Src×Nat)}{jL:BF}{el:EF}(ok:vG sc scope x pJ)(qD:sd sc names scope pJ cnames cap)
  (R1:Bu C d sc names iter sf) (hts:GJ C d pJ (x::cnames) ifs jL) (hel:ez C false d pJ (x::cnames) elt el) (hs:∀env x,foldedSetIterable iter env x=pure x:=by intro _ _;rfl) :
  ez C cb d sc names (.ListComp elt [⟨.Name x px,iter,ifs,0⟩] scope pos) (gG cap sf jL el):=fun f env m ρ φ T Z H s rm g er st => .opt fun bO HH Q E P=>by
 dsimp only
 rw [eval_ListComp]
 refine bS.any (Bx (use:=none) ok qD R1 hts hel hs rm g er st HH ?_)
 revert P
 cases qE bO sf jL el ρ H with
 |exc H'=>exact fun P=>P
 |stuck=>exact fun P=>P
 |ok vs H₂ =>
  intro P bc T' D ys cc oC m₂ h tk e ns rv st'
  refine⟨m₂,ns.ns (st'.old (p:=(cc,oC)) List.mem_cons_self),fun h'' IR=>?_⟩
  obtain⟨eA,kT,r⟩:=St.promote (ao := .list vs) (St.vt (Zc:=[]) st' IR.extBut) ⟨ys,_,rfl,rv⟩
  exact P _ _ _ h'' tk (e.trans kT) eA r
theorem Dt{sc:Scope}{pJ:List (Str×NameKind)}{names cnames:List Str}{scope:Scope}{x y:Str}{px py pos spos:Pos}{elt iter:Expr}{ifs:List Expr}{cap:Option Nat}{sf:List V->AH->R (Src×Nat)}{jL:BF}{el:EF}{i:Nat}(hi:names[i]? = some y)(hy:sc.names.lookup y=some .local)(ok:vG sc.names scope x pJ)(qD:sd sc.names names scope pJ cnames cap)
  (R1:Bu C d sc.names names iter sf) (hts:GJ C d pJ (x::cnames) ifs jL) (hel:ez C false d pJ (x::cnames) elt el)
  (hsw:∀cn L a ccd cl,swapsWith (.ListComp elt [⟨.Name x px,iter,ifs,0⟩] scope pos) (some (.Name y py)) spos.line (envX cn sc L a ccd cl)=pure true:=by intro _ _ _ _ _;rfl)
  (hs:∀env x,foldedSetIterable iter env x=pure x:=by intro _ _;rfl) :
  oS C cb d sc names (.Assign [.Name y py] (.ListComp elt [⟨.Name x px,iter,ifs,0⟩] scope pos) spos) (a8 i (gG cap sf jL el)):=fun f hf m ρ φ T Zc Z H s Q E rm po es st P=>by
 obtain⟨bO,HH,P⟩:∃bO,Bw cap ρ=some bO/\dF f (ES f names) φ T Z s (rs ((qE bO sf jL el ρ H).bind fun vs H => .ok (.ref H.length) (H++[.list vs])) fun v H => .next (ρ.set i v) H) Q E:=by
  unfold a8 gG at P
  revert P
  cases Bw cap ρ with
  |none=>exact fun P=>P.elim
  |some bO=>exact fun P=>⟨bO,rfl,P⟩
 dsimp only
 rw [exec_Assign_Name_used _ _ _ _ (by rw [Dk hf];exact hsw _ _ _ _ _)]
 refine bS.any (wpAny_bind (wpAny_standAt (wpAny_bind ?_)))
 show wpAny _ f.A (do let _<-comprehension (.ListComp elt [⟨.Name x px,iter,ifs,0⟩] scope pos) scope f.env _ (newList []) false (eval iter f.env) (some (assign (.Name y py) f.env))) _ _ s
 refine wpAny_bind (wpAny_mono (Bx (use:=some (assign (.Name y py) f.env)) (Q:=fun _ s'=>Q .next s') ok qD R1 hts hel hs rm (gT hf) es.Pp st HH ?_) (fun _ s' hq=>wpAny_pure (wpAny_pure hq)) fun _ _ e=>e)
 revert P
 cases qE bO sf jL el ρ H with
 |exc H'=>exact fun P e h tk x=>P e h tk _ x
 |stuck=>exact fun P=>P
 |ok vs H₂ =>
  intro P bc T' D ys cc oC m₂ h tk e ns rv st'
  obtain⟨eA,kT,r⟩:=St.promote (ao := .list vs) (St.perm st' (Z':=(D,LCg.lst ys)::(cc,oC)::(Zc++Z)) (List.Perm.swap ..)) ⟨ys,_,rfl,rv⟩
  show wpAny _ f.A (assign (.Name y py) f.env (.ref D)) _ _ _
  refine wpAny_assign_Name (iW (s:=(sh s h tk)) (St.mid eA) (es.mono (e.trans kT)) hi (by rw [hf];exact hy) r fun h₄ m₄ vy R2=>?_)
  refine⟨m₂,ns.ns (vy.old (p:=(cc,oC)) (List.mem_append_right _ List.mem_cons_self)),fun h'' IR=>?_⟩
  exact P _ _ m₄ Zc h'' _ (e.trans kT) (St.vt vy IR.extBut) R2
end
noncomputable abbrev iY(x y z w:Str)(px py pz pw:Pos)(iter:Expr)(scope:Scope)(pos:Pos):Expr := .ListComp (.Name z pz) [⟨.Name x px,iter,[],0⟩,⟨.Name y py,.Name w pw,[],0⟩] scope pos
theorem Mf(x y z w:Str)(px py pz pw:Pos)(iter:Expr)(scope:Scope)(pos:Pos)(it acc:Value)(env:Env) :
  compTurn (iY x y z w px py pz pw iter scope pos) 1 it acc env=(do
   standAt pw
   match<-pyNext it with
   |none=>pure (.done .next)
   |some v =>
    assign (.Name y py) env v
    (do let _<-call (.builtin "list.append") [acc,<- eval (.Name z pz) env])
    again (.compLoop (iY x y z w px py pz pw iter scope pos) 1 it acc env)):=by rfl
theorem IS(x y z w:Str)(px py pz pw:Pos)(iter:Expr)(scope:Scope)(pos:Pos)(it acc:Value)(env:Env) :
  compTurn (iY x y z w px py pz pw iter scope pos) 0 it acc env=(do
   standAt iter.pos
   match<-pyNext it with
   |none=>pure (.done .next)
   |some v =>
    assign (.Name x px) env v
    let x'<-eval (.Name w pw) env
    standAt pw
    let x'<-foldedSetIterable (.Name w pw) env x'
    let _<-runOwn (.compStart (iY x y z w px py pz pw iter scope pos) 1 (← holding [x'] (pyIter x')) acc env) env
    again (.compLoop (iY x y z w px py pz pw iter scope pos) 0 it acc env)):=by rfl
noncomputable def R3:V->Option Nat
 | .ref j=>some j
 |_=>none
theorem IT{v:V}{j:Nat}(h:R3 v=some j):v = .ref j:=by
 cases v with
 |ref n=>exact congrArg V.ref (Option.some.inj h)
 |_=>exact Mine.ns h
noncomputable def flat:Nat->Src->List V->AH->Option (List V)
 | 0,_,_,_=>none
 |q+1,src,acc,H=>(src.next H).bind fun o=>o.elim (some acc) fun p=>(R3 p.1).bind fun j=>(lst H j).bind fun vs=>if acc.length+vs.length<=16777214 then flat q p.2 (acc++vs) H else none
section
variable{C:Cfg}{cb:Bool}{d:Nat}
theorem IU{prog:Program}{w:World}{A:Around}{R:Result->Shared->Prop}{s:Shared}{x y z ww:Str}{px py pz pw:Pos}{iter:Expr}{scope:Scope}{pos:Pos}{it acc:Value}{env:Env}
  (h0:codeAny (model prog w) A (.compLoop (iY x y z ww px py pz pw iter scope pos) 1 it acc env) R s)
  (h:wpAny (model prog w) A (pyIter it) (fun it' s'=>codeAny (model prog w) A (.compLoop (iY x y z ww px py pz pw iter scope pos) 1 it' acc env) R s')
   (notedBy (model prog w) A env fun x s'=>R (.error x) s') s) :
  codeAny (model prog w) A (.compStart (iY x y z ww px py pz pw iter scope pos) 1 it acc env) R s:=by
 refine codeAny_of_tree ?_
 show wpAny _ _ ((compStart (iY x y z ww px py pz pw iter scope pos) 1 it acc env).onRaise (fun x=>do noteFrame x env;standAt theWindowsPlace)) _ _ s
 refine wpAny_notedAt ?_
 unfold compStart
 show wpAny _ _ (ask >>= _) _ _ s
 refine wpAny_bind (wpAny_askSetting (wpAny_ite ?_))
 split
 ·first
   |exact wpAny_bind (wpAny_pure (wpAny_pure (And.intro rfl h0)))
   |exact wpAny_pure (And.intro rfl h0)
 ·first
   |exact wpAny_bind (wpAny_rule (wpAny_bind (wpAny_standAt (wpAny_bind (wpAny_mono h (fun it' s' h'=>wpAny_pure (And.intro rfl h')) fun _ _ x=>x)))))
   |(refine wpAny_bind (wpAny_rule ?_);show wpAny _ _ (standAt pw >>= _) _ _ s;exact wpAny_bind (wpAny_standAt (wpAny_bind (wpAny_mono h (fun it' s' h'=>wpAny_pure (And.intro rfl h')) fun _ _ x=>x))))
noncomputable def By(f:Fm C)(m:Str->Option Value)(φ:List Addr)(T Z:b7)(H:AH)(I I1 cc D:Addr)(oI:Obj)(j:Nat)(vs acc:List V)(s:Shared)(n:Nat)(s':Shared):Prop :=
 ∀{iy:Prop},(∀h tk k ys o1 oC m₂,s'=(sh s h tk)->n=vs.length - k->k<=vs.length->(Src.list j k).Is φ o1->LCg.NsObj oC m₂->bj φ T (acc++vs.take k) ys →
  St f m φ T ((I1,o1)::(I,oI)::(cc,oC)::(D,LCg.lst ys)::Z) H h->iy)->iy
theorem By.mk{f:Fm C}{m:Str->Option Value}{φ:List Addr}{T Z:b7}{H:AH}{I I1 cc D:Addr}{oI:Obj}{j:Nat}{vs acc:List V}{s:Shared}{h:Heap}{tk k:Nat}{ys:List Value}{o1 oC:Obj}{m₂:Str->Option Value}
  (hk:k<=vs.length) (hi:(Src.list j k).Is φ o1) (hc:LCg.NsObj oC m₂) (ry:bj φ T (acc++vs.take k) ys) (st:St f m φ T ((I1,o1)::(I,oI)::(cc,oC)::(D,LCg.lst ys)::Z) H h):By f m φ T Z H I I1 cc D oI j vs acc s (vs.length - k) (sh s h tk) :=
 fun q=>q h tk k ys o1 oC m₂ rfl rfl hk hi hc ry st
theorem Mg{f:Fm C}{env:Env}{m:Str->Option Value}{Z:b7}{A:Around}(hA:A.handled=none){I I1 cc D:Addr}{x y:Str}{px py pz pw:Pos}{iter:Expr}{scope:Scope}{pos:Pos}{R:Result->Shared->Prop}{φ:List Addr}{T:b7}{s:Shared}{H:AH}{j:Nat}{vs acc:List V}
  (hloc:env.locals=cc) (hy:env.kindOf y=some .local) (hk:env.scope.kind = .function) (hxy:(y==("__debug__" : Str))=false) (hl:lst H j=some vs) (hz:acc.length+vs.length<=16777214)
  (oI:Obj) (X4:∀ys oC m₂ h tk,LCg.NsObj oC m₂->bj φ T (acc++vs) ys->St f m φ T ((I,oI)::(cc,oC)::(D,LCg.lst ys)::Z) H h->R (.ok .next) (sh s h tk))
  (h:Heap) (tk:Nat) (o1 oC:Obj) (m₂:Str->Option Value) (ys:List Value) (hi:(Src.list j 0).Is φ o1) (hc:LCg.NsObj oC m₂) (ry:bj φ T acc ys) (st:St f m φ T ((I1,o1)::(I,oI)::(cc,oC)::(D,LCg.lst ys)::Z) H h) :
  codeAny (model C.prog C.w) A (.compLoop (iY x y y x px py pz pw iter scope pos) 1 (.ref I1) (.ref D) env) R (sh s h tk):=by
 refine codeAny_loop rfl (By f m φ T Z H I I1 cc D oI j vs acc s) ?_ (vs.length - 0) (By.mk (s:=s) (Nat.zero_le _) hi hc (by rw [List.take_zero,List.append_nil];exact ry) st)
 clear hi hc ry st
 intro n s' K
 refine K fun h tk k ys o1 oC m₂ es en hk' hi hc ry st=>?_
 clear K
 subst es en
 show wpAny _ A ((compTurn (iY x y y x px py pz pw iter scope pos) 1 (.ref I1) (.ref D) env).onRaise (fun x=>do noteFrame x env;theTreesLotGoes x)) _ _ _
 refine wpAny_noted ?_
 rw [Mf]
 refine wpAny_bind (wpAny_standAt (wpAny_bind ?_))
 by_cases hlt:k<vs.length
 ·have IL:(Src.list j k).next H=some (some (vs[k],.list j (k+1))):=by
   show(lst H j).bind _ = _
   rw [hl,Option.bind_some,List.getElem?_eq_getElem hlt];rfl
  refine vE (s:=(sh s h tk)) (Zc:=[]) st hi IL fun v o' h' tk' rv hi' st'=>?_
  refine wpAny_bind (wpAny_assign_Name (wpAny_storeName_local hy (by rw [hloc];exact hc.ns (st'.old (p:=(cc,oC)) (.tail _ (.tail _ (.head _))))) (fun h₂ hn₂ hs₂=>?_) (by rw [hk];rfl)))
  rw [hloc]at hn₂ hs₂
  obtain⟨tJ,Me,HG⟩:=LCg.ns_obj hn₂
  have bN:=St.ng (Zc:=[(I1,o'),(I,oI)]) st' hs₂ Me
  refine wpAny_bind (wpAny_bind (wpAny_Name (wpAny_loadName_local (v:=v) hk hy (by rw [hloc];exact hn₂) (if_pos rfl) ?_) hxy))
  refine wpAny_bind (append_at (hsz:=by
   rw [List.size_toArray,ry.length,List.length_append,List.length_take,sizeLine_eq]
   exact Nat.le_trans (Nat.le_trans (Nat.add_le_add_left (Nat.min_le_right _ _) _) hz) (by decide)) (bN.old (p:=(D,LCg.lst ys)) (.tail _ (.tail _ (.tail _ (.head _))))) fun h₅ IM IP=>?_)
  refine wpAny_pure (wpAny_pure ⟨rfl,vs.length - (k+1),Nat.sub_lt_sub_left hlt (Nat.lt_succ_self k),By.mk (s:=s) hlt hi' HG ?_ (St.ng (Zc:=[(I1,o'),(I,oI),(cc,tJ)]) bN IM (IP.trans (congrArg some (LCg.lst_snoc ys v))))⟩)
  rw [List.take_succ_eq_append_getElem hlt,<- List.append_assoc]
  exact ry.append (.one rv)
 ·have hke:k=vs.length:=Nat.le_antisymm hk' (Nat.le_of_not_lt hlt)
  have IL:(Src.list j k).next H=some none:=by
   show(lst H j).bind _ = _
   rw [hl,Option.bind_some,List.getElem?_eq_none (Nat.le_of_not_lt hlt)];rfl
  refine zJ (s:=(sh s h tk)) (Zc:=[]) st hi hA IL fun h' st' _=>wpAny_pure (X4 ys oC m₂ h' tk hc ?_ st')
  rw [hke,List.take_length]at ry;exact ry
theorem IV{iy:Prop}{n:Nat}{src:Src}{acc fv:List V}{H:AH}(hT:flat (n+1) src acc H=some fv)(h0:src.next H=some none->acc=fv->iy)
  (h1:∀j src' vs,src.next H=some (some (.ref j,src'))->lst H j=some vs->acc.length+vs.length<=16777214->flat n src' (acc++vs) H=some fv->iy):iy:=by
 obtain⟨o,e,hT⟩:=Option.bind_eq_some_iff.mp hT
 cases o with
 |none=>exact h0 e (Option.some.inj hT)
 |some p =>
  obtain⟨j,hj,hT⟩:=Option.bind_eq_some_iff.mp hT
  obtain⟨vs,hv,hT⟩:=Option.bind_eq_some_iff.mp hT
  obtain⟨hz,hT⟩:=Option.ite_none_right_eq_some.mp hT
  exact h1 j p.2 vs (e.trans (by rw [← IT hj])) hv hz hT
noncomputable def sj(f:Fm C)(m:Str->Option Value)(φ:List Addr)(T Z:b7)(H:AH)(I cc D:Addr)(fv:List V)(s:Shared)(n:Nat)(s':Shared):Prop :=
 ∀{iy:Prop},(∀h tk src acc ys oI oC m₂,s'=(sh s h tk)->src.Is φ oI->LCg.NsObj oC m₂->bj φ T acc ys →
  St f m φ T ((I,oI)::(cc,oC)::(D,LCg.lst ys)::Z) H h->flat n src acc H=some fv->iy)->iy
theorem sj.mk{f:Fm C}{m:Str->Option Value}{φ:List Addr}{T Z:b7}{H:AH}{I cc D:Addr}{fv:List V}{s:Shared}{n:Nat}{h:Heap}{tk:Nat}{src:Src}{acc:List V}{ys:List Value}{oI oC:Obj}{m₂:Str->Option Value}
  (hi:src.Is φ oI) (hc:LCg.NsObj oC m₂) (ry:bj φ T acc ys) (st:St f m φ T ((I,oI)::(cc,oC)::(D,LCg.lst ys)::Z) H h) (hT:flat n src acc H=some fv):sj f m φ T Z H I cc D fv s n (sh s h tk) :=
 fun q=>q h tk src acc ys oI oC m₂ rfl hi hc ry st hT
theorem IW{f:Fm C}{env:Env}{m:Str->Option Value}{Z:b7}{A:Around}(hA:A.handled=none){I cc D:Addr}{x y:Str}{px py pz pw:Pos}{iter:Expr}{scope:Scope}{pos:Pos}{R:Result->Shared->Prop}{φ:List Addr}{T:b7}{s:Shared}{H:AH}{fv:List V}
  (hloc:env.locals=cc) (hx:env.kindOf x=some .local) (hy:env.kindOf y=some .local) (hk:env.scope.kind = .function) (hxd:(x==("__debug__" : Str))=false) (VD:(y==("__debug__" : Str))=false)
  (hR:∀ys oC m₂ h tk,LCg.NsObj oC m₂->bj φ T fv ys->St f m φ T ((cc,oC)::(D,LCg.lst ys)::Z) H h->R (.ok .next) (sh s h tk))
  (n:Nat) (src:Src) (h:Heap) (tk:Nat) (oI oC:Obj) (m₂:Str->Option Value) (hi:src.Is φ oI) (hc:LCg.NsObj oC m₂) (st:St f m φ T ((I,oI)::(cc,oC)::(D,LCg.lst [])::Z) H h) (hT:flat n src [] H=some fv) :
  codeAny (model C.prog C.w) A (.compLoop (iY x y y x px py pz pw iter scope pos) 0 (.ref I) (.ref D) env) R (sh s h tk):=by
 refine codeAny_loop rfl (sj f m φ T Z H I cc D fv s) ?_ n (sj.mk (s:=s) hi hc .nil st hT)
 clear hi hc st hT
 intro n s' K
 refine K fun h tk src acc ys oI oC m₂ es hi hc ry st hT=>?_
 clear K
 subst es
 show wpAny _ A ((compTurn (iY x y y x px py pz pw iter scope pos) 0 (.ref I) (.ref D) env).onRaise (fun x=>do noteFrame x env;theTreesLotGoes x)) _ _ _
 refine wpAny_noted ?_
 rw [IS]
 refine wpAny_bind (wpAny_standAt (wpAny_bind ?_))
 cases n with
 |zero=>cases hT
 |succ n =>
  refine IV hT (fun IL ea=>?_) fun j src' vs IL hv hz hT=>?_
  ·exact zJ (s:=(sh s h tk)) (Zc:=[]) st hi hA IL fun h' st' _=>wpAny_pure (hR ys oC m₂ h' tk hc (ea▸ry) st')
  ·refine vE (s:=(sh s h tk)) (Zc:=[]) st hi IL fun v o' h' tk' rv hi' st'=>?_
   obtain⟨a,rfl,ha⟩:=rv
   refine wpAny_bind (wpAny_assign_Name (wpAny_storeName_local hx (by rw [hloc];exact hc.ns (st'.old (p:=(cc,oC)) (.tail _ (.head _)))) (fun h₂ hn₂ hs₂=>?_) (by rw [hk];rfl)))
   rw [hloc]at hn₂ hs₂
   obtain⟨tJ,Me,HG⟩:=LCg.ns_obj hn₂
   have bN:=St.ng (Zc:=[(I,o')]) st' hs₂ Me
   refine wpAny_bind (wpAny_Name (wpAny_loadName_local (v := .ref a) hk hx (by rw [hloc];exact hn₂) (if_pos rfl) ?_) hxd)
   refine wpAny_bind (wpAny_standAt (wpAny_bind (wpAny_pure (wpAny_bind (wpAny_holding ?_)))))
   obtain⟨xs,g,rx⟩:=bN.dU ha hv
   refine wpAny_pyIter_list g ?_
   have eA:=St.qy (Zc:=[]) bN {cls := .type "list_iterator",data := .fields #[.ref a,.int 0 0]}
   refine wpAny_bind (wpAny_runOwn ?_)
   have L:=Mg (x:=x) (C:=C) (f:=f) (env:=env) (m:=m) (Z:=Z) (A:=A.mark none) (px:=px) (py:=py) (pz:=pz) (pw:=pw) (iter:=iter) (scope:=scope) (pos:=pos) (D:=D) (I:=I) (I1:=h₂.objs.size) (s:=s) (acc:=acc) (R:=fun r s'=>match r with
    | .ok _=>wpAny (model C.prog C.w) A (again (.compLoop (iY x y y x px py pz pw iter scope pos) 0 (.ref I) (.ref D) env)) (fun fin s'=>match fin with
     | .done fl=>R (.ok fl) s'
     | .again c'=>c' = .compLoop (iY x y y x px py pz pw iter scope pos) 0 (.ref I) (.ref D) env /\ ∃W1,W1<n+1/\sj f m φ T Z H I cc D fv s W1 s') (notedBy (model C.prog C.w) A env fun e s'=>R (.error e) s') s'
    | .error e=>cameBackBy (model C.prog C.w) A env (notedBy (model C.prog C.w) A env fun e s'=>R (.error e) s') e s')
    hA hloc hy hk VD hv hz o' (fun ys oC m₂ h tk ns ry st=>wpAny_pure ⟨rfl,n,Nat.lt_succ_self _,sj.mk (s:=s) hi' ns ry st hT⟩)
    _ (tk'+1) _ tJ _ ys ⟨a,ha,rfl,rfl⟩ HG ry eA
   exact IU L (vF (s:=(sh s _ (tk'+1))) eA List.mem_cons_self (src := .list j 0) ⟨a,ha,rfl,rfl⟩ L)
noncomputable def sq(a:EF):EF:=fun ρ H=>(iA a ρ H).bind fun p H=>cC (flat p.2 p.1 [] H) fun vs => .ok (.ref H.length) (H++[.list vs])
theorem IX{sc pJ:List (Str×NameKind)}{names:List Str}{scope:Scope}{x y:Str}{px py pz pw pos:Pos}{iter:Expr}{a:EF}(ok:vG sc scope x pJ)(hy:scope.names.lookup y=some .local)(hf:∀y∈scope.names,y.2 ≠ .free)(hxd:(x==("__debug__" : Str))=false)(VD:(y==("__debug__" : Str))=false)
  (ha:ez C false d sc names iter a) (hs:∀env x,foldedSetIterable iter env x=pure x:=by intro _ _;rfl):ez C cb d sc names (iY x y y x px py pz pw iter scope pos) (sq a):=fun f env m ρ φ T Z H s rm g er st Q E P=>by
 dsimp only
 rw [eval_ListComp]
 refine bS.any ?_
 show wpAny _ f.A (comprehension (iY x y y x px py pz pw iter scope pos) scope env _ (newList []) false (eval iter env) none) Q E s
 refine wpAny_comprehension_free (use:=none) rfl (hs env) (closureFor_none hf) ok.kind ok.locals (src_list ha f env m ρ φ T Z H s _ E rm g er st ?_)
 unfold sq at P
 revert P
 cases iA a ρ H with
 |exc H'=>exact fun P=>P
 |stuck=>exact fun P=>P
 |ok p H' =>
  rw [R.cZ]
  cases hT:flat p.2 p.1 [] H' with
  |none=>exact fun P=>P.elim
  |some vs =>
   intro P bc T' I oI h tk e hi st'
   refine wpAny_newObj_type (wpAny_newFunctionEnv ok.cell (fun y hy=>absurd hy List.not_mem_nil) (fun h₁ Dr Ds=>?_) ok.kind)
   obtain⟨oC,Me,HG⟩:=LCg.ns_obj Dr
   have st3:=St.ng (Zc:=[(I,oI)]) (St.qy (Zc:=[(I,oI)]) (St.qy (Zc:=[(I,oI)]) st' (LCg.lst [])) {cls := .type "dict",data := .dict #[]}) Ds Me
   have L:=IW (C:=C) (f:=f) (env:=compEnvC scope [] (h.push (LCg.lst [])).objs.size env) (m:=m) (Z:=Z) (A:=f.A) rfl (I:=I) (cc:=(h.push (LCg.lst [])).objs.size) (D:=h.objs.size) (px:=px) (py:=py) (pz:=pz) (pw:=pw) (iter:=iter) (scope:=scope) (pos:=pos) (R:=compPost (model C.prog C.w) f.A E none Q (.ref h.objs.size) (h.push (LCg.lst [])).objs.size) (s:=s) rfl (lookup_relabel_local ok.hx) (lookup_relabel_local hy) ok.kind hxd VD
    (fun ys oC m₂ h₂ tk₂ ns rv bN=>⟨m₂,ns.ns (bN.old (p:=(_,oC)) (.head _)),fun h'' IR=>by
     obtain⟨R4,kT,r⟩:=St.promote (ao := .list vs) (St.vt (Zc:=[]) bN IR.extBut) ⟨ys,_,rfl,rv⟩
     exact P _ _ _ h'' tk₂ (e.trans kT) R4 r⟩) p.2 p.1 h₁ tk oI oC _ hi HG st3 hT
   exact codeAny_compStart_list L (vF (s:=(sh s h₁ tk)) st3 List.mem_cons_self hi L)
end
section
open PySem.Builtin PySem.Builtin.ObjectAttr
noncomputable def lZ:List Value->Bool
 | .ref _::r=>lZ r
 |l=>l == [.type "Exception",.type "BaseException",.type "object"]
theorem tL{P:List Value->Prop}(h0:P [.type "Exception",.type "BaseException",.type "object"])(h1:∀c r,P r->P (.ref c::r)){l:List Value}(e:lZ l=true):P l:=by
 induction l with
 |nil=>exact absurd e (by decide)
 |cons v r ih =>
  cases v with
  |ref c=>exact h1 c r (ih e)
  |_=>exact(beq_iff_eq.mp e:_::r = _)▸h0
theorem BA(self:Value){l:List Value}(e:lZ l=true):refuseLoop self "__setattr__" l=pure () :=
 tL (P:=fun l=>refuseLoop self "__setattr__" l=pure ()) (PySem.F.store_Exception.passes self) (fun c r h=>by rw [refuseLoop_ref];exact h) e
theorem vH{l:List Value}(e:lZ l=true):l.contains (.type "object")=true/\l.contains (.type "BaseException")=true :=
 tL (P:=fun l=>l.contains (.type "object")=true/\l.contains (.type "BaseException")=true) (by decide +kernel) (fun c r h=>by rw [List.contains_cons,List.contains_cons,h.1,h.2,Bool.or_true,Bool.or_true];exact⟨rfl,rfl⟩) e
section
variable{prog:Program}{w:World}{A:Around}{E:Value->Shared->Prop}{s:Shared}{K:Frag}{x C:Addr}{cd:ClassData}{R:Result->Shared->Prop}
theorem Mh{ox:Obj}{vs:Array Value}{name:Str}{tk:Tok}{v:Value}(X:K.In s.heap)(hc:clsIn K C=some cd)(hm:lZ cd.mro=true)(hd':cd.hasDict=true)(hx:s.heap.get? x=some ox)(hcl:ox.cls = .ref C)(hf:ox.data = .fields vs)(hdn:ox.dict=none)(ht:takerIn K C name=some none)
  (h:∀h' dx tk',(∀b o,b≠x->s.heap.get? b=some o->h'.get? b=some o)->h'.get? x=some {ox with dict:=some dx}->R (.ok (.ret .none)) (sh s h' tk')) :
  codeAny (model prog w) A (.call (.builtin "object.__setattr__") ⟨[.ref x,.str name tk,v],[]⟩) R s:=by
 have SF:=PySem.F.store_object
 have T:Looks (model prog w) s.heap (typeOf (.ref x)) (.ref C):=by
  have:=(Looks.ld (M:=model prog w) (part:=some headPart) hx).andThen (f:=fun o=>pure o.cls) .now
  rw [← hcl];exact this
 have ne:cd.mro.isEmpty=false:=by cases q:cd.mro with | nil=>rw [q]at hm;cases hm | cons _ _=>rfl
 have sub:Looks (model prog w) s.heap (isInstance (.ref x) (.type "object")) true:=T.andThen (looks_mroIn X (by unfold mroIn;rw [hc,Option.bind_some,if_neg (by rw [ne];decide),(vH hm).1]))
 refine codeAny_call_builtin SF.slot.plain SF.entry (@check_slot (model prog w) _ _ s "object.__setattr__" "object" "__setattr__" (.ref x) [.str name tk,v] [] _ SF.kind SF.split sub (SF.args (.ref x) (.str name tk) v) ?_)
 obtain⟨attr,ha,hr⟩:=Option.bind_eq_some_iff.mp ht
 have X5:Looks (model prog w) s.heap (mroOf (.ref C)) cd.mro:=(looks_clsIn X hc).andThen .now
 have L3:Looks (model prog w) s.heap (storeTaker? attr) none:=by
  cases attr with
  |none=>exact .now
  |some a =>
   obtain⟨b,hb,hbn⟩:=Option.map_eq_some_iff.mp hr
   refine(looks_takesIn X hb).andThen ?_
   cases b with
   |true=>cases hbn
   |false=>exact .now
 rw [osa_eq,refuse_eq]
 refine wpAny_bind (wpAny_bind (T.here (wpAny_bind (X5.here ?_))))
 rw [BA _ hm]
 refine wpAny_pure (wpAny_bind (T.here (wpAny_bind ((looks_findIn X ha).here (wpAny_bind (L3.here ?_))))))
 show wpAny _ _ (storeInOwnDict (.ref x) (.ref C) (.str name tk) name v attr.isSome) _ _ _
 refine wpAny_bind (wpAny_pure (wpAny_bind (wpAny_bind (wpAny_loadPart hx ?_))))
 obtain⟨hp,g,d,t,os⟩:=s
 obtain⟨oc,od,YW,osl⟩:=ox
 dsimp only at hcl hf hdn hx
 subst hcl hf hdn
 refine wpAny_bind ((looks_clsIn X hc).here ?_)
 rw [hd']
 show wpAny _ _ (do
  let d<-alloc {cls := .type "dict",data := .dict #[]}
  update x fun o=>{o with dict:=some d}
  dictMade (.ref C) x d) _ _ _
 have Oa:(hp.push {cls := .type "dict",data := .dict #[]}).get? x=some ⟨.ref C,none,.fields vs,osl⟩:=Heap.get?_push_of_some _ hx
 have hxs:x≠hp.objs.size:=Nat.ne_of_lt (Heap.lt_size hx)
 refine wpAny_bind (wpAny_alloc' ?_)
 refine wpAny_bind (wpAny_update' Oa ?_)
 refine wpAny_pure ?_
 have hgd:((hp.push {cls := .type "dict",data := .dict #[]}).update x fun o=>{cls:=o.cls,dict:=some hp.objs.size,data:=o.data,slots:=o.slots}).get? hp.objs.size
   = some {cls := .type "dict",data := .dict #[]} :=
  (Heap.get?_update_ne _ _ _ _ hxs.symm).trans (Heap.get?_push_at rfl rfl)
 have hnd:((hp.push {cls := .type "dict",data := .dict #[]}).update x fun o=>{cls:=o.cls,dict:=some hp.objs.size,data:=o.data,slots:=o.slots}).Ns hp.objs.size (fun _=>none) :=
  ⟨_,#[],_,hgd,rfl,fun e he=>absurd he (by simp),fun _=>rfl⟩
 show wpAny _ _ (storeInDict hp.objs.size (.str name tk) name v) _ _ _
 unfold storeInDict newKeyGuard
 refine wpAny_bind (wpAny_pure (wpAny_bind (wpAny_nsSet1 (Heap.Ns1.of_empty hnd) fun h' hn' hs=>?_)))
 obtain⟨oD,YX,YY,X6,X7,X8⟩:=hn'.count (Within.cons name v Within.nil)
 refine wpAny_bind (wpAny_lookBehind X6 (by rw [X7];exact pastItsLine_dict (Nat.le_trans X8 (by rw [List.length_cons,List.length_nil,sizeLine_eq];lia))) ?_)
 refine wpAny_pure (h h' hp.objs.size _ (fun b o hb q=>?_) ?_)
 ·exact(hs.2 b (Nat.ne_of_lt (Heap.lt_size q))).trans ((Heap.get?_update_ne _ _ _ _ hb).trans (Heap.get?_push_of_some _ q))
 ·exact(hs.2 x hxs).trans (Heap.get?_update_self _ Oa rfl)
end
section
variable{prog:Program}{w:World}{A:Around}{E:Value->Shared->Prop}{h:Heap}{g:Array GenState}{d:Drawn}{t:Nat}{os:OsState}{K:Frag}
variable{nm q:Str}{C N:Addr}{bs bm:List Value}{hdct:Bool}{sn:List Str}{sub:List Value}{ab:Bool}{col:Option Bool}{dd:Option Addr}{k0 k1 k2 k3 k5:Option Value}{Bn newId inN:String}{bmN:List Value}
theorem GN(Fn:ExcBaseFacts Bn newId inN bmN)(hB:bm.contains (.type Bn)=true){M:Model}{rest:List Value}{Q:Unit->Shared->Prop}(hC:h.get? C=some (excClassObj nm q C N bs bm hdct sn sub ab col dd k0 k1 k2 k3 k5 newId))
  (hq:Q () ⟨h,g,d,t,os⟩):wpAny M A (checkBuiltinCall newId ⟨.ref C::rest,[]⟩) Q E ⟨h,g,d,t,os⟩:=wpAny_check_new_subU Fn hB .base hC hq
theorem Mi{R:Result->Shared->Prop}(Fn:ExcBaseFacts Bn newId inN bmN)(hB:bm.contains (.type Bn)=true)(hA:bm.contains (.type "AttributeError")=false)(hN:bm.contains (.type "NameError")=false){rest:List Value}(hC:h.get? C=some (excClassObj nm q C N bs bm hdct sn sub ab col dd k0 k1 k2 k3 k5 newId))
  (hq:R (.ok (.ret (.ref (h.objs.size+1)))) ⟨(h.push {cls := .type "tuple",data := .seq rest.toArray}).push
   {cls := .ref C,data := .fields #[.ref h.objs.size,.none,.none,.none,.bool false,.none]},g,d,t,os⟩) (hrest:rest.length<=sizeLine) :
  codeAny (model prog w) A (.builtin newId ⟨.ref C::rest,[]⟩) R ⟨h,g,d,t,os⟩:=by
 have W2:=Fn.ends
 have VE:(Value.ref C::bm).contains (.type Bn)=true:=by rw [List.contains_cons,hB,Bool.or_true]
 have X9:(Value.ref C::bm).contains (.type "AttributeError")=false:=by rw [List.contains_cons,hA];rfl
 have hcN:(Value.ref C::bm).contains (.type "NameError")=false:=by rw [List.contains_cons,hN];rfl
 refine codeAny_builtinAt Fn.entry ?_
 unfold Builtin.«BaseException.__new__»
 refine PySem.wpAt_bind ?_
 show PySem.wpAt _ _ _ (stack >>= _) _ _ _
 refine PySem.wpAt_bind (PySem.wpAt_stack fun p below=>PySem.wpAt_of_wpAny ?_)
 wp_walk
 refine PySem.wpAt_of_wpAny ?_
 rw [Fn.owner]
 repeat (first | with_reducible refine wpAny_madeHere_exc Fn.canon hC ?_ | with_reducible refine wpAny_loadPart_at hC ?_ | (with_reducible refine wpAny_isSubtype_exc hC ?_;first | rw [VE] | rw [X9] | rw [hcN]) | wp_step)
 show R _ _
 rw [Heap.size_push]
 exact hq
theorem IY(Fn:ExcBaseFacts Bn newId inN bmN)(hB:bm.contains (.type Bn)=true)(hA:bm.contains (.type "AttributeError")=false)(hN:bm.contains (.type "NameError")=false){rest:List Value}{fI:Addr}{Q:Value->Shared->Prop}(X:K.In h)
  (hC:h.get? C=some (excClassObj nm q C N bs bm hdct sn sub ab col dd k0 k1 k2 k3 k5 newId)) (hi:findIn K (.ref C) "__init__" = some (some (.ref fI))) (hf:typeIn K (.ref fI)=some (.type "function")) (hrest:rest.length<=sizeLine)
  (hq:∀h' e,Heap.MadeExcOf h h' e (.ref C) rest →
   wpAny (model prog w) (A.under (.builtin "type.__call__" ⟨.ref C::rest,[]⟩)) (call (.ref fI) (.ref e::rest)) (fun r s'=>r = .none/\Q (.ref e) s') E ⟨h',g,d,t,os⟩) :
  wpAny (model prog w) A (call (.ref C) rest) Q E ⟨h,g,d,t,os⟩:=by
 have f1:=tc_lookup
 have f2:=tc_bind (.ref C)
 have hT:(⟨h,g,d,t,os⟩:Shared).TypeIs (.ref C) "type" := ⟨_,hC,rfl⟩
 refine wpAny_call (codeAny_of_tree ?_)
 show wpAny _ _ (callAny (.ref C) _) _ _ _
 repeat (any_goals (first | assumption | with_reducible refine wpAny_loadPart_at hC ?_ | wp_step))
 refine⟨rfl,?_⟩
 refine codeAny_call_builtin_at (Code.quiet_builtin _ (by decide +kernel)) entry_typeCall (wpAny_check_type_call_sub hC ?_)
 repeat (first | with_reducible refine wpAny_loadPart_at hC ?_ | with_reducible refine wpAny_madeBy_exc hC ?_ | wp_step)
 refine codeAny_call_builtin_code (Code.quiet_builtin _ Fn.quiet) (GN Fn hB hC ?_)
 refine Mi Fn hB hA hN hC ?_ hrest
 show wpAny _ _ _ _ _ _
 have k:∀b o,h.get? b=some o->((h.push {cls := .type "tuple",data := .seq rest.toArray}).push {cls := .ref C,data := .fields #[.ref h.objs.size,.none,.none,.none,.bool false,.none]}).get? b=some o :=
  fun b o e=>Heap.get?_push_of_some _ (Heap.get?_push_of_some _ e)
 have Ob:=k _ _ hC
 have hget:((h.push {cls := .type "tuple",data := .seq rest.toArray}).push
   {cls := .ref C,data := .fields #[.ref h.objs.size,.none,.none,.none,.bool false,.none]}).get? (h.objs.size+1)=some
   {cls := .ref C,data := .fields #[.ref h.objs.size,.none,.none,.none,.bool false,.none]}:=by heap_get
 have hcC:(Value.ref C::bm).contains (.ref C)=true:=by simp
 unfold isInstance
 repeat (first | with_reducible refine wpAny_loadPart_at hget ?_ | (with_reducible refine wpAny_isSubtype_exc Ob ?_;rw [hcC]) | wp_step)
 refine wpAny_isSubtype_exc Ob ?_
 rw [hcC]
 repeat (first | with_reducible refine wpAny_loadPart_at hget ?_ | wp_step)
 show wpAny _ _ (typeLookup (.ref C) _) _ _ _
 refine(looks_findIn (M:=model prog w) (X.keeps k) hi).here ?_
 refine wpAny_holding (wpAny_bind ?_)
 refine(bind_fn (M:=model prog w) (X.keeps k) (.ref (h.objs.size+1)) hf).here ?_
 refine wpAny_bind (wpAny_mono (hq _ (h.objs.size+1) ⟨k,Heap.get?_none_of_le (Nat.le_succ _),h.objs.size,hget,Heap.get?_none_of_le (Nat.le_refl _),?_⟩) (fun r s' hr=>?_) fun _ _ x=>x)
 ·exact Heap.get?_push_of_some _ (Heap.get?_push_at rfl rfl)
 ·obtain⟨rfl,hQ⟩:=hr
  wp_walk
  exact hQ
end
end
section
variable{C:Cfg}{cb:Bool}{d:Nat}
structure vI(C:Cfg):Prop where
 cls:∀{g:Prop},(∀nm q N bs bm sn sub ab col dd k0 k1 k2 k3 k5,C.K.lookup C.exc=some (excClassObj nm q C.exc N bs bm true sn sub ab col dd k0 k1 k2 k3 k5 "Exception.__new__") →
  lZ bm=true →
  bm.contains (.type "Exception")=true →
  bm.contains (.type "AttributeError")=false →
  bm.contains (.type "NameError")=false->g)->g
 init:∀{g:Prop},(∀fI oc od name qual params p1 p2 p3 p4 p5 scope dV kV doc pm cdv ct an osl,findIn C.K (.ref C.exc) "__init__" = some (some (.ref fI)) →
  (typeIn C.K (.ref fI)=some (.type "function")) →
  (C.K.lookup fI=some ⟨oc,od,.func (fnOf name qual params [.Assign [.Attribute (.Name (Str.ofString "self") p1) (Str.ofString "message") p2] (.Name (Str.ofString "message") p3) p4] scope dV kV doc pm an cdv ct),osl⟩) →
  codeIn C.K cdv qual=true →
  (∀s a b,BindsTo s (fnOf name qual params [.Assign [.Attribute (.Name (Str.ofString "self") p1) (Str.ofString "message") p2] (.Name (Str.ofString "message") p3) p4] scope dV kV doc pm an cdv ct) ⟨[a,b],[]⟩ [(Str.ofString "self",a),(Str.ofString "message",b)]) →
  (scope.kind = .function) →
  scope.isCoroutine=false →
  scope.isGenerator=false →
  (scope.names.all (fun x=>x.2 != .cell)=true) →
  scope.names.lookup (Str.ofString "self")=some .local →
  scope.names.lookup (Str.ofString "message")=some .local →
  p5=p4.line->g)->g
 VF:findIn C.K (.ref C.exc) "__setattr__" = some (some (.builtin "object.__setattr__"))
 Iu:takerIn C.K C.exc "message" = some none
theorem vI.of{nm q:Str}{N:Addr}{bs bm:List Value}{sn:List Str}{sub:List Value}{ab:Bool}{col:Option Bool}{dd:Option Addr}{k0 k1 k2 k3 k5:Option Value}
  {fI:Addr} {oc:Value} {od:Option Addr} {name qual:Str} {params:Arguments} {p1 p2 p3 p4:Pos} {scope:Scope} {dV kV doc pm cdv ct:Value} {an:Option Addr} {osl:Array (Option Value)}
  (hC:C.K.lookup C.exc=some (excClassObj nm q C.exc N bs bm true sn sub ab col dd k0 k1 k2 k3 k5 "Exception.__new__")) (h1:lZ bm=true) (h2:bm.contains (.type "Exception")=true) (h3:bm.contains (.type "AttributeError")=false) (h4:bm.contains (.type "NameError")=false)
  (hi:findIn C.K (.ref C.exc) "__init__" = some (some (.ref fI))) (ht:typeIn C.K (.ref fI)=some (.type "function"))
  (hK:C.K.lookup fI=some ⟨oc,od,.func (fnOf name qual params [.Assign [.Attribute (.Name (Str.ofString "self") p1) (Str.ofString "message") p2] (.Name (Str.ofString "message") p3) p4] scope dV kV doc pm an cdv ct),osl⟩) (hcd:codeIn C.K cdv qual=true)
  (hb:∀s a b,BindsTo s (fnOf name qual params [.Assign [.Attribute (.Name (Str.ofString "self") p1) (Str.ofString "message") p2] (.Name (Str.ofString "message") p3) p4] scope dV kV doc pm an cdv ct) ⟨[a,b],[]⟩ [(Str.ofString "self",a),(Str.ofString "message",b)])
  (hk:scope.kind = .function) (hco:scope.isCoroutine=false) (hgen:scope.isGenerator=false) (hn:scope.names.all (fun x=>x.2 != .cell)=true) (hs:scope.names.lookup (Str.ofString "self")=some .local) (VG:scope.names.lookup (Str.ofString "message")=some .local)
  (VH:findIn C.K (.ref C.exc) "__setattr__" = some (some (.builtin "object.__setattr__"))) (htk:takerIn C.K C.exc "message" = some none):vI C :=
 ⟨fun k=>k _ _ _ _ _ _ _ _ _ _ _ _ _ _ _ hC h1 h2 h3 h4,fun k=>k _ _ _ _ _ _ _ _ _ _ _ _ _ _ _ _ _ _ _ _ hi ht hK hcd hb hk hco hgen hn hs VG rfl,VH,htk⟩
theorem Mj(ok:vI C):ktsIn C.K C.exc "BaseException" = true:=by
 refine ok.cls fun nm q N bs bm sn sub ab col dd k0 k1 k2 k3 k5 hC hb1 qf BB GO=>?_
 unfold ktsIn
 rw [hC]
 show(C.exc==C.exc && !false&&bm.contains (.type "BaseException")&&bm.contains (.type "BaseException"))=true
 rw [beq_self_eq_true,(vH hb1).2];rfl
theorem IZ(ok:vI C){f:Fm C}{m:Str->Option Value}{φ:List Addr}{T Z:b7}{H:AH}{s:Shared}{h':Heap}{e:Addr}{msg:Value}{Q:Value->Shared->Prop}{E:Value->Shared->Prop}{fI:Addr}(hfI:findIn C.K (.ref C.exc) "__init__" = some (some (.ref fI)))(rm:iC f 1)(st:St f m φ T Z H s.heap)
  (M:Heap.MadeExcOf s.heap h' e (.ref C.exc) [msg]) (k:∀h₂ tk t dx,MadeX s.heap h₂ e (.ref C.exc)->h₂.get? e=some {cls := .ref C.exc,dict:=some dx,data := .fields #[.ref t,.none,.none,.none,.bool false,.none]}->Q .none (sh s h₂ tk)) :
  wpAny (model C.prog C.w) (f.lower 1 1).A (call (.ref fI) [.ref e,msg]) Q E {s with heap:=h'}:=by
 refine ok.init fun YZ oc od name qual params p1 p2 p3 p4 p5 scope dV kV doc pm cdv ct an osl hi hty hK hcd hbind hk hco hgen hnc hself R5 _=>?_
 rw [hfI]at hi
 cases hi
 refine ok.cls fun nm q N bs bm sn sub ab col dd k0 k1 k2 k3 k5 hC hb1 qf BB GO=>?_
 have X:=st.Lu
 have X':C.K.In h':=fun a o q=>M.keeps a o (X a o q)
 obtain⟨h₀,obs,G,F,Nn,O,nd,off⟩:=st
 obtain⟨t,he,-,-⟩:=M.there
 refine wpAny_call (LD (jA (cb:=false) (fd:=fnX name qual params _ scope [] dV kV doc pm an cdv ct) (body:=[.Assign [.Attribute (.Name (Str.ofString "self") p1) (Str.ofString "message") p2] (.Name (Str.ofString "message") p3) p4]) (binds:=[(Str.ofString "self",.ref e),(Str.ofString "message",msg)]) rm.dp (X' _ _ hK) rfl ((G.P.nolimit.keeps F.keep).keeps M.keeps) (codeRec_of X' hcd) rfl
  (hbind _ _ _) (fun x hx=>bne_iff_ne.mp (List.all_eq_true.mp hnc x hx)) (fun x hx=>by
   rcases List.mem_cons.mp hx with rfl | hx
   ·exact hself
   ·exact List.mem_singleton.mp hx▸R5) (fun h₁ hns hk₁=>?_) hco hgen hk))
 have R6:C.K.In h₁:=fun a o q=>hk₁ a o (X' a o q)
 refine fy (iO (bS.any (wpAny_Name (wpAny_loadName_local (v:=msg) hk R5 hns ?_ ?_) (by decide))) rfl)
 ·rfl
 refine wpAny_Name (wpAny_loadName_local (v := .ref e) hk hself hns ?_ ?_) (by decide)
 ·rfl
 have Im:h₁.get? e=some {cls := .ref C.exc,data := .fields #[.ref t,.none,.none,.none,.bool false,.none]}:=hk₁ _ _ he
 have I:InstAt h₁ e {cls := .ref C.exc,data := .fields #[.ref t,.none,.none,.none,.bool false,.none]} C.exc none:=⟨Im,rfl,rfl,trivial⟩
 have hcl:clsIn C.K C.exc=some {name:=nm,bases:=bs,mro := .ref C.exc::bm,ns:=N,qualname:=q,hasDict:=true,slotNames:=sn,subclasses:=sub,abstract:=ab,collection:=col,hasDel:=false}:=by
  unfold clsIn;rw [hC]
 refine set_plain (s:=(sh s h₁ _)) R6 I ok.VF (Mh (s:=(sh s h₁ _)) R6 hcl hb1 rfl Im rfl rfl rfl ok.Iu fun h₂ dx tk' kp hx=>?_)
 refine kP (k h₂ tk' t dx ⟨fun b o q=>?_,M.new,_,_,_,hx,rfl,rfl,rfl,rfl⟩ hx)
 exact kp b o (fun z=>Mine.ns (M.new.symm.trans (z▸q))) (hk₁ _ _ (M.keeps b o q))
theorem Du{M:Model}{A:Around}{E:Value->Shared->Prop}{env:Env}{s:Shared}{x:Sem Value}{Q:Flow->Shared->Prop}{nm q:Str}{C N:Addr}{bs bm:List Value}{hdct:Bool}{sn:List Str}{sub:List Value}{ab:Bool}{col:Option Bool}{dd:Option Addr}{k0 k1 k2 k3 k5:Option Value}{newId:String}(hbase:bm.contains (.type "BaseException")=true)(hh:A.handled=none)
  (h:bS cb M A x (fun v s₁ => ∃e t dx,v = .ref e/\s₁.heap.get? C=some (excClassObj nm q C N bs bm hdct sn sub ab col dd k0 k1 k2 k3 k5 newId) ∧
   s₁.heap.get? e=some {cls := .ref C,dict:=some dx,data := .fields #[.ref t,.none,.none,.none,.bool false,.none]}/\E (.ref e) s₁) E s) :
  bS cb M A (raiseStmt env (some x) none) Q E s:=by
 have VE:(Value.ref C::bm).contains (.type "BaseException")=true:=by rw [List.contains_cons,hbase,Bool.or_true]
 unfold raiseStmt
 refine bw (cJ h (fun v s₁ h₁=>?_) fun _ _ x=>x)
 obtain⟨e,t,dx,rfl,hC,he,hE⟩:=h₁
 obtain⟨hp,g,d,tk,os⟩:=s₁
 refine bS.any ?_
 repeat (first | with_reducible refine wpAny_loadPart_at he ?_ | with_reducible refine wpAny_loadPart_at hC ?_ | (with_reducible refine wpAny_isSubtype_exc hC ?_;rw [VE]) | wp_step)
 exact wpAny_raiseNew_none hh hE
noncomputable def PC:List V->AH->RS
 | [_],H => .exc H
 |_,_ => .stuck
noncomputable def jM(a:EF):SF:=fun ρ H=>rs (a ρ H) fun _ H => .exc H
theorem BC{sc:Scope}{names:List Str}{x:Str}{np cpos pos:Pos}{e:Expr}{a:EF}(ok:vI C)(hn:aW C sc.names x (.ref C.exc))(ha:ez C cb (d+1) sc.names names e a)(he:∀env,starEach [e] env=(false,eval e env)::starEach [] env:=by intro _;rfl) :
  oS C cb (d+1) sc names (.Raise (some (.Call (.Name x np) [e] [] cpos)) none pos) (jM a):=fun f hf m ρ φ T Zc Z H s Q E rm po es st P=>by
 refine ok.cls fun nm q N bs bm sn sub ab col dd k0 k1 k2 k3 k5 hC hb1 qf BB GO=>?_
 refine ok.init fun fI oc od name qual params p1 p2 p3 p4 p5 scope dV kV doc pm cdv ct an osl hi hty _ _ _ _ _ _ _ _ _ _=>?_
 dsimp only
 rw [arm_exec_Raise]
 refine bM (Du (C:=C.exc) (nm:=nm) (q:=q) (N:=N) (bs:=bs) (bm:=bm) (hdct:=true) (sn:=sn) (sub:=sub) (ab:=ab) (col:=col) (dd:=dd) (k0:=k0) (k1:=k1) (k2:=k2) (k3:=k3) (k5:=k5) (newId := "Exception.__new__") (vH hb1).2 rfl ?_)
 show bS cb _ f.A ((eval (.Name x np) f.env >>= fun fv=>callWith cpos fv [] (backTo cpos (starEach [e] f.env)) []) >>= fun v=>PySem.standAt pos >>= fun _=>pure v) _ E s
 have hl:HE C cb (d+1) sc.names names [e] (af a aC):=aa ha aj he
 have keep:∀h,C.K.In h -> ∃k,(k=Keeper.frame\/k=Keeper.machine\/k=Keeper.boundFrame)/\Looks (model C.prog C.w) h (keeperOf (.ref C.exc)) k:=fun h X=>⟨.machine,.inr (.inl rfl),by
  intro A Q E s hs hq
  obtain⟨hp,g,dw,t,os⟩:=s
  exact wpAny_keeperOf_exc (hs _ _ (X _ _ hC)) hq⟩
 refine bw (aQ (hn f f.env m φ T (Zc++Z) H s np _ _ (gT hf) st (fB (P:=C.K.In) (hl.plain f.env cpos) keep ((hl.run cpos f f.env m ρ φ T (Zc++Z) H s rm (gT hf) es.Pp st).ou (es:=ES f names) (Q:=Q) (kr:=PC) ?_ fun vs H' bc T' xs h' tk' ext st' rv P=>?_))))
 ·unfold jM at P
  unfold af aC
  revert P
  cases a ρ H<;>exact fun P=>P
 ·refine⟨st'.Lu,?_⟩
  cases vs with
  |nil=>exact P.elim
  |cons v vs =>
   cases vs with
   |cons=>exact P.elim
   |nil =>
    obtain⟨y,r,rfl,-,rfl⟩:=rv
    refine bS.any (IY (K:=C.K) PySem.F.excBase_Exception qf BB GO st'.Lu (st'.Lu _ _ hC) hi hty (by rw [sizeLine_eq];exact(by decide:1<=16777216)) fun h₂ e' M=>?_)
    rw [WZ]
    refine IZ (s:=(sh s h' tk')) ok hi (f:=f) (rm.up (Nat.le_add_left 1 d)) st' M fun h₃ j8 t dx MX hx=>⟨rfl,?_⟩
    exact bM (bD ⟨e',t,dx,rfl,MX.1 _ _ (st'.Lu _ _ hC),hx,P e' h₃ j8 Zc (.made st' (.refl _ _) MX)⟩)
end
section
variable{C:Cfg}{cb:Bool}{d:Nat}{sc:List (Str×NameKind)}{names:List Str}
noncomputable def sr(i:Nat):EF:=fun ρ H=>(gA ρ i H).bind (nG fun k H=>if 1<=k/\k<=9 then .ok .oO H else .stuck)
theorem GP{n:Int}(h:1<=n/\n<=9):n.natAbs<16:=by lia
theorem I0{x a b:Str}{k k':Nat}{p np p' Yb pos:Pos}{i:Nat}(hi:names[i]? = some x)(hd:(x==("__debug__" : Str))=false)
  (hz:∀n:Int,1<=n/\n<=9->(Str.empty++a).length<=sizeLine/\(Str.empty++a++(toString n:Str)).length<=sizeLine/\(Str.empty++a++(toString n:Str)++b).length<=sizeLine):ez C cb d sc names (.JoinedStr [.Constant (.str a) k p,.FormattedValue (.Name x np) (-1) none p',.Constant (.str b) k' Yb] pos) (sr i):=fun f env m ρ φ T Z H s rm g er st Q E P=>by
 rcases zx ρ i H with h | ⟨v,h1,h2,h⟩
 ·rw [show sr i ρ H = .stuck by rw [sr,h];rfl]at P;exact P.elim
 ·rw [show sr i ρ H=nG (fun k H=>if 1<=k/\k<=9 then .ok .oO H else .stuck) v H by rw [sr,h];rfl]at P
  cases v with
  |int n =>
   obtain⟨hn,P⟩:=Post.guard P
   obtain⟨z1,z2,z3⟩:=hz n hn
   obtain⟨val,va,t,rfl⟩:=er.at_ i x _ hi h1 h2
   refine bS.any (JoinedStr_many (joinParts_cons (wpAny_Constant_str ⟨z1,?_⟩)))
   refine joinParts_cons (FormattedValue_plain (wpAny_Name (zz (s:={s with toks:=_}) g st va (formatField_int_small (Nat.lt_of_le_of_lt (Nat.log2_le_self _) (Nat.lt_of_lt_of_le (GP hn) (by decide))) ⟨z2,?_⟩)) hd))
   exact joinParts_cons (wpAny_Constant_str ⟨z3,joinParts_nil (P φ T _ s.heap _ (.refl _ _) st trivial) z3⟩)
  |_=>exact P.elim
end
section
variable{cb:Bool}{prog:Program}{w:World}{A:Around}{E:Value->Shared->Prop}{s:Shared}{env:Env}
theorem vJ{body orelse:List Stmt}{h₀:ExceptHandler}{hs:List ExceptHandler}{pos:Pos}{Q:Flow->Shared->Prop}
  (h:bS cb (model prog w) A (execs body env) (fun f s₁=>match f with | .next=>bS cb (model prog w) A (execs orelse env) Q E s₁ | f=>Q f s₁)
   (fun e s₁=>wpAny (model prog w) A (noteFrame e env) (fun _ s₂=>wpAny (model prog w) A (setFlight e none) (fun _ s₃=>wpAny (model prog w) A (handleBy e env (h₀::hs)) Q E s₃) E s₂) E s₁) s) :
  bS cb (model prog w) A (exec (.Try body (h₀::hs) orelse [] pos) env) Q E s:=by
 rw [arm_exec_Try]
 refine bM (bw (A0 (cJ h (fun f s₁ h₁=>?_) fun e s₁ h₁=>?_)))
 ·cases f with
  |next=>exact h₁
  |_=>exact bD h₁
 ·exact bS.any (wpAny_bind (wpAny_mono h₁ (fun _ _ h₂=>bm_if_false rfl (wpAny_bind (wpAny_mono h₂ (fun _ _ h₃=>bm_if_false rfl (bm_if_false rfl h₃)) fun _ _ x=>x))) fun _ _ x=>x))
end
section
variable{prog:Program}{w:World}{A₀:Around}{E:Value->Shared->Prop}{s':Shared}{base g g₀ G:Heap}{outer:List Env}{L a e C:Addr}{m:Str->Option Value}{name:Str}{scope:Scope}{cd:Value}
 {b₀:Stmt} {suite:List Stmt} {pos np:Pos} {rest:List ExceptHandler} {Q:Flow->Shared->Prop} {news:List (Addr×Obj)} {KF:Frag}
 {p:Program} {loose:List Str} {mean:ExcName->Option Value} {mg mb:Str->Option Value} {x:Str}
theorem I2{h:Heap}{iy:Prop}(X:KF.In h)(q:ktsIn KF C "BaseException" = true)(k:∀nm q' N bs bm hdct sn sub ab col dd k0 k1 k2 k3 k5 newId,h.get? C=some (excClassObj nm q' C N bs bm hdct sn sub ab col dd k0 k1 k2 k3 k5 newId)->bm.contains (.type "BaseException")=true->iy):iy:=by
 obtain⟨nm,q',N,bs,bm,hdct,sn,sub,ab,col,dd,k0,k1,k2,k3,k5,newId,hC,hbase,Y0⟩:=kts_cls X q
 exact k nm q' N bs bm hdct sn sub ab col dd k0 k1 k2 k3 k5 newId hC hbase
theorem BD(R:RaisedSN base G (envOf name scope L a cd::outer) e (.ref C) news s'.heap)(F:Fr g L G m)(K:Below A₀ base outer g)(hsm:G.UpToSlots s'.heap)(XB:KF.In base)(TB:Top p loose mean mg mb base)
  (D:KtsDicts (outer.filterMap (·.frame)) g) (T0:KtsTurn (outer.filterMap (·.frame)) g₀ g)
  (ex:nsIn KF mainGlobals x=some (some (.ref C))) (q:ktsIn KF C "BaseException" = true)
  (k:∀h' g',KtsTurn (outer.filterMap (·.frame)) g₀ g'->Fr g' L h' m->News g' L h' news->Below A₀ base outer g'->KtsDicts (outer.filterMap (·.frame)) g' →
   wpAny (model prog w) ((A₀.deeper (envOf name scope L a cd)).mark (some (.ref e))) (execs (b₀::suite) (envOf name scope L a cd)) Q E {s' with heap:=h'})
  (hk:scope.kind = .function) (hx:(envOf name scope L a cd).kindOf x=some .globalImplicit) (hd:(x==("__debug__" : Str))=false)
  (hE:PassesOwnAt (model prog w) ((A₀.deeper (envOf name scope L a cd)).mark (some (.ref e))) (A₀.deeper (envOf name scope L a cd)) (envOf name scope L a cd) E) :
  wpAny (model prog w) (A₀.deeper (envOf name scope L a cd)) (noteFrame (.ref e) (envOf name scope L a cd))
   (fun _ s₂=>wpAny (model prog w) (A₀.deeper (envOf name scope L a cd)) (setFlight (.ref e) none) (fun _ s₃ =>
    wpAny (model prog w) (A₀.deeper (envOf name scope L a cd)) (handleBy (.ref e) (envOf name scope L a cd) (.ExceptHandler (some (.Name x np)) none (b₀::suite) pos::rest)) Q E s₃) E s₂) E s':=by
 obtain⟨B,a0,hB,hBG,hl,hfl⟩:=R
 have hL:B.get? L=none:=by
  obtain⟨_,⟨L',_,hf,hn',_⟩,_⟩:=hfl.2.2.1
  obtain rfl:L=L':=Option.some.inj hf
  exact hn'
 refine wpAny_looks_onW (Around.frames_deeper K.stack) rfl hfl fun h₄ I3 PD=>?_
 refine wpAny_landsW I3 fun h₅ hheld Mk=>?_
 have I4:=PD.trans Mk
 obtain⟨R7,Yc,R8,R9⟩:=kts_ground K F hBG hheld.1 (hsm.trans I4)
 have Sa:KF.In R7:=XB.keeps R9.stays
 have Pr:TopRead p loose mg mb R7:=topRead_of (TB.keeps R9.stays)
 obtain⟨ob,hob,VI⟩:=hheld.there
 refine I2 Sa q fun nm q' N bs bm hdct sn sub ab col dd k0 k1 k2 k3 k5 newId hC hbase=>?_
 have Sb:=R8.keep _ _ hC
 refine wpAny_handleBy_cons (codeAny_handlers_test (name_K R8 Sa Pr ex ?_ hk hx hd)) (by intro q;cases q)
 refine wpAny_excMatches_sub_self Sb hob VI hbase (codeAny_handlers_suite ?_)
 refine lands_againW hheld fun Sd I5 PE=>?_
 obtain⟨PF,PG,VJ,VK⟩:=kts_ground K F hBG I5.1 ((hsm.trans I4).trans PE)
 have Nl:News PF L Sd news:=fun q hq=>⟨I5.1 _ _ (hl q hq).1,(fun z=>by have:=(hl q hq).1;rw [z,hL]at this;cases this),PG.none_ _ (kts_none F.keep (hl q hq).2.1)⟩
 have VL:KtsDicts (outer.filterMap (·.frame)) PF:=D.turn PG
 exact wpAny_passesOwnAt hE (k Sd PF (T0.trans PG) VJ Nl VK VL)
end
section
variable{C:Cfg}{cb:Bool}{d:Nat}
theorem Ml{name qual:Str}{params:Arguments}{body:Expr}{scope:Scope}{cl:List (Str×Addr)}{pm ctv:Value}{c' fo:Addr}{oc:Obj}{Lv:Array Value}{ot:Tok}{xs:List Str}{bO:List V}{el:EF}{f:Fm C}{m:Str->Option Value}{φ:List Addr}{T Z:b7}{H:AH}{s:Shared}{R:Result->Shared->Prop}
  (hel:ez C cb d scope.names xs body el) (hk:scope.kind = .function) (hco:scope.isCoroutine=false) (hgen:scope.isGenerator=false) (hcell:∀x∈scope.names,x.2 ≠ .cell) (hcc:codeOf scope.names=none)
  (hbind:bindArgs (kla_fn name qual params body scope cl pm (.ref c') ctv) ⟨[],[]⟩=pure []) (rm:iC f (d+1)) (st:St f m φ T Z H s.heap) (hfo:(fo,kla_obj name qual params body scope cl pm c' ctv)∈Z) (hc':(c',oc)∈Z) (ho:oc.data = .fields Lv) (hov:Lv[1]? = some (.str qual ot))
  (hlen:xs.length=bO.length)
  (qD:∀(i:Nat)(x:Str)(v:V),xs[i]? = some x->bO[i]? = some v->v ≠ .undef -> ∃c o val,scope.names.lookup x=some .free/\(x==("__classdict__" : Str))=false/\cl.lookup x=some c/\(c,o)∈Z/\o.data = .cell (some val)/\cz φ T v val)
  {H':AH} (he:el bO H = .exc H') (P:∀e h tk,WO f φ T Z H' e h->R (.error (.ref e)) (sh s h tk)):eE cb (model C.prog C.w) f.A (.call (.ref fo) ⟨[],[]⟩) R s:=by
 have VM:=st.old hfo
 have hrec:s.heap.CodeRec (.ref c') qual:=⟨c',oc,Lv,ot,rfl,st.old hc',ho,hov⟩
 refine st.ground fun h₀ g₁ obs G F FG BG DG hof hsz N O nd off=>?_
 refine tZ (fd:=kla_fn name qual params body scope cl pm (.ref c') ctv) (Nat.lt_of_le_of_lt (Nat.le_add_right _ _) rm.dp) VM rfl hco hgen rfl hrec ?_
 rw [hbind]
 refine wpAny_pure (wpAny_newFunctionEnv hcell (fun y hy=>absurd hy List.not_mem_nil) (fun h₁ hns W3=>⟨((G.P.nolimit).keeps F.keep).fresh _ W3,C0 ?_⟩) hk)
 have hk₁:∀b o,s.heap.get? b=some o->h₁.get? b=some o:=fun b o e=>W3.extBut b o (Nat.ne_of_lt (Heap.lt_size e)) (Heap.get?_push_of_some _ e)
 let I8:=f.child qual scope s.heap.objs.size fo (.ref c') cl g₁ hk (fun c h=>Mine.ns (hcc.symm.trans h))
 have eA:St I8 (fun x=>([]:List (Str×Value)).reverse.lookup x) φ T Z H h₁:=⟨_,obs,⟨BG,DG,KtsTurn.refl⟩,⟨hns,fun b o e=>hk₁ b o (hof _ _ e),hsz⟩,fun p hp=>⟨hk₁ _ _ (N p hp).1,Nat.ne_of_lt (Heap.lt_size (N p hp).1),(N p hp).2⟩,O,nd,off⟩
 have er:ER I8 I8.env (fun x=>([]:List (Str×Value)).reverse.lookup x) Z xs bO φ T:=⟨hlen,fun i x v hi hv hu=>by
  obtain⟨c,o,val,h1,h2,h3,h4,h5,h6⟩:=qD i x v hi hv hu
  exact⟨val,.free h1 h2 h3 h4 h5,h6⟩⟩
 refine hel I8 I8.env _ bO φ T Z H (sh s h₁ _) (rm.in rfl rfl) (gT rfl) er eA _ _ ?_
 rw [he]
 exact fun e h tk x=>t8.WQ (s:={s with toks:=tk}) (Zc:=[]) G FG x fun h'' y=>P e h'' tk y
end
theorem Dv{pos pos':Pos}{c:Value}(l:List Value)(h:TriplesOk l)(hn:codeAmong pos' l=none)(hne:(pos'.line,pos'.col)≠(pos.line,pos.col)) :
  codeAmong pos' (l++[rawInt pos.line,rawInt pos.col,c])=none:=by
 fun_induction TriplesOk l with
 |case1 =>
  refine if_neg fun q=>hne ?_
  have q:=(Bool.and_eq_true _ _).mp q
  exact Prod.ext (Int.ofNat.inj (beq_iff_eq.mp q.1)).symm (Int.ofNat.inj (beq_iff_eq.mp q.2)).symm
 |case2 a t b u x rest ih =>
  replace hn:(if _ then _ else _)=none:=hn
  split at hn
  ·cases hn
  ·rename_i hc;exact(if_neg hc).trans (ih h hn)
 |case3 l h1 h2=>exact h.elim
section
variable{C:Cfg}{cb:Bool}{d:Nat}
theorem I9{tabs:List (Addr×Addr)}{h:Heap}:∀{q:Addr×Addr},CodeAll tabs h->q∈tabs->CodeHd h q.1 q.2:=by
 induction tabs with
 |nil=>intro q _ hq;cases hq
 |cons p r ih =>
  intro q hc hq
  rcases List.mem_cons.mp hq with rfl | hq
  ·exact hc.1
  ·exact ih hc.2 hq
theorem Ja{name qual:Str}{params:Arguments}{body:Expr}{scope:Scope}{clos:List (Str×Addr)}{pos:Pos}{firstLine:Nat}{env:Env}{sc:List (Str×NameKind)}{c P:Addr}{j:Nat}{ks:List (Nat×Nat)}{f:Fm C}{m:Str->Option Value}{φ:List Addr}{T Z:b7}{H:AH}{s:Shared}{Q:Value->Shared->Prop}{E:Value->Shared->Prop}
  (g:fg env sc) (hcode:codeOf sc=some c) (hm:(c,P)∈[((840:Addr),(836:Addr)),(833,831),(828,824)]) (hj:fW[j]? = some P) (st:St f m φ T Z H s.heap) (hH:H[j]? = some (.tab ks)) (hp:(pos.line,pos.col)∉ks) (hcl:closureFor scope env=pure clos)
  (h:∀fo c' oc Lv ot pm ctv h' tk,St f m φ T ((fo,kla_obj name qual params body scope clos pm c' ctv)::(c',oc)::Z) (H.set j (.tab ((pos.line,pos.col)::ks))) h'->oc.data = .fields Lv->Lv[1]? = some (.str qual ot)->Q (.ref fo) (sh s h' tk)) :
  wpAny (model C.prog C.w) f.A (makeFunction name qual params (.expr body) scope env [] [] [] pos firstLine) Q E s:=by
 obtain⟨h₀,obs,G,F,N,O,nd,off⟩:=st
 have ha:φ[j]? = some P:=by
  obtain⟨r,e⟩:=off.tb
  rw [← e,List.getElem?_append_left (List.getElem?_eq_some_iff.mp hj).1];exact hj
 obtain⟨ob,h1,⟨ps,rfl,ht,hno⟩,h3⟩:=O.get ha hH
 have PI:=N (P,tabObj ps) (List.mem_append_left _ h3)
 have T':=G.P
 have hgs:=T'.g.keeps F.keep
 obtain⟨bm,WW,b1,b2,b3,b4,b5,b6⟩:=T'.bmain
 have hgP:mainGlobals≠P:=fun q=>by
  obtain⟨o,es,ep,e,hd,_⟩:=hgs
  cases PI.1.symm.trans (q▸e);cases hd
 have Yd:bm≠P:=fun q=>by cases PI.1.symm.trans (q▸F.keep _ _ b3);cases b4
 have Ye:bm≠mainGlobals:=fun q=>by
  obtain⟨o,es,ep,e,hd,_⟩:=T'.g
  cases e.symm.trans (q▸b3);cases hd.symm.trans b6
 have CH:CodeHd h₀ c P:=(I9 f.CB hm).keeps fun b o e=>G.B.stays b o e
 refine kla_makeFunction (mg:=f.mg) hcl g.glob hgs (g.code c hcode) (CH.keeps F.keep) PI.1 ht (hno pos hp) hgP ⟨bm,WW,b1,b2,Ye,Yd,F.keep _ _ b3,b4,b5,b6⟩ fun c' ctv h' tk hx hge hlt hrec htb=>?_
 obtain⟨c₂,oc,vs,t,e2,hoc,hd,hv⟩:=hrec
 cases e2
 obtain⟨pre,post,e1,e2,a1,Yg⟩:=(lV nd off.fi O.len ha h1 (o':=tabObj (ps ++ #[rawInt pos.line,rawInt pos.col,.ref c']))).split
 have F':Fr h₀ f.L h' m:=⟨F.ns.extBut hx PI.2.1.symm,fun b o e=>hx b o (fun q=>ns (PI.2.2.symm.trans (q▸e))) (F.keep b o e),F.above⟩
 have N':News h₀ f.L h' (φ.zip (obs.set j (tabObj (ps ++ #[rawInt pos.line,rawInt pos.col,.ref c'])))++(T++Z)):=by
  rw [e2]
  intro q hq
  rcases List.mem_append.mp hq with hq | hq
  ·have n:=N q (e1▸List.mem_append_left _ hq)
   exact⟨hx _ _ (a1 q hq) n.1,n.2⟩
  ·rcases List.mem_cons.mp hq with rfl | hq
   ·exact⟨htb,PI.2⟩
   ·have n:=N q (e1▸List.mem_append_right _ (.tail _ hq))
    exact⟨hx _ _ (Yg q hq) n.1,n.2⟩
 have lt:∀p∈φ.zip (obs.set j (tabObj (ps ++ #[rawInt pos.line,rawInt pos.col,.ref c'])))++(T++Z),p.1<c':=fun p hp=>by
  rw [e2]at hp
  rcases List.mem_append.mp hp with hp | hp
  ·exact Nat.lt_of_lt_of_le (Heap.lt_size (N p (e1▸List.mem_append_left _ hp)).1) hge
  ·rcases List.mem_cons.mp hp with rfl | hp
   ·exact Nat.lt_of_lt_of_le (Heap.lt_size PI.1) hge
   ·exact Nat.lt_of_lt_of_le (Heap.lt_size (N p (e1▸List.mem_append_right _ (.tail _ hp))).1) hge
 have W4:f.L<c':=Nat.lt_of_lt_of_le F.ns.lt hge
 have O':CV φ T (H.set j (.tab ((pos.line,pos.col)::ks))) (obs.set j (tabObj (ps ++ #[rawInt pos.line,rawInt pos.col,.ref c']))):=⟨by rw [List.length_set];exact O.len,O.rep.set ⟨_,rfl,by rw [Array.toList_append];exact TriplesOk_snoc _ _ _ _ ht,fun pos' hne=>by
  rw [Array.toList_append];exact Dv _ ht (hno pos' fun q=>hne (List.mem_cons_of_mem _ q)) fun q=>hne (q▸List.mem_cons_self)⟩⟩
 have st':St f m φ T ((c',oc)::Z) (H.set j (.tab ((pos.line,pos.col)::ks))) h':=by
  refine⟨h₀,_,G,F',fun q hq=>?_,O',nd,off.add O'.len fun p hp=>Nat.ne_of_lt (lt p hp)⟩
  rcases List.mem_cons.mp (Iz hq)with rfl | hq
  ·exact⟨hoc,Nat.ne_of_gt W4,Heap.get?_none_of_le (Nat.le_trans F.above (Nat.le_of_lt W4))⟩
  ·exact N' q hq
 exact h h'.objs.size c' oc vs t ((f.mg "__name__").getD .none) ctv _ tk (st'.NX _ rfl) hd hv
end
noncomputable def getAll(ρ:List V):List Nat->Option (List V)
 | []=>some []
 |i::is=>(ρ[i]?.bind IQ).bind fun l=>(getAll ρ is).bind fun r=>some (l++r)
theorem GQ{ρ:List V}{is:List Nat}{vs:List V}(h:getAll ρ is=some vs):vs.length=is.length /\ ∀(k i:Nat),is[k]? = some i -> ∃v,ρ[i]? = some v/\vs[k]? = some v/\v≠V.undef:=by
 induction is generalizing vs with
 |nil=>cases h;exact⟨rfl,fun k i e=>Mine.ns e⟩
 |cons i is ih =>
  obtain⟨l,h1,h⟩:=Option.bind_eq_some_iff.mp h
  obtain⟨r,h2,h⟩:=Option.bind_eq_some_iff.mp h
  obtain⟨v,hv,h1⟩:=Option.bind_eq_some_iff.mp h1
  obtain⟨hu,rfl⟩:=Bv h1
  cases h
  obtain⟨a,b⟩:=ih h2
  refine⟨congrArg (· + 1) a,fun k i' e=>?_⟩
  cases k with
  |zero=>cases e;exact⟨v,hv,rfl,hu⟩
  |succ k=>exact b k i' e
structure Se(sc:List (Str×NameKind))(names:List Str)(scope:Scope)(xs:List Str)(is:List Nat):Prop where
 len:xs.length=is.length
 at_:∀(k:Nat)(x:Str)(i:Nat),xs[k]? = some x->is[k]? = some i->names[i]? = some x
 kind:∀x∈xs,sc.lookup x=some .cell/\scope.names.lookup x=some .free/\(x==("__classdict__" : Str))=false
 clos:∃l:List Str,(∀x∈xs,x∈l)/\(∀x∈l,x∈xs) /\ ∀(env:Env)(cs:Str->Addr),(∀x∈l,env.cells.lookup x=some (cs x))->closureFor scope env=pure (l.map fun x=>(x,cs x))
theorem Dw{cs:Str->Addr}{x:Str}{l:List Str}(h:x∈l):(l.map fun x=>(x,cs x)).lookup x=some (cs x):=by
 induction l with
 |nil=>exact absurd h List.not_mem_nil
 |cons y l ih =>
  rw [List.map_cons,List.lookup_cons]
  cases q:x==y with
  |true=>exact congrArg (fun y=>some (cs y)) (beq_iff_eq.mp q).symm
  |false=>exact ih ((List.mem_cons.mp h).resolve_left (beq_eq_false_iff_ne.mp q))
noncomputable def AO.W5:AO->Option (List (Nat×Nat))
 | .tab ks=>some ks
 |_=>none
theorem Mm{o:AO}{ks:List (Nat×Nat)}(h:o.W5=some ks):o = .tab ks:=by
 cases o with
 |tab l=>exact congrArg AO.tab (Option.some.inj h)
 |_=>exact Mine.ns h
noncomputable def Sf:R V->R V
 | .exc H => .ok (.bool true) H
 |_ => .stuck
noncomputable def vK(j:Nat)(k:Nat×Nat)(is:List Nat)(el:EF):EF:=fun ρ H=>cC (H[j]?.bind AO.W5) fun ks=>if k∉ks then cC (getAll ρ is) fun cv=>Sf (el cv (H.set j (.tab (k::ks))))else .stuck
structure yx(C:Cfg)(fr:Addr):Prop where
 ex:∀{g:Prop},(∀oc od name qual params p1 p2 p3 p4 p5 p6 p7 p8 p9 Rg k1 k2 scope dV kV doc pm cdv ct an osl,(C.K.lookup fr=some ⟨oc,od,.func (fnOf name qual params [.Try [.Expr (.Call (.Name (Str.ofString "call") p1) [] [] p2) p3] [.ExceptHandler (some (.Name (Str.ofString "CorruptError") p4)) none [.Return (some (.Constant (.bool true) k1 p5)) p6] p7] [] [] p8,.Return (some (.Constant (.bool false) k2 p9)) Rg] scope dV kV doc pm an cdv ct),osl⟩) →
  codeIn C.K cdv qual=true →
  (∀s a,BindsTo s (fnOf name qual params [.Try [.Expr (.Call (.Name (Str.ofString "call") p1) [] [] p2) p3] [.ExceptHandler (some (.Name (Str.ofString "CorruptError") p4)) none [.Return (some (.Constant (.bool true) k1 p5)) p6] p7] [] [] p8,.Return (some (.Constant (.bool false) k2 p9)) Rg] scope dV kV doc pm an cdv ct) ⟨[a],[]⟩ [(Str.ofString "call",a)]) →
  (scope.kind = .function) →
  scope.isCoroutine=false →
  scope.isGenerator=false →
  (scope.names.all (fun x=>x.2 != .cell)=true) →
  scope.names.lookup (Str.ofString "call")=some .local →
  scope.names.lookup (Str.ofString "CorruptError")=some .globalImplicit →
  codeOf scope.names=none->g)->g
 glob:nsIn C.K mainGlobals (Str.ofString "CorruptError")=some (some (.ref C.exc))
 base:ktsIn C.K C.exc "BaseException" = true
 keep:aR C (.ref fr)
theorem yx.of{C:Cfg}{fr:Addr}{oc:Value}{od:Option Addr}{name qual:Str}{params:Arguments}{p1 p2 p3 p4 p5 p6 p7 p8 p9 Rg:Pos}{k1 k2:Nat}{scope:Scope}{dV kV doc pm cdv ct:Value}{an:Option Addr}{osl:Array (Option Value)}
  (hK:C.K.lookup fr=some ⟨oc,od,.func (fnOf name qual params [.Try [.Expr (.Call (.Name (Str.ofString "call") p1) [] [] p2) p3] [.ExceptHandler (some (.Name (Str.ofString "CorruptError") p4)) none [.Return (some (.Constant (.bool true) k1 p5)) p6] p7] [] [] p8,.Return (some (.Constant (.bool false) k2 p9)) Rg] scope dV kV doc pm an cdv ct),osl⟩) (hcd:codeIn C.K cdv qual=true)
  (hb:∀s a,BindsTo s (fnOf name qual params [.Try [.Expr (.Call (.Name (Str.ofString "call") p1) [] [] p2) p3] [.ExceptHandler (some (.Name (Str.ofString "CorruptError") p4)) none [.Return (some (.Constant (.bool true) k1 p5)) p6] p7] [] [] p8,.Return (some (.Constant (.bool false) k2 p9)) Rg] scope dV kV doc pm an cdv ct) ⟨[a],[]⟩ [(Str.ofString "call",a)])
  (hk:scope.kind = .function) (hco:scope.isCoroutine=false) (hgen:scope.isGenerator=false) (hn:scope.names.all (fun x=>x.2 != .cell)=true) (hs:scope.names.lookup (Str.ofString "call")=some .local) (VG:scope.names.lookup (Str.ofString "CorruptError")=some .globalImplicit) (hcc:codeOf scope.names=none)
  (hg:nsIn C.K mainGlobals (Str.ofString "CorruptError")=some (some (.ref C.exc))) (Yh:ktsIn C.K C.exc "BaseException" = true) (hkp:aR C (.ref fr)):yx C fr :=
 ⟨fun k=>k _ _ _ _ _ _ _ _ _ _ _ _ _ _ _ _ _ _ _ _ _ _ _ _ _ _ hK hcd hb hk hco hgen hn hs VG hcc,hg,Yh,hkp⟩
section
variable{C:Cfg}{cb:Bool}{d:Nat}
theorem Jb{fr:Addr}(ok:yx C fr){name qual:Str}{params:Arguments}{body:Expr}{scope:Scope}{cl:List (Str×Addr)}{pm ctv:Value}{c' fo:Addr}{oc:Obj}{Lv:Array Value}{ot:Tok}{xs:List Str}{bO:List V}{el:EF}{f:Fm C}{m:Str->Option Value}{φ:List Addr}{T Z:b7}{H:AH}{s:Shared}{Q:Value->Shared->Prop}{E:Value->Shared->Prop}
  (hel:ez C cb d scope.names xs body el) (hk:scope.kind = .function) (hco:scope.isCoroutine=false) (hgen:scope.isGenerator=false) (hcell:∀x∈scope.names,x.2 ≠ .cell) (hcc:codeOf scope.names=none)
  (hbind:bindArgs (kla_fn name qual params body scope cl pm (.ref c') ctv) ⟨[],[]⟩=pure []) (rm:iC f (d+2)) (hfo:(fo,kla_obj name qual params body scope cl pm c' ctv)∈Z) (Yi:(c',oc)∈Z) (st:St f m φ T Z H s.heap) (ho:oc.data = .fields Lv) (hov:Lv[1]? = some (.str qual ot))
  (hlen:xs.length=bO.length)
  (qD:∀(i:Nat)(x:Str)(v:V),xs[i]? = some x->bO[i]? = some v->v ≠ .undef -> ∃c o val,scope.names.lookup x=some .free/\(x==("__classdict__" : Str))=false/\cl.lookup x=some c/\(c,o)∈Z/\o.data = .cell (some val)/\cz φ T v val)
  {H':AH} (he:el bO H = .exc H') (P:∀bc T' h tk,j4 φ T bc T'->St f m bc T' Z H' h->Q (.bool true) (sh s h tk)):bS cb (model C.prog C.w) f.A (call (.ref fr) [.ref fo]) Q E s:=by
 refine ok.ex fun W6 od Sg E3 GR p1 p2 p3 p4 p5 p6 p7 p8 p9 Rg k1 k2 vL dV kV doc Sj cdv ct an osl hK hcd hb₂ hk₂ PJ Mn PK hcall hce PL=>?_
 refine st.ground fun h₀ g₁ obs G F FG BG DG hof hsz N O nd off=>?_
 have K:=G.X.keeps F.keep
 refine lC (jA (fd:=fnX Sg E3 GR _ vL [] dV kV doc Sj an cdv ct) (body:=_) (binds:=[(Str.ofString "call",.ref fo)]) (Nat.lt_of_le_of_lt (Nat.le_add_right _ _) rm.dp) (K _ _ hK) rfl (G.P.nolimit.keeps F.keep) (codeRec_of K hcd) rfl
  (hb₂ s _) (fun x hx=>bne_iff_ne.mp (List.all_eq_true.mp PK x hx)) (fun x hx=>List.mem_singleton.mp hx▸hcall) (fun h₁ hns hk₁=>?_) PJ Mn hk₂)
 let f₂:=f.child E3 vL s.heap.objs.size fr cdv [] g₁ hk₂ (fun c h=>Mine.ns (PL.symm.trans h))
 have bN:St f₂ (fun x=>[(Str.ofString "call",Value.ref fo)].reverse.lookup x) φ T Z H h₁:=⟨_,obs,⟨BG,DG,KtsTurn.refl⟩,⟨hns,fun b o e=>hk₁ b o (hof _ _ e),hsz⟩,fun p hp=>⟨hk₁ _ _ (N p hp).1,Nat.ne_of_lt (Heap.lt_size (N p hp).1),(N p hp).2⟩,O,nd,off⟩
 have Sk:iC f₂ (d+1):=rm.in rfl rfl
 refine fy (vJ ?_)
 refine fy (A1 ?_ (by show(vL.kind == .module&&_)=false;rw [hk₂];rfl) rfl)
 show bS cb _ f₂.A (eval (.Name (Str.ofString "call") p1) f₂.env >>= fun fv=>callWith p2 fv [] (backTo p2 (starEach [] f₂.env)) []) _ _ _
 refine aQ (wpAny_Name (wpAny_loadName_local (v := .ref fo) hk₂ hcall hns rfl ?_) (by decide))
 refine fB (P:=FnAt fo) rfl (fun h X=>keeps_F h X) ?_
 refine bD (a:=[]) ⟨⟨_,_,_,_,bN.old hfo⟩,?_⟩
 refine lC (Ml hel hk hco hgen hcell hcc hbind Sk bN hfo Yi ho hov hlen qD he fun e h tk X=>X.ex fun m₃ bc T' obs' g Yj GG Pu hsm R O' zw off' ext=>?_)
 refine BD (s':=(sh s h tk)) (KF:=C.K) R Pu GG.B hsm f.XB f.TB GG.D GG.T ok.glob ok.base (fun h' g' T0 F' N' B' D'=>?_) hk₂ hce (by decide) PassesOwnAt.leaving
 exact m5 (fy (uP (bS.any (wpAny_Constant_bool (P bc T' h' tk ext (St.back (Zc:=[]) G FG (show St f₂ m₃ bc T' ([]++Z) H' h' from⟨g',obs',⟨B',D',T0⟩,F',N',O',zw,off'⟩)))))))
theorem l6{sc:List (Str×NameKind)}{names:List Str}{x:Str}{np pos Dy:Pos}{params:Arguments}{body:Expr}{scope:Scope}{fr c P:Addr}{j:Nat}{xs:List Str}{is:List Nat}{el:EF}(ok:yx C fr)(hn:aW C sc x (.ref fr))(hcode:codeOf sc=some c)(hm:(c,P)∈[((840:Addr),(836:Addr)),(833,831),(828,824)])(hj:fW[j]? = some P)
  (bO:Se sc names scope xs is) (hel:ez C cb d scope.names xs body el) (hdef:∀env,defaultsOf params env=([],[])) (hk:scope.kind = .function) (hco:scope.isCoroutine=false) (hgen:scope.isGenerator=false) (hcell:∀x∈scope.names,x.2 ≠ .cell) (hcc:codeOf scope.names=none)
  (hbind:∀qual clos pm c' ctv,bindArgs (kla_fn "<lambda>" qual params body scope clos pm (.ref c') ctv) ⟨[],[]⟩=pure []) :
  ez C cb (d+2) sc names (.Call (.Name x np) [.Lambda params body scope Dy] [] pos) (vK j (Dy.line,Dy.col) is el):=fun f env m ρ φ T Z H s rm g er st Q E HJ=>by
 obtain⟨ks,hH,HJ⟩:=Post.opt HJ
 obtain⟨o,hH,ho⟩:=Option.bind_eq_some_iff.mp hH
 cases Mm ho
 obtain⟨hks,HJ⟩:=Post.guard HJ
 obtain⟨cv,HH,HJ⟩:=Post.opt HJ
 obtain⟨Yk,UN⟩:=GQ HH
 cases he:el cv (H.set j (.tab ((Dy.line,Dy.col)::ks))) with
 |ok _ _=>rw [he]at HJ;exact HJ.elim
 |stuck=>rw [he]at HJ;exact HJ.elim
 |exc H' =>
 rw [he]at HJ
 obtain⟨l,hl1,hl2,hcl⟩:=bO.clos
 have look:∀(k:Nat)(x:Str)(v:V),xs[k]? = some x->cv[k]? = some v -> ∃c o val,env.cells.lookup x=some c/\(c,o)∈Z/\o.data = .cell (some val)/\cz φ T v val:=fun k x v hx hv=>by
  have hi:=List.getElem?_eq_getElem (bO.len▸(List.getElem?_eq_some_iff.mp hx).1:k<is.length)
  obtain⟨v',h1,h2,h3⟩:=UN k _ hi
  cases hv.symm.trans h2
  obtain⟨val,va,vr⟩:=er.at_ _ x v (bO.at_ k x _ hx hi) h1 h3
  have kz:env.kindOf x=some .cell:=by unfold Env.kindOf;rw [g.names];exact(bO.kind x (List.mem_of_getElem? hx)).1
  cases va with
  |loc a b c=>exact nomatch kz.symm.trans b
  |cell a b c e=>exact⟨_,_,val,b,c,e,vr⟩
  |free a n b c e=>exact nomatch kz.symm.trans a
  |comp a b c e=>exact nomatch kz.symm.trans a
 have hcs:∀x∈xs,env.cells.lookup x=some ((env.cells.lookup x).getD 0):=fun x hx=>by
  obtain⟨k,hk',rfl⟩:=List.getElem_of_mem hx
  obtain⟨v',h1,h2,h3⟩:=UN k _ (List.getElem?_eq_getElem (bO.len▸hk':k<is.length))
  obtain⟨c,o,val,a,_⟩:=look k _ v' (List.getElem?_eq_getElem hk') h2
  rw [a];rfl
 have hclos:=hcl env (fun x=>(env.cells.lookup x).getD 0) fun x hx=>hcs x (hl2 x hx)
 show bS cb _ f.A (eval (.Name x np) env >>= fun fv=>callWith pos fv [] (backTo pos (starEach [.Lambda params body scope Dy] env)) []) Q E s
 refine aQ (hn f env m φ T Z H s np _ _ g st (fB (P:=C.K.In) rfl ok.keep ?_))
 show bS cb _ f.A (do
  let v<-eval (.Lambda params body scope Dy) env
  let here<-(Pure.pure [v]:Sem (List Value))
  let r<-PySem.holding here (spliced (backTo pos (starEach [] env)))
  Pure.pure (here++r)) _ E s
 refine aQ (kla_eval (hdef env) (Ja g hcode hm hj st hH hks hclos fun fo c' oc Lv ot pm ctv h' tk st' ho hov=>?_))
 refine aQ (wpAny_pure (aQ (wpAny_holding (wpAny_pure (bD ⟨st'.Lu,?_⟩)))))
 refine Jb (s:=(sh s h' tk)) ok hel hk hco hgen hcell hcc (hbind _ _ _ _ _) rm List.mem_cons_self (List.mem_cons_of_mem _ List.mem_cons_self) st' ho hov (bO.len.trans Yk.symm) (fun k x v hx hv hu=>?_) he fun bc T' h tk e bN=>HJ bc T' _ h tk e (bN.sub ((List.sublist_cons_self _ _).trans (List.sublist_cons_self _ _))) rfl
 ·obtain⟨c,o,val,a1,a2,a3,a4⟩:=look k x v hx hv
  have hxs:=List.mem_of_getElem? hx
  obtain⟨b1,b2,b3⟩:=bO.kind x hxs
  exact⟨c,o,val,b2,b3,(Dw (hl1 x hxs)).trans ((hcs x hxs).symm.trans a1),List.mem_cons_of_mem _ (List.mem_cons_of_mem _ a2),a3,a4⟩
end
noncomputable abbrev laid:List (Addr×Addr):=[(840,836),(833,831),(828,824)]
theorem qF{h:Heap}{a b:Addr}{o ol:Obj}(hl:h.get? a=some ol)(e:h.get? b=some o)(hne:o≠ol):(hideAll h [a]).get? b=some o:=hideAll_get _ e fun hm=>hne (Option.some.inj (e.symm.trans (List.mem_singleton.mp hm▸hl)))
theorem uy{h:Heap}{a x:Addr}{its:Array Value}{n:Nat}{m:Str->Option Value}(hl:h.get? a=some (listOf its n))(N:h.Ns x m):(hideAll h [a]).Ns x m:=by
 obtain⟨o,es,ep,e,hd,r⟩:=N
 exact⟨o,es,ep,qF hl e (fun q=>by cases q;cases hd),hd,r⟩
theorem Jc{h:Heap}{a:Addr}{its:Array Value}{n:Nat}{loose:List Str}{mean:ExcName->Option Value}{mg mb:Str->Option Value}(hl:h.get? a=some (listOf its n))(T:Top topProg loose mean mg mb h):Top topProg loose mean mg mb (hideAll h [a]) where
 g:=uy hl T.g
 b:=uy hl T.b
 nolimit:=let ⟨mc,q,r⟩:=T.nolimit;⟨mc,uy hl q,r⟩
 nodigits:=let ⟨mc,q,r⟩:=T.nodigits;⟨mc,uy hl q,r⟩
 fn:=fun d hd=>absurd (show d∈([]:List DefRec)from hd) List.not_mem_nil
 own:=fun o ho=>absurd (show o∈([]:List OwnSpec)from ho) List.not_mem_nil
 const:=fun x d e=>by cases (show(none:Option PyData)=some d from e)
 free:=T.free
 builtins:=T.builtins
 tab:=fun d hd=>absurd (show d∈([]:List DefRec)from hd) List.not_mem_nil
 bmain:=let ⟨bm,ob,a1,a2,a3,a4,a5,a6⟩:=T.bmain;⟨bm,ob,a1,a2,qF hl a3 (fun q=>by cases q;cases a6),a4,a5,a6⟩
 seer:=fun e=>absurd (show false=true from e) Bool.false_ne_true
noncomputable def E4(K:Frag):Bool:=K.all fun p=>p.2.cls != .type "list"
theorem PM{K:Frag}{h:Heap}{a:Addr}{its:Array Value}{n:Nat}(hl:h.get? a=some (listOf its n))(X:K.In h)(hK:E4 K=true):K.In (hideAll h [a]):=fun b o e=>by
 refine qF hl (X b o e) fun q=>?_
 have h2:=List.all_eq_true.mp hK (b,o) (mem_of_lookupK e)
 subst q
 exact Bool.false_ne_true h2
theorem sy{h:Heap}{a c P:Addr}{its:Array Value}{n:Nat}(hl:h.get? a=some (listOf its n))(x:CodeHd h c P):CodeHd (hideAll h [a]) c P:=by
 obtain⟨o,vs,file,tf,flags,tg,Yl,text,tt,e1,e2,r⟩:=x
 exact⟨o,vs,file,tf,flags,tg,Yl,text,tt,qF hl e1 (fun q=>by cases q;exact absurd (Value.type.inj e2) (by decide)),e2,r⟩
noncomputable def Oc(C:Cfg)(fn:Addr)(n:Nat)(sf:SF):Prop :=
 ∀(p':Program)(loose':List Str)(mean:ExcName->Option Value)(mg mb:Str->Option Value)(s:Shared)(a:Addr)(vals:List Value)(nums:List Int)(R:Result->Shared->Prop)(H':AH)(k0 k1 k2:List (Nat×Nat))(r:AH),
  C.p=topProg->C.loose=loose'++(recsOf p').map (·.name)++(litsOf p').map (·.1)++(clssOf p' loose').map (·.name)->C.K.In s.heap->TabsAt laid s.heap->Top p' loose' mean mg mb s.heap->noTabs C.K=true->E4 C.K=true →
  s.heap.get? a=some (listOf vals.toArray 0)->IntsAre vals nums->sf (.olist nums::List.replicate n .undef) [.tab [],.tab [],.tab []] = .ret (.bool true) H'->H' = .tab k0 :: .tab k1 :: .tab k2::r →
  (∀h tk,(∀b o,b∉fW->s.heap.get? b=some o->h.get? b=some o)->(∀P∈fW,∃ps,h.get? P=some (tabObj ps))->R (.ok (.ret (.bool true))) (sh s h tk)) →
  eE true (model C.prog C.w) callerA (.call (.ref fn) ⟨[.ref a],[]⟩) R s
theorem Jd{c d l:Nat}(h:2+c+d<l):1+c+1+d<l:=by lia
theorem GS{d c:Nat}(h:8*d+16<c):4+3+8*d+8<c:=by lia
theorem GU{C:Cfg}{d:Nat}{name qual:Str}{params:Arguments}{body:List Stmt}{scope:Scope}{dV kV doc pm cdv ct oc:Value}{an od:Option Addr}{osl:Array (Option Value)}{fn:Addr}{x:Str}{ls:List Str}{sf:SF}
  (ho:C.K.lookup fn=some ⟨oc,od,.func (fnOf name qual params body scope dV kV doc pm an cdv ct),osl⟩) (hcd:codeIn C.K cdv qual=true)
  (hbind:∀s v,BindsTo s (fnOf name qual params body scope dV kV doc pm an cdv ct) ⟨[v],[]⟩ [(x,v)])
  (cL:scope.names.lookup x=some .local) (hnd:(x::ls).Nodup) (hnc:scope.names.all (fun x=>x.2 != .cell)=true)
  (hbody:RC C true d scope (x::ls) (fun env=>execs body env) sf) (hk:scope.kind = .function) (hco:scope.isCoroutine=false) (hgen:scope.isGenerator=false) (hcc:codeOf scope.names=none)
  (hroom:2+claimMargin+d<recursionLimit/\8*d+16<cLine):Oc C fn ls.length sf:=fun p' loose' mean mg mb s a vals nums R H' k0 k1 k2 r hp hlo X hT T hK Ym hl hI hrun hH' hR=>by
 have T1:=ghost_top hT T
 have X1:=ghost_K hT X hK
 have C1:=ghost_code hT
 have hl1:(ghostOf s.heap laid).get? a=some (listOf vals.toArray 0):=ghost_get hT hl (by simp)
 have T2:=Jc hl1 T1
 have X2:=PM hl1 X1 Ym
 have C2:CodeAll laid (hideAll (ghostOf s.heap laid) [a]):=⟨sy hl1 C1.1,sy hl1 C1.2.1,sy hl1 C1.2.2.1,trivial⟩
 generalize hbase:hideAll (ghostOf s.heap laid) [a]=base at T2 X2 C2
 rw [← hlo,<- hp]at T2
 have below:∀b o,base.get? b=some o->s.heap.get? b=some o:=fun b o e=>by rw [← hbase]at e;exact of_hideAll _ (of_hideAll _ e)
 have hsz:base.objs.size=s.heap.objs.size:=by rw [← hbase,hideAll_size,hideAll_size]
 have hnone:∀P∈fW,base.get? P=none:=fun P hP=>Option.eq_none_iff_forall_ne_some.mpr fun o q=>by
  rw [← hbase]at q
  exact ns ((show(ghostOf s.heap laid).get? P=none from hideAll_none _ hP).symm.trans (of_hideAll _ q))
 have hna:base.get? a=none:=hbase▸hideAll_none _ (List.mem_singleton.mpr rfl)
 have htab:∀P∈fW,s.heap.get? P=some (tabObj #[]):=fun P hP=>by
  obtain⟨q,hq,rfl⟩:=List.mem_map.mp (show P∈laid.map (·.2)from hP)
  exact(hT q hq).2
 have Yn:∀P∈fW,a≠P:=fun P hP q=>by cases (hl.symm.trans (q▸htab P hP))
 refine jA (fd:=fnX name qual params body scope [] dV kV doc pm an cdv ct) (body:=body) (binds:=[(x,.ref a)]) (Nat.lt_of_le_of_lt (Nat.le_trans (Nat.add_le_add_right (by decide:1<=2) _) (Nat.le_add_right _ _)) hroom.1) (X _ _ ho) rfl T.nolimit (codeRec_of X hcd) rfl
  (hbind s _) (fun y hy=>bne_iff_ne.mp (List.all_eq_true.mp hnc y hy)) (fun y hy=>List.mem_singleton.mp hy▸cL) (fun h₁ hns hk₁=>?_) hco hgen hk
 let f:Fm C:={dp:=1+claimMargin+1,un:=4+3,gd:=some [],cn:=qual,cs:=scope,a:=fn,ccd:=cdv,cl:=[],outer:=[],A₀:=callerA,base:=base,g₀:=base,L:=s.heap.objs.size,mean:=mean,mg:=mg,mb:=mb,XB:=X2,TB:=T2,hk:=hk,hc:=(fun c h=>by rw [hcc]at h;cases h),CB:=C2}
 have F:Fr base s.heap.objs.size h₁ (fun y=>[(x,Value.ref a)].reverse.lookup y):=⟨hns,fun b o e=>hk₁ b o (below b o e),Nat.le_of_eq hsz⟩
 have st:St f (fun y=>[(x,Value.ref a)].reverse.lookup y) fW [(a,listOf vals.toArray 0)] ([]++[]) [.tab [],.tab [],.tab []] h₁:=by
  refine⟨base,List.replicate 3 (tabObj #[]),⟨below_caller _,ktsDicts_nil,KtsTurn.refl⟩,F,fun p hp=>?_,⟨rfl,.cons ⟨#[],rfl,trivial,fun pos _=>rfl⟩ (.cons ⟨#[],rfl,trivial,fun pos _=>rfl⟩ (.cons ⟨#[],rfl,trivial,fun pos _=>rfl⟩ .nil))⟩,by decide,⟨fun p hp=>List.mem_singleton.mp hp▸fun hm=>Yn _ hm rfl,fun p hp q hq=>absurd hq List.not_mem_nil,List.nodup_nil,List.prefix_refl _⟩⟩
  rcases List.mem_append.mp hp with hp | hp
  ·have hz:=List.of_mem_zip (a:=p.1) (b:=p.2) hp
   have e:=htab _ hz.1
   exact⟨List.eq_of_mem_replicate hz.2▸hk₁ _ _ e,Nat.ne_of_lt (Heap.lt_size e),hnone _ hz.1⟩
  ·cases List.mem_singleton.mp hp
   exact⟨hk₁ _ _ hl,Nat.ne_of_lt (Heap.lt_size hl),hna⟩
 have rv:bj fW [(a,listOf vals.toArray 0)] [.olist nums] [Value.ref a] := .one ⟨a,vals,0,rfl,List.mem_cons_self,hI⟩
 have es:ES f ([x]++ls) ([.olist nums]++List.replicate ls.length .undef) (fun y=>([x].zip [Value.ref a]).reverse.lookup y) [] fW [(a,listOf vals.toArray 0)]:=ES.start rv rfl hnd (fun y hy=>List.mem_singleton.mp hy▸cL) rfl (fun y hy=>bne_iff_ne.mp (List.all_eq_true.mp hnc y hy))
 refine hbody f rfl _ _ fW _ [] [] _ _ _ _ ⟨Jd hroom.1,GS hroom.2⟩ PassesOwn.leaving es st ?_
 rw [show([V.olist nums]++List.replicate ls.length V.undef)=V.olist nums::List.replicate ls.length V.undef from rfl,hrun]
 intro bc T' m' i9 y h tk e st' ry
 obtain rfl:y = .bool true:=ry
 obtain⟨h₀,obs,G,F',N,O,nd,off⟩:=st'
 refine hR h tk (fun b o hb eb=>?_) (fun P hP=>?_)
 ·by_cases hba:b=a
  ·subst hba
   cases hl.symm.trans eb
   exact(N (b,listOf vals.toArray 0) (List.mem_append_right _ (List.mem_append_left _ (e.t _ List.mem_cons_self)))).1
  ·exact F'.keep b o (G.B.stays b o (show base.get? b=some o from hbase▸hideAll_get _ (hideAll_get _ eb hb) fun q=>hba (List.mem_singleton.mp q)))
 ·obtain⟨i,hi,rfl⟩:=List.getElem_of_mem hP
  have hφ:bc[i]? = some fW[i]:=by
   obtain⟨q,eq⟩:=off.tb
   rw [← eq,List.getElem?_append_left hi];exact List.getElem?_eq_getElem hi
  obtain⟨ks,hks⟩:∃ks,H'[i]? = some (.tab ks):=by
   rw [hH']
   rcases i with _ | _ | _ | i
   ·exact⟨_,rfl⟩
   ·exact⟨_,rfl⟩
   ·exact⟨_,rfl⟩
   ·exact absurd hi (Nat.not_lt.mpr (Nat.le_add_left 3 i))
  obtain⟨ob,h1,⟨ps,rfl,-⟩,h3⟩:=O.get hφ hks
  exact⟨ps,(N _ (List.mem_append_left _ h3)).1⟩
noncomputable def E5:V->V->AH->R V:=EI fun a b H => .ok (.int (a+b)) H
noncomputable def Je:SF:=(aq (fj (cR (aH Dc (ai 0) (aH iR (ak (.int 18446744073709551616)) (ak (.int 2))))) (aq (bL (aH eH (ai 0) (ak (.int 18446744073709551616))))
  aI) aI)
  (aq (bL (ai 0))
  aI))
noncomputable def fZ:List V->AH->R V:=cD 1 0 Je
noncomputable def Jf:SF:=(aq (bL (aH aS (aH iQ (cy (ai 0) (ai 1)) (ak (.int 256))) (cy (ai 0) (aH aS (ai 1) (ak (.int 1))))))
  aI)
noncomputable def f7:List V->AH->R V:=cD 2 0 Jf
noncomputable def GV:SF:=(aq (bL (aH aS (aH iQ (aF f7 (af (ai 0) (af (ai 1) aC))) (ak (.int 65536))) (aF f7 (af (ai 0) (af (aH aS (ai 1) (ak (.int 2))) aC)))))
  aI)
noncomputable def eX:List V->AH->R V:=cD 2 0 GV
noncomputable def GW:SF:=(aq (fY (ai 0) (ai 1) (aH iR (ai 2) (ak (.int 256))))
  (aq (fY (ai 0) (aH aS (ai 1) (ak (.int 1))) (aH iS (ai 2) (ak (.int 256))))
  aI))
noncomputable def jv:List V->AH->R V:=cD 3 0 GW
noncomputable def Dz:SF:=(aq (cI (aF jv (af (ai 0) (af (ai 1) (af (aH iR (ai 2) (ak (.int 65536))) aC)))))
  (aq (cI (aF jv (af (ai 0) (af (aH aS (ai 1) (ak (.int 2))) (af (aH iS (ai 2) (ak (.int 65536))) aC)))))
  aI))
noncomputable def l8:List V->AH->R V:=cD 3 0 Dz
noncomputable def xC:SF:=(aq (a8 1 (aF Pk (af (ak (.int 4)) aC)))
  (aq (cI (aF l8 (af (ai 1) (af (ak (.int 0)) (af (ai 0) aC)))))
  (aq (bL (aF bJ (af (ai 1) aC)))
  aI)))
noncomputable def iH:List V->AH->R V:=cD 1 1 xC
noncomputable def GX:SF:=(aq (bL (LR (aH iw (ai 0) (ak (.int 13))) (aH iw (ai 0) (ak (.int 10)))))
  aI)
noncomputable def eY:List V->AH->R V:=cD 1 0 GX
noncomputable def GY:SF:=(aq (bL (LR (aH iw (ai 0) (ak (.int 13))) (aH iw (ai 0) (ak (.int 5)))))
  aI)
noncomputable def oB:List V->AH->R V:=cD 1 0 GY
noncomputable def BE:SF:=(aq (fj (cR (aF eY (af (ai 0) aC))) (aq (bL (ak (.int 8)))
  aI) aI)
  (aq (bL (ak (.int 12)))
  aI))
noncomputable def kq:List V->AH->R V:=cD 1 0 BE
noncomputable def BH:SF:=(aq (fj (cR (aH iw (ai 0) (ak (.int 13)))) (aq (bL (aH eH (ai 1) (ak (.int 35))))
  aI) aI)
  (aq (bL (aF zE (af (ak (.int 1)) (af (aH eH (aH iR (aH eH (ai 1) (ak (.int 12))) (ak (.int 4))) (ak (.int 12))) aC))))
  aI))
noncomputable def ku:List V->AH->R V:=cD 2 0 BH
noncomputable def zL:SF:=(aq (a8 3 (aF ku (af (ai 0) (af (ai 1) aC))))
  (aq (fj (cR (aH Pa (ai 2) (ai 3))) (aq (bL (ai 2))
  aI) aI)
  (aq bZ
  (aq bZ
  (aq bZ
  (aq bZ
  aI))))))
noncomputable def gW:List V->AH->R V:=cD 3 3 zL
noncomputable def zM:SF:=(aq (a8 1 (aH iS (ai 0) (ak (.int 18446744073709551616))))
  (aq (a8 2 (bk aC))
  (aq (fj (cR (aH Dc (ai 1) (aH xu (ak (.int 2)) (ak (.int 56))))) (aq (cI (cE iU aY (ai 2) (af (aH qp (ai 1) (ak (.int 255))) aC)))
  (aq (nO vc 1 (ak (.int 8)))
  (aq (fX 3 (ak (.int 8)) (aq (cI (cE iU aY (ai 2) (af (aH C9 (aH qp (ai 1) (ak (.int 127))) (ak (.int 128))) aC)))
  (aq (nO vc 1 (ak (.int 7)))
  aI)))
  aI))) (aq (cI (cE iU aY (ai 2) (af (aH qp (ai 1) (ak (.int 127))) aC)))
  (aq (nO vc 1 (ak (.int 7)))
  (aq (dP 10 (cR (aH oR (ai 1) (ak (.int 0)))) (aq (cI (cE iU aY (ai 2) (af (aH C9 (aH qp (ai 1) (ak (.int 127))) (ak (.int 128))) aC)))
  (aq (nO vc 1 (ak (.int 7)))
  aI)))
  aI))))
  (aq (cI (cE iU jG (ai 2) aC))
  (aq (bL (aF bJ (af (ai 2) aC)))
  aI)))))
noncomputable def fL:List V->AH->R V:=cD 1 3 zM
noncomputable def zN:SF:=(aq (a8 2 (ak (.int 0)))
  (aq (fX 3 (ak (.int 9)) (aq (fj (cR (aH Dc (ai 1) (aF bT (af (ai 0) aC)))) (aq bZ
  aI) aI)
  (aq (a8 4 (cy (ai 0) (ai 1)))
  (aq (nO E5 1 (ak (.int 1)))
  (aq (fj (cR (aH iw (ai 3) (ak (.int 8)))) (aq (bL (cS (af (aH C9 (aH Ba (ai 2) (ak (.int 8))) (ai 4)) (af (ai 1) aC))))
  aI) aI)
  (aq (a8 2 (aH C9 (aH Ba (ai 2) (ak (.int 7))) (aH qp (ai 4) (ak (.int 127)))))
  (aq (fj (cR (aH ltV (ai 4) (ak (.int 128)))) (aq (bL (cS (af (ai 2) (af (ai 1) aC))))
  aI) aI)
  aI)))))))
  (aq bZ
  aI)))
noncomputable def cg:List V->AH->R V:=cD 2 3 zN
noncomputable def BI:SF:=(aq (cG 195 .child 0 (ai 1))
  (aq (cG 195 .rowid 0 (ai 2))
  (aq (cG 195 .size 0 (ai 3))
  (aq (cG 195 .jC 0 (ai 4))
  (aq (cG 195 .overflow 0 (ai 5))
  aI)))))
noncomputable def eJ:List V->AH->R V:=cD 6 0 BI
noncomputable def BJ:SF:=(aq (a8 4 (ak (.int 0)))
  (aq (a8 5 (ak .none))
  (aq (a8 6 (ak (.int 0)))
  (aq (fj (nD (cR (aF eY (af (ai 2) aC)))) (aq (fj (cR (aH oR (aH aS (ai 1) (ak (.int 4))) (aF bT (af (ai 0) aC)))) (aq bZ
  aI) aI)
  (aq (a8 4 (aF eX (af (ai 0) (af (ai 1) aC))))
  (aq (a8 1 (aH aS (ai 1) (ak (.int 4))))
  aI))) aI)
  (aq (fj (cR (aH iw (ai 2) (ak (.int 5)))) (aq (jH [7,1] (aF cg (af (ai 0) (af (ai 1) aC))))
  (aq (bL (cS (af (aF (dg 195 eJ) (af (ai 4) (af (aF fZ (af (ai 7) aC)) (af (ak (.int 0)) (af (ak (.bytes [])) (af (ak (.int 0)) aC)))))) (af (ai 1) aC))))
  aI)) aI)
  (aq (jH [8,1] (aF cg (af (ai 0) (af (ai 1) aC))))
  (aq (fj (cR (aH iw (ai 2) (ak (.int 13)))) (aq (jH [7,1] (aF cg (af (ai 0) (af (ai 1) aC))))
  (aq (a8 5 (aF fZ (af (ai 7) aC)))
  aI)) aI)
  (aq (a8 9 (aF gW (af (ai 2) (af (ai 3) (af (ai 8) aC)))))
  (aq (a8 10 (aF bJ (af (qt (ai 0) (iT (ai 1)) (iT (aH aS (ai 1) (ai 9)))) aC)))
  (aq (a8 1 (aH aS (ai 1) (ai 9)))
  (aq (fj (cR (aH ltV (ai 9) (ai 8))) (aq (fj (cR (aH oR (aH aS (ai 1) (ak (.int 4))) (aF bT (af (ai 0) aC)))) (aq bZ
  aI) aI)
  (aq (a8 6 (aF eX (af (ai 0) (af (ai 1) aC))))
  (aq (a8 1 (aH aS (ai 1) (ak (.int 4))))
  aI))) aI)
  (aq (fj (tE (cR (aH oR (ai 1) (aF bT (af (ai 0) aC)))) (tE (cR (aH ltV (aF bT (af (ai 10) aC)) (ai 9))) (r6 false))) (aq bZ
  aI) aI)
  (aq (bL (cS (af (aF (dg 195 eJ) (af (ai 4) (af (ai 5) (af (ai 8) (af (ai 10) (af (ai 6) aC)))))) (af (ai 1) aC))))
  aI)))))))))))))
noncomputable def iZ:List V->AH->R V:=cD 4 7 BJ
noncomputable def BK:SF:=(aq (a8 1 (cy (b8 438 .data (ai 0)) (b8 438 .base (ai 0))))
  (aq (fj (vA [2,5,10,13] (ai 1)) (aq bZ
  aI) aI)
  (aq (bL (ai 1))
  aI)))
noncomputable def dI:List V->AH->R V:=cD 1 1 BK
noncomputable def vM:SF:=(aq (bL (aF eY (af (bq 438 (some .kind) dI (ai 0) aC) aC)))
  aI)
noncomputable def bP:List V->AH->R V:=cD 1 0 vM
noncomputable def vN:SF:=(aq (bL (aF oB (af (bq 438 (some .kind) dI (ai 0) aC) aC)))
  aI)
noncomputable def dB:List V->AH->R V:=cD 1 0 vN
noncomputable def zO:SF:=(aq (bL (aF f7 (af (b8 438 .data (ai 0)) (af (aH aS (b8 438 .base (ai 0)) (ak (.int 3))) aC))))
  aI)
noncomputable def bu:List V->AH->R V:=cD 1 0 zO
noncomputable def ua:SF:=(aq (fj (cR (aH oR (cy (b8 438 .data (ai 0)) (b8 438 .base (ai 0))) (ak (.int 5)))) (aq (bL (aH aS (b8 438 .base (ai 0)) (ak (.int 8))))
  aI) aI)
  (aq (bL (aH aS (b8 438 .base (ai 0)) (ak (.int 12))))
  aI))
noncomputable def gn:List V->AH->R V:=cD 1 0 ua
noncomputable def zP:SF:=(aq (bL (aF eX (af (b8 438 .data (ai 0)) (af (aH aS (b8 438 .base (ai 0)) (ak (.int 8))) aC))))
  aI)
noncomputable def jl:List V->AH->R V:=cD 1 0 zP
noncomputable def zQ:SF:=(aq (fj (tE (cR (aH ltV (ai 1) (ak (.int 0)))) (tE (cR (aH Dc (ai 1) (bq 438 none bu (ai 0) aC))) (r6 false))) (aq bZ
  aI) aI)
  (aq (a8 2 (bq 438 none gn (ai 0) aC))
  (aq (a8 3 (aF f7 (af (b8 438 .data (ai 0)) (af (aH aS (ai 2) (aH iQ (ak (.int 2)) (ai 1))) aC))))
  (aq (fj (tE (cR (aH ltV (ai 3) (aH aS (ai 2) (aH iQ (ak (.int 2)) (bq 438 none bu (ai 0) aC))))) (tE (cR (aH oR (aH aS (ai 3) (ak (.int 4))) (b8 438 .eg (ai 0)))) (r6 false))) (aq bZ
  aI) aI)
  (aq (bL (ai 3))
  aI)))))
noncomputable def dZ:List V->AH->R V:=cD 2 2 zQ
noncomputable def BL:SF:=(aq (jH [2,3] (aF iZ (af (b8 438 .data (ai 0)) (af (bq 438 none dZ (ai 0) (af (ai 1) aC)) (af (bq 438 (some .kind) dI (ai 0) aC) (af (b8 438 .eg (ai 0)) aC))))))
  (aq (bL (ai 2))
  aI))
noncomputable def i3:List V->AH->R V:=cD 2 2 BL
noncomputable def zR:SF:=(aq (a8 2 (bq 438 none dZ (ai 0) (af (ai 1) aC)))
  (aq (fj (cR (aH iw (bq 438 (some .kind) dI (ai 0) aC) (ak (.int 5)))) (aq (jH [3,2] (aF cg (af (b8 438 .data (ai 0)) (af (aH aS (ai 2) (ak (.int 4))) aC))))
  (aq (bL (aF fZ (af (ai 3) aC)))
  aI)) aI)
  (aq (jH [4,2] (aF cg (af (b8 438 .data (ai 0)) (af (ai 2) aC))))
  (aq (jH [3,2] (aF cg (af (b8 438 .data (ai 0)) (af (ai 2) aC))))
  (aq (bL (aF fZ (af (ai 3) aC)))
  aI)))))
noncomputable def di:List V->AH->R V:=cD 2 3 zR
noncomputable def zS:SF:=(aq (fj (cR (aH iw (ai 1) (bq 438 none bu (ai 0) aC))) (aq (bL (bq 438 (some .right) jl (ai 0) aC))
  aI) aI)
  (aq (bL (aF eX (af (b8 438 .data (ai 0)) (af (bq 438 none dZ (ai 0) (af (ai 1) aC)) aC))))
  aI))
noncomputable def bB:List V->AH->R V:=cD 2 0 zS
noncomputable def BN:SF:=(aq (cG 438 .data 0 (aF Pk (af (ai 1) aC)))
  (aq (cG 438 .A8 0 (ai 2))
  (aq (cG 438 .eg 0 (ai 3))
  (aq (cG 438 .base 0 (ak (.int 0)))
  (aq (fj (cR (aH iw (ai 2) (ak (.int 1)))) (aq (cG 438 .base 0 (ak (.int 32)))
  aI) aI)
  aI)))))
noncomputable def i4:List V->AH->R V:=cD 4 0 BN
noncomputable def sA:SF:=(aq (cG 742 .bA 0 (ai 1))
  (aq (cG 742 .ay 0 (bk aC))
  (aq (cG 742 .m9 0 (bk aC))
  aI)))
noncomputable def eF:List V->AH->R V:=cD 2 0 sA
noncomputable def l9:SF:=(aq (bL (aF bT (af (b8 742 .ay (ai 0)) aC)))
  aI)
noncomputable def dG:List V->AH->R V:=cD 1 0 l9
noncomputable def nt:SF:=(aq (fj (tE (cR (aH ltV (ai 1) (ak (.int 1)))) (tE (cR (aH oR (ai 1) (aF bT (af (b8 742 .ay (ai 0)) aC)))) (r6 false))) (aq bZ
  aI) aI)
  (aq (bL (cy (b8 742 .ay (ai 0)) (aH eH (ai 1) (ak (.int 1)))))
  aI))
noncomputable def cM:List V->AH->R V:=cD 2 0 nt
noncomputable def mh:SF:=(aq (fj (tE (cR (aH xw (aF bT (af (ai 2) aC)) (b8 742 .bA (ai 0)))) (tE (cR (aH ltV (ai 1) (ak (.int 1)))) (tE (cR (aH oR (ai 1) (aF bT (af (b8 742 .ay (ai 0)) aC)))) (r6 false)))) (aq bZ
  aI) aI)
  (aq (fY (b8 742 .ay (ai 0)) (aH eH (ai 1) (ak (.int 1))) (aF bJ (af (ai 2) aC)))
  aI))
noncomputable def dH:List V->AH->R V:=cD 3 0 mh
noncomputable def pK:SF:=(aq (cI (cE iU aY (b8 742 .ay (ai 0)) (af (aF bJ (af (b8 742 .bA (ai 0)) aC)) aC)))
  (aq (bL (aF bT (af (b8 742 .ay (ai 0)) aC)))
  aI))
noncomputable def dQ:List V->AH->R V:=cD 1 0 pK
noncomputable def zT:SF:=(aq (cG 527 .gQ 0 (ai 1))
  (aq (cG 527 .free 0 (ai 2))
  (aq (cG 527 .changes 0 Dp)
  aI)))
noncomputable def cU:List V->AH->R V:=cD 3 0 zT
noncomputable def vP:SF:=(aq (bL (b8 742 .bA (b8 527 .gQ (ai 0))))
  aI)
noncomputable def gX:List V->AH->R V:=cD 1 0 vP
noncomputable def zU:SF:=(aq (fj (tE (cR (aH ltV (ai 1) (ak (.int 1)))) (tE (cR (aH oR (ai 1) (bq 742 none dG (b8 527 .gQ (ai 0)) aC))) (r6 false))) (aq bZ
  aI) aI)
  (aq (bL (aF (dg 438 i4) (af (bq 742 none cM (b8 527 .gQ (ai 0)) (af (ai 1) aC)) (af (ai 1) (af (bq 527 (some .eg) gX (ai 0) aC) aC)))))
  aI))
noncomputable def bV:List V->AH->R V:=cD 2 0 zU
noncomputable def vQ:SF:=(aq (fj (cR (aH oR (aF bT (af (ai 1) aC)) (ak (.int 50)))) (aq bZ
  aI) aI)
  aI)
noncomputable def ck:List V->AH->R V:=cD 2 0 vQ
noncomputable def zV:SF:=(aq (fj (cR (aH iw (b8 195 .overflow (ai 1)) (ak (.int 0)))) (aq (bL (b8 195 .jC (ai 1)))
  aI) aI)
  (aq bZ
  aI))
noncomputable def gY:List V->AH->R V:=cD 2 0 zV
noncomputable def DA:SF:=(aq (a8 3 (bk aC))
  (aq (a8 4 (ai 1))
  (aq (dP 4 (cR (ak (.bool true))) (aq (a8 5 (bq 527 none bV (ai 0) (af (ai 4) aC)))
  (aq (a8 6 (ak (.int 0)))
  (aq (fj (cR (ai 2)) (aq (a8 6 (aH eH (bq 438 none bu (ai 5) aC) (aF iE (af (bq 438 none bP (ai 5) aC) aC))))
  aI) aI)
  (aq (cI (cE iU aY (ai 3) (af (cS (af (ai 4) (af (ai 6) aC))) aC)))
  (aq (cI (bq 527 none ck (ai 0) (af (ai 3) aC)))
  (aq (fj (cR (bq 438 none bP (ai 5) aC)) (aq (bL (ai 3))
  aI) aI)
  (aq (a8 4 (bq 438 (some .child) bB (ai 5) (af (ai 6) aC)))
  aI))))))))
  aI)))
noncomputable def fF:List V->AH->R V:=cD 3 4 DA
noncomputable def qG:SF:=(aq (bL (aH eH (aF iE (af (aH oR (ai 1) (ai 2)) aC)) (aF iE (af (aH ltV (ai 1) (ai 2)) aC))))
  aI)
noncomputable def d7:List V->AH->R V:=cD 3 0 qG
noncomputable def DB:SF:=(aq (a8 4 (ak (.int 0)))
  (aq (a8 5 (bq 438 none bu (ai 1) aC))
  (aq (a8 6 (ak (.bool false)))
  (aq (dP 8 (cR (aH ltV (ai 4) (ai 5))) (aq (a8 7 (aH iR (aH aS (ai 4) (ai 5)) (ak (.int 2))))
  (aq (a8 8 (bq 590 none d7 (ai 3) (af (aF gY (af (ai 0) (af (bq 438 none i3 (ai 1) (af (ai 7) aC)) aC))) (af (ai 2) aC))))
  (aq (fj (cR (aH ltV (ai 8) (ak (.int 0)))) (aq (a8 4 (aH aS (ai 7) (ak (.int 1))))
  aI) (aq (a8 5 (ai 7))
  (aq (a8 6 (aH iw (ai 8) (ak (.int 0))))
  aI)))
  aI))))
  (aq (bL (cS (af (ai 4) (af (ai 6) aC))))
  aI)))))
noncomputable def jN:List V->AH->R V:=cD 4 5 DB
noncomputable def zW:SF:=(aq (a8 5 (bk aC))
  (aq (a8 6 (ai 1))
  (aq (dP 4 (cR (ak (.bool true))) (aq (a8 7 (bq 527 none bV (ai 0) (af (ai 6) aC)))
  (aq (fj (cR (bq 438 none dB (ai 7) aC)) (aq (jM (sr 6))
  aI) aI)
  (aq (jH [8,9] (aF jN (af (ai 0) (af (ai 7) (af (ai 2) (af (ai 3) aC))))))
  (aq (cI (cE iU aY (ai 5) (af (cS (af (ai 6) (af (ai 8) aC))) aC)))
  (aq (cI (bq 527 none ck (ai 0) (af (ai 5) aC)))
  (aq (fj (tE (cR (bq 438 none bP (ai 7) aC)) (tE (u7 (cR (ai 9)) (u7 (nD (cR (ai 4))) (r6 true))) (r6 false))) (aq (bL (cS (af (ai 5) (af (ai 9) aC))))
  aI) aI)
  (aq (a8 6 (bq 438 (some .child) bB (ai 7) (af (ai 8) aC)))
  aI))))))))
  aI)))
noncomputable def gZ:List V->AH->R V:=cD 5 5 zW
noncomputable def DC:SF:=(aq (jH [4,5] (aF gZ (af (ai 0) (af (ai 1) (af (ai 2) (af (ai 3) (af (ak (.bool false)) aC)))))))
  (aq (fj (cR (ai 5)) (aq (bL (cS (af (ai 4) (af (ak (.int 0)) aC))))
  aI) aI)
  (aq (jH [6,7] (cy (ai 4) (jJ (ak (.int 1)))))
  (aq (fj (cR (aH ltV (ai 7) (bq 438 none bu (bq 527 none bV (ai 0) (af (ai 6) aC)) aC))) (aq (bL (cS (af (ai 4) (af (ak (.int 1)) aC))))
  aI) aI)
  (aq (bL (cS (af (ai 4) (af (jJ (ak (.int 1))) aC))))
  aI)))))
noncomputable def dR:List V->AH->R V:=cD 4 4 DC
noncomputable def PN:SF:=(aq (bL (aH aS (ak (.int 2)) (aF zE (af (ak (.int 4)) (af (aF bT (af (ai 0) aC)) aC)))))
  aI)
noncomputable def vR:List V->AH->R V:=cD 1 0 PN
noncomputable def Mp:SF:=(aq (bL (aF Dh (af (gG none (iA (ai 0)) (r6 true) (aF vR (af (ai 0) aC))) aC)))
  aI)
noncomputable def uz:List V->AH->R V:=cD 1 0 Mp
noncomputable def GZ:SF:=(aq (bL (jD (cR (aH iw (ai 0) (ak (.int 1)))) (ak (.int 32)) (ak (.int 0))))
  aI)
noncomputable def jw:List V->AH->R V:=cD 1 0 GZ
noncomputable def DE:SF:=(aq (bL (aH eH (aH eH (ai 2) (aF jw (af (ai 0) aC))) (aF kq (af (ai 1) aC))))
  aI)
noncomputable def pL:List V->AH->R V:=cD 3 0 DE
noncomputable def vS:SF:=(aq (cG 644 .kind 0 (ai 1))
  (aq (cG 644 .raws 0 (ai 2))
  (aq (cG 644 .right 0 (ai 3))
  aI)))
noncomputable def cV:List V->AH->R V:=cD 4 0 vS
noncomputable def PO:SF:=(aq (bL (aH Pa (aF uz (af (b8 644 .raws (ai 2)) aC)) (aF pL (af (ai 1) (af (b8 644 .kind (ai 2)) (af (b8 742 .bA (ai 0)) aC))))))
  aI)
noncomputable def zX:List V->AH->R V:=cD 3 0 PO
noncomputable def uc:SF:=(aq (fj (nD (cR (aF zX (af (ai 0) (af (ai 1) (af (ai 2) aC)))))) (aq bZ
  aI) aI)
  (aq (ji [3,4] (cS (af (b8 742 .bA (ai 0)) (af (aF jw (af (ai 1) aC)) aC))))
  (aq (ji [5,6,7] (cS (af (bk aC) (af (bk aC) (af (ai 3) aC)))))
  (aq (lF 8 (b8 644 .raws (ai 2)) (aq (a8 9 (aH aS (ai 8) (aF bJ (af (aF zE (af (ak (.int 0)) (af (aH eH (ak (.int 4)) (aF bT (af (ai 8) aC))) aC))) aC))))
  (aq (a8 7 (aH eH (ai 7) (aF bT (af (ai 9) aC))))
  (aq (cI (cE iU aY (ai 5) (af (cE Pf iV (ai 7) (af (ak (.int 2)) (af (ak (.str (Str.ofString "big"))) aC))) aC)))
  (aq (cI (cE iU aY (ai 6) (af (ai 9) aC)))
  aI)))))
  (aq (a8 10 (aH aS (aH aS (aH aS (aF bJ (af (bk (af (b8 644 .kind (ai 2)) (af (ak (.int 0)) (af (ak (.int 0)) aC)))) aC)) (cE Pf iV (aF bT (af (b8 644 .raws (ai 2)) aC)) (af (ak (.int 2)) (af (ak (.str (Str.ofString "big"))) aC)))) (cE Pf iV (ai 7) (af (ak (.int 2)) (af (ak (.str (Str.ofString "big"))) aC)))) (aF bJ (af (ak (.int 1)) aC))))
  (aq (fj (nD (cR (aF eY (af (b8 644 .kind (ai 2)) aC)))) (aq (a8 10 (aH aS (ai 10) (aF iH (af (b8 644 .right (ai 2)) aC))))
  aI) aI)
  (aq (a8 11 (aH aS (aH aS (qt (bq 742 none cM (ai 0) (af (ai 1) aC)) qs (iT (ai 4))) (ai 10)) (cE Dg tI (ak (.bytes [])) (af (ai 5) aC))))
  (aq (cI (cE iU jG (ai 6) aC))
  (aq (cI (bq 742 none dH (ai 0) (af (ai 1) (af (aH aS (aH aS (ai 11) (aF bJ (af (aH eH (ai 7) (aF bT (af (ai 11) aC))) aC))) (cE Dg tI (ak (.bytes [])) (af (ai 6) aC))) aC))))
  aI)))))))))
noncomputable def cY:List V->AH->R V:=cD 3 9 uc
noncomputable def xD:SF:=(aq (a8 2 (ak (.int 0)))
  (aq (a8 3 (bq 438 none bu (ai 0) aC))
  (aq (dP 8 (cR (aH ltV (ai 2) (ai 3))) (aq (a8 4 (aH iR (aH aS (ai 2) (ai 3)) (ak (.int 2))))
  (aq (fj (cR (aH ltV (bq 438 (some .rowid) di (ai 0) (af (ai 4) aC)) (ai 1))) (aq (a8 2 (aH aS (ai 4) (ak (.int 1))))
  aI) (aq (a8 3 (ai 4))
  aI))
  aI)))
  (aq (bL (ai 2))
  aI))))
noncomputable def f9:List V->AH->R V:=cD 2 3 xD
noncomputable def zY:SF:=(aq (a8 3 (bk aC))
  (aq (a8 4 (ai 1))
  (aq (dP 4 (cR (ak (.bool true))) (aq (a8 5 (bq 527 none bV (ai 0) (af (ai 4) aC)))
  (aq (fj (nD (cR (bq 438 none dB (ai 5) aC))) (aq (jM (sr 4))
  aI) aI)
  (aq (a8 6 (aF f9 (af (ai 5) (af (ai 2) aC))))
  (aq (cI (cE iU aY (ai 3) (af (cS (af (ai 4) (af (ai 6) aC))) aC)))
  (aq (cI (bq 527 none ck (ai 0) (af (ai 3) aC)))
  (aq (fj (cR (bq 438 none bP (ai 5) aC)) (aq (bL (cS (af (ai 3) (af (u9 (aH ltV (ai 6) (bq 438 none bu (ai 5) aC)) (aH iw (bq 438 (some .rowid) di (ai 5) (af (ai 6) aC)) (ai 2))) aC))))
  aI) aI)
  (aq (a8 4 (bq 438 (some .child) bB (ai 5) (af (ai 6) aC)))
  aI))))))))
  aI)))
noncomputable def dj:List V->AH->R V:=cD 3 4 zY
noncomputable def zZ:SF:=(aq (jH [2,3] (cy (aF fF (af (ai 0) (af (ai 1) (af (ak (.bool true)) aC)))) (jJ (ak (.int 1)))))
  (aq (fj (cR (aH ltV (ai 3) (ak (.int 0)))) (aq (bL (ak .none))
  aI) aI)
  (aq (bL (bq 438 (some .rowid) di (bq 527 none bV (ai 0) (af (ai 2) aC)) (af (ai 3) aC)))
  aI)))
noncomputable def jm:List V->AH->R V:=cD 2 2 zZ
noncomputable def DF:SF:=(aq (a8 2 (ak (.int 0)))
  (aq (fj (cR (aH ltV (ai 1) (aF bT (af (ai 0) aC)))) (aq (a8 2 (cy (ai 0) (ai 1)))
  aI) aI)
  (aq (a8 3 (aF zE (af (aF iE (af (ai 2) aC)) (af (aF iE (af (aH eH (jJ (ak (.int 1))) (ai 2)) aC)) aC))))
  (aq (a8 4 (aH iS (aF iE (af (aH iQ (aH aS (aH aS (aH aS (aH iS (aF iE (af (ai 3) aC)) (ak (.int 2147483629))) (aH iQ (aH iQ (ak (.int 7919)) (ai 1)) (ai 1))) (aH iQ (ak (.int 31)) (ai 1))) (ak (.int 17))) (ak (.int 48271))) aC)) (ak (.int 2147483647))))
  (aq (bL (bk (af (aH iQ (ai 3) (aF iE (af (aH Dc (ai 3) (aH xu (ak (.int 10)) (ak (.int 18)))) aC))) (af (ai 4) aC))))
  aI)))))
noncomputable def mi:List V->AH->R V:=cD 2 3 DF
noncomputable def DH:SF:=(aq (fj (cR (aH oR (cy (ai 0) (ak (.int 0))) (ak (.int 0)))) (aq (a8 2 (aH iS (aF iE (af (cy (ai 0) (ak (.int 0))) aC)) (ai 1)))
  (aq (fY (ai 0) (ak (.int 0)) (aH iR (cy (ai 0) (ak (.int 0))) (ai 1)))
  (aq (bL (ai 2))
  aI))) aI)
  (aq (fY (ai 0) (ak (.int 1)) (aH iS (aF iE (af (aH aS (aH iQ (cy (ai 0) (ak (.int 1))) (ak (.int 39373))) (ak (.int 7))) aC)) (ak (.int 2147483647))))
  (aq (bL (aH iS (aF iE (af (aH iR (aH iS (aF iE (af (aH iQ (cy (ai 0) (ak (.int 1))) (cy (ai 0) (ak (.int 1)))) aC)) (ak (.int 2147483629))) (ak (.int 32))) aC)) (ai 1)))
  aI)))
noncomputable def bE:List V->AH->R V:=cD 2 1 DH
noncomputable def G0:SF:=(aq (bL (cy (ai 1) (aF bE (af (ai 0) (af (aF bT (af (ai 1) aC)) aC)))))
  aI)
noncomputable def dN:List V->AH->R V:=cD 2 0 G0
noncomputable def DI:SF:=(aq (bL (aF bJ (af (bk (af (ak (.int 0)) (af (ak (.int 0)) (af (aH iR (ai 0) (ak (.int 256))) (af (aH iS (ai 0) (ak (.int 256))) aC))))) aC)))
  aI)
noncomputable def mj:List V->AH->R V:=cD 1 0 DI
noncomputable def BO:SF:=(aq (bL (gG (some 0) (lY (aF dN (af (ai 0) (af (bk (af (ak (.int 1)) (af (ak (.int 2)) (af (ak (.int 3)) (af (ak (.int 3)) aC))))) aC)))) (r6 true) (aF bE (af (ai 1) (af (ak (.int 4)) aC)))))
  aI)
noncomputable def gH:List V->AH->R V:=cD 1 0 BO
noncomputable def BP:SF:=(aq (a8 2 (bk (af (ak (.int 2)) (af (ak (.int 3)) (af (ak (.int 4)) (af (ak (.int 5)) aC))))))
  (aq (a8 3 (aF bE (af (ai 0) (af (ak (.int 4)) aC))))
  (aq (a8 2 (aH aS (qt (ai 2) (iT (ai 3)) qs) (qt (ai 2) qs (iT (ai 3)))))
  (aq (bL (aH aS (qt (ai 2) qs (iT (ai 1))) (bk (af (jD (cR (aH iw (aF bE (af (ai 0) (af (ak (.int 2)) aC))) (ak (.int 0)))) (ak (.int 1)) (cy (ai 2) (ai 1))) aC))))
  aI))))
noncomputable def gI:List V->AH->R V:=cD 2 2 BP
noncomputable def BQ:SF:=(aq (a8 0 (aF (dg 742 eF) (af (ak (.int 128)) aC)))
  (aq (fX 1 (ak (.int 5)) (aq (cI (bq 742 none dQ (ai 0) aC))
  aI))
  (aq (bL (ai 0))
  aI)))
noncomputable def kB:List V->AH->R V:=cD 0 2 BQ
noncomputable def DJ:SF:=(aq (ji [4,5] (cS (af (aF kB aC) (af (cy (ai 2) (jJ (ak (.int 1)))) aC))))
  (aq (fX 6 (aF bT (af (ai 0) aC)) (aq (a8 7 (gG (some 3) (iA (cy (ai 0) (ai 6))) (r6 true) (jD (cR (ai 1)) (aH aS (aH aS (aF bJ (af (bk (af (ak (.int 1)) aC)) aC)) (aF fL (af (ai 0) aC))) (ak (.bytes [114]))) (aH aS (aF bJ (af (bk (af (aF bT (af (ai 0) aC)) aC)) aC)) (ai 0)))))
  (aq (a8 8 (jD (cR (aH iw (aF bT (af (ai 0) aC)) (ak (.int 1)))) (ai 5) (cy (ai 2) (ai 6))))
  (aq (cI (aF cY (af (ai 4) (af (ai 8) (af (aF (dg 644 cV) (af (jD (cR (ai 3)) (ak (.int 13)) (ak (.int 10))) (af (ai 7) (af (ak (.int 0)) aC)))) aC)))))
  aI))))
  (aq (fj (cR (aH oR (aF bT (af (ai 0) aC)) (ak (.int 1)))) (aq (a8 7 (bk aC))
  (aq (fX 6 (aF bT (af (ai 1) aC)) (aq (a8 9 (jD (cR (ai 3)) (aF fL (af (cy (ai 1) (ai 6)) aC)) (aH aS (aF bJ (af (bk (af (aF bT (af (cy (ai 1) (ai 6)) aC)) aC)) aC)) (cy (ai 1) (ai 6)))))
  (aq (cI (cE iU aY (ai 7) (af (aH aS (aF mj (af (cy (ai 2) (ai 6)) aC)) (ai 9)) aC)))
  aI)))
  (aq (cI (aF cY (af (ai 4) (af (ai 5) (af (aF (dg 644 cV) (af (jD (cR (ai 3)) (ak (.int 5)) (ak (.int 2))) (af (ai 7) (af (cy (ai 2) (aH eH (aF bT (af (ai 0) aC)) (ak (.int 1)))) aC)))) aC)))))
  aI))) aI)
  (aq (bL (ai 4))
  aI))))
noncomputable def eM:List V->AH->R V:=cD 4 6 DJ
noncomputable def xE:SF:=(aq (ji [4,5] (cS (af (cy (ai 2) (jJ (ak (.int 1)))) (af (bk aC) aC))))
  (aq (fj (cR (aH oR (aF bT (af (ai 0) aC)) (ak (.int 1)))) (aq (a8 6 (aF bT (af (gG (some 3) (iA (ai 1)) (cR (aH ltV (ai 0) (ai 1))) (ai 0)) aC)))
  (aq (cI (cE iU aY (ai 5) (af (cS (af (ai 4) (af (ai 6) aC))) aC)))
  (aq (fj (cR (aH L6 (ai 3) (ai 1))) (aq (bL (cS (af (ai 5) (af (ak (.int 0)) aC))))
  aI) aI)
  (aq (ji [7,8] (cS (af (cy (ai 0) (ai 6)) (af (cy (ai 2) (ai 6)) aC))))
  aI)))) (aq (ji [7,8] (cS (af (cy (ai 0) (ak (.int 0))) (af (ai 4) aC))))
  aI))
  (aq (a8 9 (aF bT (af (gG (some 3) (iA (ai 7)) (cR (aH ltV (ai 0) (ai 1))) (ai 0)) aC)))
  (aq (a8 10 (jD (cR (aH L6 (ai 3) (ai 7))) (ak (.int 0)) (jD (cR (aH ltV (ai 9) (aF bT (af (ai 7) aC)))) (ak (.int 1)) (jJ (ak (.int 1))))))
  (aq (bL (cS (af (aH aS (ai 5) (bk (af (cS (af (ai 8) (af (ai 9) aC))) aC))) (af (ai 10) aC))))
  aI)))))
noncomputable def iI:List V->AH->R V:=cD 4 7 xE
noncomputable def xF:SF:=(aq (a8 4 (cy (ai 2) (jJ (ak (.int 1)))))
  (aq (a8 5 (aF bT (af (gG (some 3) (iA (ai 1)) (cR (aH ltV (ai 0) (ai 1))) (ai 0)) aC)))
  (aq (ji [6,7] (cS (af (cy (ai 0) (ai 5)) (af (jD (cR (aH iw (aF bT (af (ai 0) aC)) (ak (.int 1)))) (ai 4) (cy (ai 2) (ai 5))) aC))))
  (aq (a8 8 (jD (cR (aH iw (aF bT (af (ai 0) aC)) (ak (.int 1)))) (bk aC) (bk (af (cS (af (ai 4) (af (ai 5) aC))) aC))))
  (aq (bL (cS (af (aH aS (ai 8) (bk (af (cS (af (ai 7) (af (aF bT (af (gG (some 3) (iA (ai 6)) (cR (aH ltV (ai 0) (ai 1))) (ai 0)) aC)) aC))) aC))) (af (aH L6 (ai 3) (ai 6)) aC))))
  aI)))))
noncomputable def iJ:List V->AH->R V:=cD 4 5 xF
noncomputable def sC:SF:=(aq (ji [3,4] (cS (af (cy (ai 2) (jJ (ak (.int 1)))) (af (aH eH (aF bT (af (ai 1) aC)) (ak (.int 1))) aC))))
  (aq (a8 5 (jD (cR (aH iw (ai 4) (ak (.int 0)))) (bk (af (cS (af (ai 3) (af (ak (.int 0)) aC))) aC)) (bk (af (cS (af (ai 3) (af (ak (.int 0)) aC))) (af (cS (af (cy (ai 2) (ak (.int 0))) (af (ak (.int 0)) aC))) aC)))))
  (aq (fj (cR (aH xw (aF fF (af (ai 0) (af (ai 3) (af (ak (.bool false)) aC)))) (ai 5))) (aq (bL (ak (.bool false)))
  aI) aI)
  (aq (a8 6 (aH eH (aF bT (af (cy (ai 1) (ai 4)) aC)) (ak (.int 1))))
  (aq (bL (aH iw (aF fF (af (ai 0) (af (ai 3) (af (ak (.bool true)) aC)))) (jD (cR (aH iw (ai 4) (ak (.int 0)))) (bk (af (cS (af (ai 3) (af (ai 6) aC))) aC)) (bk (af (cS (af (ai 3) (af (ai 4) aC))) (af (cS (af (cy (ai 2) (ai 4)) (af (ai 6) aC))) aC))))))
  aI)))))
noncomputable def dO:List V->AH->R V:=cD 3 4 sC
noncomputable def fG:Nat×Nat:=(586,72)
noncomputable def sD:SF:=(aq (ji [1,2,3] (cS (af (aF gH (af (ai 0) aC)) (af (ak (.int 0)) (af (bk aC) aC)))))
  (aq (fX 4 (aH eH (aH aS (aF Dh (af (ai 1) aC)) (aF bT (af (ai 1) aC))) (ak (.int 1))) (aq (a8 2 (aH aS (aH aS (ai 2) (ak (.int 1))) (aF bE (af (ai 0) (af (ak (.int 90)) aC)))))
  (aq (cI (cE iU aY (ai 3) (af (aH aS (aF bJ (af (bk (af (aH iR (ai 2) (ak (.int 256))) (af (aH iS (ai 2) (ak (.int 256))) aC))) aC)) (jD (cR (aH iw (aF bE (af (ai 0) (af (ak (.int 2)) aC))) (ak (.int 0)))) (ak (.bytes [])) (ak (.bytes [107])))) aC)))
  aI)))
  (aq (ji [5,6,7] (cS (af (bk aC) (af (bk aC) (af (ak (.int 0)) aC)))))
  (aq (lF 8 (ai 1) (aq (cI (cE iU aY (ai 5) (af (qt (ai 3) (iT (ai 7)) (iT (aH aS (ai 7) (ai 8)))) aC)))
  (aq (cI (cE iU ur (ai 6) (af (qt (ai 3) (iT (aH aS (ai 7) (ai 8))) (iT (aH aS (aH aS (ai 7) (ai 8)) (ak (.int 1))))) aC)))
  (aq (a8 7 (aH aS (aH aS (ai 7) (ai 8)) (ak (.int 1))))
  aI))))
  (aq (a8 9 (aF gI (af (ai 0) (af (aF bT (af (ai 1) aC)) aC))))
  (aq (a8 10 (aF eM (af (ai 5) (af (ai 6) (af (ai 9) (af (ak (.bool false)) aC))))))
  (aq (jH [11,12,13] (cS (af (aF (dg 527 cU) (af (ai 10) (af (ai 10) aC))) (af (cy (ai 9) (jJ (ak (.int 1)))) (af (aF lD (af (b8 742 .ay (ai 10)) aC)) aC)))))
  (aq (a8 14 (aH aS (qt (ai 3) qs (iT (aF bE (af (ai 0) (af (ak (.int 4)) aC))))) (bk (af (ak (.bytes [])) (af (aF bJ (af (bk (af (ak (.int 0)) (af (aF bE (af (ai 0) (af (ak (.int 200)) aC))) aC))) aC)) (af (aF bJ (af (bk (af (ak (.int 9)) (af (ak (.int 9)) (af (ak (.int 9)) aC)))) aC)) aC))))))
  (aq (lF 15 (aH aS (ai 14) (bk (af (aH aS (aF dN (af (ai 0) (af (aH aS (ai 3) (bk (af (ak (.bytes [97])) aC))) aC))) (ak (.bytes [33]))) aC))) (aq (fj (cR (aH xw (aF dR (af (ai 11) (af (ai 12) (af (ai 15) (af (aF (kZ 590) aC) aC))))) (aF iI (af (ai 5) (af (ai 6) (af (ai 9) (af (ai 15) aC))))))) (aq (bL (ak (.bool false)))
  aI) aI)
  aI))
  (aq (fj (tE (nD (cR (aF dO (af (ai 11) (af (ai 5) (af (ai 9) aC)))))) (tE (nD (cR (vK 2 fG [11,12] (aF dj (af (ai 0) (af (ai 1) (af (ak (.int 5)) aC))))))) (r6 false))) (aq (bL (ak (.bool false)))
  aI) aI)
  (aq (bL (aH iw (b8 742 .ay (ai 10)) (ai 13)))
  aI)))))))))))
noncomputable def fM:List V->AH->R V:=cD 1 15 sD
noncomputable def fJ:Nat×Nat:=(611,27)
noncomputable def sE:SF:=(aq (jH [1,2,3,4] (cS (af (aF gH (af (ai 0) aC)) (af (aF dN (af (ai 0) (af (bk (af (jJ (ak (.int 300))) (af (ak (.int 0)) (af (aH xu (ak (.int 2)) (ak (.int 62))) aC)))) aC))) (af (bk aC) (af (bk aC) aC))))))
  (aq (lF 5 (ai 1) (aq (a8 6 (bk aC))
  (aq (fX 7 (ai 5) (aq (a8 2 (aH aS (aH aS (ai 2) (ak (.int 1))) (aF bE (af (ai 0) (af (ak (.int 90)) aC)))))
  (aq (cI (cE iU aY (ai 6) (af (ai 2) aC)))
  aI)))
  (aq (cI (cE iU aY (ai 3) (af (ai 6) aC)))
  (aq (a8 2 (aH aS (ai 2) (aF bE (af (ai 0) (af (ak (.int 3)) aC)))))
  (aq (cI (cE iU aY (ai 4) (af (ai 2) aC)))
  aI))))))
  (aq (ji [4,8] (cS (af (qt (ai 4) qs (iT (jJ (ak (.int 1))))) (af (aF gI (af (ai 0) (af (aF bT (af (ai 1) aC)) aC))) aC))))
  (aq (a8 9 (aF eM (af (ai 3) (af (ai 4) (af (ai 8) (af (ak (.bool true)) aC))))))
  (aq (jH [10,11,12] (cS (af (aF (dg 527 cU) (af (ai 9) (af (ai 9) aC))) (af (cy (ai 8) (jJ (ak (.int 1)))) (af (aF lD (af (b8 742 .ay (ai 9)) aC)) aC)))))
  (aq (a8 13 (aH aS (aH aS (sq (ai 3)) (ai 4)) (bk (af (ak (.int 7)) aC))))
  (aq (fX 7 (ak (.int 4)) (aq (a8 14 (aH aS (aF dN (af (ai 0) (af (ai 13) aC))) (aF dN (af (ai 0) (af (bk (af (ak (.int 0)) (af (ak (.int 0)) (af (ak (.int 1)) (af (jJ (ak (.int 1))) aC))))) aC)))))
  (aq (fj (cR (aH xw (aF dj (af (ai 10) (af (ai 11) (af (ai 14) aC)))) (aF iJ (af (ai 3) (af (ai 4) (af (ai 8) (af (ai 14) aC))))))) (aq (bL (ak (.bool false)))
  aI) aI)
  aI)))
  (aq (fj (cR (aH xw (aF jm (af (ai 10) (af (ai 11) aC))) (jD (cR (aH xw (cy (ai 3) (jJ (ak (.int 1)))) (bk aC))) (cy (cy (ai 3) (jJ (ak (.int 1)))) (jJ (ak (.int 1)))) (ak .none)))) (aq (bL (ak (.bool false)))
  aI) aI)
  (aq (fj (nD (cR (aF dO (af (ai 10) (af (ai 3) (af (ai 8) aC)))))) (aq (bL (ak (.bool false)))
  aI) aI)
  (aq (bL (u9 (vK 1 fJ [10,11] (aF dR (af (ai 0) (af (ai 1) (af (ak (.bytes [97])) (af (aF (kZ 590) aC) aC)))))) (aH iw (b8 742 .ay (ai 9)) (ai 12))))
  aI))))))))))
noncomputable def fN:List V->AH->R V:=cD 1 14 sE
noncomputable def nQ:Nat×Nat:=(626,27)
noncomputable def nR:Nat×Nat:=(622,27)
noncomputable def sF:SF:=(aq (a8 0 (aF eM (af (bk (af (bk (af (ak (.bytes [98,98])) (af (ak (.bytes [100,100])) aC))) aC)) (af (bk aC) (af (bk (af (ak (.int 2)) (af (ak (.int 1)) aC))) (af (ak (.bool false)) aC))))))
  (aq (fj (cR (aH xw (aF dR (af (aF (dg 527 cU) (af (ai 0) (af (ai 0) aC))) (af (ak (.int 1)) (af (ak (.bytes [99,99])) (af (aF (kZ 590) aC) aC))))) (cS (af (bk (af (cS (af (ak (.int 1)) (af (ak (.int 1)) aC))) aC)) (af (ak (.int 1)) aC))))) (aq (bL (ak (.bool false)))
  aI) aI)
  (aq (a8 1 (aF eM (af (bk (af (bk (af (ak (.bytes [98,98])) aC)) (af (bk (af (ak (.bytes [100,100])) aC)) aC))) (af (bk (af (ak (.bytes [99,99])) aC)) (af (bk (af (ak (.int 2)) (af (ak (.int 3)) (af (ak (.int 1)) aC)))) (af (ak (.bool false)) aC))))))
  (aq (cI (aF cY (af (ai 1) (af (ak (.int 2)) (af (aF (dg 644 cV) (af (ak (.int 13)) (af (bk (af (aH aS (aF bJ (af (bk (af (ak (.int 1)) (af (ak (.int 7)) aC))) aC)) (ak (.bytes [114]))) aC)) (af (ak (.int 0)) aC)))) aC)))))
  (aq (a8 2 (aF eM (af (bk (af (bk (af (ak (.int 3)) aC)) (af (bk (af (ak (.int 7)) aC)) aC))) (af (bk (af (ak (.int 4)) aC)) (af (bk (af (ak (.int 2)) (af (ak (.int 3)) (af (ak (.int 1)) aC)))) (af (ak (.bool true)) aC))))))
  (aq (cI (aF cY (af (ai 2) (af (ak (.int 3)) (af (aF (dg 644 cV) (af (ak (.int 10)) (af (bk (af (aH aS (aF bJ (af (bk (af (ak (.int 1)) aC)) aC)) (ak (.bytes [114]))) aC)) (af (ak (.int 0)) aC)))) aC)))))
  (aq (fj (cR (aH xw (aF dR (af (aF (dg 527 cU) (af (ai 1) (af (ai 1) aC))) (af (ak (.int 1)) (af (ak (.bytes [100,100])) (af (aF (kZ 590) aC) aC))))) (cS (af (bk (af (cS (af (ak (.int 1)) (af (ak (.int 1)) aC))) (af (cS (af (ak (.int 3)) (af (ak (.int 0)) aC))) aC))) (af (ak (.int 0)) aC))))) (aq (bL (ak (.bool false)))
  aI) aI)
  (aq (fj (nD (cR (vK 0 nR [1] (aF dR (af (aF (dg 527 cU) (af (ai 0) (af (ai 0) aC))) (af (ak (.int 1)) (af (ak (.bytes [97])) (af (aF (kZ 590) aC) aC)))))))) (aq (bL (ak (.bool false)))
  aI) aI)
  (aq (fj (cR (aH xw (aF dj (af (aF (dg 527 cU) (af (ai 2) (af (ai 2) aC))) (af (ak (.int 1)) (af (ak (.int 3)) aC)))) (cS (af (bk (af (cS (af (ak (.int 1)) (af (ak (.int 0)) aC))) (af (cS (af (ak (.int 2)) (af (ak (.int 0)) aC))) aC))) (af (ak (.bool true)) aC))))) (aq (bL (ak (.bool false)))
  aI) aI)
  (aq (bL (vK 0 nQ [2] (aF dj (af (aF (dg 527 cU) (af (ai 0) (af (ai 0) aC))) (af (ak (.int 1)) (af (ak (.int 7)) aC))))))
  aI))))))))))
noncomputable def eG:List V->AH->R V:=cD 0 3 sF
noncomputable def E6:SF:=(aq (fj (nD (cR (aF eG aC))) (aq (bL (ak (.bool false)))
  aI) aI)
  (aq (a8 1 (aF mi (af (ai 0) (af (ak (.int 0)) aC))))
  (aq (bL (u9 (aF fM (af (ai 1) aC)) (aF fN (af (ai 1) aC))))
  aI)))
end
namespace P
section
variable{ρ:List V}{H:AH}{a b o i:EF}{l:LF}{c d:BF}{s t:SF}{n k:Nat}{is:List Nat}{v w:V}{vs:List V}{f:Fd}{cl:Addr}{nm:Option Fd}{lo hi:OF}
@[simp] theorem VN:cD n k s vs H=if vs.length=n then(match s (vs++List.replicate k .undef) H with | .next _ H => .ok .none H | .ret v H => .ok v H | .exc H => .exc H | .stuck => .stuck)else .stuck:=rfl
@[simp] theorem VO:aq s t ρ H=(s ρ H).iz t:=rfl
@[simp] theorem W7:aI ρ H = .next ρ H:=rfl
@[simp] theorem W8:bL a ρ H=rs (a ρ H) fun v H => .ret v H:=rfl
@[simp] theorem W9:a8 n a ρ H=rs (a ρ H) fun v H => .next (ρ.set n v) H:=rfl
@[simp] theorem Yo:fj c s t ρ H=rs (c ρ H) fun x H=>match x with | true=>s ρ H | false=>t ρ H:=rfl
@[simp] theorem e_expr:cI a ρ H=rs (a ρ H) fun v H=>if pH v=true then .next ρ H else .stuck:=rfl
@[simp] theorem Xa{g:V->V->AH->R V}:nO g n a ρ H=rs (gA ρ n H) fun o H=>rs (a ρ H) fun v H=>rs (g o v H) fun w H => .next (ρ.set n w) H:=rfl
@[simp] theorem Xb:jH is a ρ H=rs (a ρ H) (tupS fun vs H=>if vs.length=is.length then .next (dX ρ is vs) H else .stuck):=rfl
@[simp] theorem VP:ji is a ρ H=rs (a ρ H) (tupS fun vs H=>if vs.length=is.length then .next (dX ρ is.reverse vs.reverse) H else .stuck):=rfl
@[simp] theorem Mq:cG cl f n a ρ H=rs (a ρ H) fun v H=>rs (gA ρ n H) (LZ cl f ρ v):=rfl
@[simp] theorem PP{n:Nat}:LZ cl f ρ v (.inst cl n) H=zF (dct H n) fun fs=>if fs.length<=900 then .next ρ (H.set n (.dict (xy fs f v)))else .stuck:=if_pos rfl
@[simp] theorem UW:fY o i a ρ H=rs (a ρ H) fun v H=>rs (o ρ H) fun ov H=>rs (i ρ H) fun iv H=>rs (Bq v ov iv H) fun _ H => .next ρ H:=rfl
@[simp] theorem Xc:ai n ρ H=gA ρ n H:=rfl
@[simp] theorem Xd:ak v ρ H = .ok v H:=rfl
@[simp] theorem Xe{g:V->V->AH->R V}:aH g a b ρ H=(a ρ H).bind fun x H=>(b ρ H).bind fun y H=>g x y H:=rfl
@[simp] theorem VQ{g:List V->AH->R V}:aF g l ρ H=(l ρ H).bind g:=rfl
@[simp] theorem VR:aC ρ H = .ok [] H:=rfl
@[simp] theorem UX:af a l ρ H=(a ρ H).bind fun v H=>(l ρ H).bind fun vs H => .ok (v::vs) H:=rfl
@[simp] theorem VS:cy o i ρ H=(o ρ H).bind fun v H=>(i ρ H).bind fun w H=>ki v w H:=rfl
@[simp] theorem PR:b8 cl f o ρ H=(o ρ H).bind (Bg cl f):=rfl
@[simp] theorem Mr{n:Nat}:Bg cl f (.inst cl n) H=cC (dct H n) fun fs=>cC (Bd fs f) fun v=>xA v H:=if_pos rfl
@[simp] theorem PS{g:List V->AH->R V}:bq cl nm g o l ρ H=(o ρ H).bind (Iv cl nm fun v H=>(l ρ H).bind fun vs H=>g (v::vs) H):=rfl
@[simp] theorem Mt{g:V->AH->R V}{n:Nat}:Iv cl nm g (.inst cl n) H=cC (dct H n) fun fs=>if UQ nm fs=true then g (.inst cl n) H else .stuck:=if_pos rfl
@[simp] theorem UY{g:List V->AH->R V}{ap:V->AH->Bool}:cE ap g o l ρ H=(o ρ H).bind fun v H=>if ap v H=true then(l ρ H).bind fun vs H=>g (v::vs) H else .stuck:=rfl
@[simp] theorem Xf:qt o lo hi ρ H=(o ρ H).bind fun v H=>(lo ρ H).bind fun l H=>(hi ρ H).bind fun u H=>zC l u v H:=rfl
@[simp] theorem VT:qs ρ H = .ok none H:=rfl
@[simp] theorem VU:iT a ρ H=(a ρ H).bind (nG fun i H => .ok (some i) H):=rfl
@[simp] theorem VV:cS l ρ H=(l ρ H).bind fun vs H=>if vs.length<=16777216 then .ok (.tup vs) H else .stuck:=rfl
@[simp] theorem VW:bk l ρ H=(l ρ H).bind fun vs H=>if vs.length<=16777216 then .ok (.ref H.length) (H++[.list vs])else .stuck:=rfl
@[simp] theorem Xg:jD c a b ρ H=(c ρ H).bind fun x H=>match x with | true=>a ρ H | false=>b ρ H:=rfl
@[simp] theorem Xh:u9 a b ρ H=(a ρ H).bind fun v H=>(nC v H).bind fun x H=>match x with | true=>b ρ H | false => .ok v H:=rfl
@[simp] theorem Yp:LR a b ρ H=(a ρ H).bind fun v H=>(nC v H).bind fun x H=>match x with | true => .ok v H | false=>b ρ H:=rfl
@[simp] theorem UZ{b:Bool}:nC (.bool b) H = .ok b H:=rfl
@[simp] theorem Xi:jJ a ρ H=(a ρ H).bind (nG fun i H => .ok (.int (-i)) H):=rfl
@[simp] theorem Xj:cR a ρ H=(a ρ H).bind nC:=rfl
@[simp] theorem VX:nD c ρ H=(c ρ H).bind fun b H => .ok (!b) H:=rfl
@[simp] theorem VY:u7 c d ρ H=(c ρ H).bind fun x H=>match x with | true=>d ρ H | false => .ok false H:=rfl
@[simp] theorem Xk:tE c d ρ H=(c ρ H).bind fun x H=>match x with | true => .ok true H | false=>d ρ H:=rfl
@[simp] theorem Xl{b:Bool}:r6 b ρ H = .ok b H:=rfl
@[simp] theorem U0:pH .none=true:=rfl
@[simp] theorem U1{b:Bool}:pH (.bool b)=true:=rfl
@[simp] theorem VZ{b:Int}:pH (.int b)=true:=rfl
@[simp] theorem V0:dX ρ (n::is) (v::vs)=dX (ρ.set n v) is vs:=rfl
@[simp] theorem U3:dX ρ [] vs=ρ:=by cases vs<;>rfl
@[simp] theorem V1{b:Int}:xA (.int b) H = .ok (.int b) H:=rfl
@[simp] theorem Xm{b:List UInt8}:xA (.bytes b) H = .ok (.bytes b) H:=rfl
@[simp] theorem V2{b:Nat}:xA (.ref b) H = .ok (.ref b) H:=rfl
@[simp] theorem U4{b:Nat}:xA (.inst cl b) H = .ok (.inst cl b) H:=rfl
@[simp] theorem U5:xA .none H = .ok .none H:=rfl
end
theorem E7{ρ:List V}{i:Nat}{v:V}{H:AH}(h:ρ[i]? = some v)(hu:v ≠ .undef):gA ρ i H = .ok v H:=by
 induction ρ generalizing i with
 |nil=>exact nomatch h
 |cons x ρ ih =>
  cases i with
  |zero =>
   obtain rfl:x=v:=Option.some.inj h
   exact((EH x H).resolve_left fun q=>by cases x<;>first | exact R.qm q.symm | exact hu rfl).2
  |succ i=>exact ih h
@[simp] theorem Sl{i:Int}{ρ H}:gA (.int i::ρ) 0 H = .ok (.int i) H:=rfl
@[simp] theorem Rh{i:Bool}{ρ H}:gA (.bool i::ρ) 0 H = .ok (.bool i) H:=rfl
@[simp] theorem Ri{ρ H}:gA (.none::ρ) 0 H = .ok .none H:=rfl
@[simp] theorem PT{b ρ H}:gA (.bytes b::ρ) 0 H = .ok (.bytes b) H:=rfl
@[simp] theorem Sm{n ρ H}:gA (.ref n::ρ) 0 H = .ok (.ref n) H:=rfl
@[simp] theorem Rj{c n ρ H}:gA (.inst c n::ρ) 0 H = .ok (.inst c n) H:=rfl
@[simp] theorem Sn{vs ρ H}:gA (.tup vs::ρ) 0 H = .ok (.tup vs) H:=rfl
@[simp] theorem PU{vs ρ H}:gA (.olist vs::ρ) 0 H = .ok (.olist vs) H:=rfl
@[simp] theorem G4{v:V}{ρ:List V}{i:Nat}{H:AH}:gA (v::ρ) (i+1) H=gA ρ i H:=rfl
theorem mq{H:AH}{n:Nat}{vs:List V}(h:lst H n=some vs):n<H.length:=by
 have:=fh h;exact(List.getElem?_eq_some_iff.mp this).1
theorem vU{H X:AH}{n:Nat}{o:AO}(h:H[n]? = some o):(H++X)[n]? = some o:=by
 rw [List.getElem?_append_left (List.getElem?_eq_some_iff.mp h).1];exact h
theorem cP{H X:AH}{n:Nat}{vs:List V}(h:lst H n=some vs):lst (H++X) n=some vs:=by
 unfold lst;rw [vU (fh h)];rfl
theorem E8{H X:AH}{n:Nat}{vs:List UInt8}(h:bar H n=some vs):bar (H++X) n=some vs:=by
 unfold bar;rw [vU (j9 h)];rfl
theorem bH{H X:AH}{n:Nat}{vs:List (Fd×V)}(h:dct H n=some vs):dct (H++X) n=some vs:=by
 unfold dct;rw [vU (iG h)];rfl
theorem qH{H:AH}{n:Nat}{b:List UInt8}(h:bar H n=some b):lst H n=none:=by
 unfold lst;rw [j9 h];rfl
theorem aK{H:AH}{vs:List V}{X:AH}:lst (H ++ .list vs::X) H.length=some vs:=by unfold lst;simp
theorem uA{H:AH}{vs:List UInt8}{X:AH}:bar (H ++ .ba vs::X) H.length=some vs:=by unfold bar;simp
theorem eN{H:AH}{vs:List (Fd×V)}{X:AH}:dct (H ++ .dict vs::X) H.length=some vs:=by unfold dct;simp
noncomputable def gv(b:List UInt8)(i:Nat):Int:=((b.getD i 0).toNat:Int)
theorem So{b:List UInt8}{i:Nat}:0<=gv b i/\gv b i<256:=by
 exact⟨Int.natCast_nonneg _,Int.ofNat_lt.mpr (UInt8.toNat_lt _)⟩
@[simp] theorem V3{a b:Int}{H:AH}:aS (.int a) (.int b) H = .ok (.int (a+b)) H:=rfl
@[simp] theorem PV{a b:Int}{H:AH}:eH (.int a) (.int b) H = .ok (.int (a - b)) H:=rfl
@[simp] theorem Od{a b:Int}{H:AH}:ltV (.int a) (.int b) H = .ok (.bool (decide (a<b))) H:=rfl
@[simp] theorem Sp{a b:Int}{H:AH}:Pa (.int a) (.int b) H = .ok (.bool (decide (a<=b))) H:=rfl
@[simp] theorem Oe{a b:Int}{H:AH}:oR (.int a) (.int b) H = .ok (.bool (decide (b<a))) H:=rfl
@[simp] theorem Of{a b:Int}{H:AH}:Dc (.int a) (.int b) H = .ok (.bool (decide (b<=a))) H:=rfl
@[simp] theorem E9{a b:Int}{H:AH}:iw (.int a) (.int b) H = .ok (.bool (a==b)) H:=rfl
theorem vV{a b:Int}{H:AH}(h:a.natAbs<2 ^ 64\/b.natAbs<2 ^ 64):iQ (.int a) (.int b) H = .ok (.int (a*b)) H:=if_pos h
theorem div_ii{a b:Int}{H:AH}(h:0<b/\b<1073741824):iR (.int a) (.int b) H = .ok (.int (a / b)) H:=if_pos h
theorem Jg{a b:Int}{H:AH}(h:0<b):iS (.int a) (.int b) H = .ok (.int (a % b)) H:=if_pos h
noncomputable def gz(b:List UInt8)(z:Int):Int:=gv b z.toNat
theorem vW{b:List UInt8}{z:Int}:0<=gz b z/\gz b z<256:=So
theorem oi{H:AH}{n:Nat}{b:List UInt8}{z:Int}(hb:bar H n=some b)(hz:b.length<=16777216)(h0:0<=z)(h1:z<b.length):ki (.ref n) (.int z) H = .ok (.int (gz b z)) H:=by
 show(lst H n).elim _ _ = _
 rw [qH hb,Option.elim_none,hb]
 exact if_pos ⟨hz,h0,h1⟩
section
variable{ρ Og:List V}{H H₁ H₂ oQ:AH}{v w x y:V}{vs:List V}{a b o i:EF}{l:LF}{c:BF}{s t:SF}{r:R V}{q:RS}{n k:Nat}{fs:List (Fd×V)}{f:Fd}{cl:Addr}{nm:Option Fd}{z u:Int}{is:List Nat}
theorem Sq(h:ρ[n]? = some v)(hu:v ≠ .undef):ai n ρ H = .ok v H:=E7 h hu
theorem pq{g:V->V->AH->R V}(h1:a ρ H = .ok x H₁)(h2:b ρ H₁ = .ok y H₂)(h3:g x y H₂=r):aH g a b ρ H=r:=by unfold aH;rw [h1,R.cZ,h2,R.cZ,h3]
theorem y_call{g:List V->AH->R V}(h1:l ρ H = .ok vs H₁)(h2:g vs H₁=r):aF g l ρ H=r:=by unfold aF;rw [h1,R.cZ,h2]
theorem pM(h1:a ρ H = .ok v H₁)(h2:l ρ H₁ = .ok vs H₂):af a l ρ H = .ok (v::vs) H₂:=by unfold af;rw [h1,R.cZ,h2,R.cZ]
theorem DK(h1:o ρ H = .ok x H₁)(h2:i ρ H₁ = .ok y H₂)(h3:ki x y H₂=r):cy o i ρ H=r:=by unfold cy;rw [h1,R.cZ,h2,R.cZ,h3]
theorem DL(h1:o ρ H = .ok (.inst cl n) H₁)(hd:dct H₁ n=some fs)(hg:Bd fs f=some v)(hj:v ≠ .oO):b8 cl f o ρ H = .ok v H₁:=by
 rw [PR,h1,R.cZ,Mr,hd,oj,hg];exact LW hj
theorem PW{g:List V->AH->R V}(h1:o ρ H = .ok (.inst cl n) H₁)(hd:dct H₁ n=some fs)(hn:UQ nm fs=true)(hl:l ρ H₁ = .ok vs H₂)(h2:g (.inst cl n::vs) H₂=r):bq cl nm g o l ρ H=r:=by
 rw [PS,h1,R.cZ,Mt,hd,oj,if_pos hn,hl];exact h2
theorem Mu{g:List V->AH->R V}{ap:V->AH->Bool}(h1:o ρ H = .ok v H₁)(ha:ap v H₁=true)(hl:l ρ H₁ = .ok vs H₂)(h2:g (v::vs) H₂=r):cE ap g o l ρ H=r:=by
 unfold cE;rw [h1,R.cZ,if_pos ha,hl,R.cZ,h2]
theorem Oh(h1:l ρ H = .ok vs H₁)(h2:Nat.ble vs.length 16777216=true):cS l ρ H = .ok (.tup vs) H₁:=by
 unfold cS;rw [h1,R.cZ,if_pos (Nat.le_of_ble_eq_true h2)]
theorem PX(h1:l ρ H = .ok vs H₁)(h2:Nat.ble vs.length 16777216=true):bk l ρ H = .ok (.ref H₁.length) (H₁++[.list vs]):=by
 unfold bk;rw [h1,R.cZ,if_pos (Nat.le_of_ble_eq_true h2)]
theorem PY(h1:c ρ H = .ok true H₁)(h2:a ρ H₁=r):jD c a b ρ H=r:=by unfold jD;rw [h1,R.cZ];exact h2
theorem PZ(h1:c ρ H = .ok false H₁)(h2:b ρ H₁=r):jD c a b ρ H=r:=by unfold jD;rw [h1,R.cZ];exact h2
theorem P0(h1:a ρ H = .ok (.bool true) H₁)(h2:b ρ H₁=r):u9 a b ρ H=r:=by unfold u9;rw [h1];exact h2
theorem P1(h1:a ρ H = .ok (.bool false) H₁):u9 a b ρ H = .ok (.bool false) H₁:=by unfold u9;rw [h1];rfl
theorem Ss(h1:a ρ H = .ok (.bool true) H₁):LR a b ρ H = .ok (.bool true) H₁:=by unfold LR;rw [h1];rfl
theorem Su(h1:a ρ H = .ok (.bool false) H₁)(h2:b ρ H₁=r):LR a b ρ H=r:=by unfold LR;rw [h1];exact h2
theorem Sv(h1:a ρ H = .ok (.int z) H₁):jJ a ρ H = .ok (.int (-z)) H₁:=by unfold jJ;rw [h1];rfl
theorem Sw{lo hi:OF}{p1 p2:Option Int}(h1:o ρ H = .ok x H₁)(h2:lo ρ H₁ = .ok p1 H₂)(h3:hi ρ H₂ = .ok p2 oQ)(h4:zC p1 p2 x oQ=r):qt o lo hi ρ H=r:=by
 unfold qt;rw [h1,R.cZ,h2,R.cZ,h3,R.cZ,h4]
theorem P4(h1:a ρ H = .ok (.int z) H₁):iT a ρ H = .ok (some z) H₁:=by unfold iT;rw [h1];rfl
theorem xG{d:Bool}(h1:a ρ H = .ok (.bool d) H₁):cR a ρ H = .ok d H₁:=by unfold cR;rw [h1];rfl
theorem Sy{d:Bool}(h1:c ρ H = .ok d H₁):nD c ρ H = .ok (!d) H₁:=by unfold nD;rw [h1];rfl
theorem Sz{d:BF}(h1:c ρ H = .ok true H₁):tE c d ρ H = .ok true H₁:=by unfold tE;rw [h1];rfl
theorem SA{d:BF}{e:R Bool}(h1:c ρ H = .ok false H₁)(h2:d ρ H₁=e):tE c d ρ H=e:=by unfold tE;rw [h1];exact h2
theorem P5{d:BF}{e:R Bool}(h1:c ρ H = .ok true H₁)(h2:d ρ H₁=e):u7 c d ρ H=e:=by unfold u7;rw [h1];exact h2
theorem P6{d:BF}(h1:c ρ H = .ok false H₁):u7 c d ρ H = .ok false H₁:=by unfold u7;rw [h1];rfl
theorem xH(h:z<u):ltV (.int z) (.int u) H = .ok (.bool true) H:=by rw [Od,decide_eq_true h]
theorem g5(h:¬z<u):ltV (.int z) (.int u) H = .ok (.bool false) H:=by rw [Od,decide_eq_false h]
theorem G6(h:u<z):oR (.int z) (.int u) H = .ok (.bool true) H:=by rw [Oe,decide_eq_true h]
theorem kC(h:¬u<z):oR (.int z) (.int u) H = .ok (.bool false) H:=by rw [Oe,decide_eq_false h]
theorem SD(h:u<=z):Dc (.int z) (.int u) H = .ok (.bool true) H:=by rw [Of,decide_eq_true h]
theorem Fb(h:¬u<=z):Dc (.int z) (.int u) H = .ok (.bool false) H:=by rw [Of,decide_eq_false h]
theorem SE(h:z<=u):Pa (.int z) (.int u) H = .ok (.bool true) H:=by rw [Sp,decide_eq_true h]
theorem qI(h:(z==u)=true):iw (.int z) (.int u) H = .ok (.bool true) H:=by rw [E9,h]
theorem g7(h:(z==u)=false):iw (.int z) (.int u) H = .ok (.bool false) H:=by rw [E9,h]
theorem nT(h:Nat.ble (2 ^ 64) u.natAbs=false):iQ (.int z) (.int u) H = .ok (.int (z*u)) H:=vV (.inr (Nat.lt_of_not_le fun q=>by rw [Nat.ble_eq_true_of_le q]at h;cases h))
theorem qJ(h:0<u/\u<1073741824):iR (.int z) (.int u) H = .ok (.int (z / u)) H:=div_ii h
theorem nh(h:0<u):iS (.int z) (.int u) H = .ok (.int (z % u)) H:=Jg h
theorem vX(h1:s ρ H = .next Og H₁)(h2:t Og H₁=q):aq s t ρ H=q:=by unfold aq;rw [h1];exact h2
theorem s_end(h1:s ρ H = .ret v H₁):aq s t ρ H = .ret v H₁:=by unfold aq;rw [h1];rfl
theorem Oi(h1:s ρ H = .exc H₁):aq s t ρ H = .exc H₁:=by unfold aq;rw [h1];rfl
theorem SG(h1:a ρ H = .ok v H₁):a8 n a ρ H = .next (ρ.set n v) H₁:=by unfold a8;rw [h1];rfl
theorem SH(h1:a ρ H = .ok v H₁):bL a ρ H = .ret v H₁:=by unfold bL;rw [h1];rfl
theorem P7(h1:a ρ H = .ok v H₁)(h2:pH v=true):cI a ρ H = .next ρ H₁:=by unfold cI;rw [h1];exact if_pos h2
theorem SI(h1:c ρ H = .ok true H₁)(h2:s ρ H₁=q):fj c s t ρ H=q:=by unfold fj;rw [h1];exact h2
theorem SJ(h1:c ρ H = .ok false H₁)(h2:t ρ H₁=q):fj c s t ρ H=q:=by unfold fj;rw [h1];exact h2
theorem Oj{is:List Nat}(h1:a ρ H = .ok (.tup vs) H₁)(h2:Nat.beq vs.length is.length=true):jH is a ρ H = .next (dX ρ is vs) H₁:=by unfold jH;rw [h1];exact if_pos (Nat.eq_of_beq_eq_true h2)
theorem P8{is:List Nat}(h1:a ρ H = .ok (.tup vs) H₁)(h2:Nat.beq vs.length is.length=true):ji is a ρ H = .next (dX ρ is.reverse vs.reverse) H₁:=by unfold ji;rw [h1];exact if_pos (Nat.eq_of_beq_eq_true h2)
theorem P9(h1:a ρ H = .ok v H₁)(h2:gA ρ n H₁ = .ok (.inst cl k) H₁)(hd:dct H₁ k=some fs)(h3:Nat.ble fs.length 900=true):cG cl f n a ρ H = .next ρ (H₁.set k (.dict (xy fs f v))):=by
 rw [Mq,h1];show rs (gA ρ n H₁) _ = _;rw [h2];show LZ cl f ρ v (.inst cl k) H₁ = _;rw [PP,hd];exact if_pos (Nat.le_of_ble_eq_true h3)
theorem Qa(h1:a ρ H = .ok v H₁)(h2:o ρ H₁ = .ok x H₂)(h3:i ρ H₂ = .ok y oQ){zH:AH}(h4:Bq v x y oQ = .ok () zH):fY o i a ρ H = .next ρ zH:=by
 unfold fY;rw [h1];simp only [rs,h2,h3,h4]
theorem SK{g:V->V->AH->R V}(h2:gA ρ n H = .ok x H)(h1:a ρ H = .ok y H₁)(h3:g x y H₁ = .ok v H₂):nO g n a ρ H = .next (ρ.set n v) H₂:=by
 unfold nO;rw [h2];simp only [rs,h1,h3]
theorem Ol{sf:SF}(h0:Nat.beq vs.length n=true)(h1:sf (vs++List.replicate k .undef) H = .ret v H₁):cD n k sf vs H = .ok v H₁:=by unfold cD;rw [if_pos (Nat.eq_of_beq_eq_true h0),h1]
theorem SM{sf:SF}(h0:Nat.beq vs.length n=true)(h1:sf (vs++List.replicate k .undef) H = .exc H₁):cD n k sf vs H = .exc H₁:=by unfold cD;rw [if_pos (Nat.eq_of_beq_eq_true h0),h1]
theorem Mv(h1:a ρ H = .ok v H₁):jM a ρ H = .exc H₁:=by unfold jM;rw [h1];rfl
theorem Qc(h1:a ρ H = .exc H₁):jH is a ρ H = .exc H₁:=by unfold jH;rw [h1];rfl
theorem z5{g:List V->AH->R V}(h1:l ρ H = .ok vs H₁)(h2:g vs H₁ = .exc H₂):aF g l ρ H = .exc H₂:=by unfold aF;rw [h1];exact h2
end
noncomputable def Qd:List V->Nat->V
 | [],_ => .undef
 |v::_,0=>v
 |_::r,n+1=>Qd r n
theorem uB{H:AH}:∀{ρ:List V}{n:Nat}{v:V},Qd ρ n=v->v ≠ .undef->gA ρ n H = .ok v H
 | [],_,_,h,hu=>absurd h.symm hu
 |x::ρ,0,v,h,hu=>by cases h;exact E7 rfl hu
 |x::ρ,n+1,v,h,hu=>by rw [G4];exact uB (ρ:=ρ) h hu
noncomputable def Jh:List V->Nat->(V->Prop)->Prop
 | [],_,_=>True
 |v::_,0,k=>k v
 |_::r,n+1,k=>Jh r n k
noncomputable def G7:List V->Nat->V->(List V->Prop)->Prop
 | [],_,_,k=>k []
 |_::r,0,v,k=>k (v::r)
 |x::r,n+1,v,k=>G7 r n v fun r=>k (x::r)
noncomputable def Ji:List V->List Nat->List V->(List V->Prop)->Prop
 | ρ,i::is,v::vs,k=>G7 ρ i v fun ρ=>Ji ρ is vs k
 | ρ,_,_,k=>k ρ
noncomputable def Jj:List V->List Nat->List V->(List V->Prop)->Prop
 | ρ,i::is,v::vs,k=>Jj ρ is vs fun ρ=>G7 ρ i v k
 | ρ,_,_,k=>k ρ
noncomputable def Qe:Nat->(List V->Prop)->Prop
 | 0,k=>k []
 |n+1,k=>Qe n fun r=>k (.undef::r)
noncomputable def Qf:List V->Nat->(List V->Prop)->Prop
 | [],n,k=>Qe n k
 |x::r,n,k=>Qf r n fun r=>k (x::r)
theorem uC:∀{ρ:List V}{n:Nat}{k:V->Prop},(∀v,Qd ρ n=v->k v)->Jh ρ n k
 | [],_,_,_=>trivial
 |_::_,0,_,h=>h _ rfl
 |_::r,n+1,_,h=>uC (ρ:=r) h
theorem qK:∀{ρ:List V}{n:Nat}{v:V}{k:List V->Prop},k (ρ.set n v)->G7 ρ n v k
 | [],_,_,_,h=>h
 |_::_,0,_,_,h=>h
 |_::r,n+1,_,_,h=>qK (ρ:=r) h
theorem BR:∀{is:List Nat}{vs ρ:List V}{k:List V->Prop},k (dX ρ is vs)->Ji ρ is vs k
 | [],vs,_,_,h=>by cases vs<;>exact h
 |_::_,[],_,_,h=>h
 |i::is,v::vs,ρ,k,h=>qK (BR (is:=is) h)
theorem qL{i:Nat}{v:V}:∀{is:List Nat}{vs ρ:List V},is.length=vs.length->dX ρ (is++[i]) (vs++[v])=(dX ρ is vs).set i v
 | [],[],_,_=>rfl
 |j::is,w::vs,ρ,h=>qL (is:=is) (ρ:=ρ.set j w) (Nat.succ.inj h)
theorem BS:∀{is:List Nat}{vs ρ:List V}{k:List V->Prop},is.length=vs.length->k (dX ρ is.reverse vs.reverse)->Jj ρ is vs k
 | [],[],_,_,_,h=>h
 |i::is,v::vs,ρ,k,e,h=>by
  refine BS (is:=is) (Nat.succ.inj e) (qK ?_)
  rw [List.reverse_cons,List.reverse_cons,qL (by rw [List.length_reverse,List.length_reverse];exact Nat.succ.inj e)]at h
  exact h
theorem Fc:∀{n:Nat}{k:List V->Prop},k (List.replicate n .undef)->Qe n k
 | 0,_,h=>h
 |n+1,_,h=>Fc (n:=n) h
theorem Fe:∀{vs:List V}{n:Nat}{k:List V->Prop},k (vs++List.replicate n .undef)->Qf vs n k
 | [],n,_,h=>Fc (n:=n) h
 |x::r,n,k,h=>Fe (vs:=r) h
noncomputable def nK:V->Prop->Prop
 | .undef,_=>True | _,p=>p
noncomputable def bK:V->(Bool->Prop)->Prop
 | .bool d,k=>k d | _,_=>True
noncomputable def iK:V->(Int->Prop)->Prop
 | .int d,k=>k d | _,_=>True
noncomputable def tK:V->(List V->Prop)->Prop
 | .tup d,k=>k d | _,_=>True
noncomputable def cK(c:Addr):V->(Nat->Prop)->Prop
 | .inst c' n,k=>cond (Nat.beq c' c) (k n) True | _,_=>True
noncomputable def jK:V->Prop->Prop
 | .oO,_=>True | _,p=>p
noncomputable def gK{α:Type}:Option α->(α->Prop)->Prop
 |some v,k=>k v | none,_=>True
theorem Om{v:V}{p:Prop}(h:v ≠ .undef->p):nK v p:=by cases v<;>first | exact trivial | exact h fun e=>V.noConfusion e
theorem SN{v:V}{p:Prop}(h:v ≠ .oO->p):jK v p:=by cases v<;>first | exact trivial | exact h fun e=>V.noConfusion e
theorem Jk{v:V}{k:Bool->Prop}(h:∀d,v = .bool d->k d):bK v k:=by cases v<;>first | exact trivial | exact h _ rfl
theorem Oo{v:V}{k:Int->Prop}(h:∀d,v = .int d->k d):iK v k:=by cases v<;>first | exact trivial | exact h _ rfl
theorem Oq{v:V}{k:List V->Prop}(h:∀d,v = .tup d->k d):tK v k:=by cases v<;>first | exact trivial | exact h _ rfl
theorem SO{α:Type}{v:Option α}{k:α->Prop}(h:∀d,v=some d->k d):gK v k:=by cases v<;>first | exact trivial | exact h _ rfl
theorem tM{b:Bool}{p:Prop}(h:b=true->p):cond b p True:=by cases b<;>first | exact trivial | exact h rfl
theorem DM{a b:Nat}(h:Nat.beq a b=true):a=b:=Nat.eq_of_beq_eq_true h
theorem Jl{c:Addr}{v:V}{k:Nat->Prop}(h:∀n,v = .inst c n->k n):cK c v k:=by cases v<;>first | exact trivial | exact tM fun e=>h _ (DM e▸rfl)
set_option genSizeOf false in
set_option genInjectivity false in
structure TX(α:Type) where
 f:List V->AH->R α
 w:List V->AH->(α->AH->Prop)->Prop
 ok:∀{ρ H k},(∀v H',f ρ H = .ok v H'->k v H')->w ρ H k
set_option genSizeOf false in
set_option genInjectivity false in
structure TS where
 f:SF
 w:List V->AH->(RS->Prop)->Prop
 ok:∀{ρ H k},(∀q,f ρ H=q->k q)->w ρ H k
noncomputable def vO{α:Type}(q:R α)(k:α->AH->Prop):Prop := ∀{v H},q = .ok v H->k v H
noncomputable def vD(q:Option (List (Fd×V)))(k:List (Fd×V)->Prop):Prop := ∀{fs},q=some fs->k fs
namespace TX
noncomputable def var(i:Nat):TX V:=⟨ai i,fun ρ H k=>Jh ρ i fun v=>nK v (k v H),fun h=>uC fun v e=>Om fun hu=>h _ _ (uB e hu)⟩
noncomputable def con(v:V):TX V:=⟨ak v,fun ρ H k=>k v H,fun h=>h _ _ rfl⟩
noncomputable def bin(f:V->V->AH->R V)(a b:TX V):TX V:=⟨aH f a.f b.f,fun ρ H k=>a.w ρ H fun x H=>b.w ρ H fun y H=>vO (f x y H) k,fun h=>a.ok fun x H₁ h1=>b.ok fun y H₂ h2 _ _ h3=>h _ _ (pq h1 h2 h3)⟩
noncomputable def call(f:List V->AH->R V)(l:TX (List V)):TX V:=⟨aF f l.f,fun ρ H k=>l.w ρ H fun vs H=>vO (f vs H) k,fun h=>l.ok fun vs H₁ h1 _ _ h3=>h _ _ (y_call h1 h3)⟩
noncomputable def tup(l:TX (List V)):TX V:=⟨cS l.f,fun ρ H k=>l.w ρ H fun vs H=>cond (Nat.ble vs.length 16777216) (k (.tup vs) H) True,fun h=>l.ok fun vs H₁ h1=>tM fun q=>h _ _ (Oh h1 q)⟩
noncomputable def list(l:TX (List V)):TX V:=⟨bk l.f,fun ρ H k=>l.w ρ H fun vs H=>cond (Nat.ble vs.length 16777216) (k (.ref H.length) (H++[.list vs])) True,fun h=>l.ok fun vs H₁ h1=>tM fun q=>h _ _ (PX h1 q)⟩
noncomputable def attr(c:Addr)(f:Fd)(o:TX V):TX V:=⟨b8 c f o.f,fun ρ H k=>o.w ρ H fun v H=>cK c v fun n=>vD (dct H n) fun fs=>gK (Bd fs f) fun v=>jK v (k v H),
 fun h=>o.ok fun v H₁ h1=>Jl fun n e _ hd=>SO fun w hg=>SN fun hj=>h _ _ (DL (e▸h1) hd hg hj)⟩
noncomputable def item(o i:TX V):TX V:=⟨cy o.f i.f,fun ρ H k=>o.w ρ H fun x H=>i.w ρ H fun y H=>vO (ki x y H) k,fun h=>o.ok fun x H₁ h1=>i.ok fun y H₂ h2 _ _ h3=>h _ _ (DK h1 h2 h3)⟩
noncomputable def dW(c:Addr)(nm:Option Fd)(f:List V->AH->R V)(o:TX V)(l:TX (List V)):TX V:=⟨bq c nm f o.f l.f,fun ρ H k=>o.w ρ H fun v H=>cK c v fun n=>vD (dct H n) fun fs=>cond (UQ nm fs) (l.w ρ H fun vs H=>vO (f (.inst c n::vs) H) k) True,
 fun h=>o.ok fun v H₁ h1=>Jl fun n e _ hd=>tM fun hn=>l.ok fun vs H₂ h2 _ _ h3=>h _ _ (PW (e▸h1) hd hn h2 h3)⟩
noncomputable def fk(ap:V->AH->Bool)(f:List V->AH->R V)(o:TX V)(l:TX (List V)):TX V:=⟨cE ap f o.f l.f,fun ρ H k=>o.w ρ H fun v H=>ap v H=true->l.w ρ H fun vs H=>vO (f (v::vs) H) k,
 fun h=>o.ok fun v H₁ h1 ha=>l.ok fun vs H₂ h2 _ _ h3=>h _ _ (Mu h1 ha h2 h3)⟩
noncomputable def cut(o:TX V)(lo hi:TX (Option Int)):TX V:=⟨qt o.f lo.f hi.f,fun ρ H k=>o.w ρ H fun v H=>lo.w ρ H fun p H=>hi.w ρ H fun q H=>vO (zC p q v H) k,
 fun h=>o.ok fun v H₁ h1=>lo.ok fun p H₂ h2=>hi.ok fun q oQ h3 _ _ h4=>h _ _ (Sw h1 h2 h3 h4)⟩
noncomputable def ite(c:TX Bool)(a b:TX V):TX V:=⟨jD c.f a.f b.f,fun ρ H k=>c.w ρ H fun d H=>cond d (a.w ρ H k) (b.w ρ H k),fun h=>c.ok fun d H₁ h1=>match d,h1 with
 |false,h1=>b.ok fun v H₂ h2=>h _ _ (PZ h1 h2)
 |true,h1=>a.ok fun v H₂ h2=>h _ _ (PY h1 h2)⟩
noncomputable def and(a b:TX V):TX V:=⟨u9 a.f b.f,fun ρ H k=>a.w ρ H fun v H=>bK v fun d=>cond d (b.w ρ H k) (k (.bool false) H),fun h=>a.ok fun v H₁ h1=>Jk fun d e=>match d,e with
 |true,e=>b.ok fun v H₂ h2=>h _ _ (P0 (e▸h1) h2)
 |false,e=>h _ _ (P1 (e▸h1))⟩
noncomputable def or(a b:TX V):TX V:=⟨LR a.f b.f,fun ρ H k=>a.w ρ H fun v H=>bK v fun d=>cond d (k (.bool true) H) (b.w ρ H k),fun h=>a.ok fun v H₁ h1=>Jk fun d e=>match d,e with
 |false,e=>b.ok fun v H₂ h2=>h _ _ (Su (e▸h1) h2)
 |true,e=>h _ _ (Ss (e▸h1))⟩
noncomputable def neg(a:TX V):TX V:=⟨jJ a.f,fun ρ H k=>a.w ρ H fun v H=>iK v fun z=>k (.int (-z)) H,fun h=>a.ok fun v H₁ h1=>Oo fun z e=>h _ _ (Sv (e▸h1))⟩
noncomputable def raw{α:Type}(f:List V->AH->R α):TX α:=⟨f,fun ρ H k=>vO (f ρ H) k,fun h _ _ e=>h _ _ e⟩
noncomputable def nil:TX (List V):=⟨aC,fun ρ H k=>k [] H,fun h=>h _ _ rfl⟩
noncomputable def cons(a:TX V)(l:TX (List V)):TX (List V):=⟨af a.f l.f,fun ρ H k=>a.w ρ H fun v H=>l.w ρ H fun vs H=>k (v::vs) H,fun h=>a.ok fun v H₁ h1=>l.ok fun vs H₂ h2=>h _ _ (pM h1 h2)⟩
noncomputable def no:TX (Option Int):=⟨qs,fun ρ H k=>k none H,fun h=>h _ _ rfl⟩
noncomputable def so(a:TX V):TX (Option Int):=⟨iT a.f,fun ρ H k=>a.w ρ H fun v H=>iK v fun z=>k (some z) H,fun h=>a.ok fun v H₁ h1=>Oo fun z e=>h _ _ (P4 (e▸h1))⟩
noncomputable def of(a:TX V):TX Bool:=⟨cR a.f,fun ρ H k=>a.w ρ H fun v H=>bK v fun d=>k d H,fun h=>a.ok fun v H₁ h1=>Jk fun d e=>h _ _ (xG (e▸h1))⟩
noncomputable def not(a:TX Bool):TX Bool:=⟨nD a.f,fun ρ H k=>a.w ρ H fun d H=>k (!d) H,fun h=>a.ok fun d H₁ h1=>h _ _ (Sy h1)⟩
noncomputable def band(a b:TX Bool):TX Bool:=⟨u7 a.f b.f,fun ρ H k=>a.w ρ H fun d H=>cond d (b.w ρ H k) (k false H),fun h=>a.ok fun d H₁ h1=>match d,h1 with
 |false,h1=>h _ _ (P6 h1)
 |true,h1=>b.ok fun d H₂ h2=>h _ _ (P5 h1 h2)⟩
noncomputable def bor(a b:TX Bool):TX Bool:=⟨tE a.f b.f,fun ρ H k=>a.w ρ H fun d H=>cond d (k true H) (b.w ρ H k),fun h=>a.ok fun d H₁ h1=>match d,h1 with
 |false,h1=>b.ok fun d H₂ h2=>h _ _ (SA h1 h2)
 |true,h1=>h _ _ (Sz h1)⟩
noncomputable def tt(d:Bool):TX Bool:=⟨r6 d,fun ρ H k=>k d H,fun h=>h _ _ rfl⟩
noncomputable abbrev V4(f:BF):TX Bool:=raw f
end TX
noncomputable def RS.on(k:RS->Prop)(n:List V->AH->Prop):RS->Prop
 | .next ρ H=>n ρ H | .ret v H=>k (.ret v H) | .exc H=>k (.exc H) | .stuck=>True
namespace TS
noncomputable def aL:TS:=⟨aI,fun ρ H k=>k (.next ρ H),fun h=>h _ rfl⟩
noncomputable def aA(a b:TS):TS:=⟨aq a.f b.f,fun ρ H k=>a.w ρ H (RS.on k fun ρ H=>b.w ρ H k),fun h=>a.ok fun q h1=>match q,h1 with
 | .next _ _,h1=>b.ok fun q h2=>h _ (vX h1 h2)
 | .ret _ _,h1=>h _ (s_end h1)
 | .exc _,h1=>h _ (Oi h1)
 | .stuck,_=>trivial⟩
noncomputable def set(i:Nat)(a:TX V):TS:=⟨a8 i a.f,fun ρ H k=>a.w ρ H fun v H=>G7 ρ i v fun ρ=>k (.next ρ H),fun h=>a.ok fun v H₁ h1=>qK (h _ (SG h1))⟩
noncomputable def ret(a:TX V):TS:=⟨bL a.f,fun ρ H k=>a.w ρ H fun v H=>k (.ret v H),fun h=>a.ok fun v H₁ h1=>h _ (SH h1)⟩
noncomputable def expr(a:TX V):TS:=⟨cI a.f,fun ρ H k=>a.w ρ H fun v H=>cond (pH v) (k (.next ρ H)) True,fun h=>a.ok fun v H₁ h1=>tM fun q=>h _ (P7 h1 q)⟩
noncomputable def ja(c:TX Bool)(a b:TS):TS:=⟨fj c.f a.f b.f,fun ρ H k=>c.w ρ H fun d H=>cond d (a.w ρ H k) (b.w ρ H k),fun h=>c.ok fun d H₁ h1=>match d,h1 with
 |false,h1=>b.ok fun q h2=>h _ (SJ h1 h2)
 |true,h1=>a.ok fun q h2=>h _ (SI h1 h2)⟩
noncomputable def ud(is:List Nat)(a:TX V):TS:=⟨jH is a.f,fun ρ H k=>a.w ρ H fun v H=>tK v fun vs=>cond (Nat.beq vs.length is.length) (Ji ρ is vs fun ρ=>k (.next ρ H)) True,
 fun h=>a.ok fun v H₁ h1=>Oq fun vs e=>tM fun q=>BR (h _ (Oj (e▸h1) q))⟩
noncomputable def nU(is:List Nat)(a:TX V):TS:=⟨ji is a.f,fun ρ H k=>a.w ρ H fun v H=>tK v fun vs=>cond (Nat.beq vs.length is.length) (Jj ρ is vs fun ρ=>k (.next ρ H)) True,
 fun h=>a.ok fun v H₁ h1=>Oq fun vs e=>tM fun q=>BS (DM q).symm (h _ (P8 (e▸h1) q))⟩
noncomputable def g9(c:Addr)(f:Fd)(i:Nat)(a:TX V):TS:=⟨cG c f i a.f,fun ρ H k=>a.w ρ H fun v H=>Jh ρ i fun w=>cK c w fun n=>vD (dct H n) fun fs=>cond (Nat.ble fs.length 900) (k (.next ρ (H.set n (.dict (xy fs f v))))) True,
 fun h=>a.ok fun v H₁ h1=>uC fun w e=>Jl fun n e' _ hd=>tM fun h3=>h _ (P9 h1 (uB (e.trans e') (fun e=>V.noConfusion e)) hd h3)⟩
noncomputable def BU(o i a:TX V):TS:=⟨fY o.f i.f a.f,fun ρ H k=>a.w ρ H fun v H=>o.w ρ H fun x H=>i.w ρ H fun y H => ∀{H'},Bq v x y H = .ok () H'->k (.next ρ H'),
 fun h=>a.ok fun v H₁ h1=>o.ok fun x H₂ h2=>i.ok fun y oQ h3 _ h4=>h _ (Qa h1 h2 h3 h4)⟩
noncomputable def aug(f:V->V->AH->R V)(i:Nat)(a:TX V):TS:=⟨nO f i a.f,fun ρ H k=>Jh ρ i fun x=>nK x (a.w ρ H fun y H=>vO (f x y H) fun v H=>G7 ρ i v fun ρ=>k (.next ρ H)),
 fun h=>uC fun x e=>Om fun hu=>a.ok fun y H₁ h1 _ _ h2=>qK (h _ (SK (uB e hu) h1 h2))⟩
noncomputable def ej(f:SF):TS:=⟨f,fun ρ H k => ∀{q},f ρ H=q->k q,fun h _ e=>h _ e⟩
end TS
noncomputable def V5:RS->R V
 | .next _ H => .ok .none H
 | .ret v H => .ok v H
 | .exc H => .exc H
 | .stuck => .stuck
theorem vf(n k:Nat)(t:TS)(vs:List V)(H:AH)(h:Nat.beq vs.length n=true):Qf vs k fun ρ=>t.w ρ H fun q=>cD n k t.f vs H=V5 q :=
 Fe (t.ok fun q e=>by unfold cD;rw [if_pos (DM h),e];rfl)
theorem dS(t:TS){ρ:List V}{H:AH}:t.w ρ H fun q=>t.f ρ H=q:=t.ok fun q e=>e
theorem j5(t:TX V){ρ:List V}{H:AH}:t.w ρ H fun v H'=>t.f ρ H = .ok v H':=t.ok fun q H' e=>e
noncomputable def BV:TS:=(.aA (.ja (.of (.bin Dc (.var 0) (.bin iR (.con (.int 18446744073709551616)) (.con (.int 2))))) (.aA (.ret (.bin eH (.var 0) (.con (.int 18446744073709551616)))) .aL) .aL) (.aA (.ret (.var 0)) .aL))
noncomputable def Jm:TS:=(.aA (.ret (.bin aS (.bin iQ (.item (.var 0) (.var 1)) (.con (.int 256))) (.item (.var 0) (.bin aS (.var 1) (.con (.int 1)))))) .aL)
noncomputable def G8:TS:=(.aA (.ret (.bin aS (.bin iQ (.call f7 (.cons (.var 0) (.cons (.var 1) .nil))) (.con (.int 65536))) (.call f7 (.cons (.var 0) (.cons (.bin aS (.var 1) (.con (.int 2))) .nil))))) .aL)
noncomputable def G9:TS:=(.aA (.BU (.var 0) (.var 1) (.bin iR (.var 2) (.con (.int 256)))) (.aA (.BU (.var 0) (.bin aS (.var 1) (.con (.int 1))) (.bin iS (.var 2) (.con (.int 256)))) .aL))
noncomputable def DN:TS:=(.aA (.expr (.call jv (.cons (.var 0) (.cons (.var 1) (.cons (.bin iR (.var 2) (.con (.int 65536))) .nil))))) (.aA (.expr (.call jv (.cons (.var 0) (.cons (.bin aS (.var 1) (.con (.int 2))) (.cons (.bin iS (.var 2) (.con (.int 65536))) .nil))))) .aL))
noncomputable def xJ:TS:=(.aA (.set 1 (.call Pk (.cons (.con (.int 4)) .nil))) (.aA (.expr (.call l8 (.cons (.var 1) (.cons (.con (.int 0)) (.cons (.var 0) .nil))))) (.aA (.ret (.call bJ (.cons (.var 1) .nil))) .aL)))
noncomputable def yy:TS:=(.aA (.ret (.or (.bin iw (.var 0) (.con (.int 13))) (.bin iw (.var 0) (.con (.int 10))))) .aL)
noncomputable def yz:TS:=(.aA (.ret (.or (.bin iw (.var 0) (.con (.int 13))) (.bin iw (.var 0) (.con (.int 5))))) .aL)
noncomputable def tN:TS:=(.aA (.ja (.of (.call eY (.cons (.var 0) .nil))) (.aA (.ret (.con (.int 8))) .aL) .aL) (.aA (.ret (.con (.int 12))) .aL))
noncomputable def BW:TS:=(.aA (.ja (.of (.bin iw (.var 0) (.con (.int 13)))) (.aA (.ret (.bin eH (.var 1) (.con (.int 35)))) .aL) .aL) (.aA (.ret (.call zE (.cons (.con (.int 1)) (.cons (.bin eH (.bin iR (.bin eH (.var 1) (.con (.int 12))) (.con (.int 4))) (.con (.int 12))) .nil)))) .aL))
noncomputable def z6:TS:=(.aA (.set 3 (.call ku (.cons (.var 0) (.cons (.var 1) .nil)))) (.aA (.ja (.of (.bin Pa (.var 2) (.var 3))) (.aA (.ret (.var 2)) .aL) .aL) (.aA (.ej bZ) (.aA (.ej bZ) (.aA (.ej bZ) (.aA (.ej bZ) .aL))))))
noncomputable def qM:TS:=(.aA (.set 1 (.bin iS (.var 0) (.con (.int 18446744073709551616)))) (.aA (.set 2 (.list .nil)) (.aA (.ja (.of (.bin Dc (.var 1) (.bin xu (.con (.int 2)) (.con (.int 56))))) (.aA (.expr (.fk iU aY (.var 2) (.cons (.bin qp (.var 1) (.con (.int 255))) .nil))) (.aA (.aug vc 1 (.con (.int 8))) (.aA (.ej (fX 3 (ak (.int 8)) (aq (cI (cE iU aY (ai 2) (af (aH C9 (aH qp (ai 1) (ak (.int 127))) (ak (.int 128))) aC))) (aq (nO vc 1 (ak (.int 7))) aI)))) .aL))) (.aA (.expr (.fk iU aY (.var 2) (.cons (.bin qp (.var 1) (.con (.int 127))) .nil))) (.aA (.aug vc 1 (.con (.int 7))) (.aA (.ej (dP 10 (cR (aH oR (ai 1) (ak (.int 0)))) (aq (cI (cE iU aY (ai 2) (af (aH C9 (aH qp (ai 1) (ak (.int 127))) (ak (.int 128))) aC))) (aq (nO vc 1 (ak (.int 7))) aI)))) .aL)))) (.aA (.expr (.fk iU jG (.var 2) .nil)) (.aA (.ret (.call bJ (.cons (.var 2) .nil))) .aL)))))
noncomputable def z7:TS:=(.aA (.set 2 (.con (.int 0))) (.aA (.ej (fX 3 (ak (.int 9)) (aq (fj (cR (aH Dc (ai 1) (aF bT (af (ai 0) aC)))) (aq bZ aI) aI) (aq (a8 4 (cy (ai 0) (ai 1))) (aq (nO E5 1 (ak (.int 1))) (aq (fj (cR (aH iw (ai 3) (ak (.int 8)))) (aq (bL (cS (af (aH C9 (aH Ba (ai 2) (ak (.int 8))) (ai 4)) (af (ai 1) aC)))) aI) aI) (aq (a8 2 (aH C9 (aH Ba (ai 2) (ak (.int 7))) (aH qp (ai 4) (ak (.int 127))))) (aq (fj (cR (aH ltV (ai 4) (ak (.int 128)))) (aq (bL (cS (af (ai 2) (af (ai 1) aC)))) aI) aI) aI)))))))) (.aA (.ej bZ) .aL)))
noncomputable def BX:TS:=(.aA (.g9 195 .child 0 (.var 1)) (.aA (.g9 195 .rowid 0 (.var 2)) (.aA (.g9 195 .size 0 (.var 3)) (.aA (.g9 195 .jC 0 (.var 4)) (.aA (.g9 195 .overflow 0 (.var 5)) .aL)))))
noncomputable def tO:TS:=(.aA (.set 4 (.con (.int 0))) (.aA (.set 5 (.con .none)) (.aA (.set 6 (.con (.int 0))) (.aA (.ja (.not (.of (.call eY (.cons (.var 2) .nil)))) (.aA (.ja (.of (.bin oR (.bin aS (.var 1) (.con (.int 4))) (.call bT (.cons (.var 0) .nil)))) (.aA (.ej bZ) .aL) .aL) (.aA (.set 4 (.call eX (.cons (.var 0) (.cons (.var 1) .nil)))) (.aA (.set 1 (.bin aS (.var 1) (.con (.int 4)))) .aL))) .aL) (.aA (.ja (.of (.bin iw (.var 2) (.con (.int 5)))) (.aA (.ud [7,1] (.call cg (.cons (.var 0) (.cons (.var 1) .nil)))) (.aA (.ret (.tup (.cons (.call (dg 195 eJ) (.cons (.var 4) (.cons (.call fZ (.cons (.var 7) .nil)) (.cons (.con (.int 0)) (.cons (.con (.bytes [])) (.cons (.con (.int 0)) .nil)))))) (.cons (.var 1) .nil)))) .aL)) .aL) (.aA (.ud [8,1] (.call cg (.cons (.var 0) (.cons (.var 1) .nil)))) (.aA (.ja (.of (.bin iw (.var 2) (.con (.int 13)))) (.aA (.ud [7,1] (.call cg (.cons (.var 0) (.cons (.var 1) .nil)))) (.aA (.set 5 (.call fZ (.cons (.var 7) .nil))) .aL)) .aL) (.aA (.set 9 (.call gW (.cons (.var 2) (.cons (.var 3) (.cons (.var 8) .nil))))) (.aA (.set 10 (.call bJ (.cons (.cut (.var 0) (.so (.var 1)) (.so (.bin aS (.var 1) (.var 9)))) .nil))) (.aA (.set 1 (.bin aS (.var 1) (.var 9))) (.aA (.ja (.of (.bin ltV (.var 9) (.var 8))) (.aA (.ja (.of (.bin oR (.bin aS (.var 1) (.con (.int 4))) (.call bT (.cons (.var 0) .nil)))) (.aA (.ej bZ) .aL) .aL) (.aA (.set 6 (.call eX (.cons (.var 0) (.cons (.var 1) .nil)))) (.aA (.set 1 (.bin aS (.var 1) (.con (.int 4)))) .aL))) .aL) (.aA (.ja (.bor (.of (.bin oR (.var 1) (.call bT (.cons (.var 0) .nil)))) (.bor (.of (.bin ltV (.call bT (.cons (.var 10) .nil)) (.var 9))) (.tt false))) (.aA (.ej bZ) .aL) .aL) (.aA (.ret (.tup (.cons (.call (dg 195 eJ) (.cons (.var 4) (.cons (.var 5) (.cons (.var 8) (.cons (.var 10) (.cons (.var 6) .nil)))))) (.cons (.var 1) .nil)))) .aL)))))))))))))
noncomputable def BY:TS:=(.aA (.set 1 (.item (.attr 438 .data (.var 0)) (.attr 438 .base (.var 0)))) (.aA (.ja (.V4 (vA [2,5,10,13] (ai 1))) (.aA (.ej bZ) .aL) .aL) (.aA (.ret (.var 1)) .aL)))
noncomputable def vY:TS:=(.aA (.ret (.call eY (.cons (.dW 438 (some .kind) dI (.var 0) .nil) .nil))) .aL)
noncomputable def vZ:TS:=(.aA (.ret (.call oB (.cons (.dW 438 (some .kind) dI (.var 0) .nil) .nil))) .aL)
noncomputable def z8:TS:=(.aA (.ret (.call f7 (.cons (.attr 438 .data (.var 0)) (.cons (.bin aS (.attr 438 .base (.var 0)) (.con (.int 3))) .nil)))) .aL)
noncomputable def ni:TS:=(.aA (.ja (.of (.bin oR (.item (.attr 438 .data (.var 0)) (.attr 438 .base (.var 0))) (.con (.int 5)))) (.aA (.ret (.bin aS (.attr 438 .base (.var 0)) (.con (.int 8)))) .aL) .aL) (.aA (.ret (.bin aS (.attr 438 .base (.var 0)) (.con (.int 12)))) .aL))
noncomputable def z9:TS:=(.aA (.ret (.call eX (.cons (.attr 438 .data (.var 0)) (.cons (.bin aS (.attr 438 .base (.var 0)) (.con (.int 8))) .nil)))) .aL)
noncomputable def Aa:TS:=(.aA (.ja (.bor (.of (.bin ltV (.var 1) (.con (.int 0)))) (.bor (.of (.bin Dc (.var 1) (.dW 438 none bu (.var 0) .nil))) (.tt false))) (.aA (.ej bZ) .aL) .aL) (.aA (.set 2 (.dW 438 none gn (.var 0) .nil)) (.aA (.set 3 (.call f7 (.cons (.attr 438 .data (.var 0)) (.cons (.bin aS (.var 2) (.bin iQ (.con (.int 2)) (.var 1))) .nil)))) (.aA (.ja (.bor (.of (.bin ltV (.var 3) (.bin aS (.var 2) (.bin iQ (.con (.int 2)) (.dW 438 none bu (.var 0) .nil))))) (.bor (.of (.bin oR (.bin aS (.var 3) (.con (.int 4))) (.attr 438 .eg (.var 0)))) (.tt false))) (.aA (.ej bZ) .aL) .aL) (.aA (.ret (.var 3)) .aL)))))
noncomputable def tP:TS:=(.aA (.ud [2,3] (.call iZ (.cons (.attr 438 .data (.var 0)) (.cons (.dW 438 none dZ (.var 0) (.cons (.var 1) .nil)) (.cons (.dW 438 (some .kind) dI (.var 0) .nil) (.cons (.attr 438 .eg (.var 0)) .nil)))))) (.aA (.ret (.var 2)) .aL))
noncomputable def qN:TS:=(.aA (.set 2 (.dW 438 none dZ (.var 0) (.cons (.var 1) .nil))) (.aA (.ja (.of (.bin iw (.dW 438 (some .kind) dI (.var 0) .nil) (.con (.int 5)))) (.aA (.ud [3,2] (.call cg (.cons (.attr 438 .data (.var 0)) (.cons (.bin aS (.var 2) (.con (.int 4))) .nil)))) (.aA (.ret (.call fZ (.cons (.var 3) .nil))) .aL)) .aL) (.aA (.ud [4,2] (.call cg (.cons (.attr 438 .data (.var 0)) (.cons (.var 2) .nil)))) (.aA (.ud [3,2] (.call cg (.cons (.attr 438 .data (.var 0)) (.cons (.var 2) .nil)))) (.aA (.ret (.call fZ (.cons (.var 3) .nil))) .aL)))))
noncomputable def qO:TS:=(.aA (.ja (.of (.bin iw (.var 1) (.dW 438 none bu (.var 0) .nil))) (.aA (.ret (.dW 438 (some .right) jl (.var 0) .nil)) .aL) .aL) (.aA (.ret (.call eX (.cons (.attr 438 .data (.var 0)) (.cons (.dW 438 none dZ (.var 0) (.cons (.var 1) .nil)) .nil)))) .aL))
noncomputable def tQ:TS:=(.aA (.g9 438 .data 0 (.call Pk (.cons (.var 1) .nil))) (.aA (.g9 438 .A8 0 (.var 2)) (.aA (.g9 438 .eg 0 (.var 3)) (.aA (.g9 438 .base 0 (.con (.int 0))) (.aA (.ja (.of (.bin iw (.var 2) (.con (.int 1)))) (.aA (.g9 438 .base 0 (.con (.int 32))) .aL) .aL) .aL)))))
noncomputable def sG:TS:=(.aA (.g9 742 .bA 0 (.var 1)) (.aA (.g9 742 .ay 0 (.list .nil)) (.aA (.g9 742 .m9 0 (.list .nil)) .aL)))
noncomputable def mr:TS:=(.aA (.ret (.call bT (.cons (.attr 742 .ay (.var 0)) .nil))) .aL)
noncomputable def nu:TS:=(.aA (.ja (.bor (.of (.bin ltV (.var 1) (.con (.int 1)))) (.bor (.of (.bin oR (.var 1) (.call bT (.cons (.attr 742 .ay (.var 0)) .nil)))) (.tt false))) (.aA (.ej bZ) .aL) .aL) (.aA (.ret (.item (.attr 742 .ay (.var 0)) (.bin eH (.var 1) (.con (.int 1))))) .aL))
noncomputable def mu:TS:=(.aA (.ja (.bor (.of (.bin xw (.call bT (.cons (.var 2) .nil)) (.attr 742 .bA (.var 0)))) (.bor (.of (.bin ltV (.var 1) (.con (.int 1)))) (.bor (.of (.bin oR (.var 1) (.call bT (.cons (.attr 742 .ay (.var 0)) .nil)))) (.tt false)))) (.aA (.ej bZ) .aL) .aL) (.aA (.BU (.attr 742 .ay (.var 0)) (.bin eH (.var 1) (.con (.int 1))) (.call bJ (.cons (.var 2) .nil))) .aL))
noncomputable def pN:TS:=(.aA (.expr (.fk iU aY (.attr 742 .ay (.var 0)) (.cons (.call bJ (.cons (.attr 742 .bA (.var 0)) .nil)) .nil))) (.aA (.ret (.call bT (.cons (.attr 742 .ay (.var 0)) .nil))) .aL))
noncomputable def Ab:TS:=(.aA (.g9 527 .gQ 0 (.var 1)) (.aA (.g9 527 .free 0 (.var 2)) (.aA (.g9 527 .changes 0 (.raw Dp)) .aL)))
noncomputable def v7:TS:=(.aA (.ret (.attr 742 .bA (.attr 527 .gQ (.var 0)))) .aL)
noncomputable def Ac:TS:=(.aA (.ja (.bor (.of (.bin ltV (.var 1) (.con (.int 1)))) (.bor (.of (.bin oR (.var 1) (.dW 742 none dG (.attr 527 .gQ (.var 0)) .nil))) (.tt false))) (.aA (.ej bZ) .aL) .aL) (.aA (.ret (.call (dg 438 i4) (.cons (.dW 742 none cM (.attr 527 .gQ (.var 0)) (.cons (.var 1) .nil)) (.cons (.var 1) (.cons (.dW 527 (some .eg) gX (.var 0) .nil) .nil))))) .aL))
noncomputable def v8:TS:=(.aA (.ja (.of (.bin oR (.call bT (.cons (.var 1) .nil)) (.con (.int 50)))) (.aA (.ej bZ) .aL) .aL) .aL)
noncomputable def Ad:TS:=(.aA (.ja (.of (.bin iw (.attr 195 .overflow (.var 1)) (.con (.int 0)))) (.aA (.ret (.attr 195 .jC (.var 1))) .aL) .aL) (.aA (.ej bZ) .aL))
noncomputable def v9:TS:=(.aA (.set 3 (.list .nil)) (.aA (.set 4 (.var 1)) (.aA (.ej (dP 4 (cR (ak (.bool true))) (aq (a8 5 (bq 527 none bV (ai 0) (af (ai 4) aC))) (aq (a8 6 (ak (.int 0))) (aq (fj (cR (ai 2)) (aq (a8 6 (aH eH (bq 438 none bu (ai 5) aC) (aF iE (af (bq 438 none bP (ai 5) aC) aC)))) aI) aI) (aq (cI (cE iU aY (ai 3) (af (cS (af (ai 4) (af (ai 6) aC))) aC))) (aq (cI (bq 527 none ck (ai 0) (af (ai 3) aC))) (aq (fj (cR (bq 438 none bP (ai 5) aC)) (aq (bL (ai 3)) aI) aI) (aq (a8 4 (bq 438 (some .child) bB (ai 5) (af (ai 6) aC))) aI))))))))) .aL)))
noncomputable def qP:TS:=(.aA (.ret (.bin eH (.call iE (.cons (.bin oR (.var 1) (.var 2)) .nil)) (.call iE (.cons (.bin ltV (.var 1) (.var 2)) .nil)))) .aL)
noncomputable def DO:TS:=(.aA (.set 4 (.con (.int 0))) (.aA (.set 5 (.dW 438 none bu (.var 1) .nil)) (.aA (.set 6 (.con (.bool false))) (.aA (.ej (dP 8 (cR (aH ltV (ai 4) (ai 5))) (aq (a8 7 (aH iR (aH aS (ai 4) (ai 5)) (ak (.int 2)))) (aq (a8 8 (bq 590 none d7 (ai 3) (af (aF gY (af (ai 0) (af (bq 438 none i3 (ai 1) (af (ai 7) aC)) aC))) (af (ai 2) aC)))) (aq (fj (cR (aH ltV (ai 8) (ak (.int 0)))) (aq (a8 4 (aH aS (ai 7) (ak (.int 1)))) aI) (aq (a8 5 (ai 7)) (aq (a8 6 (aH iw (ai 8) (ak (.int 0)))) aI))) aI))))) (.aA (.ret (.tup (.cons (.var 4) (.cons (.var 6) .nil)))) .aL)))))
noncomputable def qQ:TS:=(.aA (.set 5 (.list .nil)) (.aA (.set 6 (.var 1)) (.aA (.ej (dP 4 (cR (ak (.bool true))) (aq (a8 7 (bq 527 none bV (ai 0) (af (ai 6) aC))) (aq (fj (cR (bq 438 none dB (ai 7) aC)) (aq (jM (sr 6)) aI) aI) (aq (jH [8,9] (aF jN (af (ai 0) (af (ai 7) (af (ai 2) (af (ai 3) aC)))))) (aq (cI (cE iU aY (ai 5) (af (cS (af (ai 6) (af (ai 8) aC))) aC))) (aq (cI (bq 527 none ck (ai 0) (af (ai 5) aC))) (aq (fj (tE (cR (bq 438 none bP (ai 7) aC)) (tE (u7 (cR (ai 9)) (u7 (nD (cR (ai 4))) (r6 true))) (r6 false))) (aq (bL (cS (af (ai 5) (af (ai 9) aC)))) aI) aI) (aq (a8 6 (bq 438 (some .child) bB (ai 7) (af (ai 8) aC))) aI))))))))) .aL)))
noncomputable def pO:TS:=(.aA (.ud [4,5] (.call gZ (.cons (.var 0) (.cons (.var 1) (.cons (.var 2) (.cons (.var 3) (.cons (.con (.bool false)) .nil))))))) (.aA (.ja (.of (.var 5)) (.aA (.ret (.tup (.cons (.var 4) (.cons (.con (.int 0)) .nil)))) .aL) .aL) (.aA (.ud [6,7] (.item (.var 4) (.neg (.con (.int 1))))) (.aA (.ja (.of (.bin ltV (.var 7) (.dW 438 none bu (.dW 527 none bV (.var 0) (.cons (.var 6) .nil)) .nil))) (.aA (.ret (.tup (.cons (.var 4) (.cons (.con (.int 1)) .nil)))) .aL) .aL) (.aA (.ret (.tup (.cons (.var 4) (.cons (.neg (.con (.int 1))) .nil)))) .aL)))))
noncomputable def Qg:TS:=(.aA (.ret (.bin aS (.con (.int 2)) (.call zE (.cons (.con (.int 4)) (.cons (.call bT (.cons (.var 0) .nil)) .nil))))) .aL)
noncomputable def Mw:TS:=(.aA (.ret (.call Dh (.cons (.raw (gG none (iA (ai 0)) (r6 true) (aF vR (af (ai 0) aC)))) .nil))) .aL)
noncomputable def yC:TS:=(.aA (.ret (.ite (.of (.bin iw (.var 0) (.con (.int 1)))) (.con (.int 32)) (.con (.int 0)))) .aL)
noncomputable def DP:TS:=(.aA (.ret (.bin eH (.bin eH (.var 2) (.call jw (.cons (.var 0) .nil))) (.call kq (.cons (.var 1) .nil)))) .aL)
noncomputable def wc:TS:=(.aA (.g9 644 .kind 0 (.var 1)) (.aA (.g9 644 .raws 0 (.var 2)) (.aA (.g9 644 .right 0 (.var 3)) .aL)))
noncomputable def Qh:TS:=(.aA (.ret (.bin Pa (.call uz (.cons (.attr 644 .raws (.var 2)) .nil)) (.call pL (.cons (.var 1) (.cons (.attr 644 .kind (.var 2)) (.cons (.attr 742 .bA (.var 0)) .nil)))))) .aL)
noncomputable def xK:TS:=(.aA (.set 2 (.con (.int 0))) (.aA (.set 3 (.dW 438 none bu (.var 0) .nil)) (.aA (.ej (dP 8 (cR (aH ltV (ai 2) (ai 3))) (aq (a8 4 (aH iR (aH aS (ai 2) (ai 3)) (ak (.int 2)))) (aq (fj (cR (aH ltV (bq 438 (some .rowid) di (ai 0) (af (ai 4) aC)) (ai 1))) (aq (a8 2 (aH aS (ai 4) (ak (.int 1)))) aI) (aq (a8 3 (ai 4)) aI)) aI)))) (.aA (.ret (.var 2)) .aL))))
noncomputable def mw:TS:=(.aA (.set 3 (.list .nil)) (.aA (.set 4 (.var 1)) (.aA (.ej (dP 4 (cR (ak (.bool true))) (aq (a8 5 (bq 527 none bV (ai 0) (af (ai 4) aC))) (aq (fj (nD (cR (bq 438 none dB (ai 5) aC))) (aq (jM (sr 4)) aI) aI) (aq (a8 6 (aF f9 (af (ai 5) (af (ai 2) aC)))) (aq (cI (cE iU aY (ai 3) (af (cS (af (ai 4) (af (ai 6) aC))) aC))) (aq (cI (bq 527 none ck (ai 0) (af (ai 3) aC))) (aq (fj (cR (bq 438 none bP (ai 5) aC)) (aq (bL (cS (af (ai 3) (af (u9 (aH ltV (ai 6) (bq 438 none bu (ai 5) aC)) (aH iw (bq 438 (some .rowid) di (ai 5) (af (ai 6) aC)) (ai 2))) aC)))) aI) aI) (aq (a8 4 (bq 438 (some .child) bB (ai 5) (af (ai 6) aC))) aI))))))))) .aL)))
noncomputable def qR:TS:=(.aA (.ud [2,3] (.item (.call fF (.cons (.var 0) (.cons (.var 1) (.cons (.con (.bool true)) .nil)))) (.neg (.con (.int 1))))) (.aA (.ja (.of (.bin ltV (.var 3) (.con (.int 0)))) (.aA (.ret (.con .none)) .aL) .aL) (.aA (.ret (.dW 438 (some .rowid) di (.dW 527 none bV (.var 0) (.cons (.var 2) .nil)) (.cons (.var 3) .nil))) .aL)))
noncomputable def wd:TS:=(.aA (.set 2 (.con (.int 0))) (.aA (.ja (.of (.bin ltV (.var 1) (.call bT (.cons (.var 0) .nil)))) (.aA (.set 2 (.item (.var 0) (.var 1))) .aL) .aL) (.aA (.set 3 (.call zE (.cons (.call iE (.cons (.var 2) .nil)) (.cons (.call iE (.cons (.bin eH (.neg (.con (.int 1))) (.var 2)) .nil)) .nil)))) (.aA (.set 4 (.bin iS (.call iE (.cons (.bin iQ (.bin aS (.bin aS (.bin aS (.bin iS (.call iE (.cons (.var 3) .nil)) (.con (.int 2147483629))) (.bin iQ (.bin iQ (.con (.int 7919)) (.var 1)) (.var 1))) (.bin iQ (.con (.int 31)) (.var 1))) (.con (.int 17))) (.con (.int 48271))) .nil)) (.con (.int 2147483647)))) (.aA (.ret (.list (.cons (.bin iQ (.var 3) (.call iE (.cons (.bin Dc (.var 3) (.bin xu (.con (.int 10)) (.con (.int 18)))) .nil))) (.cons (.var 4) .nil)))) .aL)))))
noncomputable def we:TS:=(.aA (.ja (.of (.bin oR (.item (.var 0) (.con (.int 0))) (.con (.int 0)))) (.aA (.set 2 (.bin iS (.call iE (.cons (.item (.var 0) (.con (.int 0))) .nil)) (.var 1))) (.aA (.BU (.var 0) (.con (.int 0)) (.bin iR (.item (.var 0) (.con (.int 0))) (.var 1))) (.aA (.ret (.var 2)) .aL))) .aL) (.aA (.BU (.var 0) (.con (.int 1)) (.bin iS (.call iE (.cons (.bin aS (.bin iQ (.item (.var 0) (.con (.int 1))) (.con (.int 39373))) (.con (.int 7))) .nil)) (.con (.int 2147483647)))) (.aA (.ret (.bin iS (.call iE (.cons (.bin iR (.bin iS (.call iE (.cons (.bin iQ (.item (.var 0) (.con (.int 1))) (.item (.var 0) (.con (.int 1)))) .nil)) (.con (.int 2147483629))) (.con (.int 32))) .nil)) (.var 1))) .aL)))
noncomputable def Hf:TS:=(.aA (.ret (.item (.var 1) (.call bE (.cons (.var 0) (.cons (.call bT (.cons (.var 1) .nil)) .nil))))) .aL)
noncomputable def DQ:TS:=(.aA (.ret (.call bJ (.cons (.list (.cons (.con (.int 0)) (.cons (.con (.int 0)) (.cons (.bin iR (.var 0) (.con (.int 256))) (.cons (.bin iS (.var 0) (.con (.int 256))) .nil))))) .nil))) .aL)
noncomputable def BZ:TS:=(.aA (.ret (.raw (gG (some 0) (lY (aF dN (af (ai 0) (af (bk (af (ak (.int 1)) (af (ak (.int 2)) (af (ak (.int 3)) (af (ak (.int 3)) aC))))) aC)))) (r6 true) (aF bE (af (ai 1) (af (ak (.int 4)) aC)))))) .aL)
noncomputable def B0:TS:=(.aA (.set 0 (.call (dg 742 eF) (.cons (.con (.int 128)) .nil))) (.aA (.ej (fX 1 (ak (.int 5)) (aq (cI (bq 742 none dQ (ai 0) aC)) aI))) (.aA (.ret (.var 0)) .aL)))
theorem Ae{H:AH}{n:Nat}{b:List UInt8}{z:Int}(hb:bar H n=some b)(hz:b.length<=16777216)(h0:0<=z)(h1:z+1<b.length):f7 [.ref n,.int z] H = .ok (.int (gz b z*256+gz b (z+1))) H :=
 vf 2 0 Jm [.ref n,.int z] H rfl (oi hb hz h0 (Int.lt_of_le_of_lt (Int.le_add_of_nonneg_right (by decide)) h1)) (nT rfl) rfl (oi hb hz (Int.le_add_one h0) h1) rfl
theorem Mx{z a c m:Int}(h:a<=c)(l:z+c<m):z+a<m:=Int.lt_of_le_of_lt (Int.add_le_add_left h z) l
theorem Af{H:AH}{n:Nat}{b:List UInt8}{z:Int}(hb:bar H n=some b)(hz:b.length<=16777216)(h0:0<=z)(h1:z+3<b.length):eX [.ref n,.int z] H = .ok (.int ((gz b z*256+gz b (z+1))*65536+(gz b (z+2)*256+gz b (z+2+1)))) H :=
 vf 2 0 G8 [.ref n,.int z] H rfl (Ae hb hz h0 (Mx (by decide) h1)) (nT rfl) rfl (Ae hb hz (Int.add_nonneg h0 (by decide)) (by rw [Int.add_assoc];exact h1)) rfl
@[simp] theorem Ag{H:AH}{k:Int}:eY [.int k] H = .ok (.bool (k==13 || k==10)) H:=by
 cases h:(k==13) with
 |true=>exact vf 1 0 yy [.int k] H rfl (qI h)
 |false=>exact vf 1 0 yy [.int k] H rfl (g7 h) E9
@[simp] theorem My{H:AH}{k:Int}:oB [.int k] H = .ok (.bool (k==13 || k==5)) H:=by
 cases h:(k==13) with
 |true=>exact vf 1 0 yz [.int k] H rfl (qI h)
 |false=>exact vf 1 0 yz [.int k] H rfl (g7 h) E9
@[simp] theorem Hg{H:AH}{k:Int}:kq [.int k] H = .ok (.int (if (k==13 || k==10)=true then 8 else 12)) H:=by
 have l:=Ag (H:=H) (k:=k)
 revert l
 cases (k==13 || k==10) with
 |true=>exact fun l=>vf 1 0 tN [.int k] H rfl l
 |false=>exact fun l=>vf 1 0 tN [.int k] H rfl l
noncomputable def baseOf(pg:Int):Int:=if pg=1 then 32 else 0
inductive cH(H:AH)(nd:Nat)(b:List UInt8)(pg:Int):Prop
 |mk (db:Nat) (h1:dct H nd=some [(.data,.ref db),(.A8,.int pg),(.eg,.int 128),(.base,.int (baseOf pg))]) (h2:bar H db=some b) (h3:b.length=128)
theorem cH.len{H:AH}{nd:Nat}{b:List UInt8}{pg:Int}:cH H nd b pg->b.length=128
 |⟨_,_,_,h⟩=>h
theorem cH.app{H X:AH}{nd:Nat}{b:List UInt8}{pg:Int}:cH H nd b pg->cH (H++X) nd b pg
 |⟨db,h1,h2,h3⟩=>⟨db,bH h1,E8 h2,h3⟩
theorem qS{pg:Int}:0<=baseOf pg:=by unfold baseOf;split<;>decide
theorem wg{pg:Int}:baseOf pg<=32:=by unfold baseOf;split<;>decide
theorem oT{b:List UInt8}(h:b.length=128):b.length<=16777216:=h▸(by decide)
theorem Ff{b:List UInt8}{pg n:Int}(h:b.length=128)(hn:32+n<128):baseOf pg+n<b.length:=by rw [h];exact Int.lt_of_le_of_lt (Int.add_le_add_right wg n) hn
theorem Ah{b:List UInt8}{pg:Int}(h:b.length=128):baseOf pg<b.length:=by rw [h];exact Int.lt_of_le_of_lt wg (by decide)
theorem Jo{pg n:Int}(hn:0<=n):0<=baseOf pg+n:=Int.add_nonneg qS hn
noncomputable def gJ(b:List UInt8)(pg:Int):Int:=gz b (baseOf pg)
noncomputable def hU(b:List UInt8)(pg:Int):Prop:=gJ b pg=2\/gJ b pg=5\/gJ b pg=10\/gJ b pg=13
noncomputable def fq(b:List UInt8)(pg:Int):Bool:=gJ b pg==13 || gJ b pg==10
noncomputable def lH(b:List UInt8)(pg:Int):Bool:=gJ b pg==13 || gJ b pg==5
noncomputable def h8(b:List UInt8)(pg:Int):Int:=gz b (baseOf pg+3)*256+gz b (baseOf pg+3+1)
noncomputable def my(b:List UInt8)(pg:Int):Int:=if 5<gJ b pg then baseOf pg+8 else baseOf pg+12
theorem Mz{H:AH}{v:V}{k:Int}(h:k=2\/k=5\/k=10\/k=13):vA [2,5,10,13] (ai 1) [v,.int k] H = .ok false H:=by rcases h with h | h | h | h<;>rw [h]<;>rfl
theorem kind{H:AH}{nd:Nat}{b:List UInt8}{pg:Int}(N:cH H nd b pg)(K:hU b pg):dI [.inst 438 nd] H = .ok (.int (gJ b pg)) H :=
 match N with | ⟨_,h1,h2,h3⟩=>vf 1 1 BY [.inst 438 nd] H rfl h1 h1 (oi h2 (oT h3) qS (Ah h3)) (Mz K)
theorem qT{H:AH}{nd:Nat}{b:List UInt8}{pg:Int}(N:cH H nd b pg)(K:hU b pg):bP [.inst 438 nd] H = .ok (.bool (fq b pg)) H :=
 match N with | ⟨_,h1,_,_⟩=>vf 1 0 vY [.inst 438 nd] H rfl h1 (kind N K) Ag
theorem qU{H:AH}{nd:Nat}{b:List UInt8}{pg:Int}(N:cH H nd b pg)(K:hU b pg):dB [.inst 438 nd] H = .ok (.bool (lH b pg)) H :=
 match N with | ⟨_,h1,_,_⟩=>vf 1 0 vZ [.inst 438 nd] H rfl h1 (kind N K) My
theorem count{H:AH}{nd:Nat}{b:List UInt8}{pg:Int}(N:cH H nd b pg):bu [.inst 438 nd] H = .ok (.int (h8 b pg)) H :=
 match N with | ⟨_,h1,h2,h3⟩=>vf 1 0 z8 [.inst 438 nd] H rfl h1 h1 rfl (Ae h2 (oT h3) (Jo (by decide)) (by rw [Int.add_assoc];exact Ff h3 (by decide)))
theorem Jp{H:AH}{nd:Nat}{b:List UInt8}{pg:Int}(N:cH H nd b pg):gn [.inst 438 nd] H = .ok (.int (my b pg)) H:=by
 obtain⟨_,h1,h2,h3⟩:=N
 have it:=oi h2 (oT h3) qS (Ah (pg:=pg) h3)
 unfold my
 by_cases h:5<gJ b pg
 ·rw [if_pos h];exact vf 1 0 ni [.inst 438 nd] H rfl h1 h1 it (G6 h) h1 rfl
 ·rw [if_neg h];exact vf 1 0 ni [.inst 438 nd] H rfl h1 h1 it (kC h) h1 rfl
noncomputable def qV(b:List UInt8)(z:Int):Int:=(gz b z*256+gz b (z+1))*65536+(gz b (z+2)*256+gz b (z+2+1))
noncomputable def Ai(b:List UInt8)(pg:Int):Int:=qV b (baseOf pg+8)
noncomputable def yD(b:List UInt8)(pg i:Int):Int:=gz b (my b pg+2*i)*256+gz b (my b pg+2*i+1)
structure kD(b:List UInt8)(pg i:Int):Prop where
 lo:0<=i
 hi:i<h8 b pg
 HK:my b pg+2*h8 b pg<=yD b pg i
 top:yD b pg i+4<=128
theorem B3{b:List UInt8}{pg:Int}:8<=my b pg:=by
 unfold my;split
 ·exact Int.le_add_of_nonneg_left qS
 ·exact Int.le_trans (by decide) (Int.le_add_of_nonneg_left qS)
theorem right{H:AH}{nd:Nat}{b:List UInt8}{pg:Int}(N:cH H nd b pg):jl [.inst 438 nd] H = .ok (.int (Ai b pg)) H :=
 match N with | ⟨_,h1,h2,h3⟩=>vf 1 0 z9 [.inst 438 nd] H rfl h1 h1 rfl (Af h2 (oT h3) (Jo (by decide)) (by rw [Int.add_assoc];exact Ff h3 (by decide)))
theorem place_lt{f i c a L:Int}(o2:i<c)(o3:f+2*c<=a)(o4:a+4<=L):f+2*i+1<L:=by lia
theorem place{H:AH}{nd:Nat}{b:List UInt8}{pg i:Int}(N:cH H nd b pg)(O:kD b pg i):dZ [.inst 438 nd,.int i] H = .ok (.int (yD b pg i)) H:=by
 have kc:=count N
 have kp:=Jp N
 obtain⟨db,h1,h2,h3⟩:=N
 obtain⟨o1,o2,o3,o4⟩:=O
 have t:=Ae h2 (oT h3) (Int.add_nonneg (Int.le_trans (by decide) (B3 (b:=b) (pg:=pg))) (Int.mul_nonneg (show(0:Int)<=2 by decide) o1)) (by rw [h3];exact place_lt o2 o3 o4)
 exact vf 2 2 Aa [.inst 438 nd,.int i] H rfl (g5 (Int.not_lt.mpr o1)) h1 kc (Fb (Int.not_le.mpr o2)) h1 kp h1 (vV (.inl (by decide))) rfl t h1 kc (vV (.inl (by decide))) rfl (g5 (Int.not_lt.mpr o3)) rfl h1 (kC (Int.not_lt.mpr o4))
theorem Jq{b:List UInt8}{pg i:Int}(O:kD b pg i):0<=yD b pg i :=
 Int.le_trans (Int.add_nonneg (Int.le_trans (by decide) B3) (Int.mul_nonneg (show(0:Int)<=2 by decide) (Int.le_trans O.lo (Int.le_of_lt O.hi)))) O.HK
theorem Jr{H:AH}{nd:Nat}{b:List UInt8}{pg i:Int}(N:cH H nd b pg)(O:kD b pg i):bB [.inst 438 nd,.int i] H = .ok (.int (qV b (yD b pg i))) H:=by
 have kc:=count N
 have kp:=place N O
 obtain⟨db,h1,h2,h3⟩:=N
 have t:=Af h2 (oT h3) (Jq O) (by rw [h3];exact O.top)
 exact vf 2 0 qO [.inst 438 nd,.int i] H rfl h1 kc (g7 (beq_false_of_ne (Int.ne_of_lt O.hi))) h1 h1 kp t
theorem B4{H:AH}{nd:Nat}{b:List UInt8}{pg:Int}(N:cH H nd b pg):bB [.inst 438 nd,.int (h8 b pg)] H = .ok (.int (Ai b pg)) H:=by
 have kc:=count N
 have kr:=right N
 obtain⟨db,h1,h2,h3⟩:=N
 exact vf 2 0 qO [.inst 438 nd,.int (h8 b pg)] H rfl h1 kc (qI BEq.rfl) h1 kr
noncomputable def vg(b:List UInt8):Nat->Nat->Int->Int->Option (Int×Int)
 | 0,_,_,_=>none
 |n+1,k,z,num=>if z<b.length then
   (if k=8 then some (num*256+gz b z,z+1)else if gz b z<128 then some (num*128+gz b z % 128,z+1)else vg b n (k+1) (z+1) (num*128+gz b z % 128))
  else none
noncomputable def uD:TS:=(.aA (.ja (.of (.bin Dc (.var 1) (.call bT (.cons (.var 0) .nil)))) (.aA (.ej bZ) .aL) .aL) (.aA (.set 4 (.item (.var 0) (.var 1))) (.aA (.aug E5 1 (.con (.int 1))) (.aA (.ja (.of (.bin iw (.var 3) (.con (.int 8)))) (.aA (.ret (.tup (.cons (.bin C9 (.bin Ba (.var 2) (.con (.int 8))) (.var 4)) (.cons (.var 1) .nil)))) .aL) .aL) (.aA (.set 2 (.bin C9 (.bin Ba (.var 2) (.con (.int 7))) (.bin qp (.var 4) (.con (.int 127))))) (.aA (.ja (.of (.bin ltV (.var 4) (.con (.int 128)))) (.aA (.ret (.tup (.cons (.var 2) (.cons (.var 1) .nil)))) .aL) .aL) .aL))))))
theorem Js{b:List UInt8}{n k:Nat}{z num:Int}:vg b (n+1) k z num=if z<b.length then
   (if k=8 then some (num*256+gz b z,z+1)else if gz b z<128 then some (num*128+gz b z % 128,z+1)else vg b n (k+1) (z+1) (num*128+gz b z % 128))
  else none:=rfl
noncomputable def Jt:SF:=uD.f
theorem uY{H:AH}{n:Nat}{b:List UInt8}(hb:bar H n=some b)(hz:b.length<=16777216):bT [.ref n] H = .ok (.int b.length) H:=by
 show(lst H n).elim (cC (bar H n) fun b=>GA b H) (fun vs=>GA vs H) = _
 rw [qH hb,hb]
 exact if_pos hz
theorem DR{H:AH}{a b:Int}(h:0<=b/\b<=64)(l:a.natAbs<2 ^ 64):Ba (.int a) (.int b) H = .ok (.int (a*2 ^ b.toNat)) H:=if_pos ⟨h.1,h.2,l⟩
theorem Xn{H:AH}{a g:Int}(h0:0<=a)(hg:0<=g)(h1:g<128)(hm:a % 128=0):C9 (.int a) (.int g) H = .ok (.int (a+g)) H :=
 (if_neg fun h=>absurd h1 (by rw [h.1];decide)).trans (if_pos ⟨h0,hg,h1,hm⟩)
theorem Yq{H:AH}{a g:Int}(h0:0<=a)(hg:0<=g)(h1:g<256)(hm:a % 256=0):C9 (.int a) (.int g) H = .ok (.int (a+g)) H:=by
 by_cases c:g<128
 ·exact Xn h0 hg c (by rw [← Int.emod_emod_of_dvd a (m:=128) (k:=256) ⟨2,rfl⟩,hm];rfl)
 ·by_cases d:g=128/\0<=a/\a<128
  ·exact(if_pos d).trans (by rw [d.1])
  ·exact(if_neg d).trans ((if_neg fun h=>c h.2.2.1).trans (if_pos ⟨h0,hg,h1,hm⟩))
theorem MA{H:AH}{g:Int}:qp (.int g) (.int 127) H = .ok (.int (g % 128)) H:=rfl
theorem Ju{n k:Int}{m:Nat}(h0:0<=n)(h:n<k)(e:k<=m):n.natAbs<m:=Int.ofNat_lt.mp (by rw [Int.natAbs_of_nonneg h0];exact Int.lt_of_lt_of_le h e)
theorem SP{H:AH}{n:Nat}{b:List UInt8}(hb:bar H n=some b)(hz:b.length<=16777216){z num:Int}{k:Nat}{t o:V}(h0:0<=z)(h1:z<b.length)(hn:0<=num)(hn2:num<2 ^ 56) :
  Jt [.ref n,.int z,.int num,.int (k:Int),o] H=if k=8 then .ret (.tup [.int (num*256+gz b z),.int (z+1)]) H else if gz b z<128 then .ret (.tup [.int (num*128+gz b z % 128),.int (z+1)]) H else .next [.ref n,.int (z+1),.int (num*128+gz b z % 128),.int (k:Int),.int (gz b z)] H:=by
 have g:=vW (b:=b) (z:=z)
 have l:=uY hb hz
 have it:=oi hb hz h0 h1
 have c1:=Fb (H:=H) (Int.not_le.mpr h1)
 have ab:=Ju (m:=2 ^ 64) hn hn2 (by decide)
 by_cases k8:k=8
 ·subst k8
  exact dS (ρ:=[V.ref n,V.int z,V.int num,V.int ↑8,o]) (H:=H) uD l c1 it rfl (qI rfl) (DR (by decide) ab) (Yq (Int.mul_nonneg hn (by decide)) g.1 g.2 (Int.mul_emod_left _ _))
 ·rw [if_neg k8]
  have k9:((k:Int)==8)=false:=beq_false_of_ne fun e=>k8 (Int.ofNat.inj e)
  have o7:=Xn (H:=H) (Int.mul_nonneg hn (show(0:Int)<=128 by decide)) (Int.emod_nonneg (gz b z) (by decide)) (Int.emod_lt_of_pos (gz b z) (show(0:Int)<128 by decide)) (Int.mul_emod_left _ _)
  by_cases g8:gz b z<128
  ·rw [if_pos g8];exact dS (ρ:=[V.ref n,V.int z,V.int num,V.int k,o]) (H:=H) uD l c1 it rfl (g7 k9) (DR (by decide) ab) MA o7 (xH g8)
  ·rw [if_neg g8];exact dS (ρ:=[V.ref n,V.int z,V.int num,V.int k,o]) (H:=H) uD l c1 it rfl (g7 k9) (DR (by decide) ab) MA o7 (g5 g8)
theorem V6:∀k:Fin 9,(128:Int) ^ k.val<=2 ^ 56:=by decide
theorem Qi{num q:Int}{k:Nat}(h:num<128 ^ k)(q1:q<128):num*128+q<128 ^ (k+1):=by rw [Int.pow_succ];lia
theorem SQ{H:AH}{n:Nat}{b:List UInt8}(hb:bar H n=some b)(hz:b.length<=16777216){p:Int×Int}:∀(m k:Nat)(z num:Int)(t o:V),m+k=9->0<=z->0<=num->num<128 ^ k->vg b m k z num=some p →
  forR 3 Jt m k [.ref n,.int z,.int num,t,o] H = .ret (.tup [.int p.1,.int p.2]) H:=by
 intro m
 induction m with
 |zero=>intro _ _ _ _ _ _ _ _ _ h;exact nomatch h
 |succ m ih =>
  intro k z num t o hk h0 hn hn2 h
  rw [Js]at h
  by_cases h1:z<b.length
  ·rw [if_pos h1]at h
   have T:=SP hb hz (t:=t) (o:=o) (k:=k) h0 h1 hn (Int.lt_of_lt_of_le hn2 (V6 ⟨k,by lia⟩))
   show(Jt [.ref n,.int z,.int num,.int (k:Int),o] H).iz _ = _
   rw [T]
   by_cases k8:k=8
   ·rw [if_pos k8]at h ⊢;exact Option.some.inj h▸rfl
   ·rw [if_neg k8]at h ⊢
    by_cases g8:gz b z<128
    ·rw [if_pos g8]at h ⊢;exact Option.some.inj h▸rfl
    ·rw [if_neg g8]at h ⊢
     exact ih (k+1) (z+1) _ _ _ ((Nat.succ_add_eq_add_succ m k).symm.trans hk) (Int.le_add_one h0) (Int.add_nonneg (Int.mul_nonneg hn (by decide)) (Int.emod_nonneg _ (by decide))) (Qi hn2 (Int.emod_lt_of_pos _ (by decide))) h
  ·rw [if_neg h1]at h;exact nomatch h
theorem mz{H:AH}{n:Nat}{b:List UInt8}(hb:bar H n=some b)(hz:b.length<=16777216){z x y:Int}(h0:0<=z)(h:vg b 9 0 z 0=some (x,y)):cg [.ref n,.int z] H = .ok (.tup [.int x,.int y]) H :=
 vf 2 3 z7 [.ref n,.int z] H rfl (SQ hb hz 9 0 z 0 .undef .undef rfl h0 (by decide) (by decide) h)
theorem B5{b:List UInt8}{z:Int}(h1:z<b.length)(g8:gz b z<128):vg b 9 0 z 0=some (gz b z,z+1):=by
 rw [Js,if_pos h1,if_neg (by decide),if_pos g8,Int.emod_eq_of_lt vW.1 g8,Int.zero_mul,Int.zero_add]
@[simp] theorem signed{H:AH}{n:Int}:fZ [.int n] H = .ok (.int (if 9223372036854775808<=n then n - 18446744073709551616 else n)) H:=by
 by_cases h:9223372036854775808<=n
 ·rw [if_pos h];exact vf 1 0 BV [.int n] H rfl (qJ (by decide)) (SD h) rfl
 ·rw [if_neg h];exact vf 1 0 BV [.int n] H rfl (qJ (by decide)) (Fb h)
theorem gb{H X:AH}{x y:AO}:(H++x::X).set H.length y=H++y::X:=by simp
theorem bQ{H:AH}{n:Nat}{fs gs:List (Fd×V)}(h:dct H n=some fs):dct (H.set n (.dict gs)) n=some gs:=by
 unfold dct;rw [List.getElem?_set_self (List.getElem?_eq_some_iff.mp (iG h)).1];rfl
theorem qW{c:Addr}{k:List V->AH->R V}{vs:List V}{H H':AH}(h:k (.inst c H.length::vs) (H++[.dict []]) = .ok .none H'):dg c k vs H = .ok (.inst c H.length) H':=by
 unfold dg;rw [h];rfl
noncomputable abbrev B6(c s:Int)(l:List UInt8):List (Fd×V):=[(.child,.int c),(.rowid,.none),(.size,.int s),(.jC,.bytes l),(.overflow,.int 0)]
theorem Hh{H:AH}{c s:Int}{l:List UInt8}:eJ [.inst 195 H.length,.int c,.none,.int s,.bytes l,.int 0] (H++[.dict []]) = .ok .none (H++[AO.dict (B6 c s l)]):=by
 have d:=eN (H:=H) (vs:=[]) (X:=[])
 exact(vf 6 0 BX [.inst 195 H.length,.int c,.none,.int s,.bytes l,.int 0] (H++[AO.dict []]) rfl d (bQ d) (bQ (bQ d)) (bQ (bQ (bQ d))) (bQ (bQ (bQ (bQ d))))).trans
  (congrArg (R.ok V.none) (by rw [List.set_set,List.set_set,List.set_set,List.set_set,gb];rfl))
theorem wh{H X:AH}{c s:Int}{l:List UInt8}:dg 195 eJ [.int c,.none,.int s,.bytes l,.int 0] (H++X) = .ok (.inst 195 (H.length+X.length)) (H++(X++[.dict (B6 c s l)])):=by
 rw [qW Hh,List.length_append,List.append_assoc]
theorem DS{H:AH}{k z:Int}(hk:k≠13)(hz:z<=17):gW [.int k,.int 128,.int z] H = .ok (.int z) H:=by
 have c1:(k==13)=false:=beq_false_of_ne hk
 have m:ku [.int k,.int 128] H = .ok (.int 17) H:=vf 2 0 BW [.int k,.int 128] H rfl (g7 c1) rfl (qJ (by decide)) rfl rfl
 exact vf 3 3 z6 [.int k,.int 128,.int z] H rfl m (SE hz)
noncomputable def fU(b:List UInt8)(z:Int):List UInt8:=(b.drop (z+1).toNat).take (gz b z).toNat
theorem uE{n:Nat}{z:Int}(h0:0<=z)(h1:z<=n):clipAt n z=z.toNat:=by
 unfold clipAt
 rw [if_neg (Int.not_lt.mpr h0),Int.min_eq_left h1,Int.max_eq_right h0]
theorem Qj{z g:Int}(h0:0<=z)(g0:0<=g):0<=z+1+g:=Int.add_nonneg (Int.le_add_one h0) g0
theorem Jv{z g m:Int}(g0:0<=g)(h1:z+1+g<=m):z+1<=m:=Int.le_trans (Int.le_add_of_nonneg_right g0) h1
theorem Jw{z g m:Int}(g0:0<=g)(h1:z+1+g<=m):z<m:=Int.lt_of_lt_of_le (Int.lt_succ z) (Jv g0 h1)
theorem Jx{z g:Int}(h0:0<=z)(g0:0<=g):(z+1+g).toNat - (z+1).toNat=g.toNat:=by
 obtain⟨a,rfl⟩:=Int.eq_ofNat_of_zero_le h0
 obtain⟨c,rfl⟩:=Int.eq_ofNat_of_zero_le g0
 exact Nat.add_sub_cancel_left _ _
theorem MB{b:List UInt8}{z:Int}(h0:0<=z)(h1:z+1+gz b z<=b.length):fD b (some (z+1)) (some (z+1+gz b z))=fU b z:=by
 have g:=(vW (b:=b) (z:=z)).1
 unfold fD fU
 rw [Option.elim_some,Option.elim_some,uE (Int.le_add_one h0) (Jv g h1),uE (Qj h0 g) h1,Jx h0 g]
theorem MC{z g:Int}{n:Nat}(h0:0<=z)(g0:0<=g)(h1:z+1+g<=n):((min g.toNat (n - (z+1).toNat):Nat):Int)=g:=by
 obtain⟨a,rfl⟩:=Int.eq_ofNat_of_zero_le h0
 obtain⟨c,rfl⟩:=Int.eq_ofNat_of_zero_le g0
 exact congrArg Nat.cast (Nat.min_eq_left (Nat.le_sub_of_add_le' (Int.ofNat_le.mp h1)))
theorem yE{b:List UInt8}{z:Int}(h0:0<=z)(h1:z+1+gz b z<=b.length):((fU b z).length:Int)=gz b z:=by
 unfold fU
 rw [List.length_take,List.length_drop]
 exact MC h0 vW.1 h1
theorem yF{b:List UInt8}{z:Int}(h0:0<=z)(h1:z+1+gz b z<=b.length):(fU b z).length<=16777216:=Int.ofNat_le.mp (by rw [yE h0 h1];exact Int.le_trans (Int.le_of_lt vW.2) (by decide))
noncomputable def Aj(b:List UInt8)(pg i:Int):Int:=if fq b pg=true then yD b pg i else yD b pg i+4
structure Jy(b:List UInt8)(pg i:Int):Prop where
 place:kD b pg i
 small:gz b (Aj b pg i)<=17
 HK:Aj b pg i+1+gz b (Aj b pg i)<=128
noncomputable def cellOf(b:List UInt8)(pg i:Int):List (Fd×V):=B6 (if fq b pg=true then 0 else qV b (yD b pg i)) (gz b (Aj b pg i)) (fU b (Aj b pg i))
theorem Qk{H:AH}{n:Nat}{b:List UInt8}(hb:bar H n=some b)(hz:b.length<=16777216){lo hi:Option Int}:zC lo hi (.ref n) H = .ok (.ref H.length) (H++[.ba (fD b lo hi)]):=by
 show(lst H n).elim _ _ = _
 rw [qH hb,Option.elim_none,hb]
 exact if_pos hz
theorem B7{H:AH}{n:Nat}{b:List UInt8}(hb:bar H n=some b)(hz:b.length<=16777216):bJ [.ref n] H = .ok (.bytes b) H:=by
 show(bar H n).elim _ _ = _
 rw [hb]
 exact if_pos hz
theorem nW{H:AH}{b:List UInt8}(hz:b.length<=16777216):bT [.bytes b] H = .ok (.int b.length) H:=if_pos hz
structure SR(H:AH)(n:Nat)(b:List UInt8)(z k:Int):Prop where
 v:cg [.ref n,.int z] H = .ok (.tup [.int (gz b z),.int (z+1)]) H
 l:gW [.int k,.int 128,.int (gz b z)] H = .ok (.int (gz b z)) H
 c:zC (some (z+1)) (some (z+1+gz b z)) (.ref n) H = .ok (.ref H.length) (H++[.ba (fU b z)])
 s:bJ [.ref H.length] (H++[.ba (fU b z)]) = .ok (.bytes (fU b z)) (H++[.ba (fU b z)])
 ln:bT [.ref n] (H++[.ba (fU b z)]) = .ok (.int b.length) (H++[.ba (fU b z)])
 lk:bT [.bytes (fU b z)] (H++[.ba (fU b z)]) = .ok (.int (gz b z)) (H++[.ba (fU b z)])
theorem Jz{H:AH}{n:Nat}{b:List UInt8}(hb:bar H n=some b)(hl:b.length=128){z k:Int}(hk:k≠13)(h0:0<=z)(hs:gz b z<=17)(hf:z+1+gz b z<=b.length):SR H n b z k:=by
 have g:=(vW (b:=b) (z:=z)).1
 have q:=oT hl
 exact⟨mz hb q h0 (B5 (Jw g hf) (Int.lt_of_le_of_lt hs (by decide))),DS hk hs,by rw [Qk hb q,MB h0 hf],B7 uA (yF h0 hf),uY (E8 hb) q,by rw [nW (yF h0 hf),yE h0 hf]⟩
theorem Hi{H:AH}{n:Nat}{b:List UInt8}(hb:bar H n=some b)(hl:b.length=128){z:Int}(h0:0<=z)(hs:gz b z<=17)(hf:z+1+gz b z<=b.length) :
  iZ [.ref n,.int z,.int 10,.int 128] H = .ok (.tup [.inst 195 (H.length+1),.int (z+1+gz b z)]) (H++[.ba (fU b z),.dict (B6 0 (gz b z) (fU b z))]):=by
 obtain⟨v,l,c,s,ln,lk⟩:=Jz hb hl (k:=10) (by decide) h0 hs hf
 exact vf 4 7 tO [.ref n,.int z,.int 10,.int 128] H rfl rfl (g7 (by rfl)) v (g7 (by rfl)) l rfl c s rfl (g5 (Int.lt_irrefl _)) ln (kC (Int.not_lt.mpr hf)) lk (g5 (Int.lt_irrefl _)) wh
theorem DT{H:AH}{n:Nat}{b:List UInt8}(hb:bar H n=some b)(hl:b.length=128){z:Int}(h0:0<=z)(hs:gz b (z+4)<=17)(hf:z+4+1+gz b (z+4)<=b.length) :
  iZ [.ref n,.int z,.int 2,.int 128] H = .ok (.tup [.inst 195 (H.length+1),.int (z+4+1+gz b (z+4))]) (H++[.ba (fU b (z+4)),.dict (B6 (qV b z) (gz b (z+4)) (fU b (z+4)))]):=by
 have z4:=Jw vW.1 hf
 have f:=Af hb (oT hl) h0 (Int.lt_trans (Int.add_lt_add_left (by decide) z) z4)
 obtain⟨v,l,c,s,ln,lk⟩:=Jz hb hl (k:=2) (by decide) (Int.add_nonneg h0 (by decide)) hs hf
 exact vf 4 7 tO [.ref n,.int z,.int 2,.int 128] H rfl rfl rfl (uY hb (oT hl)) (kC (Int.not_lt.mpr (Int.le_of_lt z4))) f rfl (g7 (by rfl)) v (g7 (by rfl)) l rfl c s rfl (g5 (Int.lt_irrefl _)) ln (kC (Int.not_lt.mpr hf)) lk (g5 (Int.lt_irrefl _)) wh
noncomputable def Hj(b:List UInt8)(pg i:Int):List UInt8:=fU b (Aj b pg i)
noncomputable def mC(b:List UInt8)(pg:Int):Prop:=gJ b pg=10\/gJ b pg=2
theorem mC.ok{b:List UInt8}{pg:Int}(K:mC b pg):hU b pg:=K.elim (fun k => .inr (.inr (.inl k))) .inl
theorem JA{H:AH}{nd:Nat}{b:List UInt8}{pg i:Int}(N:cH H nd b pg)(K:mC b pg)(O:Jy b pg i) :
  i3 [.inst 438 nd,.int i] H = .ok (.inst 195 (H.length+1)) (H++[.ba (Hj b pg i),.dict (cellOf b pg i)]):=by
 have kp:=place N O.place
 have kk:=kind N K.ok
 have lo:=Jq O.place
 obtain⟨db,h1,h2,h3⟩:=N
 obtain⟨_,s1,s2⟩:=O
 unfold Hj cellOf
 unfold Aj at *
 have e:fq b pg=(gJ b pg==13 || gJ b pg==10):=rfl
 rcases K with k | k
 ·rw [k]at kk e
  rw [e]at s1 s2 ⊢
  exact vf 2 2 tP [.inst 438 nd,.int i] H rfl h1 h1 kp h1 kk h1 (Hi h2 h3 lo s1 (by rw [h3];exact s2))
 ·rw [k]at kk e
  rw [e]at s1 s2 ⊢
  exact vf 2 2 tP [.inst 438 nd,.int i] H rfl h1 h1 kp h1 kk h1 (DT h2 h3 lo s1 (by rw [h3];exact s2))
theorem payload{H:AH}{t:V}(ht:t ≠ .undef){c:Nat}{b:List UInt8}{pg i:Int}(hc:dct H c=some (cellOf b pg i)):gY [t,.inst 195 c] H = .ok (.bytes (Hj b pg i)) H :=
 vf 2 0 Ad [t,.inst 195 c] H rfl hc (qI (by rfl)) hc
noncomputable def bl(a b:List UInt8):Bool:=ym a.toArray b.toArray
theorem B8{H:AH}{b:Bool}:iE [.bool b] H = .ok (.int (if b=true then 1 else 0)) H:=by cases b<;>rfl
theorem sign{H:AH}{n:Nat}{a b:List UInt8}:d7 [.inst 590 n,.bytes a,.bytes b] H = .ok (.int ((if bl b a=true then 1 else 0) - (if bl a b=true then 1 else 0))) H :=
 vf 3 0 qP [.inst 590 n,.bytes a,.bytes b] H rfl rfl B8 rfl B8 rfl
noncomputable def sg(n:Int):Int:=if 9223372036854775808<=n then n - 18446744073709551616 else n
noncomputable def mD(b:List UInt8)(pg:Int):Prop:=gJ b pg=13\/gJ b pg=5
inductive SV(b:List UInt8)(z r:Int):Prop
 |mk (x y:Int) (v:vg b 9 0 z 0=some (x,y)) (e:r=sg x)
inductive SW(b:List UInt8)(z r:Int):Prop
 |mk (s w x y:Int) (v:vg b 9 0 z 0=some (s,w)) (w0:0<=w) (v2:vg b 9 0 w 0=some (x,y)) (e:r=sg x)
structure JB(b:List UInt8)(pg i r:Int):Prop where
 place:kD b pg i
 inner:gJ b pg=5->SV b (yD b pg i+4) r
 leaf:gJ b pg=13->SW b (yD b pg i) r
theorem mD.ok{b:List UInt8}{pg:Int}(K:mD b pg):hU b pg:=K.elim (fun k => .inr (.inr (.inr k))) fun k => .inr (.inl k)
theorem rowid{H:AH}{nd:Nat}{b:List UInt8}{pg i r:Int}(N:cH H nd b pg)(K:mD b pg)(O:JB b pg i r) :
  di [.inst 438 nd,.int i] H = .ok (.int r) H:=by
 have kp:=place N O.place
 have kk:=kind N K.ok
 have lo:=Jq O.place
 obtain⟨db,h1,h2,h3⟩:=N
 obtain⟨_,s1,s2⟩:=O
 rcases K with k | k
 ·obtain⟨s,w,x,y,v1,w0,v2,rfl⟩:=s2 k
  rw [k]at kk
  exact vf 2 3 qN [.inst 438 nd,.int i] H rfl h1 kp h1 kk (g7 (by rfl)) h1 (mz h2 (oT h3) lo v1) h1 (mz h2 (oT h3) w0 v2) signed
 ·obtain⟨x,y,v1,rfl⟩:=s1 k
  rw [k]at kk
  exact vf 2 3 qN [.inst 438 nd,.int i] H rfl h1 kp h1 kk (qI (by rfl)) h1 rfl (mz h2 (oT h3) (Int.add_nonneg lo (by decide)) v1) signed
theorem JC{α:Type}{p:α->Bool}:∀{xs:List α},(∀i j(hi:i<xs.length)(hj:j<xs.length),i<j->p xs[j]=true->p xs[i]=true) -> ∀i(hi:i<xs.length),p xs[i]=decide (i<(xs.filter p).length):=by
 intro xs
 induction xs with
 |nil=>exact fun _ _ hi=>absurd hi (Nat.not_lt_zero _)
 |cons x xs ih =>
  intro D i hi
  have ih:=ih fun i j hi hj ij=>D (i+1) (j+1) (Nat.succ_lt_succ hi) (Nat.succ_lt_succ hj) (Nat.succ_lt_succ ij)
  by_cases p0:p x=true
  ·rw [List.filter_cons_of_pos p0]
   cases i with
   |zero=>exact p0.trans (decide_eq_true (Nat.succ_pos _)).symm
   |succ i=>exact(ih i (Nat.lt_of_succ_lt_succ hi)).trans (decide_eq_decide.mpr Nat.succ_lt_succ_iff.symm)
  ·rw [List.filter_cons_of_neg p0]
   have z:(xs.filter p).length=0:=Nat.eq_zero_of_not_pos fun h=>p0 (D 0 1 (Nat.succ_pos _) (Nat.succ_lt_succ (Nat.lt_of_lt_of_le h (List.length_filter_le _ _))) Nat.one_pos ((ih 0 (Nat.lt_of_lt_of_le h (List.length_filter_le _ _))).trans (decide_eq_true h)))
   rw [z]at ih ⊢
   cases i with
   |zero=>exact eq_false_of_ne_true p0
   |succ i=>exact(ih i (Nat.lt_of_succ_lt_succ hi)).trans (decide_eq_decide.mpr ⟨fun h=>absurd h (Nat.not_lt_zero _),fun h=>absurd h (Nat.not_lt_zero _)⟩)
structure yG(H:AH)(nd:Nat)(b:List UInt8)(pg:Int)(ks:List (List UInt8)):Prop where
 at_:cH H nd b pg
 kind:mC b pg
 cnt:h8 b pg=ks.length
 cells:∀(i:Nat)(h:i<ks.length),Jy b pg i/\Hj b pg i=ks[i]
theorem yG.app{H X:AH}{nd:Nat}{b:List UInt8}{pg:Int}{ks:List (List UInt8)}(N:yG H nd b pg ks):yG (H++X) nd b pg ks:=⟨N.at_.app,N.kind,N.cnt,N.cells⟩
noncomputable def Ak:TS:=(.aA (.set 7 (.bin iR (.bin aS (.var 4) (.var 5)) (.con (.int 2)))) (.aA (.set 8 (.dW 590 none d7 (.var 3) (.cons (.call gY (.cons (.var 0) (.cons (.dW 438 none i3 (.var 1) (.cons (.var 7) .nil)) .nil))) (.cons (.var 2) .nil)))) (.aA (.ja (.of (.bin ltV (.var 8) (.con (.int 0)))) (.aA (.set 4 (.bin aS (.var 7) (.con (.int 1)))) .aL) (.aA (.set 5 (.var 7)) (.aA (.set 6 (.bin iw (.var 8) (.con (.int 0)))) .aL))) .aL)))
noncomputable def JD:SF:=Ak.f
theorem JE(a:List UInt8):bl a a=false:=u4 _
theorem JG{a b:List UInt8}(h:bl a b=true):bl b a=false:=Gp h
theorem Ql{a b:List UInt8}(h1:bl a b=false)(h2:bl b a=false):a=b:=(Array.mk.injEq _ _).mp (O6 h1 h2)
theorem JH{a b c:List UInt8}(h1:bl a b=true)(h2:bl b c=true):bl a c=true:=yn h1 h2
noncomputable abbrev Rk(a b:List UInt8):Int:=(if bl b a=true then 1 else 0) - (if bl a b=true then 1 else 0)
theorem SX{a b:List UInt8}(c:bl a b=true):Rk a b<0:=by unfold Rk;rw [c,JG c];decide
theorem SY{a b:List UInt8}(c:bl a b=false):¬Rk a b<0:=by unfold Rk;rw [c];split<;>decide
theorem S0{a b:List UInt8}(c:bl a b=false):(Rk a b==0)=(a==b):=by
 unfold Rk;rw [c]
 cases d:bl b a with
 |true=>exact(beq_false_of_ne fun e=>by rw [e,JE]at d;cases d).symm
 |false=>exact(beq_iff_eq.mpr (Ql c d)).symm
theorem JI{ks:List (List UInt8)}{key:List UInt8}{m:Nat}(hk:m<ks.length):ks[m]?.any (· == key)=(ks[m]==key):=by rw [List.getElem?_eq_getElem hk];rfl
theorem MD{H:AH}{b:List UInt8}{fs:List (Fd×V)}:dct (H++[.ba b,.dict fs]) (H.length+1)=some fs:=by
 unfold dct;rw [List.getElem?_append_right (Nat.le_add_right _ 1),Nat.add_sub_cancel_left];rfl
inductive Tc(H:AH)(nd o tn:Nat)(key:List UInt8)(ks:List (List UInt8))(l h:Nat):List V->AH->Prop
 |mk (X:AH) (m s:V):Tc H nd o tn key ks l h [.inst 527 tn,.inst 438 nd,.bytes key,.inst 590 o,.int l,.int h,.bool (ks[h]?.any (· == key)),m,s] (H++X)
theorem ME{l h m:Nat}{H:AH}(hm:m=(l+h) / 2):iR (.int ((l:Int)+(h:Int))) (.int 2) H = .ok (.int m) H:=by
 rw [div_ii ⟨by decide,by decide⟩,hm];rfl
inductive Ends(p:List V->AH->Prop)(q:RS):Prop
 |mk (ρ:List V) (H:AH) (e:q = .next ρ H) (h:p ρ H)
theorem Td{H:AH}{nd o tn:Nat}{b:List UInt8}{pg:Int}{ks:List (List UInt8)}(N:yG H nd b pg ks){key:List UInt8}{l h m:Nat}(hm:m=(l+h) / 2)(hk:m<ks.length){fs:List (Fd×V)}(od:dct H o=some fs){ρ:List V}{H':AH}(S:Tc H nd o tn key ks l h ρ H') :
  cond (bl ks[m] key) (Ends (Tc H nd o tn key ks (m+1) h) (JD ρ H')) (Ends (Tc H nd o tn key ks l m) (JD ρ H')):=by
 obtain⟨X,m0,s0⟩:=S
 obtain⟨ko,kz⟩:=N.cells _ hk
 have cl:=JA (H:=H++X) N.at_.app N.kind ko
 have py:=payload (H:=H++X++[.ba (Hj b pg m),.dict (cellOf b pg m)]) (t := .inst 527 tn) (fun e=>V.noConfusion e) (c:=(H++X).length+1) (b:=b) (pg:=pg) (i:=m) MD
 obtain⟨db,h1,h2,h3⟩:=N.at_
 rw [kz]at cl py
 have sg:=sign (H:=H++X++[.ba ks[m],.dict (cellOf b pg m)]) (n:=o) (a:=ks[m]) (b:=key)
 cases c:bl ks[m] key with
 |true=>exact⟨_,_,(dS (ρ:=[.inst 527 tn,.inst 438 nd,.bytes key,.inst 590 o,.int ↑l,.int ↑h,.bool (ks[h]?.any (· == key)),m0,s0]) (H:=H++X) Ak rfl (ME hm) (bH od) (bH h1) cl py sg (xH (SX c)) rfl).trans (by rw [List.append_assoc];rfl),.mk (X++_) _ _⟩
 |false=>exact⟨_,_,(dS (ρ:=[.inst 527 tn,.inst 438 nd,.bytes key,.inst 590 o,.int ↑l,.int ↑h,.bool (ks[h]?.any (· == key)),m0,s0]) (H:=H++X) Ak rfl (ME hm) (bH od) (bH h1) cl py sg (g5 (SY c)) rfl).trans (by rw [List.append_assoc,S0 c,<- JI hk]),.mk (X++_) _ _⟩
noncomputable def sortedK(ks:List (List UInt8)):Prop := ∀i j(hi:i<ks.length)(hj:j<ks.length),i<j->bl ks[i] ks[j]=true
theorem Rl{c:BF}{b:SF}{n:Nat}{ρ ρ':List V}{H H' H₂:AH}(hc:c ρ H = .ok true H')(hb:b ρ H' = .next ρ' H₂):dP (n+1) c b ρ H=dP n c b ρ' H₂:=by show rs (c ρ H) _ = _;rw [hc];show(b ρ H').iz _ = _;rw [hb];rfl
theorem U6{c:BF}{b:SF}{n:Nat}{ρ:List V}{H H':AH}(hc:c ρ H = .ok false H'):dP (n+1) c b ρ H = .next ρ H':=by show rs (c ρ H) _ = _;rw [hc];rfl
theorem Qm{c:BF}{b:SF}{n:Nat}{ρ:List V}{v:V}{H H' H₂:AH}(hc:c ρ H = .ok true H')(hb:b ρ H' = .ret v H₂):dP (n+1) c b ρ H = .ret v H₂:=by show rs (c ρ H) _ = _;rw [hc];show(b ρ H').iz _ = _;rw [hb];rfl
theorem Xo{c:BF}{b:SF}{n:Nat}{ρ:List V}{H H' H₂:AH}(hc:c ρ H = .ok true H')(hb:b ρ H' = .exc H₂):dP (n+1) c b ρ H = .exc H₂:=by show rs (c ρ H) _ = _;rw [hc];show(b ρ H').iz _ = _;rw [hb];rfl
theorem Qn{i n k:Nat}{b:SF}{ρ ρ':List V}{H H':AH}(hb:b (ρ.set i (.int (k:Int))) H = .next ρ' H'):forR i b (n+1) k ρ H=forR i b n (k+1) ρ' H':=by show(b (ρ.set i (.int (k:Int))) H).iz _ = _;rw [hb];rfl
theorem U7{i n k q:Nat}{b:SF}{ρ ρ':List V}{H H':AH}{vs:List V}{v:V}(hl:lst H n=some vs)(hv:vs[k]? = some v)(hb:b (ρ.set i v) H = .next ρ' H'):forL i n b (q+1) k ρ H=forL i n b q (k+1) ρ' H':=by
 show zF (lst H n) _ = _
 rw [hl,yw,hv,Option.elim_some,hb];rfl
theorem U8{i n k q:Nat}{b:SF}{ρ:List V}{H:AH}{vs:List V}(hl:lst H n=some vs)(hv:vs[k]? = none):forL i n b (q+1) k ρ H = .next ρ H:=by
 show zF (lst H n) _ = _
 rw [hl,yw,hv];rfl
theorem Ot{z:Int}(h0:0<=z)(hn:z<=1000) : -1073741824<=z/\z<1073741824:=⟨Int.le_trans (by decide) h0,Int.lt_of_le_of_lt hn (by decide)⟩
theorem JJ{a:EF}{ρ:List V}{H H':AH}{z:Int}(h:a ρ H = .ok (.int z) H')(h0:0<=z)(hn:z<=1000):lY a ρ H = .ok (.range 0 z.toNat,z.toNat+1) H':=by
 unfold lY
 rw [h]
 exact if_pos (Ot h0 hn)
theorem Hl{a:EF}{ρ:List V}{H H':AH}{n:Nat}(h:a ρ H = .ok (.int n) H')(hn:n<=1000):lY a ρ H = .ok (.range 0 n,n+1) H':=JJ h (Int.natCast_nonneg _) (Int.ofNat_le.mpr hn)
theorem MF{a:EF}{b:SF}{i:Nat}{ρ:List V}{H H':AH}{z:Int}(h:a ρ H = .ok (.int z) H')(h0:0<=z)(hn:z<=1000):fX i a b ρ H=forR i b z.toNat 0 ρ H':=by
 unfold fX
 rw [h]
 exact if_pos (Ot h0 hn)
theorem lI{a:EF}{b:SF}{i:Nat}{ρ:List V}{H H':AH}{n:Nat}(h:a ρ H = .ok (.int n) H')(hn:n<=1000):fX i a b ρ H=forR i b n 0 ρ H':=MF h (Int.natCast_nonneg _) (Int.ofNat_le.mpr hn)
theorem qX{a:EF}{b:SF}{i n:Nat}{ρ:List V}{H H':AH}{vs:List V}(h:a ρ H = .ok (.ref n) H')(hl:lst H' n=some vs):lF i a b ρ H=forL i n b (vs.length+1) 0 ρ H':=by
 unfold lF
 rw [h]
 show zF (lst H' n) _ = _
 rw [hl];rfl
theorem half{l h m:Nat}(hm:m=(l+h) / 2)(hlt:l<h):l<=m/\m<h:=by lia
theorem Qo{l h m p:Nat}(hm:m=(l+h) / 2)(hlt:h - l<p*2)(q:l<h):h - (m+1)<p:=by lia
theorem Qp{l h m p:Nat}(hm:m=(l+h) / 2)(hlt:h - l<p*2)(q:l<h):m - l<p:=by lia
theorem Xp{c L:Nat}{cn:BF}{body:SF}{st:Nat->Nat->List V->AH->Prop}(hF:∀{l ρ H},st l l ρ H->cn ρ H = .ok false H)(hT:∀{l h ρ H},l<h->st l h ρ H->cn ρ H = .ok true H)
  (hB:∀{l h m ρ H},m=(l+h) / 2->m<L->st l h ρ H->cond (decide (m<c)) (Ends (st (m+1) h) (body ρ H)) (Ends (st l m) (body ρ H))) :
  ∀(n:Nat){l h:Nat}{ρ:List V}{H:AH},l<=c->c<=h->h<=L->h - l<2 ^ n->st l h ρ H->Ends (st c c) (dP (n+1) cn body ρ H):=by
 intro n
 induction n with
 |zero =>
  intro l h ρ H lc ch hL hn S
  have e:=Nat.le_antisymm lc (Nat.le_trans ch (Nat.sub_eq_zero_iff_le.mp (Nat.lt_one_iff.mp hn)))
  have e2:=Nat.le_antisymm ch (Nat.le_trans (Nat.sub_eq_zero_iff_le.mp (Nat.lt_one_iff.mp hn)) lc)
  subst e;subst e2
  exact⟨ρ,H,U6 (hF S),S⟩
 |succ n ih =>
  intro l h ρ H lc ch hL hn S
  by_cases q:l<h
  ·have hf:=half rfl q
   have B:=hB rfl (Nat.lt_of_lt_of_le hf.2 hL) S
   by_cases mc:(l+h) / 2<c
   ·rw [decide_eq_true mc]at B
    obtain⟨ρ',H',e,S'⟩:=B
    rw [Rl (hT q S) e]
    exact ih mc ch hL (Qo rfl hn q) S'
   ·rw [decide_eq_false mc]at B
    obtain⟨ρ',H',e,S'⟩:=B
    rw [Rl (hT q S) e]
    exact ih lc (Nat.le_of_not_lt mc) (Nat.le_trans (Nat.le_of_lt hf.2) hL) (Qp rfl hn q) S'
  ·have e:=Nat.le_antisymm lc (Nat.le_trans ch (Nat.le_of_not_lt q))
   have e2:=Nat.le_antisymm ch (Nat.le_trans (Nat.le_of_not_lt q) lc)
   subst e;subst e2
   exact⟨ρ,H,U6 (hF S),S⟩
noncomputable def ltN(ks:List (List UInt8))(key:List UInt8):Nat:=(ks.filter (bl · key)).length
theorem DU{ks:List (List UInt8)}{key:List UInt8}(so:sortedK ks)(i:Nat)(hi:i<ks.length):bl ks[i] key=decide (i<ltN ks key):=JC (p:=(bl · key)) (fun i j hi hj ij h=>JH (so i j hi hj ij) h) i hi
theorem wi{ks:List (List UInt8)}{key:List UInt8}:ltN ks key<=ks.length:=List.length_filter_le _ _
theorem Qq{ks:List (List UInt8)}{key:List UInt8}(so:sortedK ks):ks[ltN ks key]?.any (· == key)=decide (key∈ks):=by
 by_cases h:key∈ks
 ·obtain⟨i,hi,rfl⟩:=List.getElem_of_mem h
  have f:¬i<ltN ks ks[i]:=fun q=>by have:=DU so (key:=ks[i]) i hi;rw [JE,decide_eq_true q]at this;cases this
  have g:ltN ks ks[i]=i:=Nat.le_antisymm (Nat.le_of_not_lt f) (Nat.le_of_not_lt fun q=>by
   have l:=Nat.lt_trans q hi
   have:=DU so (key:=ks[i]) _ l;rw [so _ _ l hi q,decide_eq_false (Nat.lt_irrefl _)]at this;cases this)
  rw [g,JI hi,decide_eq_true h];exact BEq.rfl
 ·rw [decide_eq_false h]
  refine eq_false_of_ne_true fun q=>h ?_
  obtain⟨x,hx,e⟩:=(Option.any_eq_true ..).mp q
  exact eq_of_beq e▸List.mem_of_getElem? hx
theorem JK{H:AH}{nd o tn:Nat}{b:List UInt8}{pg:Int}{ks:List (List UInt8)}{key:List UInt8}(so:sortedK ks)(N:yG H nd b pg ks){fs:List (Fd×V)}(od:dct H o=some fs)(hl:ks.length<128){G:Prop}
  (k:∀X,jN [.inst 527 tn,.inst 438 nd,.bytes key,.inst 590 o] H = .ok (.tup [.int (ltN ks key:Nat),.bool (decide (key∈ks))]) (H++X)->G):G:=by
 obtain⟨ρ,H',e,X,m,s⟩:=Xp (c:=ltN ks key) (L:=ks.length) (cn:=cR (aH ltV (ai 4) (ai 5))) (body:=JD) (st:=Tc H nd o tn key ks) (fun S=>by obtain⟨X,m,s⟩:=S;exact xG (pq rfl rfl (g5 (Int.lt_irrefl _))))
  (fun q S=>by obtain⟨X,m,s⟩:=S;exact xG (pq rfl rfl (xH (Int.ofNat_lt.mpr q)))) (fun hm hk S=>DU so _ hk▸Td N hm hk od S) 7 (Nat.zero_le _) wi (Nat.le_refl _) hl (.mk (l:=0) [] .undef .undef)
 have kc:=count N.at_
 rw [N.cnt]at kc
 obtain⟨db,h1,h2,h3⟩:=N.at_
 refine k X ?_
 rw [← Qq so]
 refine vf 4 5 DO [.inst 527 tn,.inst 438 nd,.bytes key,.inst 590 o] H rfl h1 kc (Eq.trans ?_ e)
 rw [List.append_nil,List.getElem?_eq_none (Nat.le_refl _)];rfl
structure yH(H:AH)(nd:Nat)(b:List UInt8)(pg:Int)(ks:List Int):Prop where
 at_:cH H nd b pg
 kind:mD b pg
 cnt:h8 b pg=ks.length
 cells:∀(i:Nat)(h:i<ks.length),JB b pg i ks[i]
theorem yH.app{H X:AH}{nd:Nat}{b:List UInt8}{pg:Int}{ks:List Int}(N:yH H nd b pg ks):yH (H++X) nd b pg ks:=⟨N.at_.app,N.kind,N.cnt,N.cells⟩
noncomputable def Al:TS:=(.aA (.set 4 (.bin iR (.bin aS (.var 2) (.var 3)) (.con (.int 2)))) (.aA (.ja (.of (.bin ltV (.dW 438 (some .rowid) di (.var 0) (.cons (.var 4) .nil)) (.var 1))) (.aA (.set 2 (.bin aS (.var 4) (.con (.int 1)))) .aL) (.aA (.set 3 (.var 4)) .aL)) .aL))
noncomputable def JL:SF:=Al.f
noncomputable def gp(ks:List Int):Prop := ∀i j(hi:i<ks.length)(hj:j<ks.length),i<j->ks[i]<=ks[j]
noncomputable def jO(ks:List Int)(key:Int):Nat:=(ks.filter (fun x=>decide (x<key))).length
theorem wj{ks:List Int}{key:Int}:jO ks key<=ks.length:=List.length_filter_le _ _
theorem DV{ks:List Int}{key:Int}(so:gp ks)(i:Nat)(hi:i<ks.length):decide (ks[i]<key)=decide (i<jO ks key):=JC (p:=fun x=>decide (x<key)) (fun i j hi hj ij h=>decide_eq_true (Int.lt_of_le_of_lt (so i j hi hj ij) (of_decide_eq_true h))) i hi
theorem JM{ks:List Int}{key:Int}(so:gp ks)(i:Nat)(hi:i<ks.length)(h:i<jO ks key):ks[i]<key:=of_decide_eq_true ((DV so i hi).trans (decide_eq_true h))
theorem Qs{ks:List Int}{key:Int}(so:gp ks)(i:Nat)(hi:i<ks.length)(h:jO ks key<=i):key<=ks[i]:=Int.not_lt.mp (of_decide_eq_false ((DV so i hi).trans (decide_eq_false (Nat.not_lt.mpr h))))
inductive Te(H:AH)(nd:Nat)(key:Int)(l h:Nat):List V->AH->Prop
 |mk (m:V):Te H nd key l h [.inst 438 nd,.int key,.int l,.int h,m] H
theorem Tf{H:AH}{nd:Nat}{b:List UInt8}{pg:Int}{ks:List Int}(N:yH H nd b pg ks){key:Int}{l h m:Nat}(hm:m=(l+h) / 2)(hk:m<ks.length){ρ:List V}{H':AH}(S:Te H nd key l h ρ H') :
  cond (decide (ks[m]<key)) (Ends (Te H nd key (m+1) h) (JL ρ H')) (Ends (Te H nd key l m) (JL ρ H')):=by
 obtain⟨m0⟩:=S
 have rd:=rowid N.at_ N.kind (N.cells _ hk)
 obtain⟨db,h1,h2,h3⟩:=N.at_
 by_cases c:ks[m]<key
 ·rw [decide_eq_true c]
  exact⟨_,_,dS (ρ:=[.inst 438 nd,.int key,.int ↑l,.int ↑h,m0]) (H:=H) Al rfl (ME hm) h1 rd (xH c) rfl,.mk _⟩
 ·rw [decide_eq_false c]
  exact⟨_,_,dS (ρ:=[.inst 438 nd,.int key,.int ↑l,.int ↑h,m0]) (H:=H) Al rfl (ME hm) h1 rd (g5 c),.mk _⟩
theorem B9{H:AH}{nd:Nat}{b:List UInt8}{pg:Int}{ks:List Int}{key:Int}(so:gp ks)(N:yH H nd b pg ks)(hl:ks.length<128):f9 [.inst 438 nd,.int key] H = .ok (.int (jO ks key:Nat)) H:=by
 obtain⟨ρ,H',e,⟨m⟩⟩:=Xp (c:=jO ks key) (L:=ks.length) (cn:=cR (aH ltV (ai 2) (ai 3))) (body:=JL) (st:=Te H nd key) (fun S=>by obtain⟨m⟩:=S;exact xG (pq rfl rfl (g5 (Int.lt_irrefl _))))
  (fun q S=>by obtain⟨m⟩:=S;exact xG (pq rfl rfl (xH (Int.ofNat_lt.mpr q)))) (fun hm hk S=>DV so _ hk▸Tf N hm hk S) 7 (Nat.zero_le _) wj (Nat.le_refl _) hl (.mk (l:=0) .undef)
 have kc:=count N.at_
 rw [N.cnt]at kc
 obtain⟨db,h1,h2,h3⟩:=N.at_
 exact vf 2 3 xK [.inst 438 nd,.int key] H rfl h1 kc e
inductive bR(H:AH)(st:Nat)(aT:List (List UInt8)):Prop
 |mk (pl:Nat) (sp:V) (h1:dct H st=some [(.bA,.int 128),(.ay,.ref pl),(.m9,sp)]) (h2:lst H pl=some (aT.map V.bytes)) (len:∀b∈aT,b.length=128) (few:aT.length=5)
theorem bR.len{H:AH}{st:Nat}{aT:List (List UInt8)}:bR H st aT -> ∀b∈aT,b.length=128
 |⟨_,_,_,_,h,_⟩=>h
theorem bR.few{H:AH}{st:Nat}{aT:List (List UInt8)}:bR H st aT->aT.length=5
 |⟨_,_,_,_,_,h⟩=>h
theorem bR.app{H X:AH}{st:Nat}{aT:List (List UInt8)}:bR H st aT->bR (H++X) st aT
 |⟨pl,sp,h1,h2,h3,h4⟩=>⟨pl,sp,bH h1,cP h2,h3,h4⟩
inductive bW(H:AH)(tn st:Nat):Prop
 |mk (x y:V) (h:dct H tn=some [(.gQ,.inst 742 st),(.free,x),(.changes,y)])
theorem bW.app{H X:AH}{tn st:Nat}:bW H tn st->bW (H++X) tn st
 |⟨x,y,h1⟩=>⟨x,y,bH h1⟩
theorem fu{H:AH}{n:Nat}{vs:List V}(hl:lst H n=some vs)(h:vs.length<=16777216):bT [.ref n] H = .ok (.int vs.length) H:=by
 show(lst H n).elim _ _ = _
 rw [hl];exact if_pos h
theorem d8{H:AH}{n:Nat}{vs:List V}{i:Nat}{v:V}(hl:lst H n=some vs)(h:vs.length<=16777216)(hi:vs[i]? = some v):ki (.ref n) (.int i) H = .ok v H:=by
 show(lst H n).elim _ _ = _
 rw [hl]
 show NW vs i H = _
 unfold NW
 rw [if_pos h,if_pos (Int.natCast_nonneg i),if_pos (Int.ofNat_lt.mpr (List.getElem?_eq_some_iff.mp hi).1),Int.toNat_natCast,hi];rfl
theorem MG{vs:List V}{v:V} : -1+((vs++[v]).length:Int)=(vs.length:Nat):=by rw [List.length_append];show -1+((vs.length:Int)+1) = _;lia
theorem mE{H:AH}{n:Nat}{vs:List V}{v:V}(hl:lst H n=some (vs++[v]))(h:vs.length<16777216):ki (.ref n) (.int (-1)) H = .ok v H:=by
 show(lst H n).elim _ _ = _
 rw [hl]
 show NW (vs++[v]) (-1) H = _
 unfold NW
 rw [if_pos (by rw [List.length_append];exact h),if_neg (by decide),MG,if_pos (Int.natCast_nonneg _),Int.toNat_natCast,List.getElem?_concat_length];rfl
theorem sH{H:AH}{pl:Nat}{aT:List (List UInt8)}(h2:lst H pl=some (aT.map V.bytes))(h4:aT.length=5):bT [.ref pl] H = .ok (.int 5) H:=by
 have e:(aT.map V.bytes).length=5:=(List.length_map ..).trans h4
 rw [fu h2 (e▸(by decide)),e];rfl
theorem DW{H:AH}{st:Nat}{aT:List (List UInt8)}(S:bR H st aT):dG [.inst 742 st] H = .ok (.int 5) H:=by
 obtain⟨pl,sp,h1,h2,h3,h4⟩:=S
 exact vf 1 0 mr [.inst 742 st] H rfl h1 (sH h2 h4)
theorem JN{pg:Nat}:¬((pg+1:Nat):Int)<1:=Int.not_lt.mpr (Int.ofNat_le.mpr (Nat.le_add_left 1 pg))
theorem JO{pg n:Nat}(h:pg<n)(e:n=5):¬(5:Int)<((pg+1:Nat):Int):=Int.not_lt.mpr (Int.ofNat_le.mpr (Nat.le_trans h (Nat.le_of_eq e)))
theorem yI{H:AH}{st:Nat}{aT:List (List UInt8)}{pg:Nat}{b:List UInt8}(S:bR H st aT)(hb:aT[pg]? = some b):cM [.inst 742 st,.int (pg+1:Nat)] H = .ok (.bytes b) H:=by
 obtain⟨pl,sp,h1,h2,h3,h4⟩:=S
 have hp:=(List.getElem?_eq_some_iff.mp hb).1
 have it:ki (.ref pl) (.int ((pg:Int)+1 - 1)) H = .ok (.bytes b) H:=by
  rw [Int.add_sub_cancel]
  exact d8 h2 (by rw [List.length_map,h4];decide) (by rw [List.getElem?_map,hb];rfl)
 exact vf 2 0 nu [.inst 742 st,.int ↑(pg+1)] H rfl (g5 JN) h1 (sH h2 h4) (kC (JO hp h4)) h1 rfl it
theorem eg{H:AH}{tn st:Nat}{aT:List (List UInt8)}(T:bW H tn st)(S:bR H st aT):gX [.inst 527 tn] H = .ok (.int 128) H:=by
 obtain⟨x,y,t1⟩:=T
 obtain⟨pl,sp,h1,h2,h3,h4⟩:=S
 exact vf 1 0 v7 [.inst 527 tn] H rfl t1 h1
theorem JP{pg:Int}:cond (pg==1) 32 0=baseOf pg:=by
 unfold baseOf
 by_cases h:pg=1
 ·rw [if_pos h,h];rfl
 ·rw [if_neg h,beq_false_of_ne h];rfl
noncomputable abbrev Ou(a:Nat)(pg:Int):List (Fd×V):=[(.data,.ref a),(.A8,.int pg),(.eg,.int 128),(.base,.int (baseOf pg))]
theorem Ho{H:AH}{b:List UInt8}{pg:Int}(hb:b.length=128):dg 438 i4 [.bytes b,.int pg,.int 128] H = .ok (.inst 438 H.length) (H++[.dict (Ou (H.length+1) pg),.ba b]):=by
 refine qW ?_
 have kb:Pk [.bytes b] (H++[AO.dict []]) = .ok (.ref (H++[AO.dict []]).length) (H++[AO.dict []]++[.ba b]):=if_pos (oT hb)
 have d:=bH (X:=[.ba b]) (eN (H:=H) (vs:=[]) (X:=[]))
 unfold Ou
 rw [← JP]
 cases c:(pg==1) with
 |true =>
  exact(vf 4 0 tQ [.inst 438 H.length,.bytes b,.int pg,.int 128] (H++[AO.dict []]) rfl kb d (bQ d) (bQ (bQ d)) (bQ (bQ (bQ d))) (qI c) (bQ (bQ (bQ (bQ d))))).trans
   (congrArg (R.ok V.none) (by rw [List.set_set,List.set_set,List.set_set,List.set_set,List.append_assoc,List.length_append];exact gb))
 |false =>
  exact(vf 4 0 tQ [.inst 438 H.length,.bytes b,.int pg,.int 128] (H++[AO.dict []]) rfl kb d (bQ d) (bQ (bQ d)) (bQ (bQ (bQ d))) (g7 c)).trans
   (congrArg (R.ok V.none) (by rw [List.set_set,List.set_set,List.set_set,List.append_assoc,List.length_append];exact gb))
inductive Tg(H X:AH)(tn pg:Nat)(b:List UInt8):Prop
 |mk (X':AH) (nd:Nat) (e:bV [.inst 527 tn,.int (pg+1:Nat)] (H++X) = .ok (.inst 438 nd) (H++(X++X'))) (N:cH (H++(X++X')) nd b (pg+1:Nat))
theorem MH{H:AH}{b:List UInt8}{o:AO}:bar (H++[o,.ba b]) (H.length+1)=some b:=by
 unfold bar;rw [List.getElem?_append_right (Nat.le_add_right _ 1),Nat.add_sub_cancel_left];rfl
inductive Qt(H:AH)(tn pg:Nat)(b:List UInt8):Prop
 |mk (X:AH) (e:bV [.inst 527 tn,.int (pg+1:Nat)] H = .ok (.inst 438 H.length) (H++X)) (N:cH (H++X) H.length b (pg+1:Nat))
theorem node{H:AH}{tn st:Nat}{aT:List (List UInt8)}{pg:Nat}{b:List UInt8}(T:bW H tn st)(S:bR H st aT)(hb:aT[pg]? = some b):Qt H tn pg b:=by
 have pc:=DW S
 have rp:=yI S hb
 have us:=eg T S
 have hl:b.length=128:=S.len b (List.mem_of_getElem? hb)
 have hp:=(List.getElem?_eq_some_iff.mp hb).1
 obtain⟨pl,sp,h1,h2,h3,h4⟩:=S
 obtain⟨x,y,t1⟩:=T
 exact⟨_,vf 2 0 Ac [.inst 527 tn,.int ↑(pg+1)] H rfl (g5 JN) t1 h1 pc (kC (JO hp h4)) t1 h1 rp t1 us (Ho hl),⟨H.length+1,eN,MH,hl⟩⟩
theorem mF{H X:AH}{tn st:Nat}{aT:List (List UInt8)}{pg:Nat}{b:List UInt8}(T:bW H tn st)(S:bR H st aT)(hb:aT[pg]? = some b):Tg H X tn pg b:=by
 obtain⟨X',e,N⟩:=node (T.app (X:=X)) (S.app (X:=X)) hb
 rw [List.append_assoc]at e N
 exact⟨X',_,e,N⟩
theorem deeper{H:AH}{tn st n:Nat}{vs:List V}(T:bW H tn st)(hl:lst H n=some vs)(h:vs.length<=50):ck [.inst 527 tn,.ref n] H = .ok .none H :=
 vf 2 0 v8 [.inst 527 tn,.ref n] H rfl (fu hl (Nat.le_trans h (by decide))) (kC (Int.not_lt.mpr (Int.ofNat_le.mpr h)))
theorem Ov{H:AH}{p n:Nat}{vs:List V}{o:AO}(hp:lst H p=some vs)(hn:H[n]? = some o)(ho:∀v,o ≠ .list v):p≠n:=fun e=>ho _ (Option.some.inj (hn.symm.trans (e▸fh hp)))
theorem JQ{H:AH}{p n:Nat}{vs:List V}{fs:List (Fd×V)}{x:AO}(hp:lst H p=some vs)(h:dct H n=some fs):dct (H.set p x) n=some fs:=by
 unfold dct
 rw [List.getElem?_set_ne (Ov hp (iG h) fun _ e=>AO.noConfusion e),iG h];rfl
theorem JR{H:AH}{p n:Nat}{vs:List V}{fs:List UInt8}{x:AO}(hp:lst H p=some vs)(h:bar H n=some fs):bar (H.set p x) n=some fs:=by
 unfold bar
 rw [List.getElem?_set_ne (Ov hp (j9 h) fun _ e=>AO.noConfusion e),j9 h];rfl
theorem cH.V7{H:AH}{p nd:Nat}{vs:List V}{b:List UInt8}{pg:Int}{x:AO}(hp:lst H p=some vs):cH H nd b pg->cH (H.set p x) nd b pg
 |⟨db,h1,h2,h3⟩=>⟨db,JQ hp h1,JR hp h2,h3⟩
theorem mC.JS{b:List UInt8}{pg:Int}(h:mC b pg):lH b pg=false:=by
 rcases h with k | k<;>(unfold lH;rw [k];rfl)
theorem mD.rows{b:List UInt8}{pg:Int}(h:mD b pg):lH b pg=true:=by
 rcases h with k | k<;>(unfold lH;rw [k];rfl)
noncomputable def jP(b:List UInt8)(pg:Int)(i:Nat):Int:=if (i:Int)=h8 b pg then Ai b pg else qV b (yD b pg i)
theorem child{H:AH}{nd:Nat}{b:List UInt8}{pg:Int}{i:Nat}(N:cH H nd b pg)(h:(i:Int)≠h8 b pg->kD b pg i):bB [.inst 438 nd,.int i] H = .ok (.int (jP b pg i)) H:=by
 by_cases c:(i:Int)=h8 b pg
 ·rw [jP,if_pos c,c];exact B4 N
 ·rw [jP,if_neg c];exact Jr N (h c)
structure jQ(b:List UInt8)(pg:Int)(ks:List (List UInt8)):Prop where
 kind:mC b pg
 cnt:h8 b pg=ks.length
 cells:∀(i:Nat)(h:i<ks.length),Jy b pg i/\Hj b pg i=ks[i]
 so:sortedK ks
 few:ks.length<128
theorem jQ.node{H:AH}{nd:Nat}{b:List UInt8}{pg:Int}{ks:List (List UInt8)}(K:jQ b pg ks)(N:cH H nd b pg):yG H nd b pg ks:=⟨N,K.kind,K.cnt,K.cells⟩
theorem jQ.child{H:AH}{nd:Nat}{b:List UInt8}{pg:Int}{ks:List (List UInt8)}(K:jQ b pg ks)(N:cH H nd b pg){i:Nat}(le:i<=ks.length):bB [.inst 438 nd,.int i] H = .ok (.int (jP b pg i)) H :=
 Mine.P.child N fun ne=>(K.cells i (Nat.lt_of_le_of_ne le fun e=>ne (e▸K.cnt.symm))).1.place
structure Yr(H X:AH)(path:List V)(w:V)(nd tn:Nat)(b:List UInt8)(pg:Int):Prop where
 ln:iU (.ref H.length) (H ++ .list path::X)=true
 ap:aY [.ref H.length,w] (H ++ .list path::X) = .ok .none (H ++ .list (path++[w])::X)
 N:cH (H ++ .list (path++[w])::X) nd b pg
 dp:ck [.inst 527 tn,.ref H.length] (H ++ .list (path++[w])::X) = .ok .none (H ++ .list (path++[w])::X)
theorem eO{H:AH}{n:Nat}{vs:List V}(h:lst H n=some vs):iU (.ref n) H=true:=by show(lst H n).isSome=true;rw [h];rfl
theorem append_at{H:AH}{n:Nat}{vs:List V}{w:V}(h:lst H n=some vs)(hz:vs.length<=16777214):aY [.ref n,w] H = .ok .none (H.set n (.list (vs++[w]))):=by
 show cC (lst H n) _ = _
 rw [h];exact if_pos hz
theorem pP{H X:AH}{vs:List V}{w:V}(hz:vs.length<=16777214):aY [.ref H.length,w] (H ++ .list vs::X) = .ok .none (H ++ .list (vs++[w])::X):=(append_at aK hz).trans (by rw [gb])
theorem V8{H X:AH}{path:List V}{w:V}{nd tn st:Nat}{b:List UInt8}{pg:Int}(T:bW H tn st)(N:cH (H ++ .list path::X) nd b pg)(pl:path.length<50):Yr H X path w nd tn b pg :=
 ⟨eO aK,pP (Nat.le_trans (Nat.le_of_lt pl) (by decide)),gb▸N.V7 (x := .list (path++[w])) aK,deeper T.app aK (by rw [List.length_append];exact pl)⟩
noncomputable def qY:TS:=(.aA (.set 7 (.dW 527 none bV (.var 0) (.cons (.var 6) .nil))) (.aA (.ja (.of (.dW 438 none dB (.var 7) .nil)) (.aA (.ej (jM (sr 6))) .aL) .aL) (.aA (.ud [8,9] (.call jN (.cons (.var 0) (.cons (.var 7) (.cons (.var 2) (.cons (.var 3) .nil)))))) (.aA (.expr (.fk iU aY (.var 5) (.cons (.tup (.cons (.var 6) (.cons (.var 8) .nil))) .nil))) (.aA (.expr (.dW 527 none ck (.var 0) (.cons (.var 5) .nil))) (.aA (.ja (.bor (.of (.dW 438 none bP (.var 7) .nil)) (.bor (.band (.of (.var 9)) (.band (.not (.of (.var 4))) (.tt true))) (.tt false))) (.aA (.ret (.tup (.cons (.var 5) (.cons (.var 9) .nil)))) .aL) .aL) (.aA (.set 6 (.dW 438 (some .child) bB (.var 7) (.cons (.var 8) .nil))) .aL)))))))
noncomputable def JT:SF:=qY.f
noncomputable def step(p n:Nat):V := .tup [.int (p+1:Nat),.int n]
noncomputable abbrev gR(H:AH)(tn o pg:Nat)(key:List UInt8)(r v n0 p0 e0:V):List V:=[.inst 527 tn,r,.bytes key,.inst 590 o,.bool false,.ref H.length,v,n0,p0,e0]
inductive Th(H X:AH)(tn o pg:Nat)(b:List UInt8)(ks:List (List UInt8))(key:List UInt8)(path:List V)(r n0 p0 e0:V):Prop
 |mk (X':AH) (nd:Nat) (N:cH (H ++ .list (path++[step pg (ltN ks key)])::X') nd b (pg+1:Nat))
  (e:(fq b (pg+1:Nat) || decide (key∈ks))=true->JT (gR H tn o pg key r (.int (pg+1:Nat)) n0 p0 e0) (H ++ .list path::X) = .ret (.tup [.ref H.length,.bool (decide (key∈ks))]) (H ++ .list (path++[step pg (ltN ks key)])::X'))
  (f:fq b (pg+1:Nat)=false->key∉ks -> ∀v,bB [.inst 438 nd,.int (ltN ks key:Nat)] (H ++ .list (path++[step pg (ltN ks key)])::X') = .ok v (H ++ .list (path++[step pg (ltN ks key)])::X') →
    JT (gR H tn o pg key r (.int (pg+1:Nat)) n0 p0 e0) (H ++ .list path::X) = .next (gR H tn o pg key r v (.inst 438 nd) (.int (ltN ks key:Nat)) (.bool false)) (H ++ .list (path++[step pg (ltN ks key)])::X'))
theorem gturn{H:AH}{tn st o:Nat}{aT:List (List UInt8)}{pg:Nat}{b:List UInt8}{ks:List (List UInt8)}{key:List UInt8}{path:List V}(X:AH){r n0 p0 e0:V}
  (T:bW H tn st) (S:bR H st aT) {fs:List (Fd×V)} (od:dct H o=some fs) (hb:aT[pg]? = some b) (K:jQ b (pg+1:Nat) ks) (pl:path.length<50):Th H X tn o pg b ks key path r n0 p0 e0:=by
 obtain⟨X1,nd,e1,N1⟩:=mF (X := .list path::X) T S hb
 refine JK (tn:=tn) (key:=key) K.so (K.node N1) (bH od) K.few fun X2 e2=>?_
 have N2:=N1.app (X:=X2)
 have kk:=K.kind.ok
 have ir:=qU N1 kk
 rw [K.kind.JS]at ir
 rw [List.append_assoc]at e2 N2
 have A:=V8 (w:=step pg (ltN ks key)) T N2 pl
 obtain⟨ln,ap,N3,dp⟩:=A
 have il:=qT N3 kk
 obtain⟨x,y,t1⟩:=T
 obtain⟨Ys,d1,_,_⟩:=N1
 have N4:=N3
 obtain⟨Xq,d3,_,_⟩:=N3
 refine⟨_,nd,N4,fun h=>?_,fun hl hk v hv=>?_⟩
 ·cases hl:fq b (pg+1:Nat) with
  |false =>
   rw [hl]at il h
   rw [(Bool.false_or _).symm.trans h]at e2 ⊢
   exact dS (ρ:=gR H tn o pg key r (.int (pg+1:Nat)) n0 p0 e0) (H:=H++AO.list path::X) qY (bH t1) e1 d1 ir e2 ln ap (bH t1) dp d3 il
  |true =>
   rw [hl]at il
   exact dS (ρ:=gR H tn o pg key r (.int (pg+1:Nat)) n0 p0 e0) (H:=H++AO.list path::X) qY (bH t1) e1 d1 ir e2 ln ap (bH t1) dp d3 il
 ·rw [hl]at il
  rw [decide_eq_false hk]at e2
  exact dS (ρ:=gR H tn o pg key r (.int (pg+1:Nat)) n0 p0 e0) (H:=H++AO.list path::X) qY (bH t1) e1 d1 ir e2 ln ap (bH t1) dp d3 il d3 hv
inductive wk{α:Type}(P:List UInt8->Int->List α->Prop)(aT:List (List UInt8))(p:Nat)(ks:List α):Prop
 |mk (b:List UInt8) (h:aT[p]? = some b) (K:P b (p+1:Nat) ks) (l:fq b (p+1:Nat)=true)
inductive Qu{α:Type}(P:List UInt8->Int->List α->Prop)(aT:List (List UInt8))(au:List (List α))(ay:List Nat)(z:Int)(i:Nat):Prop
 |mk (p:Nat) (ks:List α) (h1:ay[i]? = some p) (h2:au[i]? = some ks) (h3:z=(p+1:Nat)) (L:wk P aT p ks)
inductive JU{α:Type}(P:List UInt8->Int->List α->Prop)(aT:List (List UInt8))(au:List (List α))(av:List α)(ay:List Nat)(rt:Nat):Prop
 |mk (b:List UInt8) (h:aT[rt]? = some b) (K:P b (rt+1:Nat) av) (l:fq b (rt+1:Nat)=false) (k:∀i,i<au.length->Qu P aT au ay (jP b (rt+1:Nat) i) i)
structure wm{α:Type}(P:List UInt8->Int->List α->Prop)(aT:List (List UInt8))(au:List (List α))(av:List α)(ay:List Nat)(rt:Nat):Prop where
 mid:av.length+1=au.length
 one:∀ks,au=[ks]->wk P aT rt ks
 more:1<au.length->JU P aT au av ay rt
noncomputable abbrev Ti:=wk jQ
noncomputable abbrev tR:=wm jQ
noncomputable def eS(au:List (List (List UInt8)))(av:List (List UInt8))(ay:List Nat)(rt:Nat)(key:List UInt8):List V :=
 if 1<au.length then
  (if key∈av then [step rt (ltN av key)]else [step rt (ltN av key),step (ay.getD (ltN av key) 0) (ltN (au.getD (ltN av key) []) key)])
 else [step rt (ltN (au.getD 0 []) key)]
noncomputable def leafOf(au:List (List (List UInt8)))(av:List (List UInt8))(key:List UInt8):List (List UInt8):=if 1<au.length then au.getD (ltN av key) []else au.getD 0 []
noncomputable def isIn(au:List (List (List UInt8)))(av:List (List UInt8))(key:List UInt8):Bool:=(decide (1<au.length)&&decide (key∈av)) || decide (key∈leafOf au av key)
theorem pQ{m n:Nat}(h:m+1=n)(c:¬ 1<n):n=1:=Nat.le_antisymm (Nat.le_of_not_lt c) (h▸Nat.le_add_left 1 m)
theorem pR{i m n:Nat}(h:m+1=n)(l:i<=m):i<n:=h▸Nat.lt_succ_of_le l
theorem getD_at{α:Type}{l:List α}{i:Nat}{a d:α}(h:l[i]? = some a):l.getD i d=a:=by rw [List.getD_eq_getElem?_getD,h];rfl
section
variable{au:List (List (List UInt8))}{av:List (List UInt8)}{ay:List Nat}{rt:Nat}{key:List UInt8}
theorem wo(c:1<au.length)(hm:key∈av):isIn au av key=true:=by unfold isIn;rw [decide_eq_true c,decide_eq_true hm];rfl
theorem wq(h:1<au.length->key∉av):isIn au av key=decide (key∈leafOf au av key):=by
 unfold isIn
 by_cases c:1<au.length
 ·rw [decide_eq_false (h c),Bool.and_false,Bool.false_or]
 ·rw [decide_eq_false c,Bool.false_and,Bool.false_or]
theorem Ca(c:1<au.length)(hm:key∈av):eS au av ay rt key=[step rt (ltN av key)]:=by rw [eS,if_pos c,if_pos hm]
theorem qZ(c:1<au.length){ks:List (List UInt8)}(h2:au[ltN av key]? = some ks):leafOf au av key=ks:=by rw [leafOf,if_pos c,getD_at h2]
theorem wu(c:1<au.length)(hm:key∉av){p:Nat}{ks:List (List UInt8)}(h1:ay[ltN av key]? = some p)(h2:au[ltN av key]? = some ks):eS au av ay rt key=[step rt (ltN av key),step p (ltN ks key)]:=by
 rw [eS,if_pos c,if_neg hm,getD_at h1,getD_at h2]
end
theorem DX{H:AH}{tn st o:Nat}{aT:List (List UInt8)}{au:List (List (List UInt8))}{av:List (List UInt8)}{ay:List Nat}{rt:Nat}{key:List UInt8}
  (T:bW H tn st) (S:bR H st aT) {fs:List (Fd×V)} (od:dct H o=some fs) (K:tR aT au av ay rt) :
  ∃X,gZ [.inst 527 tn,.int (rt+1:Nat),.bytes key,.inst 590 o,.bool false] H = .ok (.tup [.ref H.length,.bool (isIn au av key)]) (H ++ .list (eS au av ay rt key)::X):=by
 have fin{r:Bool}{p:List V}{X:AH}(W:dP 4 (cR (ak (.bool true))) JT (gR H tn o rt key (.int (rt+1:Nat)) (.int (rt+1:Nat)) .undef .undef .undef) (H++[AO.list []]) = .ret (.tup [.ref H.length,.bool r]) (H ++ .list p::X))(e1:isIn au av key=r)(e2:eS au av ay rt key=p) :
   ∃X,gZ [.inst 527 tn,.int (rt+1:Nat),.bytes key,.inst 590 o,.bool false] H = .ok (.tup [.ref H.length,.bool (isIn au av key)]) (H ++ .list (eS au av ay rt key)::X) :=
  e1▸e2▸⟨X,vf 5 5 qQ [.inst 527 tn,.int ↑(rt+1),.bytes key,.inst 590 o,.bool false] H rfl W⟩
 by_cases c:1<au.length
 ·obtain⟨b,hb,kb,lf,kids⟩:=K.more c
  obtain⟨X1,nd,N1,e1,f1⟩:=gturn (key:=key) (path:=[]) [] (r := .int (rt+1:Nat)) (n0 := .undef) (p0 := .undef) (e0 := .undef) T S od hb kb (by decide)
  by_cases hm:key∈av
  ·exact fin (Qm rfl (e1 (by rw [decide_eq_true hm,Bool.or_true]))) ((wo c hm).trans (decide_eq_true hm).symm) (Ca c hm)
  ·obtain⟨p,ks,h1,h2,h3,b2,qf,kb2,Tj⟩:=kids (ltN av key) (pR K.mid wi)
   have ch:=kb.child N1 (wi (key:=key))
   rw [h3]at ch
   obtain⟨X2,Xr,N2,e2,_⟩:=gturn (key:=key) (path:=[step rt (ltN av key)]) X1 (r := .int (rt+1:Nat)) (n0 := .inst 438 nd) (p0 := .int (ltN av key)) (e0 := .bool false) T S od qf kb2 (show 1<50 by decide)
   exact fin ((Rl rfl (f1 lf hm _ ch)).trans (Qm rfl (e2 (by rw [Tj,Bool.true_or])))) ((wq fun _=>hm).trans (by rw [qZ c h2])) (wu c hm h1 h2)
 ·obtain⟨ks,rfl⟩:=List.length_eq_one_iff.mp (pQ K.mid c)
  obtain⟨b,hb,kb,lf⟩:=K.one ks rfl
  obtain⟨X1,nd,N1,e1,_⟩:=gturn (key:=key) (path:=[]) [] (r := .int (rt+1:Nat)) (n0 := .undef) (p0 := .undef) (e0 := .undef) T S od hb kb (by decide)
  exact fin (Qm rfl (e1 (by rw [lf,Bool.true_or]))) (wq fun h=>absurd h c) rfl
inductive Qv(aT:List (List UInt8))(au:List (List (List UInt8)))(av:List (List UInt8))(ay:List Nat)(rt:Nat)(key:List UInt8):Prop
 |mk (i:List V) (p:Nat) (e:eS au av ay rt key=i++[step p (ltN (leafOf au av key) key)]) (l:i.length<2) (L:Ti aT p (leafOf au av key))
theorem MI{aT:List (List UInt8)}{au:List (List (List UInt8))}{av:List (List UInt8)}{ay:List Nat}{rt:Nat}{key:List UInt8}(K:tR aT au av ay rt)(h:isIn au av key=false):Qv aT au av ay rt key:=by
 by_cases c:1<au.length
 ·have hm:¬key∈av:=fun hm=>Bool.noConfusion (h.symm.trans (wo c hm))
  obtain⟨b,hb,kb,lf,kids⟩:=K.more c
  obtain⟨p,ks,h1,h2,h3,L⟩:=kids (ltN av key) (pR K.mid wi)
  exact⟨[step rt (ltN av key)],p,by rw [wu c hm h1 h2,qZ c h2];rfl,(show 1<2 by decide),qZ c h2▸L⟩
 ·obtain⟨ks,rfl⟩:=List.length_eq_one_iff.mp (pQ K.mid c)
  exact⟨[],rt,rfl,by decide,K.one ks rfl⟩
noncomputable def kE(au:List (List (List UInt8)))(av:List (List UInt8))(key:List UInt8):Int :=
 if isIn au av key=true then 0 else if ltN (leafOf au av key) key<(leafOf au av key).length then 1 else -1
theorem find_key{H:AH}{tn st o:Nat}{aT:List (List UInt8)}{au:List (List (List UInt8))}{av:List (List UInt8)}{ay:List Nat}{rt:Nat}{key:List UInt8}
  (T:bW H tn st) (S:bR H st aT) {fs:List (Fd×V)} (od:dct H o=some fs) (K:tR aT au av ay rt) :
  ∃X,dR [.inst 527 tn,.int (rt+1:Nat),.bytes key,.inst 590 o] H = .ok (.tup [.ref H.length,.int (kE au av key)]) (H ++ .list (eS au av ay rt key)::X):=by
 obtain⟨X,e⟩:=DX (key:=key) T S od K
 unfold kE
 cases hi:isIn au av key with
 |true =>
  rw [hi]at e
  exact⟨X,vf 4 4 pO [.inst 527 tn,.int ↑(rt+1),.bytes key,.inst 590 o] H rfl e⟩
 |false =>
  obtain⟨i,p,h1,h2,b,hb,kb,lf⟩:=MI K hi
  rw [h1,hi]at e
  rw [h1,if_neg Bool.false_ne_true]
  obtain⟨X1,nd,e1,N1⟩:=mF (X := .list (i++[step p (ltN (leafOf au av key) key)])::X) T S hb
  have kc:=count N1
  rw [kb.cnt]at kc
  have il:=mE (H:=H ++ .list (i++[step p (ltN (leafOf au av key) key)])::X) aK (Nat.lt_trans h2 (by decide))
  obtain⟨x,y,t1⟩:=T
  obtain⟨db,d1,_,_⟩:=N1
  refine⟨X++X1,?_⟩
  by_cases c:ltN (leafOf au av key) key<(leafOf au av key).length
  ·rw [if_pos c]
   exact vf 4 4 pO [.inst 527 tn,.int ↑(rt+1),.bytes key,.inst 590 o] H rfl e il (bH t1) e1 d1 kc (xH (Int.ofNat_lt.mpr c))
  ·rw [if_neg c]
   exact vf 4 4 pO [.inst 527 tn,.int ↑(rt+1),.bytes key,.inst 590 o] H rfl e il (bH t1) e1 d1 kc (g5 fun q=>c (Int.ofNat_lt.mp q))
structure i5(b:List UInt8)(pg:Int)(ks:List Int):Prop where
 kind:mD b pg
 cnt:h8 b pg=ks.length
 cells:∀(i:Nat)(h:i<ks.length),JB b pg i ks[i]
 so:gp ks
 few:ks.length<128
theorem i5.node{H:AH}{nd:Nat}{b:List UInt8}{pg:Int}{ks:List Int}(K:i5 b pg ks)(N:cH H nd b pg):yH H nd b pg ks:=⟨N,K.kind,K.cnt,K.cells⟩
noncomputable def q4:TS:=(.aA (.set 5 (.dW 527 none bV (.var 0) (.cons (.var 4) .nil))) (.aA (.ja (.not (.of (.dW 438 none dB (.var 5) .nil))) (.aA (.ej (jM (sr 4))) .aL) .aL) (.aA (.set 6 (.call f9 (.cons (.var 5) (.cons (.var 2) .nil)))) (.aA (.expr (.fk iU aY (.var 3) (.cons (.tup (.cons (.var 4) (.cons (.var 6) .nil))) .nil))) (.aA (.expr (.dW 527 none ck (.var 0) (.cons (.var 3) .nil))) (.aA (.ja (.of (.dW 438 none bP (.var 5) .nil)) (.aA (.ret (.tup (.cons (.var 3) (.cons (.and (.bin ltV (.var 6) (.dW 438 none bu (.var 5) .nil)) (.bin iw (.dW 438 (some .rowid) di (.var 5) (.cons (.var 6) .nil)) (.var 2))) .nil)))) .aL) .aL) (.aA (.set 4 (.dW 438 (some .child) bB (.var 5) (.cons (.var 6) .nil))) .aL)))))))
noncomputable def hbody:SF:=q4.f
theorem i5.child{H:AH}{nd:Nat}{b:List UInt8}{pg:Int}{ks:List Int}(K:i5 b pg ks)(N:cH H nd b pg){i:Nat}(le:i<=ks.length):bB [.inst 438 nd,.int i] H = .ok (.int (jP b pg i)) H :=
 Mine.P.child N fun ne=>(K.cells i (Nat.lt_of_le_of_ne le fun e=>ne (e▸K.cnt.symm))).place
theorem Qw{ks:List Int}{key:Int}(so:gp ks)(hi:jO ks key<ks.length):(ks[jO ks key]==key)=decide (key∈ks):=by
 by_cases h:key∈ks
 ·rw [decide_eq_true h,beq_iff_eq]
  obtain⟨i,hi2,e⟩:=List.getElem_of_mem h
  have b1:=Qs so _ hi (Nat.le_refl _)
  refine Int.le_antisymm ?_ b1
  by_cases h2:jO ks key<i
  ·exact e▸so _ _ hi hi2 h2
  ·by_cases h1:i<jO ks key
   ·exact absurd (JM so i hi2 h1) (e▸Int.lt_irrefl _)
   ·have e2:=Nat.le_antisymm (Nat.le_of_not_lt h1) (Nat.le_of_not_lt h2)
    subst e
    exact Int.le_of_eq (getElem_congr_idx e2)
 ·rw [decide_eq_false h];exact beq_false_of_ne fun e=>h (e▸List.getElem_mem _)
theorem MJ{ks:List Int}{key:Int}(so:gp ks)(hi:¬jO ks key<ks.length):decide (key∈ks)=false:=decide_eq_false fun h=>by
 obtain⟨i,hi2,e⟩:=List.getElem_of_mem h
 exact absurd (JM so i hi2 (Nat.lt_of_lt_of_le hi2 (Nat.le_of_not_lt hi))) (e▸Int.lt_irrefl _)
noncomputable abbrev hR(H:AH)(tn:Nat)(key:Int)(r v n0 p0:V):List V:=[.inst 527 tn,r,.int key,.ref H.length,v,n0,p0]
inductive Tn(H X:AH)(tn pg:Nat)(b:List UInt8)(ks:List Int)(key:Int)(path:List V)(r n0 p0:V):Prop
 |mk (X':AH) (nd:Nat) (N:cH (H ++ .list (path++[step pg (jO ks key)])::X') nd b (pg+1:Nat))
  (e:fq b (pg+1:Nat)=true->hbody (hR H tn key r (.int (pg+1:Nat)) n0 p0) (H ++ .list path::X) = .ret (.tup [.ref H.length,.bool (decide (key∈ks))]) (H ++ .list (path++[step pg (jO ks key)])::X'))
  (f:fq b (pg+1:Nat)=false -> ∀v,bB [.inst 438 nd,.int (jO ks key:Nat)] (H ++ .list (path++[step pg (jO ks key)])::X') = .ok v (H ++ .list (path++[step pg (jO ks key)])::X') →
    hbody (hR H tn key r (.int (pg+1:Nat)) n0 p0) (H ++ .list path::X) = .next (hR H tn key r v (.inst 438 nd) (.int (jO ks key:Nat))) (H ++ .list (path++[step pg (jO ks key)])::X'))
theorem hturn{H:AH}{tn st:Nat}{aT:List (List UInt8)}{pg:Nat}{b:List UInt8}{ks:List Int}{key:Int}{path:List V}(X:AH){r n0 p0:V}
  (T:bW H tn st) (S:bR H st aT) (hb:aT[pg]? = some b) (K:i5 b (pg+1:Nat) ks) (pl:path.length<50):Tn H X tn pg b ks key path r n0 p0:=by
 obtain⟨X1,nd,e1,N1⟩:=mF (X := .list path::X) T S hb
 have e2:=B9 (key:=key) K.so (K.node N1) K.few
 have kk:=K.kind.ok
 have ir:=qU N1 kk
 rw [K.kind.rows]at ir
 have A:=V8 (w:=step pg (jO ks key)) T N1 pl
 obtain⟨ln,ap,N3,dp⟩:=A
 have il:=qT N3 kk
 have kc:=count N3
 rw [K.cnt]at kc
 have rd(hi):=rowid N3 K.kind (K.cells (jO ks key) hi)
 obtain⟨x,y,t1⟩:=T
 obtain⟨Ys,d1,_,_⟩:=N1
 have N4:=N3
 obtain⟨Xq,d3,_,_⟩:=N3
 refine⟨_,nd,N4,fun hl=>?_,fun hl v hv=>?_⟩
 ·rw [hl]at il
  by_cases hi:jO ks key<ks.length
  ·rw [← Qw K.so hi]
   exact dS (ρ:=hR H tn key r (.int (pg+1:Nat)) n0 p0) (H:=H++AO.list path::X) q4 (bH t1) e1 d1 ir e2 ln ap (bH t1) dp d3 il d3 kc (xH (Int.ofNat_lt.mpr hi)) d3 (rd hi) rfl
  ·rw [MJ K.so hi]
   exact dS (ρ:=hR H tn key r (.int (pg+1:Nat)) n0 p0) (H:=H++AO.list path::X) q4 (bH t1) e1 d1 ir e2 ln ap (bH t1) dp d3 il d3 kc (g5 fun q=>hi (Int.ofNat_lt.mp q))
 ·rw [hl]at il
  exact dS (ρ:=hR H tn key r (.int (pg+1:Nat)) n0 p0) (H:=H++AO.list path::X) q4 (bH t1) e1 d1 ir e2 ln ap (bH t1) dp d3 il d3 hv
noncomputable abbrev To:=wk i5
noncomputable abbrev tS:=wm i5
noncomputable def kF(au:List (List Int))(av:List Int)(key:Int):List Int:=if 1<au.length then au.getD (jO av key) []else au.getD 0 []
noncomputable def jn(au:List (List Int))(av:List Int)(ay:List Nat)(rt:Nat)(key:Int):List V :=
 if 1<au.length then [step rt (jO av key),step (ay.getD (jO av key) 0) (jO (kF au av key) key)]
 else [step rt (jO (kF au av key) key)]
section
variable{au:List (List Int)}{av:List Int}{ay:List Nat}{rt:Nat}{key:Int}
theorem sI(c:1<au.length){ks:List Int}(h2:au[jO av key]? = some ks):kF au av key=ks:=by rw [kF,if_pos c,getD_at h2]
theorem yJ(c:1<au.length){p:Nat}{ks:List Int}(h1:ay[jO av key]? = some p)(h2:au[jO av key]? = some ks):jn au av ay rt key=[step rt (jO av key),step p (jO ks key)]:=by
 rw [jn,if_pos c,sI c h2,getD_at h1]
end
theorem DY{H:AH}{tn st:Nat}{aT:List (List UInt8)}{au:List (List Int)}{av:List Int}{ay:List Nat}{rt:Nat}{key:Int}
  (T:bW H tn st) (S:bR H st aT) (K:tS aT au av ay rt) :
  ∃X,dj [.inst 527 tn,.int (rt+1:Nat),.int key] H = .ok (.tup [.ref H.length,.bool (decide (key∈kF au av key))]) (H ++ .list (jn au av ay rt key)::X):=by
 by_cases c:1<au.length
 ·obtain⟨b,hb,kb,lf,kids⟩:=K.more c
  obtain⟨X1,nd,N1,_,f1⟩:=hturn (key:=key) (path:=[]) [] (r := .int (rt+1:Nat)) (n0 := .undef) (p0 := .undef) T S hb kb (by decide)
  obtain⟨p,ks,h1,h2,h3,b2,qf,kb2,Tj⟩:=kids (jO av key) (pR K.mid wj)
  have ch:=kb.child N1 (wj (key:=key))
  rw [h3]at ch
  obtain⟨X2,Xr,N2,e2,_⟩:=hturn (key:=key) (path:=[step rt (jO av key)]) X1 (r := .int (rt+1:Nat)) (n0 := .inst 438 nd) (p0 := .int (jO av key)) T S qf kb2 (show 1<50 by decide)
  rw [sI c h2,yJ c h1 h2]
  exact⟨X2,vf 3 4 mw [.inst 527 tn,.int ↑(rt+1),.int key] H rfl ((Rl rfl (f1 lf _ ch)).trans (Qm rfl (e2 Tj)))⟩
 ·obtain⟨ks,rfl⟩:=List.length_eq_one_iff.mp (pQ K.mid c)
  obtain⟨b,hb,kb,lf⟩:=K.one ks rfl
  obtain⟨X1,nd,N1,e1,_⟩:=hturn (key:=key) (path:=[]) [] (r := .int (rt+1:Nat)) (n0 := .undef) (p0 := .undef) T S hb kb (by decide)
  exact⟨X1,vf 3 4 mw [.inst 527 tn,.int ↑(rt+1),.int key] H rfl (Qm rfl (e1 lf))⟩
structure q8(b:List UInt8)(pg:Int)(n:Nat):Prop where
 kind:hU b pg
 cnt:h8 b pg=n
 cells:∀(i:Nat),i<n->kD b pg i
noncomputable def MK:TS := .ja (.of (.var 2)) (.aA (.set 6 (.bin eH (.dW 438 none bu (.var 5) .nil) (.call iE (.cons (.dW 438 none bP (.var 5) .nil) .nil)))) .aL) .aL
noncomputable def Am:TS:=(.aA (.set 5 (.dW 527 none bV (.var 0) (.cons (.var 4) .nil))) (.aA (.set 6 (.con (.int 0))) (.aA (.ej MK.f) (.aA (.expr (.fk iU aY (.var 3) (.cons (.tup (.cons (.var 4) (.cons (.var 6) .nil))) .nil))) (.aA (.expr (.dW 527 none ck (.var 0) (.cons (.var 3) .nil))) (.aA (.ja (.of (.dW 438 none bP (.var 5) .nil)) (.aA (.ret (.var 3)) .aL) .aL) (.aA (.set 4 (.dW 438 (some .child) bB (.var 5) (.cons (.var 6) .nil))) .aL)))))))
noncomputable def Ow:SF:=Am.f
noncomputable def ue(n:Nat)(lf last:Bool):Int:=if last=true then(n:Int) - (if lf=true then 1 else 0)else 0
noncomputable def gM(p:Nat)(z:Int):V := .tup [.int (p+1:Nat),.int z]
theorem q8.child{H:AH}{nd:Nat}{b:List UInt8}{pg:Int}{n:Nat}(K:q8 b pg n)(N:cH H nd b pg){i:Nat}(le:i<=n):bB [.inst 438 nd,.int i] H = .ok (.int (jP b pg i)) H :=
 Mine.P.child N fun ne=>K.cells i (Nat.lt_of_le_of_ne le fun e=>ne (e▸K.cnt.symm))
noncomputable abbrev eR(H:AH)(tn:Nat)(last:Bool)(r v n0 p0:V):List V:=[.inst 527 tn,r,.bool last,.ref H.length,v,n0,p0]
theorem e6{H H0:AH}{tn nd pg n:Nat}{b:List UInt8}{lf last:Bool}{r:V}(N:cH H nd b (pg+1:Nat))(K:q8 b (pg+1:Nat) n)(l:fq b (pg+1:Nat)=lf) :
  MK.f (eR H0 tn last r (.int (pg+1:Nat)) (.inst 438 nd) (.int 0)) H = .next (eR H0 tn last r (.int (pg+1:Nat)) (.inst 438 nd) (.int (ue n lf last))) H:=by
 have kc:=count N
 have il:=qT N K.kind
 rw [K.cnt]at kc
 rw [l]at il
 obtain⟨db,d,_,_⟩:=N
 cases last with
 |false=>exact dS (ρ:=eR H0 tn false r (.int (pg+1:Nat)) (.inst 438 nd) (.int 0)) (H:=H) MK
 |true=>exact dS (ρ:=eR H0 tn true r (.int (pg+1:Nat)) (.inst 438 nd) (.int 0)) (H:=H) MK d kc d il B8 rfl
inductive Tp(H X:AH)(tn pg:Nat)(b:List UInt8)(n:Nat)(lf last:Bool)(path:List V)(r n0 p0:V):Prop
 |mk (X':AH) (nd:Nat) (N:cH (H ++ .list (path++[gM pg (ue n lf last)])::X') nd b (pg+1:Nat))
  (e:lf=true->Ow (eR H tn last r (.int (pg+1:Nat)) n0 p0) (H ++ .list path::X) = .ret (.ref H.length) (H ++ .list (path++[gM pg (ue n lf last)])::X'))
  (f:lf=false -> ∀v,bB [.inst 438 nd,.int (ue n lf last)] (H ++ .list (path++[gM pg (ue n lf last)])::X') = .ok v (H ++ .list (path++[gM pg (ue n lf last)])::X') →
    Ow (eR H tn last r (.int (pg+1:Nat)) n0 p0) (H ++ .list path::X) = .next (eR H tn last r v (.inst 438 nd) (.int (ue n lf last))) (H ++ .list (path++[gM pg (ue n lf last)])::X'))
theorem JV{H:AH}{tn st:Nat}{aT:List (List UInt8)}{pg:Nat}{b:List UInt8}{n:Nat}{lf last:Bool}{path:List V}(X:AH){r n0 p0:V}
  (T:bW H tn st) (S:bR H st aT) (hb:aT[pg]? = some b) (K:q8 b (pg+1:Nat) n) (l:fq b (pg+1:Nat)=lf) (pl:path.length<50):Tp H X tn pg b n lf last path r n0 p0:=by
 obtain⟨X1,nd,e1,N1⟩:=mF (X := .list path::X) T S hb
 have A:=V8 (w:=gM pg (ue n lf last)) T N1 pl
 obtain⟨ln,ap,N3,dp⟩:=A
 have g6:=e6 (H0:=H) (tn:=tn) (last:=last) (r:=r) N1 K l
 have il:=qT N3 K.kind
 obtain⟨x,y,t1⟩:=T
 have N4:=N3
 obtain⟨Xq,d3,_,_⟩:=N3
 refine⟨_,nd,N4,fun hl=>?_,fun hl v hv=>?_⟩
 ·rw [l.trans hl]at il
  exact dS (ρ:=eR H tn last r (.int (pg+1:Nat)) n0 p0) (H:=H++AO.list path::X) Am (bH t1) e1 g6 ln ap (bH t1) dp d3 il
 ·rw [l.trans hl]at il
  exact dS (ρ:=eR H tn last r (.int (pg+1:Nat)) n0 p0) (H:=H++AO.list path::X) Am (bH t1) e1 g6 ln ap (bH t1) dp d3 il d3 hv
inductive JW(aT:List (List UInt8))(p:Nat)(n:Nat):Prop
 |mk (b:List UInt8) (h:aT[p]? = some b) (K:q8 b (p+1:Nat) n) (l:fq b (p+1:Nat)=true)
inductive Tq(aT:List (List UInt8))(sizes ay:List Nat)(z:Int)(i:Nat):Prop
 |mk (p n:Nat) (h1:ay[i]? = some p) (h2:sizes[i]? = some n) (h3:z=(p+1:Nat)) (L:JW aT p n)
inductive Ox(aT:List (List UInt8))(sizes ay:List Nat)(rt:Nat):Prop
 |mk (b:List UInt8) (h:aT[rt]? = some b) (K:q8 b (rt+1:Nat) (sizes.length - 1)) (l:fq b (rt+1:Nat)=false) (k:∀i,i<sizes.length->Tq aT sizes ay (jP b (rt+1:Nat) i) i)
structure JX(aT:List (List UInt8))(sizes:List Nat)(ay:List Nat)(rt:Nat):Prop where
 pos:0<sizes.length
 one:∀n,sizes=[n]->JW aT rt n
 more:1<sizes.length->Ox aT sizes ay rt
noncomputable def d9(sizes ay:List Nat)(rt:Nat)(last:Bool):List V :=
 if 1<sizes.length then(if last=true then [gM rt ((sizes.length - 1:Nat):Int),gM (ay.getD (sizes.length - 1) 0) ((sizes.getD (sizes.length - 1) 0:Nat) - 1)]else [gM rt 0,gM (ay.getD 0 0) 0])
 else(if last=true then [gM rt ((sizes.getD 0 0:Nat) - 1)]else [gM rt 0])
noncomputable def An(sizes:List Nat)(last:Bool):Nat:=if last=true then sizes.length - 1 else 0
section
variable{sizes ay:List Nat}{rt:Nat}{last:Bool}
theorem ML:ue (sizes.length - 1) false last=An sizes last:=by cases last with
 |false=>rfl
 |true=>exact Int.sub_zero _
theorem Fg:An sizes last<=sizes.length - 1:=by cases last with
 |false=>exact Nat.zero_le _
 |true=>exact Nat.le_refl _
theorem Fi(c:1<sizes.length){p n:Nat}(h1:ay[An sizes last]? = some p)(h2:sizes[An sizes last]? = some n):d9 sizes ay rt last=[gM rt (An sizes last),gM p (ue n true last)]:=by
 rw [d9,if_pos c]
 cases last with
 |false=>rw [if_neg Bool.false_ne_true,getD_at (i:=0) h1];rfl
 |true=>rw [if_pos rfl,getD_at (i:=sizes.length - 1) h1,getD_at (i:=sizes.length - 1) h2];rfl
end
theorem wx{H:AH}{tn st:Nat}{aT:List (List UInt8)}{sizes ay:List Nat}{rt:Nat}{last:Bool}
  (T:bW H tn st) (S:bR H st aT) (K:JX aT sizes ay rt) :
  ∃X,fF [.inst 527 tn,.int (rt+1:Nat),.bool last] H = .ok (.ref H.length) (H ++ .list (d9 sizes ay rt last)::X):=by
 by_cases c:1<sizes.length
 ·obtain⟨b,hb,kb,lf,kids⟩:=K.more c
  obtain⟨X1,nd,N1,_,f1⟩:=JV (last:=last) (path:=[]) [] (r := .int (rt+1:Nat)) (n0 := .undef) (p0 := .undef) T S hb kb lf (by decide)
  rw [ML]at f1 N1
  obtain⟨p,n,h1,h2,h3,b2,qf,kb2,Tj⟩:=kids (An sizes last) (Nat.lt_of_le_of_lt Fg (Nat.sub_lt K.pos Nat.one_pos))
  have ch:=kb.child N1 (Fg (last:=last))
  rw [h3]at ch
  obtain⟨X2,Xr,N2,e2,_⟩:=JV (last:=last) (path:=[gM rt (An sizes last)]) X1 (r := .int (rt+1:Nat)) (n0 := .inst 438 nd) (p0 := .int (An sizes last)) T S qf kb2 Tj (show 1<50 by decide)
  rw [Fi c h1 h2]
  exact⟨X2,vf 3 4 v9 [.inst 527 tn,.int ↑(rt+1),.bool last] H rfl ((Rl rfl (f1 rfl _ ch)).trans (Qm rfl (e2 rfl)))⟩
 ·obtain⟨n,rfl⟩:=List.length_eq_one_iff.mp (Nat.le_antisymm (Nat.le_of_not_lt c) K.pos)
  obtain⟨b,hb,kb,lf⟩:=K.one n rfl
  obtain⟨X1,nd,N1,e1,_⟩:=JV (last:=last) (path:=[]) [] (r := .int (rt+1:Nat)) (n0 := .undef) (p0 := .undef) T S hb kb lf (by decide)
  rw [show d9 [n] ay rt last=[gM rt (ue n true last)] by cases last<;>rfl]
  exact⟨X1,vf 3 4 v9 [.inst 527 tn,.int ↑(rt+1),.bool last] H rfl (Qm rfl (e1 rfl))⟩
theorem jQ.e{b:List UInt8}{pg:Int}{ks:List (List UInt8)}(K:jQ b pg ks):q8 b pg ks.length:=⟨K.kind.ok,K.cnt,fun i hi=>(K.cells i hi).1.place⟩
theorem i5.e{b:List UInt8}{pg:Int}{ks:List Int}(K:i5 b pg ks):q8 b pg ks.length:=⟨K.kind.ok,K.cnt,fun i hi=>(K.cells i hi).place⟩
section
variable{α:Type}{P:List UInt8->Int->List α->Prop}(hP:∀{b pg ks},P b pg ks->q8 b pg ks.length){aT:List (List UInt8)}
include hP
theorem wk.e{p:Nat}{ks:List α}:wk P aT p ks->JW aT p ks.length
 |⟨b,h1,h2,h3⟩=>⟨b,h1,hP h2,h3⟩
theorem Qu.e{au:List (List α)}{ay:List Nat}{z:Int}{i:Nat}:Qu P aT au ay z i->Tq aT (au.map List.length) ay z i
 |⟨p,ks,g1,g2,g3,g4⟩=>⟨p,ks.length,g1,by rw [List.getElem?_map,g2];rfl,g3,g4.e hP⟩
theorem JU.e{au:List (List α)}{av:List α}{ay:List Nat}{rt:Nat}(m:av.length=au.length - 1):JU P aT au av ay rt->Ox aT (au.map List.length) ay rt
 |⟨b,h1,h2,h3,h4⟩=>⟨b,h1,by rw [List.length_map,<- m];exact hP h2,h3,fun i hi=>(h4 i (by rw [List.length_map]at hi;exact hi)).e hP⟩
theorem wm.e{au:List (List α)}{av:List α}{ay:List Nat}{rt:Nat}(K:wm P aT au av ay rt):JX aT (au.map List.length) ay rt:=by
 refine⟨by rw [List.length_map];exact K.mid▸Nat.succ_pos _,fun n h=>?_,fun h=>(K.more (by rw [List.length_map]at h;exact h)).e hP (Nat.eq_sub_of_add_eq K.mid)⟩
 obtain⟨ks,rfl⟩:=List.length_eq_one_iff.mp ((List.length_map ..).symm.trans (congrArg List.length h))
 exact(List.head_eq_of_cons_eq h)▸(K.one ks rfl).e hP
end
noncomputable def gc(au:List (List Int)):List Int:=au.getD (au.length - 1) []
noncomputable def mG(au:List (List Int)):V:=if (gc au).length=0 then .none else .int ((gc au).getD ((gc au).length - 1) 0)
inductive Qx(aT:List (List UInt8))(au:List (List Int))(ay:List Nat)(rt:Nat):Prop
 |mk (i:List V) (p:Nat) (e:d9 (au.map List.length) ay rt true=i++[gM p (((gc au).length:Nat) - 1)]) (l:i.length<2) (L:To aT p (gc au))
theorem row_end{aT:List (List UInt8)}{au:List (List Int)}{av:List Int}{ay:List Nat}{rt:Nat}(K:tS aT au av ay rt):Qx aT au ay rt:=by
 by_cases c:1<au.length
 ·obtain⟨b,hb,kb,lf,kids⟩:=K.more c
  obtain⟨p,ks,h1,h2,h3,L⟩:=kids (au.length - 1) (Nat.sub_lt (Nat.lt_trans Nat.one_pos c) Nat.one_pos)
  have e:gc au=ks:=getD_at h2
  have q:An (au.map List.length) true=au.length - 1:=congrArg (· - 1) (List.length_map ..)
  exact⟨[gM rt ((au.length - 1:Nat):Int)],p,by rw [Fi (by rw [List.length_map];exact c) (q▸h1) (n:=ks.length) (by rw [q,List.getElem?_map,h2];rfl),q,e];rfl,(show 1<2 by decide),e▸L⟩
 ·obtain⟨ks,rfl⟩:=List.length_eq_one_iff.mp (pQ K.mid c)
  exact⟨[],rt,rfl,by decide,K.one ks rfl⟩
theorem DZ{H:AH}{tn st:Nat}{aT:List (List UInt8)}{au:List (List Int)}{av:List Int}{ay:List Nat}{rt:Nat}
  (T:bW H tn st) (S:bR H st aT) (K:tS aT au av ay rt) :
  ∃X,jm [.inst 527 tn,.int (rt+1:Nat)] H = .ok (mG au) (H++X):=by
 obtain⟨X,e⟩:=wx (last:=true) T S (K.e i5.e)
 obtain⟨i,p,h1,h2,b,hb,kb,lf⟩:=row_end K
 rw [h1]at e
 unfold mG
 generalize gc au=lf at *
 have il:=mE (H:=H ++ .list (i++[gM p ((lf.length:Nat) - 1)])::X) aK (Nat.lt_trans h2 (by decide))
 by_cases c:lf.length=0
 ·rw [if_pos c]
  exact⟨_,vf 2 2 qR [.inst 527 tn,.int ↑(rt+1)] H rfl e il (xH (by rw [c];decide))⟩
 ·obtain⟨X1,nd,e1,N1⟩:=mF (X := .list (i++[gM p ((lf.length:Nat) - 1)])::X) T S hb
  have l0:=Nat.sub_lt (Nat.pos_of_ne_zero c) Nat.one_pos
  have rd:=rowid N1 kb.kind (kb.cells (lf.length - 1) l0)
  have z:((lf.length - 1:Nat):Int)=(lf.length:Int) - 1:=Int.ofNat_sub (Nat.pos_of_ne_zero c)
  rw [z]at rd
  obtain⟨x,y,t1⟩:=T
  obtain⟨db,d1,d2,d3⟩:=N1
  rw [if_neg c,getD_at (List.getElem?_eq_getElem l0)]
  exact⟨_,vf 2 2 qR [.inst 527 tn,.int ↑(rt+1)] H rfl e il (g5 (z▸Int.not_lt.mpr (Int.natCast_nonneg _))) (bH t1) e1 d1 rd⟩
theorem JY{ρ:List V}{i:Nat}{k:Nat}{H:AH}(h:gA ρ i H = .ok (.int (k+1:Nat)) H)(l:k<5):jM (sr i) ρ H = .exc H:=by
 refine Mv (v := .oO) ?_
 unfold sr;rw [h]
 exact if_pos ⟨Int.ofNat_le.mpr (Nat.le_add_left 1 k),Int.ofNat_le.mpr (Nat.le_trans l (by decide))⟩
theorem xM{H:AH}{tn st:Nat}{aT:List (List UInt8)}{rt:Nat}{key:Int}{b:List UInt8}
  (T:bW H tn st) (S:bR H st aT) (hb:aT[rt]? = some b) (kk:hU b (rt+1:Nat)) (hr:lH b (rt+1:Nat)=false) :
  ∃X,dj [.inst 527 tn,.int (rt+1:Nat),.int key] H = .exc (H++X):=by
 have hp:=S.few▸(List.getElem?_eq_some_iff.mp hb).1
 obtain⟨X1,nd,e1,N1⟩:=mF (X:=[.list []]) T S hb
 have ir:=qU N1 kk
 rw [hr]at ir
 obtain⟨x,y,t1⟩:=T
 obtain⟨db,d1,d2,d3⟩:=N1
 have W:=dS (ρ:=hR H tn key (.int (rt+1:Nat)) (.int (rt+1:Nat)) .undef .undef) (H:=H++[AO.list []]) q4 (bH t1) e1 d1 ir (JY rfl hp)
 exact⟨_,vf 3 4 mw [.inst 527 tn,.int ↑(rt+1),.int key] H rfl (Xo rfl W)⟩
theorem Cb{H:AH}{tn st o:Nat}{aT:List (List UInt8)}{rt:Nat}{key:List UInt8}{b:List UInt8}
  (T:bW H tn st) (S:bR H st aT) (hb:aT[rt]? = some b) (kk:hU b (rt+1:Nat)) (hr:lH b (rt+1:Nat)=true) :
  ∃X,dR [.inst 527 tn,.int (rt+1:Nat),.bytes key,.inst 590 o] H = .exc (H++X):=by
 have hp:=S.few▸(List.getElem?_eq_some_iff.mp hb).1
 obtain⟨X1,nd,e1,N1⟩:=mF (X:=[.list []]) T S hb
 have ir:=qU N1 kk
 rw [hr]at ir
 obtain⟨x,y,t1⟩:=T
 obtain⟨db,d1,d2,d3⟩:=N1
 have W:=dS (ρ:=gR H tn o rt key (.int (rt+1:Nat)) (.int (rt+1:Nat)) .undef .undef .undef) (H:=H++[AO.list []]) qY (bH t1) e1 d1 ir (JY rfl hp)
 have fp:=vf 5 5 qQ [.inst 527 tn,.int ↑(rt+1),.bytes key,.inst 590 o,.bool false] H rfl (Xo rfl W)
 exact⟨_,SM rfl (Oi (Qc (z5 rfl fp)))⟩
theorem oE{H:AH}{n k:Nat}{vs:List V}(hl:lst H n=some vs):Src.next (.list n k) H=some (vs[k]?.map fun v=>(v,.list n (k+1))):=by
 show(lst H n).bind _ = _
 rw [hl];rfl
theorem Hp{H:AH}{n:Nat}{vs bO:List V}{jL:BF}{el:EF}{p:V->Bool}{g:V->V}(hl:lst H n=some vs)(hz:vs.length<=16777214)
  (ht:∀v∈vs,jL (v::bO) H = .ok (p v) H) (he:∀v∈vs,p v=true->el (v::bO) H = .ok (g v) H) :
  ∀(q k:Nat)(acc:List V),k+q=vs.length->acc.length<=k->iX bO jL el (q+1) (.list n k) acc H = .ok (acc++((vs.drop k).filter p).map g) H:=by
 intro q
 induction q with
 |zero =>
  intro k acc hk _
  show cC (Src.next (.list n k) H) _ = _
  rw [oE hl,List.getElem?_eq_none (i:=k) (Nat.le_of_eq hk.symm),List.drop_eq_nil_of_le (i:=k) (Nat.le_of_eq hk.symm)]
  exact congrArg (R.ok · H) (List.append_nil acc).symm
 |succ q ih =>
  intro k acc hk ha
  have hk':=(Nat.succ_add_eq_add_succ k q).trans hk
  have c:k<vs.length:=Nat.le.intro hk'
  have hm:vs[k]∈vs:=List.getElem_mem _
  show cC (Src.next (.list n k) H) _ = _
  rw [oE hl,List.getElem?_eq_getElem c,List.drop_eq_getElem_cons c]
  show HF (jL (vs[k]::bO) H) _ = _
  rw [ht _ hm]
  cases hp:p vs[k] with
  |false=>exact(ih (k+1) acc hk' (Nat.le_succ_of_le ha)).trans (by rw [List.filter_cons_of_neg (by rw [hp];exact Bool.false_ne_true)])
  |true =>
   show HF (el (vs[k]::bO) H) _ = _
   rw [he _ hm hp,List.filter_cons_of_pos hp]
   exact(if_pos (Nat.le_trans ha (Nat.le_trans (Nat.le_of_lt c) hz))).trans ((ih (k+1) _ hk' (by rw [List.length_append];exact Nat.succ_le_succ ha)).trans (by rw [List.append_assoc];rfl))
theorem JZ{H:AH}{n:Nat}{vs bO:List V}{jL:BF}{el:EF}{p:V->Bool}{g:V->V}(hl:lst H n=some vs)(hz:vs.length<=16777214)
  (ht:∀v∈vs,jL (v::bO) H = .ok (p v) H) (he:∀v∈vs,p v=true->el (v::bO) H = .ok (g v) H) :
  iX bO jL el (vs.length+1) (.list n 0) [] H = .ok ((vs.filter p).map g) H:=Hp hl hz ht he vs.length 0 [] (Nat.zero_add _) (Nat.le_refl _)
theorem J0{H H':AH}{ρ:List V}{cap:Option Nat}{a:EF}{n:Nat}{vs bO:List V}{jL:BF}{el:EF}{p:V->Bool}{g:V->V}(hc:Bw cap ρ=some bO)(ha:a ρ H = .ok (.ref n) H')(hl:lst H' n=some vs)(hz:vs.length<=16777214)
  (ht:∀v∈vs,jL (v::bO) H' = .ok (p v) H') (he:∀v∈vs,p v=true->el (v::bO) H' = .ok (g v) H'):gG cap (iA a) jL el ρ H = .ok (.ref H'.length) (H'++[.list ((vs.filter p).map g)]):=by
 unfold gG qE iA
 rw [hc,ha]
 show((cC (lst H' n) _).bind _).bind _ = _
 rw [hl]
 show((HF (iX bO jL el (vs.length+1) (.list n 0) [] H') .ok).bind _) = _
 rw [JZ hl hz ht he];rfl
theorem yK{α:Type}{f:V->Option α}{g:α->V}(h:∀a,f (g a)=some a)(l:List α):allOf f (l.map g)=some l:=by
 induction l with
 |nil=>rfl
 |cons x l ih =>
  show(f (g x)).bind (fun a=>(allOf f (l.map g)).bind _) = _
  rw [h,ih];rfl
theorem pS(l:List Int):intsOf (l.map V.int)=some l:=yK (g:=V.int) (fun _=>rfl) l
theorem yL(l:List (List UInt8)):tH (l.map V.bytes)=some l:=yK (g:=V.bytes) (fun _=>rfl) l
theorem filter_tt{α:Type}(l:List α):l.filter (fun _=>true)=l:=List.filter_eq_self.mpr fun _ _=>rfl
theorem J1{H:AH}{n:Nat}{ns:List Int}(hl:lst H n=some (ns.map V.int)):Dh [.ref n] H = .ok (.int ns.sum) H:=by
 show cC ((lst H n).bind intsOf) _ = _
 rw [hl]
 show cC (intsOf _) _ = _
 rw [pS];rfl
noncomputable def q9(r:List UInt8):Int:=2+max 4 (r.length:Int)
theorem cost{H:AH}{r:List UInt8}(h:r.length<=16777216):vR [.bytes r] H = .ok (.int (q9 r)) H:=vf 1 0 Qg [.bytes r] H rfl (nW h) rfl rfl
noncomputable def fV(raws:List (List UInt8)):List Int:=raws.map q9
noncomputable def NU(v:V):List UInt8:=(WT v).getD []
theorem total{H:AH}{n:Nat}{raws:List (List UInt8)}(hl:lst H n=some (raws.map V.bytes))(h:raws.length<=1000)(hs:∀r∈raws,r.length<=16777216) :
  uz [.ref n] H = .ok (.int (fV raws).sum) (H++[.list ((fV raws).map V.int)]):=by
 have c:=J0 (ρ:=[.ref n]) (cap:=none) (a:=ai 0) (bO:=[]) (jL:=r6 true) (el:=aF vR (af (ai 0) aC)) (p:=fun _=>true) (g:=fun v => .int (q9 (NU v))) rfl rfl hl (by rw [List.length_map];exact Nat.le_trans h (by decide)) (fun _ _=>rfl) (fun v hv _=>by
  obtain⟨r,hr,rfl⟩:=List.mem_map.mp hv
  exact y_call rfl (cost (hs r hr)))
 rw [filter_tt,List.map_map,show(fun v=>V.int (q9 (NU v)))∘V.bytes=V.int∘q9 from rfl,<- List.map_map]at c
 exact vf 1 0 Mw [.ref n] H rfl c (J1 aK)
noncomputable def pad(r:List UInt8):List UInt8:=r++List.replicate (4 - r.length) 0
theorem Fj{r:List UInt8}:((pad r).length:Int)=max 4 (r.length:Int):=by
 unfold pad;rw [List.length_append,List.length_replicate];lia
noncomputable def Ao(z:Int):List UInt8:=[(z / 256).toNat.toUInt8,(z % 256).toNat.toUInt8]
noncomputable def rh:Int->List (List UInt8)->List (List UInt8)
 |_,[]=>[]
 |z,r::rs=>Ao (z - (pad r).length)::rh (z - (pad r).length) rs
noncomputable def endAt:Int->List (List UInt8)->Int
 |z,[]=>z
 |z,r::rs=>endAt (z - (pad r).length) rs
theorem wy{z:Int}{rs:List (List UInt8)}:endAt z rs<=z:=by
 induction rs generalizing z with
 |nil=>exact Int.le_refl _
 |cons r rs ih=>exact Int.le_trans ih (Int.sub_le_self z (Int.natCast_nonneg _))
noncomputable def Fk:TS:=(.aA (.set 9 (.bin aS (.var 8) (.call bJ (.cons (.call zE (.cons (.con (.int 0)) (.cons (.bin eH (.con (.int 4)) (.call bT (.cons (.var 8) .nil))) .nil))) .nil)))) (.aA (.set 7 (.bin eH (.var 7) (.call bT (.cons (.var 9) .nil)))) (.aA (.expr (.fk iU aY (.var 5) (.cons (.fk Pf iV (.var 7) (.cons (.con (.int 2)) (.cons (.con (.str (Str.ofString "big"))) .nil))) .nil))) (.aA (.expr (.fk iU aY (.var 6) (.cons (.var 9) .nil))) .aL))))
noncomputable def Fl:SF:=Fk.f
theorem Cc{H Y:AH}{o:AO}{vs:List V}:lst (H++o :: .list vs::Y) (H.length+1)=some vs:=by
 unfold lst;rw [List.getElem?_append_right (Nat.le_add_right _ 1),Nat.add_sub_cancel_left];rfl
theorem Oz{H Y:AH}{o x y:AO}:(H++o::x::Y).set (H.length+1) y=H++o::y::Y:=by rw [List.set_append_right (h:=Nat.le_add_right _ 1),Nat.add_sub_cancel_left];rfl
theorem rj{H:AH}{o:AO}{vs:List V}:lst (H++[o,.list vs]) (H.length+1)=some vs:=Cc
theorem MM{H:AH}{o x y:AO}:(H++[o,x]).set (H.length+1) y=H++[o,y]:=Oz
theorem Tr{n:Nat}:max 0 (4 - (n:Int))=((4 - n:Nat):Int):=by lia
theorem J2{z m:Int}{n:Nat}(h1:z<=m):z - n<=m:=Int.le_trans (Int.sub_le_self z (Int.natCast_nonneg n)) h1
theorem zeros{H:AH}{n:Nat}(h:n<=16777216):bJ [.int n] H = .ok (.bytes (List.replicate n 0)) H:=if_pos ⟨Int.natCast_nonneg _,Int.ofNat_le.mpr h⟩
theorem ff{H:AH}{a b:List UInt8}(h:a.length+b.length<=16777216):aS (.bytes a) (.bytes b) H = .ok (.bytes (a++b)) H:=if_pos h
theorem D0{H:AH}{z:Int}(h0:0<=z)(h1:z<65536):iV [.int z,.int 2,.str (Str.ofString "big")] H = .ok (.bytes (Ao z)) H :=
 if_pos (c:=(2:Int)=2/\0<=z/\z<65536/\Str.ofString "big" = Str.ofString "big") ⟨rfl,h0,h1,rfl⟩
theorem Tt{K:AH}{pt ce:List V}{a b c d e u1 u2 o9:V}{r:List UInt8}{z:Int}(hr:r.length<=1000)(h0:0<=z - (pad r).length)(h1:z<=128)(hp:pt.length<=1000)(hc:ce.length<=1000) :
  Fl [a,b,c,d,e,.ref K.length,.ref (K.length+1),.int z,.bytes r,o9,u1,u2] (K++[.list pt,.list ce]) = .next [a,b,c,d,e,.ref K.length,.ref (K.length+1),.int (z - (pad r).length),.bytes r,.bytes (pad r),u1,u2] (K++[.list (pt++[.bytes (Ao (z - (pad r).length))]),.list (ce++[.bytes (pad r)])]):=by
 have HK:r.length+(List.replicate (4 - r.length) (0:UInt8)).length<=16777216:=by rw [List.length_replicate];exact Nat.le_trans (Nat.add_le_add hr (Nat.sub_le 4 _)) (by decide)
 have kb(H:AH):bJ [.int (max 0 (4 - (r.length:Int)))] H = .ok (.bytes (List.replicate (4 - r.length) 0)) H:=by rw [Tr];exact zeros (Nat.le_trans (Nat.sub_le 4 _) (by decide))
 have l2(H:AH):bT [.bytes (pad r)] H = .ok (.int (pad r).length) H:=nW (by rw [pad,List.length_append];exact HK)
 have a2(p:List V):aY [.ref (K.length+1),.bytes (pad r)] (K++[.list p,.list ce]) = .ok .none (K++[.list p,.list (ce++[.bytes (pad r)])]):=(append_at rj (Nat.le_trans hc (by decide))).trans (by rw [MM])
 exact dS (ρ:=[a,b,c,d,e,.ref (List.length K),.ref (List.length K+1),.int z,.bytes r,o9,u1,u2]) (H:=K++[AO.list pt,AO.list ce]) Fk (nW (Nat.le_trans hr (by decide))) rfl rfl (kb _) (ff HK) (l2 _) rfl (eO aK) rfl (D0 h0 (Int.lt_of_le_of_lt (J2 h1) (by decide)))
  (pP (Nat.le_trans hp (by decide))) (eO rj) (a2 _)
theorem Tu{K:AH}{n:Nat}{raws:List (List UInt8)}{a b c d e u1 u2:V}(hl:lst K n=some (raws.map V.bytes))(hf:raws.length<=900)(hs:∀r∈raws,r.length<=1000) :
  ∀(q k:Nat)(pt ce:List V)(z:Int)(o8 o9:V),k+q=raws.length->0<=endAt z (raws.drop k)->z<=128->pt.length<=k->ce.length<=k →
  ∃p8 p9,forL 8 n Fl (q+1) k [a,b,c,d,e,.ref K.length,.ref (K.length+1),.int z,o8,o9,u1,u2] (K++[.list pt,.list ce]) = .next [a,b,c,d,e,.ref K.length,.ref (K.length+1),.int (endAt z (raws.drop k)),p8,p9,u1,u2] (K++[.list (pt++(rh z (raws.drop k)).map V.bytes),.list (ce++(raws.drop k).map fun r=>V.bytes (pad r))]):=by
 intro q
 induction q with
 |zero =>
  intro k pt ce z o8 o9 hk _ _ _ _
  have hk:=Nat.le_of_eq hk.symm
  rw [List.drop_eq_nil_of_le (i:=k) hk]
  exact⟨o8,o9,(U8 (cP hl) (List.getElem?_eq_none (by rw [List.length_map];exact hk))).trans (by show _ = RS.next _ (K++[.list (pt++[]),.list (ce++[])]);rw [List.append_nil,List.append_nil];rfl)⟩
 |succ q ih =>
  intro k pt ce z o8 o9 hk h0 h1 h2 h3
  have hk':=(Nat.succ_add_eq_add_succ k q).trans hk
  have c1:k<raws.length:=Nat.le.intro hk'
  have k9:k<=1000:=Nat.le_trans (Nat.le_of_lt c1) (Nat.le_trans hf (by decide))
  rw [List.drop_eq_getElem_cons c1]at h0 ⊢
  have T:=Tt (K:=K) (pt:=pt) (ce:=ce) (a:=a) (b:=b) (c:=c) (d:=d) (e:=e) (u1:=u1) (u2:=u2) (o9:=o9) (r:=raws[k]) (z:=z) (hs _ (List.getElem_mem _)) (Int.le_trans h0 wy) h1 (Nat.le_trans h2 k9) (Nat.le_trans h3 k9)
  obtain⟨p8,p9,r⟩:=ih (k+1) (pt++[.bytes (Ao (z - (pad raws[k]).length))]) (ce++[.bytes (pad raws[k])]) (z - (pad raws[k]).length) (.bytes raws[k]) (.bytes (pad raws[k])) hk' h0 (J2 h1) (by rw [List.length_append];exact Nat.succ_le_succ h2) (by rw [List.length_append];exact Nat.succ_le_succ h3)
  exact⟨p8,p9,(U7 (cP hl) (by rw [List.getElem?_map,List.getElem?_eq_getElem c1];rfl) T).trans (r.trans (by rw [List.append_assoc,List.append_assoc];rfl))⟩
theorem Qy{H X:AH}{b:List UInt8}:lst (H ++ .ba b::X) H.length=none:=qH uA
theorem J3{H:AH}{b:List UInt8}{i x:Int}(h0:0<=i)(h1:i<b.length)(hb:b.length<=100)(x0:0<=x)(x1:x<256):Bq (.int x) (.ref H.length) (.int i) (H++[.ba b]) = .ok () (H++[.ba (b.set i.toNat x.toNat.toUInt8)]):=by
 show(lst (H++[.ba b]) H.length).elim _ _ = _
 rw [Qy,Option.elim_none,uA]
 exact(if_pos ⟨h0,h1,Nat.le_trans hb (by decide),x0,x1⟩).trans (by rw [gb])
theorem Fo{H:AH}{b:List UInt8}{i x:Int}(h0:0<=i)(h1:i+1<b.length)(hb:b.length<=100)(x0:0<=x)(x1:x<65536) :
  jv [.ref H.length,.int i,.int x] (H++[.ba b]) = .ok .none (H++[.ba ((b.set i.toNat (x / 256).toNat.toUInt8).set (i+1).toNat (x % 256).toNat.toUInt8)]) :=
 vf 3 0 G9 [.ref (List.length H),.int i,.int x] (H++[AO.ba b]) rfl (qJ (by decide)) (J3 h0 (Int.lt_trans (Int.lt_succ i) h1) hb (Int.ediv_nonneg x0 (by decide)) (Int.ediv_lt_of_lt_mul (by decide) x1))
  (nh (by decide)) rfl (J3 (Int.le_add_one h0) (by rw [List.length_set];exact h1) (by rw [List.length_set];exact hb) (Int.emod_nonneg x (by decide)) (Int.emod_lt_of_pos x (by decide)))
noncomputable def OA(z:Int):List UInt8:=Ao (z / 65536)++Ao (z % 65536)
theorem J4{H:AH}{x:Int}(x0:0<=x)(x1:x<4294967296):l8 [.ref H.length,.int 0,.int x] (H++[.ba [0,0,0,0]]) = .ok .none (H++[.ba (OA x)]) :=
 vf 3 0 DN [.ref (List.length H),.int 0,.int x] (H++[AO.ba [0,0,0,0]]) rfl (qJ (by decide)) (Fo (by decide) (show(0:Int)+1<4 by decide) (show 4<=100 by decide) (Int.ediv_nonneg x0 (by decide)) (Int.ediv_lt_of_lt_mul (by decide) x1)) rfl
  (nh (by decide)) (Fo (by decide) (show(2:Int)+1<4 by decide) (show 4<=100 by decide) (Int.emod_nonneg x (by decide)) (Int.emod_lt_of_pos x (by decide)))
theorem Cd{H:AH}{x:Int}(x0:0<=x)(x1:x<4294967296):iH [.int x] H = .ok (.bytes (OA x)) (H++[.ba (OA x)]) :=
 vf 1 1 xJ [.int x] H rfl (show Pk [.int 4] H = .ok (.ref H.length) (H++[AO.ba [0,0,0,0]])from if_pos (e := .stuck) (c:=(0:Int)<4/\(4:Int)<=16777216) (by decide)) (J4 x0 x1) (B7 uA (show 4<=16777216 by decide))
theorem Fp{H:AH}{pg:Int}:jw [.int pg] H = .ok (.int (baseOf pg)) H:=by
 rw [← JP]
 cases c:(pg==1) with
 |true=>exact vf 1 0 yC [.int pg] H rfl (qI c)
 |false=>exact vf 1 0 yC [.int pg] H rfl (g7 c)
noncomputable def gf(k:Int):Int:=if (k==13 || k==10)=true then 8 else 12
theorem fits{H:AH}{st ct rl pl:Nat}{sp:V}{pg k r:Int}{raws:List (List UInt8)}(hs:dct H st=some [(.bA,.int 128),(.ay,.ref pl),(.m9,sp)])(hc:dct H ct=some [(.kind,.int k),(.raws,.ref rl),(.right,.int r)])
  (hl:lst H rl=some (raws.map V.bytes)) (hf:raws.length<=900) (hz:∀r∈raws,r.length<=1000) (hfit:(fV raws).sum<=128 - baseOf pg - gf k) :
  zX [.inst 742 st,.int pg,.inst 644 ct] H = .ok (.bool true) (H++[.list ((fV raws).map V.int)]):=by
 have t:=total hl (Nat.le_trans hf (by decide)) fun r h=>Nat.le_trans (hz r h) (by decide)
 exact vf 3 0 Qh [.inst 742 st,.int pg,.inst 644 ct] H rfl hc t (bH hc) (bH hs) (vf 3 0 DP [.int pg,.int k,.int 128] (H++[AO.list (List.map V.int (fV raws))]) rfl Fp rfl Hg rfl) (SE hfit)
noncomputable def kG(k r:Int)(raws:List (List UInt8)):List UInt8:=[k.toNat.toUInt8,0,0]++Ao raws.length++Ao (endAt 128 raws)++[0]++(if (k==13 || k==10)=true then []else OA r)
noncomputable def jb(old:List UInt8)(pg k r:Int)(raws:List (List UInt8)):List UInt8:=old.take (baseOf pg).toNat++kG k r raws++(rh 128 raws).flatten
noncomputable def uf(old:List UInt8)(pg k r:Int)(raws:List (List UInt8)):List UInt8 :=
 jb old pg k r raws++List.replicate (endAt 128 raws - (jb old pg k r raws).length).toNat 0++(raws.map pad).reverse.flatten
theorem MN{z:Int}:(Ao z).length=2:=rfl
theorem J5{z:Int}{raws:List (List UInt8)}:(rh z raws).flatten.length=2*raws.length:=by
 induction raws generalizing z with
 |nil=>rfl
 |cons r rs ih =>
  show(Ao _++(rh _ rs).flatten).length = _
  rw [List.length_append,ih]
  exact(Nat.add_comm ..).trans (Nat.mul_succ 2 _).symm
theorem yM{k r:Int}{raws:List (List UInt8)}:((kG k r raws).length:Int)=gf k:=by
 unfold kG gf
 cases (k==13 || k==10)<;>rfl
theorem wz{old:List UInt8}{pg k r:Int}{raws:List (List UInt8)}(ho:old.length=128):((jb old pg k r raws).length:Int)=baseOf pg+gf k+2*raws.length:=by
 unfold jb
 rw [List.length_append,List.length_append,List.length_take,ho,J5,Nat.min_eq_left (Int.toNat_le.mpr (Int.le_trans wg (by decide))),Int.natCast_add,Int.natCast_add,yM,Int.toNat_of_nonneg qS,Int.natCast_mul];rfl
theorem tail_cons{r:List UInt8}{rs:List (List UInt8)}:(((r::rs).map pad).reverse.flatten.length:Int)=(pad r).length+((rs.map pad).reverse.flatten.length:Int):=by
 rw [List.map_cons,List.reverse_cons,List.flatten_append,List.length_append,Int.natCast_add,Int.add_comm,List.flatten_singleton]
theorem lJ{z:Int}{raws:List (List UInt8)}:endAt z raws=z - ((raws.map pad).reverse.flatten.length:Int):=by
 induction raws generalizing z with
 |nil=>exact(Int.sub_zero z).symm
 |cons r rs ih=>rw [tail_cons,<- Int.sub_sub];exact ih
theorem Hq{r:List UInt8}:q9 r=2+(pad r).length:=by unfold q9;rw [Fj]
theorem Hr{n:Nat}{p q s:Int}(h:s=2*n+q):2+p+s=2*((n+1:Nat):Int)+(p+q):=by lia
theorem wA{raws:List (List UInt8)}:(fV raws).sum=2*raws.length+((raws.map pad).reverse.flatten.length:Int):=by
 induction raws with
 |nil=>rfl
 |cons r rs ih =>
  rw [tail_cons,fV,List.map_cons,List.sum_cons,Hq]
  exact Hr ih
theorem MO{f t:Nat}{z b h n s:Int}(e:z=128 - t)(hf:(f:Int)=b+h+2*n)(hs:s=2*n+t)(hh:s<=128 - b - h):f+(z - f).toNat+t=128:=by lia
theorem MP{f t:Nat}{z b h n s:Int}(e:z=128 - t)(hf:(f:Int)=b+h+2*n)(hs:s=2*n+t)(hh:s<=128 - b - h):0<=z - f/\z - f<=16777216:=by lia
theorem Ce{old:List UInt8}{pg k r:Int}{raws:List (List UInt8)}(ho:old.length=128)(hfit:(fV raws).sum<=128 - baseOf pg - gf k):0<=endAt 128 raws - (jb old pg k r raws).length/\endAt 128 raws - (jb old pg k r raws).length<=16777216 :=
 MP lJ (wz ho) wA hfit
theorem rA{old:List UInt8}{pg k r:Int}{raws:List (List UInt8)}(ho:old.length=128)(hfit:(fV raws).sum<=128 - baseOf pg - gf k):(uf old pg k r raws).length=128:=by
 unfold uf
 rw [List.length_append,List.length_append,List.length_replicate]
 exact MO lJ (wz ho) wA hfit
theorem D3{H:AH}{st pl:Nat}{sp:V}{aT:List (List UInt8)}{i:Nat}{b:List UInt8}(hs:dct H st=some [(.bA,.int 128),(.ay,.ref pl),(.m9,sp)])(hp:lst H pl=some (aT.map V.bytes))(h5:aT.length=5)(hi:i<5)(hb:b.length=128) :
  dH [.inst 742 st,.int (i+1:Nat),.bytes b] H = .ok .none (H.set pl (.list ((aT.set i b).map V.bytes))):=by
 have l1:bT [.bytes b] H = .ok (.int 128) H:=(nW (oT hb)).trans (by rw [hb];rfl)
 have ne:xw (.int 128) (.int 128) H = .ok (.bool false) H:=rfl
 have sv:Bq (.bytes b) (.ref pl) (.int ((i:Int)+1 - 1)) H = .ok () (H.set pl (.list ((aT.set i b).map V.bytes))):=by
  rw [Int.add_sub_cancel,List.map_set]
  show(lst H pl).elim _ _ = _
  rw [hp]
  have e:(aT.map V.bytes).length=5:=(List.length_map ..).trans h5
  exact if_pos ⟨Int.natCast_nonneg _,by rw [e];exact Int.ofNat_lt.mpr hi,by rw [e];decide⟩
 exact vf 3 0 mu [.inst 742 st,.int ↑(i+1),.bytes b] H rfl l1 hs ne (g5 JN) hs (sH hp h5) (kC (JO hi rfl)) rfl hs rfl sv
noncomputable def OB:TS:=(.aA (.set 11 (.bin aS (.bin aS (.cut (.dW 742 none cM (.var 0) (.cons (.var 1) .nil)) .no (.so (.var 4))) (.var 10)) (.fk Dg tI (.con (.bytes [])) (.cons (.var 5) .nil)))) (.aA (.expr (.fk iU jG (.var 6) .nil)) (.aA (.expr (.dW 742 none dH (.var 0) (.cons (.var 1) (.cons (.bin aS (.bin aS (.var 11) (.call bJ (.cons (.bin eH (.var 7) (.call bT (.cons (.var 11) .nil))) .nil))) (.fk Dg tI (.con (.bytes [])) (.cons (.var 6) .nil))) .nil)))) .aL)))
noncomputable def Xs:SF:=OB.f
noncomputable def Aq:TS:=(.aA (.set 10 (.bin aS (.bin aS (.bin aS (.call bJ (.cons (.list (.cons (.attr 644 .kind (.var 2)) (.cons (.con (.int 0)) (.cons (.con (.int 0)) .nil)))) .nil)) (.fk Pf iV (.call bT (.cons (.attr 644 .raws (.var 2)) .nil)) (.cons (.con (.int 2)) (.cons (.con (.str (Str.ofString "big"))) .nil)))) (.fk Pf iV (.var 7) (.cons (.con (.int 2)) (.cons (.con (.str (Str.ofString "big"))) .nil)))) (.call bJ (.cons (.con (.int 1)) .nil)))) (.aA (.ja (.not (.of (.call eY (.cons (.attr 644 .kind (.var 2)) .nil)))) (.aA (.set 10 (.bin aS (.var 10) (.call iH (.cons (.attr 644 .right (.var 2)) .nil)))) .aL) .aL) (.ej Xs)))
noncomputable def OC:SF:=Aq.f
noncomputable def V9:TS:=(.aA (.ja (.not (.of (.call zX (.cons (.var 0) (.cons (.var 1) (.cons (.var 2) .nil)))))) (.aA (.ej bZ) .aL) .aL) (.aA (.nU [3,4] (.tup (.cons (.attr 742 .bA (.var 0)) (.cons (.call jw (.cons (.var 1) .nil)) .nil)))) (.aA (.nU [5,6,7] (.tup (.cons (.list .nil) (.cons (.list .nil) (.cons (.var 3) .nil))))) (.aA (.ej (lF 8 (b8 644 .raws (ai 2)) Fl)) (.ej OC)))))
theorem Fq{H:AH}{n:Nat}{bs:List (List UInt8)}(hl:lst H n=some (bs.map V.bytes))(h:bs.flatten.length<=16777216):tI [.bytes [],.ref n] H = .ok (.bytes bs.flatten) H:=by
 show cC ((lst H n).bind tH) _ = _
 rw [hl]
 show cC (tH _) _ = _
 rw [yL];exact if_pos (by rw [← List.length_flatten];exact h)
theorem J6{H:AH}{n:Nat}{vs:List V}(h:lst H n=some vs):bar H n=none:=by
 unfold bar;rw [fh h];rfl
theorem iF{H:AH}{n:Nat}{ns:List Int}(hl:lst H n=some (ns.map V.int))(hz:ns.length<=16777216)(h:∀n∈ns,0<=n/\n<256):bJ [.ref n] H = .ok (.bytes (ns.map fun n=>n.toNat.toUInt8)) H:=by
 show(bar H n).elim (cC ((lst H n).bind intsOf) _) _ = _
 rw [J6 hl,Option.elim_none,hl]
 show cC (intsOf _) _ = _
 rw [pS];exact if_pos ⟨hz,List.all_eq_true.mpr fun n hn=>decide_eq_true (h n hn)⟩
structure Kp(xs:List Nat)(H H':AH):Prop where
 at_:∀n o,n∉xs->H[n]? = some o->H'[n]? = some o
 len:H.length<=H'.length
theorem ed{n:Nat}:n∉([]:List Nat):=List.not_mem_nil
theorem gE{n a:Nat}(h:n≠a):n∉[a]:=fun q=>h (List.mem_singleton.mp q)
theorem Lw{n a:Nat}{xs:List Nat}(h:n≠a)(g:n∉xs):n∉a::xs:=fun q=>(List.mem_cons.mp q).elim h g
theorem Kp.refl{xs:List Nat}{H:AH}:Kp xs H H:=⟨fun _ _ _ h=>h,Nat.le_refl _⟩
theorem Kp.trans{xs:List Nat}{H H₁ H₂:AH}(a:Kp xs H H₁)(b:Kp xs H₁ H₂):Kp xs H H₂:=⟨fun n o h e=>b.at_ n o h (a.at_ n o h e),Nat.le_trans a.len b.len⟩
theorem Kp.mono{xs ys:List Nat}{H H':AH}(a:Kp xs H H')(h:∀x∈xs,x∈ys):Kp ys H H':=⟨fun n o hn e=>a.at_ n o (fun q=>hn (h n q)) e,a.len⟩
theorem Kp.up{ys:List Nat}{H H':AH}(a:Kp [] H H'):Kp ys H H':=a.mono fun _ h=>absurd h ed
theorem Kp.hd{x:Nat}{ys:List Nat}{H H':AH}(a:Kp [x] H H'):Kp (x::ys) H H':=a.mono fun _ h=>List.mem_singleton.mp h▸List.mem_cons_self
theorem Kp.tl{x:Nat}{xs:List Nat}{H H':AH}(a:Kp xs H H'):Kp (x::xs) H H':=a.mono fun _ h=>List.mem_cons_of_mem _ h
theorem Kp.app{xs:List Nat}{H X:AH}:Kp xs H (H++X):=⟨fun _ _ _ h=>vU h,by rw [List.length_append];exact Nat.le_add_right _ _⟩
theorem Kp.set{H:AH}{n:Nat}{x:AO}:Kp [n] H (H.set n x):=⟨fun m o hm h=>by
 rw [List.getElem?_set_ne fun e=>hm (List.mem_singleton.mpr e.symm)];exact h,Nat.le_of_eq (List.length_set ..).symm⟩
theorem Kp.lst{xs:List Nat}{H H':AH}(a:Kp xs H H'){n:Nat}{vs:List V}(hn:n∉xs)(h:lst H n=some vs):lst H' n=some vs:=by
 unfold Mine.lst;rw [a.at_ n _ hn (fh h)];rfl
theorem Kp.dct{xs:List Nat}{H H':AH}(a:Kp xs H H'){n:Nat}{vs:List (Fd×V)}(hn:n∉xs)(h:dct H n=some vs):dct H' n=some vs:=by
 unfold Mine.dct;rw [a.at_ n _ hn (iG h)];rfl
theorem Kp.bar{xs:List Nat}{H H':AH}(a:Kp xs H H'){n:Nat}{vs:List UInt8}(hn:n∉xs)(h:bar H n=some vs):bar H' n=some vs:=by
 unfold Mine.bar;rw [a.at_ n _ hn (j9 h)];rfl
theorem Kp.drop{xs:List Nat}{H H':AH}{n:Nat}(a:Kp (n::xs) H H')(h:H.length<=n):Kp xs H H':=⟨fun m o hm e=>a.at_ m o (Lw (Nat.ne_of_lt (Nat.lt_of_lt_of_le (List.getElem?_eq_some_iff.mp e).1 h)) hm) e,a.len⟩
theorem gq{H:AH}{n:Nat}{vs ws:List V}(h:lst H n=some vs):lst (H.set n (.list ws)) n=some ws:=by
 unfold lst;rw [List.getElem?_set_self (mq h)];rfl
theorem nX{H:AH}{n p:Nat}{fs:List (Fd×V)}{vs:List V}(h:dct H n=some fs)(h':lst H p=some vs):n≠p:=fun e=>AO.noConfusion (Option.some.inj ((iG h).symm.trans (e▸fh h')))
theorem Qz{H:AH}{b:List UInt8}{hi:Option Int}(h:b.length<=16777216):zC none hi (.bytes b) H = .ok (.bytes (fD b none hi)) H:=if_pos h
theorem J7{b:List UInt8}{pg:Int}(h:b.length=128):fD b none (some (baseOf pg))=b.take (baseOf pg).toNat:=by
 unfold fD
 rw [Option.elim_none,Option.elim_some,uE qS (Int.le_of_lt (Ah h))];rfl
theorem Ar{H:AH}{n:Int}(h:0<=n/\n<=16777216):bJ [.int n] H = .ok (.bytes (List.replicate n.toNat 0)) H:=if_pos h
theorem J8{H:AH}{n:Nat}{vs:List V}(h:lst H n=some vs)(hz:vs.length<=16777214):jG [.ref n] H = .ok .none (H.set n (.list vs.reverse)):=by
 show cC (lst H n) _ = _
 rw [h];exact if_pos hz
theorem mH{α:Type}{a b:List α}{n:Nat}(h:(a++b).length<=n):a.length+b.length<=n:=by rw [← List.length_append];exact h
theorem oF{α:Type}{a b:List α}{n:Nat}(h:(a++b).length<=n):a.length<=n:=Nat.le_trans (Nat.le_add_right _ _) (mH h)
theorem Ft{α:Type}{a b:List α}{n:Nat}(h:(a++b).length<=n):b.length<=n:=Nat.le_trans (Nat.le_add_left _ _) (mH h)
structure CW(H:AH)(st pl:Nat)(sp:V)(aT:List (List UInt8)):Prop where
 hs:dct H st=some [(.bA,.int 128),(.ay,.ref pl),(.m9,sp)]
 hp:lst H pl=some (aT.map V.bytes)
 h5:aT.length=5
 hlen:∀b∈aT,b.length=128
theorem CW.kp{xs:List Nat}{H H':AH}{st pl:Nat}{sp:V}{aT:List (List UInt8)}(S:CW H st pl sp aT)(k:Kp xs H H')(h1:st∉xs)(h2:pl∉xs):CW H' st pl sp aT:=⟨k.dct h1 S.hs,k.lst h2 S.hp,S.h5,S.hlen⟩
theorem CW.at_{H:AH}{st pl:Nat}{sp:V}{aT:List (List UInt8)}(S:CW H st pl sp aT):bR H st aT:=⟨pl,sp,S.hs,S.hp,S.hlen,S.h5⟩
inductive Wt(xs:List Nat)(H:AH)(pl:Nat)(vs:List V)(q:RS):Prop
 |mk (H':AH) (ρ:List V) (e:q = .next ρ H') (k:Kp xs H H') (l:lst H' pl=some vs)
theorem J9{H:AH}{st pl pt ce i:Nat}{sp p8 p9 c:V}{k r:Int}{aT raws:List (List UInt8)}{old:List UInt8}(S:CW H st pl sp aT)(ho:aT[i]? = some old)
  (hf:raws.length<=900) (hfit:(fV raws).sum<=128 - baseOf (i+1:Nat) - gf k)
  (U9:lst H pt=some ((rh 128 raws).map V.bytes)) (hce:lst H ce=some (raws.map fun r=>V.bytes (pad r))) (n1:pl≠ce) :
  Wt [ce,pl] H pl ((aT.set i (uf old (i+1:Nat) k r raws)).map V.bytes) (Xs [.inst 742 st,.int (i+1:Nat),c,.int 128,.int (baseOf (i+1:Nat)),.ref pt,.ref ce,.int (endAt 128 raws),p8,p9,.bytes (kG k r raws),.undef] H):=by
 have hold:=S.hlen old (List.mem_of_getElem? ho)
 have ll:=rA (r:=r) hold hfit
 have L1:(jb old (i+1:Nat) k r raws++List.replicate (endAt 128 raws - (jb old (i+1:Nat) k r raws).length).toNat 0++(raws.map pad).reverse.flatten).length<=16777216:=oT ll
 have L2:(old.take (baseOf (i+1:Nat)).toNat++kG k r raws++(rh 128 raws).flatten).length<=16777216:=oF (oF L1)
 have ct:=Qz (H:=H) (hi:=some (baseOf (i+1:Nat))) (oT hold)
 rw [J7 hold]at ct
 have a2:aS (.bytes (old.take (baseOf (i+1:Nat)).toNat++kG k r raws)) (.bytes (rh 128 raws).flatten) H = .ok (.bytes (jb old (i+1:Nat) k r raws)) H:=ff (mH L2)
 have S1:=S.kp (Kp.set (n:=ce) (x := .list (raws.map fun r=>V.bytes (pad r)).reverse)) (gE (nX S.hs hce)) (gE n1)
 have Wa:lst (H.set ce (.list (raws.map fun r=>V.bytes (pad r)).reverse)) ce=some ((raws.map pad).reverse.map V.bytes):=(gq hce).trans (by rw [List.map_reverse,List.map_map];rfl)
 exact⟨_,_,dS (ρ:=[.inst 742 st,.int (i+1:Nat),c,.int 128,.int (baseOf (i+1:Nat)),.ref pt,.ref ce,.int (endAt 128 raws),p8,p9,.bytes (kG k r raws),.undef]) (H:=H) OB S.hs (yI S.at_ ho) ct (ff (mH (oF L2))) rfl (Fq U9 (Ft L2)) a2 (eO hce)
   (J8 hce (by rw [List.length_map];exact Nat.le_trans hf (by decide))) S1.hs (nW (oF (oF L1))) rfl (Ar (Ce hold hfit)) (ff (mH (oF L1))) rfl (Fq Wa (Ft L1)) (ff (mH L1)) (D3 S1.hs S1.hp S.h5 (S.h5▸(List.getElem?_eq_some_iff.mp ho).1) ll),
  Kp.set.hd.trans Kp.set.tl,gq S1.hp⟩
noncomputable abbrev hd0(k:Int)(raws:List (List UInt8)):List UInt8:=[k.toNat.toUInt8,0,0]++Ao raws.length++Ao (endAt 128 raws)++[0]
theorem MQ{k r:Int}{raws:List (List UInt8)}(h:(k==13 || k==10)=true):kG k r raws=hd0 k raws:=by rw [kG,if_pos h,List.append_nil]
theorem Fv{k r:Int}{raws:List (List UInt8)}(h:(k==13 || k==10)=false):kG k r raws=hd0 k raws++OA r:=by rw [kG,h];rfl
theorem Cf{raws:List (List UInt8)}{old:List UInt8}{pg k:Int}(ho:old.length=128)(hfit:(fV raws).sum<=128 - baseOf pg - gf k):0<=endAt 128 raws:=Int.le_trans (Int.natCast_nonneg _) (Int.sub_nonneg.mp (Ce (r:=0) ho hfit).1)
theorem Ka{H:AH}{st ct rl pl pt ce i:Nat}{sp p8 p9:V}{k r:Int}{aT raws:List (List UInt8)}{old:List UInt8}(S:CW H st pl sp aT)(ho:aT[i]? = some old)
  (hc:dct H ct=some [(.kind,.int k),(.raws,.ref rl),(.right,.int r)]) (hl:lst H rl=some (raws.map V.bytes)) (hf:raws.length<=900)
  (hk:0<=k/\k<256) (hr:0<=r/\r<4294967296) (hfit:(fV raws).sum<=128 - baseOf (i+1:Nat) - gf k)
  (U9:lst H pt=some ((rh 128 raws).map V.bytes)) (hce:lst H ce=some (raws.map fun r=>V.bytes (pad r))) (n1:pl≠ce) :
  Wt [ce,pl] H pl ((aT.set i (uf old (i+1:Nat) k r raws)).map V.bytes) (OC [.inst 742 st,.int (i+1:Nat),.inst 644 ct,.int 128,.int (baseOf (i+1:Nat)),.ref pt,.ref ce,.int (endAt 128 raws),p8,p9,.undef,.undef] H):=by
 have hold:=S.hlen old (List.mem_of_getElem? ho)
 have k1:Kp [] H (H++[.list [.int k,.int 0,.int 0]]) := .app
 have b1:bJ [.ref H.length] (H++[.list [.int k,.int 0,.int 0]]) = .ok (.bytes [k.toNat.toUInt8,0,0]) (H++[.list [.int k,.int 0,.int 0]]) :=
  iF (ns:=[k,0,0]) aK (show 3<=16777216 by decide) (List.forall_mem_cons.mpr ⟨hk,by decide⟩)
 have Wb:=fu (k1.lst ed hl) (by rw [List.length_map];exact Nat.le_trans hf (by decide))
 rw [List.length_map]at Wb
 have t1:=D0 (H:=H++[.list [.int k,.int 0,.int 0]]) (Int.natCast_nonneg raws.length) (Int.ofNat_lt.mpr (Nat.lt_of_le_of_lt hf (by decide)))
 have t2:=D0 (H:=H++[.list [.int k,.int 0,.int 0]]) (Cf hold hfit) (Int.lt_of_le_of_lt wy (by decide))
 have il:=Ag (H:=H++[.list [.int k,.int 0,.int 0]]) (k:=k)
 cases Va:(k==13 || k==10) with
 |false =>
  rw [Va]at il
  have k2:Kp [] H (H++[.list [.int k,.int 0,.int 0]]++[.ba (OA r)]):=k1.trans .app
  obtain⟨H',ρ,w1,w2,w3⟩:=J9 (p8:=p8) (p9:=p9) (c := .inst 644 ct) (k:=k) (r:=r) (S.kp k2 ed ed) ho hf hfit (k2.lst ed U9) (k2.lst ed hce) n1
  rw [Fv Va]at w1
  exact⟨H',ρ,(dS (ρ:=[.inst 742 st,.int (i+1:Nat),.inst 644 ct,.int 128,.int (baseOf (i+1:Nat)),.ref pt,.ref ce,.int (endAt 128 raws),p8,p9,.undef,.undef]) (H:=H) Aq hc b1 (k1.dct ed hc) Wb rfl t1 (ff (show 3+2<=16777216 by decide)) rfl t2 (ff (show 3+2+2<=16777216 by decide)) (Ar (by decide)) (ff (show 3+2+2+1<=16777216 by decide)) (k1.dct ed hc) il (k1.dct ed hc) (Cd hr.1 hr.2) (ff (show 3+2+2+1+4<=16777216 by decide)) w1),k2.up.trans w2,w3⟩
 |true =>
  rw [Va]at il
  obtain⟨H',ρ,w1,w2,w3⟩:=J9 (p8:=p8) (p9:=p9) (c := .inst 644 ct) (k:=k) (r:=r) (S.kp k1 ed ed) ho hf hfit (k1.lst ed U9) (k1.lst ed hce) n1
  rw [MQ Va]at w1
  exact⟨H',ρ,(dS (ρ:=[.inst 742 st,.int (i+1:Nat),.inst 644 ct,.int 128,.int (baseOf (i+1:Nat)),.ref pt,.ref ce,.int (endAt 128 raws),p8,p9,.undef,.undef]) (H:=H) Aq hc b1 (k1.dct ed hc) Wb rfl t1 (ff (show 3+2<=16777216 by decide)) rfl t2 (ff (show 3+2+2<=16777216 by decide)) (Ar (by decide)) (ff (show 3+2+2+1<=16777216 by decide)) (k1.dct ed hc) il w1),k1.up.trans w2,w3⟩
theorem MR{K:AH}{n ct:Nat}{k r:Int}{raws:List (List UInt8)}{a b d e:V}(hc:dct K ct=some [(.kind,.int k),(.raws,.ref n),(.right,.int r)])(hl:lst K n=some (raws.map V.bytes))(hf:raws.length<=900)(hs:∀r∈raws,r.length<=1000)(h0:0<=endAt 128 raws) :
  ∃p8 p9,lF 8 (b8 644 .raws (ai 2)) Fl [a,b,.inst 644 ct,d,e,.ref K.length,.ref (K++[AO.list []]).length,.int 128,.undef,.undef,.undef,.undef] (K++[AO.list []]++[AO.list []]) =
   .next [a,b,.inst 644 ct,d,e,.ref K.length,.ref (K.length+1),.int (endAt 128 raws),p8,p9,.undef,.undef] (K++[.list ((rh 128 raws).map V.bytes),.list (raws.map fun r=>V.bytes (pad r))]):=by
 rw [List.length_append,List.append_assoc]
 obtain⟨p8,p9,lp⟩:=Tu (a:=a) (b:=b) (c := .inst 644 ct) (d:=d) (e:=e) (u1 := .undef) (u2 := .undef) hl hf hs raws.length 0 [] [] 128 .undef .undef (Nat.zero_add _) h0 (by decide) (by decide) (by decide)
 refine⟨p8,p9,(qX (DL (Sq rfl fun e=>V.noConfusion e) (bH hc) rfl fun e=>V.noConfusion e) (cP hl)).trans ?_⟩
 rw [List.length_map];exact lp
theorem pA{H:AH}{st ct rl pl i:Nat}{sp:V}{k r:Int}{aT raws:List (List UInt8)}{old:List UInt8}
  (hs:dct H st=some [(.bA,.int 128),(.ay,.ref pl),(.m9,sp)]) (hp:lst H pl=some (aT.map V.bytes)) (h5:aT.length=5) (hlen:∀b∈aT,b.length=128) (ho:aT[i]? = some old)
  (hc:dct H ct=some [(.kind,.int k),(.raws,.ref rl),(.right,.int r)]) (hl:lst H rl=some (raws.map V.bytes)) (hf:raws.length<=900) (hz:∀r∈raws,r.length<=1000)
  (hk:0<=k/\k<256) (hr:0<=r/\r<4294967296) (hfit:(fV raws).sum<=128 - baseOf (i+1:Nat) - gf k) :
  ∃H',cY [.inst 742 st,.int (i+1:Nat),.inst 644 ct] H = .ok .none H'/\Kp [pl] H H'/\lst H' pl=some ((aT.set i (uf old (i+1:Nat) k r raws)).map V.bytes):=by
 have S:CW H st pl sp aT:=⟨hs,hp,h5,hlen⟩
 have hold:=hlen old (List.mem_of_getElem? ho)
 have ft:=fits hs hc hl hf hz hfit
 have k1:Kp [] H (H++[.list ((fV raws).map V.int)]) := .app
 have hc1:=k1.dct ed hc
 obtain⟨p8,p9,f⟩:=MR (a := .inst 742 st) (b := .int (i+1:Nat)) (d := .int 128) (e := .int (baseOf (i+1:Nat))) hc1 (k1.lst ed hl) hf hz (Cf hold hfit)
 have k2:Kp [] H (H++[.list ((fV raws).map V.int)]++[.list ((rh 128 raws).map V.bytes),.list (raws.map fun r=>V.bytes (pad r))]):=k1.trans .app
 have n1:pl<(H++[AO.list ((fV raws).map V.int)]).length+1:=Nat.lt_succ_of_lt (Nat.lt_of_lt_of_le (mq hp) k1.len)
 obtain⟨H',ρ,w1,w2,w3⟩:=Ka (p8:=p8) (p9:=p9) (S.kp k2 ed ed) ho (k2.dct ed hc) (k2.lst ed hl) hf hk hr hfit aK rj (Nat.ne_of_lt n1)
 refine⟨H',vf 3 9 V9 [.inst 742 st,.int ↑(i+1),.inst 644 ct] H rfl ft (k1.dct ed hs) Fp f w1,(k2.up.trans w2).drop (Nat.le_trans k1.len (Nat.le_succ _)),w3⟩
section
theorem u8{n:Nat}(h:n<256):(n.toUInt8).toNat=n:=by
 show(UInt8.ofNat n).toNat=n
 rw [UInt8.toNat_ofNat'];exact Nat.mod_eq_of_lt h
theorem Vb{z:Int}(h0:0<=z)(h1:z<256):((z.toNat.toUInt8).toNat:Int)=z:=by rw [u8 ((Int.toNat_lt h0).mpr h1),Int.toNat_of_nonneg h0]
theorem D4{a b:List UInt8}{n:Nat}:(a++b).getD (a.length+n) 0=b.getD n 0:=by rw [List.getD_eq_getElem?_getD,List.getElem?_append_right (Nat.le_add_right _ _),Nat.add_sub_cancel_left];rfl
inductive At(b:List UInt8)(z:Int)(x:List UInt8):Prop
 |mk (A R:List UInt8) (e:b=A++(x++R)) (h:(A.length:Int)=z)
theorem At.hd{b x y:List UInt8}{z:Int}:At b z (x++y)->At b z x
 |⟨A,R,e,h⟩=>⟨A,y++R,by rw [e,List.append_assoc],h⟩
theorem At.tl{b x y:List UInt8}{z:Int}:At b z (x++y)->At b (z+x.length) y
 |⟨A,R,e,h⟩=>⟨A++x,R,by rw [e,List.append_assoc,List.append_assoc],by rw [List.length_append,Int.natCast_add,h]⟩
theorem At.Rm{b x:List UInt8}{a:UInt8}{z:Int}(T:At b z (a::x)):At b (z+1) x:=T.tl (x:=[a])
theorem At.nn{b x:List UInt8}{z:Int}:At b z x->0<=z
 |⟨_,_,_,h⟩=>h▸Int.natCast_nonneg _
theorem At.HK{b x:List UInt8}{z:Int}:At b z x->z+x.length<=b.length
 |⟨A,R,e,h⟩=>by rw [e,<- h,<- Int.natCast_add,List.length_append,List.length_append];exact Int.ofNat_le.mpr (Nat.add_le_add_left (Nat.le_add_right _ _) _)
theorem At.Cg{b x:List UInt8}{a:UInt8}{z:Int}:At b z (a::x)->gz b z=(a.toNat:Int)
 |⟨A,R,e,h⟩=>by
  subst e h
  exact congrArg (fun c:UInt8=>(c.toNat:Int)) (D4 (a:=A) (n:=0))
theorem At.take{b x:List UInt8}{z:Int}:At b z x->(b.drop z.toNat).take x.length=x
 |⟨A,R,e,h⟩=>by
  subst e h
  rw [Int.toNat_natCast,List.drop_left,List.take_left]
theorem At.two{b:List UInt8}{z v:Int}(T:At b z (Ao v))(h0:0<=v)(h1:v<65536):gz b z*256+gz b (z+1)=v:=by
 rw [T.Cg,T.Rm.Cg,Vb (Int.ediv_nonneg h0 (by decide)) (Int.ediv_lt_of_lt_mul (by decide) h1),Vb (Int.emod_nonneg v (by decide)) (Int.emod_lt_of_pos v (by decide)),Int.mul_comm]
 exact Int.mul_ediv_add_emod v 256
theorem At.four{b:List UInt8}{z v:Int}(T:At b z (OA v))(h0:0<=v)(h1:v<4294967296):qV b z=v:=by
 unfold qV
 rw [T.hd.two (Int.ediv_nonneg h0 (by decide)) (Int.ediv_lt_of_lt_mul (by decide) h1),(show At b (z+2) (Ao (v % 65536))from T.tl).two (Int.emod_nonneg v (by decide)) (Int.emod_lt_of_pos v (by decide)),Int.mul_comm]
 exact Int.mul_ediv_add_emod v 65536
theorem QA{c:List UInt8}{raws:List (List UInt8)}:∀{z q q':Int}{i:Nat},At c q (rh z raws).flatten->i<raws.length->q'=q+2*i->At c q' (Ao (endAt z (raws.take (i+1)))):=by
 induction raws with
 |nil=>exact fun _ h=>absurd h (Nat.not_lt_zero _)
 |cons r rs ih =>
  intro z q q' i T h e
  cases i with
  |zero=>exact(e.trans (Int.add_zero q))▸T.hd
  |succ i=>exact ih (T.tl (x:=Ao (z - (pad r).length))) (Nat.lt_of_succ_lt_succ h) (by rw [e,MN];lia)
structure Laid(b old:List UInt8)(pg k r:Int)(raws:List (List UInt8)):Prop where
 is:b=uf old pg k r raws
 old:old.length=128
 HK:(fV raws).sum<=128 - baseOf pg - gf k
 kr:k=2\/k=5\/k=10\/k=13
 rr:0<=r/\r<4294967296
variable{b old:List UInt8}{pg k r:Int}{raws:List (List UInt8)}
theorem Laid.len(L:Laid b old pg k r raws):b.length=128:=by rw [L.is];exact rA L.old L.HK
theorem QB{k:Int}:0<=gf k:=by unfold gf;split<;>decide
theorem MS{t:Nat}{z b h n s:Int}(e:z=128 - t)(hs:s=2*n+t)(hh:s<=128 - b - h)(hb:0<=b)(h0:0<=h):b+h+2*n<=z/\z<=128/\n<=64:=by lia
theorem Laid.end_(L:Laid b old pg k r raws):baseOf pg+gf k+2*raws.length<=endAt 128 raws/\endAt 128 raws<=128/\(raws.length:Int)<=64:=MS lJ wA L.HK qS QB
theorem Laid.few(L:Laid b old pg k r raws):raws.length<128:=Int.ofNat_lt.mp (Int.lt_of_le_of_lt L.end_.2.2 (by decide))
theorem Laid.Kc(L:Laid b old pg k r raws):At b (baseOf pg) (kG k r raws++(rh 128 raws).flatten):=by
 refine⟨old.take (baseOf pg).toNat,List.replicate (endAt 128 raws - (jb old pg k r raws).length).toNat 0++(raws.map pad).reverse.flatten,?_,by rw [List.length_take,L.old,Nat.min_eq_left (Int.toNat_le.mpr (Int.le_trans wg (by decide))),Int.toNat_of_nonneg qS]⟩
 rw [L.is]
 show old.take (baseOf pg).toNat++kG k r raws++(rh 128 raws).flatten++_++_ = _
 rw [List.append_assoc,List.append_assoc (List.take _ _),List.append_assoc]
theorem Laid.Kd(L:Laid b old pg k r raws):At b (baseOf pg) (kG k r raws):=L.Kc.hd
theorem Laid.kind(L:Laid b old pg k r raws):gJ b pg=k:=by
 have q:0<=k/\k<256:=by rcases L.kr with h | h | h | h<;>rw [h]<;>decide
 exact(show At b (baseOf pg) (k.toNat.toUInt8::_)from L.Kd).Cg.trans (Vb q.1 q.2)
theorem Laid.count(L:Laid b old pg k r raws):h8 b pg=raws.length :=
 (show At b (baseOf pg+3) (Ao raws.length)from L.Kd.hd.hd.hd.tl).two (Int.natCast_nonneg _) (Int.lt_of_le_of_lt L.end_.2.2 (by decide))
theorem Laid.right(L:Laid b old pg k r raws)(hk:k=2\/k=5):Ai b pg=r:=by
 have T:=L.Kd
 rw [Fv (by rcases hk with h | h<;>rw [h]<;>rfl)]at T
 exact(show At b (baseOf pg+8) (OA r)from T.tl).four L.rr.1 L.rr.2
theorem Laid.first(L:Laid b old pg k r raws):my b pg=baseOf pg+gf k:=by
 unfold my
 rw [L.kind]
 rcases L.kr with h | h | h | h<;>rw [h]<;>rfl
theorem wB{raws:List (List UInt8)}(i:Nat):(raws.map pad).reverse.flatten=((raws.drop i).map pad).reverse.flatten++((raws.take i).map pad).reverse.flatten:=by
 have h:=List.take_append_drop i raws
 conv=>lhs;rw [← h]
 rw [List.map_append,List.reverse_append,List.flatten_append]
theorem Ke{raws:List (List UInt8)}{i:Nat}(hi:i<raws.length):((raws.take (i+1)).map pad).reverse.flatten=pad raws[i]++((raws.take i).map pad).reverse.flatten:=by
 rw [List.take_succ_eq_append_getElem hi,List.map_append,List.reverse_append,List.flatten_append];exact congrArg (· ++ _) (List.append_nil (pad raws[i]))
theorem len_sub{A X:List UInt8}{m:Nat}(h:(A++X).length=m):(A.length:Int)=m - X.length:=by rw [← h,List.length_append,Int.natCast_add,Int.add_sub_cancel]
theorem Laid.OD(L:Laid b old pg k r raws){i:Nat}(hi:i<raws.length):At b (endAt 128 (raws.take (i+1))) (pad raws[i]):=by
 have e:b=jb old pg k r raws++List.replicate (endAt 128 raws - (jb old pg k r raws).length).toNat 0++((raws.drop (i+1)).map pad).reverse.flatten++((raws.take (i+1)).map pad).reverse.flatten:=by rw [L.is,uf,wB (i+1),List.append_assoc _ _ (List.flatten _)]
 exact⟨_,_,e.trans (by rw [Ke hi]),(len_sub (e▸L.len)).trans lJ.symm⟩
theorem D5{i:Nat}:endAt 128 raws<=endAt 128 (raws.take i):=by
 rw [lJ,lJ,wB i,List.length_append]
 exact Int.sub_le_sub_left (Int.ofNat_le.mpr (Nat.le_add_left _ _)) _
theorem Laid.at_(L:Laid b old pg k r raws){i:Nat}(hi:i<raws.length):yD b pg i=endAt 128 (raws.take (i+1)):=by
 unfold yD
 rw [L.first]
 exact(QA (yM▸L.Kc.tl) hi rfl).two (L.OD hi).nn (Int.lt_of_le_of_lt wy (by decide))
theorem Laid.Tv(L:Laid b old pg k r raws){i:Nat}(hi:i<raws.length):At b (yD b pg i) (pad raws[i]):=L.at_ hi▸L.OD hi
theorem Wc{r:List UInt8}:(4:Int)<=(pad r).length:=by rw [Fj];exact Int.le_max_left _ _
theorem Laid.place(L:Laid b old pg k r raws){i:Nat}(hi:i<raws.length):kD b pg i :=
 ⟨Int.natCast_nonneg _,L.count▸Int.ofNat_lt.mpr hi,by rw [L.first,L.count,L.at_ hi];exact Int.le_trans L.end_.1 D5,Int.le_trans (Int.add_le_add_left Wc _) (L.len▸(L.Tv hi).HK)⟩
end
section
noncomputable def sJ(k:List UInt8):List UInt8:=k.length.toUInt8::k
noncomputable def four(p:Int):List UInt8:=[0,0,(p / 256).toNat.toUInt8,(p % 256).toNat.toUInt8]
theorem Kf{b key:List UInt8}{z:Int}(T:At b z (sJ key))(hk:key.length<=17):gz b z=key.length/\fU b z=key:=by
 have g:gz b z=key.length:=T.Cg.trans (congrArg Nat.cast (u8 (Nat.lt_of_le_of_lt hk (by decide))))
 exact⟨g,by unfold fU;rw [g];exact T.Rm.take⟩
variable{b old:List UInt8}{pg k r:Int}{raws:List (List UInt8)}
theorem Laid.raw(L:Laid b old pg k r raws){i:Nat}{Q:List UInt8}(hr:raws[i]? = some Q):At b (yD b pg i) Q:=by
 obtain⟨hi,he⟩:=List.getElem?_eq_some_iff.mp hr
 exact he▸(L.Tv hi).hd
theorem Laid.off(L:Laid b old pg k r raws){i:Nat}{P Q:List UInt8}(hr:raws[i]? = some (P++Q)):At b (yD b pg i+P.length) Q:=(L.raw hr).tl
theorem Laid.keys(L:Laid b old pg k r raws){off:Nat}{ks:List (List UInt8)}(hl:raws.length=ks.length)(hk:(k=10/\off=0)\/(k=2/\off=4))
  (hr:∀i(h:i<ks.length),∃pre,pre.length=off/\raws[i]? = some (pre++sJ ks[i])) (so:sortedK ks) (sm:∀k∈ks,k.length<=17):jQ b pg ks/\fq b pg=decide (k=10):=by
 have kd:=L.kind
 have lz:fq b pg=decide (k=10):=by unfold fq;rw [kd];rcases hk with⟨h,_⟩ | ⟨h,_⟩<;>rw [h]<;>rfl
 refine⟨⟨hk.imp (fun h=>kd.trans h.1) (fun h=>kd.trans h.1),L.count.trans (congrArg Nat.cast hl),fun i hi=>?_,so,hl▸L.few⟩,lz⟩
 obtain⟨pre,h1,h2⟩:=hr i hi
 have T:=L.off h2
 have pz:Aj b pg i=yD b pg i+pre.length:=by
  unfold Aj;rw [lz,h1]
  rcases hk with⟨h,o⟩ | ⟨h,o⟩<;>rw [h,o]
  ·exact(Int.add_zero _).symm
  ·rfl
 rw [← pz]at T
 have s:=sm ks[i] (List.getElem_mem hi)
 have kr:=Kf T s
 exact⟨⟨L.place (hl▸hi),by rw [kr.1];exact Int.ofNat_le.mpr s,by rw [kr.1];exact Int.le_trans T.Rm.HK (Int.ofNat_le.mpr (Nat.le_of_eq L.len))⟩,kr.2⟩
theorem Laid.kid(L:Laid b old pg k r raws){i:Nat}{p:Int}{Q:List UInt8}(hr:raws[i]? = some (four p++Q))(h0:0<=p)(h1:p<65536):qV b (yD b pg i)=p:=by
 have T:At b (yD b pg i) (0::0::Ao p):=(L.raw hr).hd
 unfold qV
 rw [T.Cg,T.Rm.Cg,(show At b (yD b pg i+2) (Ao p)from T.tl (x:=[0,0])).two h0 h1]
 exact Int.zero_add p
theorem Laid.QC(L:Laid b old pg k r raws)(hk:k=2\/k=5){ps:List Nat}{Q:Nat->List UInt8}(hp:∀i(h:i<raws.length),∃p,ps[i]? = some p/\p<65535/\raws[i]? = some (four (p+1:Nat)++Q i))(hr:∃p,ps[raws.length]? = some p/\r=(p+1:Nat)) :
  ∀i,i<=raws.length -> ∃p,ps[i]? = some p/\jP b pg i=(p+1:Nat):=by
 intro i hi
 unfold jP
 rw [L.count]
 by_cases c:i=raws.length
 ·obtain⟨p,h1,h2⟩:=hr
  rw [if_pos (congrArg Nat.cast c),L.right hk,c]
  exact⟨p,h1,h2⟩
 ·obtain⟨p,h1,h2,h3⟩:=hp i (Nat.lt_of_le_of_ne hi c)
  rw [if_neg fun e=>c (Int.ofNat_inj.mp e),L.kid h3 (Int.natCast_nonneg _) (Int.ofNat_lt.mpr (Nat.succ_lt_succ h2))]
  exact⟨p,h1,rfl⟩
end
noncomputable def lows:Nat->Int->List Int
 | 0,_=>[]
 |n+1,r=>(r % 128+128)::lows n (r / 128)
theorem wC{n:Nat}{r:Int}:(lows n r).length=n:=by
 induction n generalizing r with
 |zero=>rfl
 |succ n ih=>exact congrArg (· + 1) ih
theorem Kg{r:Int}:128<=r % 128+128/\r % 128+128<256:=⟨Int.le_add_of_nonneg_left (Int.emod_nonneg r (by decide)),Int.add_lt_add_right (Int.emod_lt_of_pos r (by decide)) 128⟩
theorem Fw{n:Nat}{r:Int}:∀x∈lows n r,0<=x/\x<256:=by
 induction n generalizing r with
 |zero=>exact fun x h=>absurd h List.not_mem_nil
 |succ n ih=>exact List.forall_mem_cons.mpr ⟨⟨Int.le_trans (by decide) Kg.1,Kg.2⟩,ih⟩
noncomputable def Ci:TS:=(.aA (.expr (.fk iU aY (.var 2) (.cons (.bin C9 (.bin qp (.var 1) (.con (.int 127))) (.con (.int 128))) .nil))) (.aA (.aug vc 1 (.con (.int 7))) .aL))
noncomputable def As:SF:=Ci.f
theorem wD{H:AH}{L:List V}{v:V}(h:L.length<=1000):aY [.ref H.length,v] (H++[.list L]) = .ok .none (H++[.list (L++[v])]):=pP (Nat.le_trans h (by decide))
theorem D6{H:AH}{a b:Int}(h:0<=b):vc (.int a) (.int b) H = .ok (.int (a / 2 ^ b.toNat)) H:=if_pos h
theorem Tw{H:AH}{r:Int}:C9 (.int (r % 128)) (.int 128) H = .ok (.int (r % 128+128)) H:=if_pos ⟨rfl,Int.emod_nonneg r (by decide),Int.emod_lt_of_pos r (by decide)⟩
theorem Kh{H:AH}{L:List V}{x t:V}{r:Int}(h:L.length<=1000):As [x,.int r,.ref H.length,t] (H++[.list L]) = .next [x,.int (r / 128),.ref H.length,t] (H++[.list (L++[.int (r % 128+128)])]) :=
 dS (ρ:=[x,.int r,.ref (List.length H),t]) (H:=H++[AO.list L]) Ci (eO aK) MA Tw (wD h) (D6 (by decide))
noncomputable def shr:Nat->Int->Int
 | 0,r=>r
 |n+1,r=>shr n (r / 128)
theorem wF{L:List V}{v:V}{n m:Nat}(h:L.length+(n+1)<=m):(L++[v]).length+n<=m:=by rw [List.length_append];exact(Nat.succ_add_eq_add_succ _ n)▸h
theorem Wd{H:AH}{x:V}:∀(n k:Nat)(r:Int)(L:List V)(t:V),L.length+n<=1000 -> ∃t',forR 3 As n k [x,.int r,.ref H.length,t] (H++[.list L]) = .next [x,.int (shr n r),.ref H.length,t'] (H++[.list (L++(lows n r).map V.int)]):=by
 intro n
 induction n with
 |zero=>exact fun k r L t _=>⟨t,by show RS.next _ _ = RS.next _ (H++[.list (L++[])]);rw [List.append_nil];rfl⟩
 |succ n ih =>
  intro k r L t h
  obtain⟨t',e⟩:=ih (k+1) (r / 128) (L++[.int (r % 128+128)]) (.int (k:Int)) (wF h)
  exact⟨t',(Qn (Kh (Nat.le_trans (Nat.le_add_right _ _) h))).trans (e.trans (by rw [List.append_assoc];rfl))⟩
noncomputable def cnt:Nat->Int->Nat
 | 0,_=>0
 |f+1,r=>if 0<r then cnt f (r / 128)+1 else 0
theorem wG{r:Int}{f:Nat}(h:r<128 ^ (f+1)):r / 128<128 ^ f:=Int.ediv_lt_of_lt_mul (by decide) h
theorem QD{H:AH}{x t:V}:∀(f:Nat)(r:Int)(L:List V),L.length+f<=1000->r<128 ^ f -> ∃r',dP (f+1) (cR (aH oR (ai 1) (ak (.int 0)))) As [x,.int r,.ref H.length,t] (H++[.list L]) = .next [x,.int r',.ref H.length,t] (H++[.list (L++(lows (cnt f r) r).map V.int)]):=by
 intro f
 induction f with
 |zero=>exact fun r L h hr=>⟨r,(U6 (xG (pq rfl rfl (kC (Int.not_lt.mpr (Int.lt_add_one_iff.mp hr)))))).trans (by show RS.next _ _ = RS.next _ (H++[.list (L++[])]);rw [List.append_nil])⟩
 |succ f ih =>
  intro r L h hr
  unfold cnt
  by_cases c:0<r
  ·rw [if_pos c]
   obtain⟨r',e⟩:=ih (r / 128) (L++[.int (r % 128+128)]) (wF h) (wG hr)
   exact⟨r',(Rl (xG (pq rfl rfl (G6 c))) (Kh (Nat.le_trans (Nat.le_add_right _ _) h))).trans (e.trans (by rw [List.append_assoc];rfl))⟩
  ·rw [if_neg c]
   exact⟨r,(U6 (xG (pq rfl rfl (kC c)))).trans (by show RS.next _ _ = RS.next _ (H++[.list (L++[])]);rw [List.append_nil])⟩
noncomputable def Lx(r:Int):List Int:=if 72057594037927936<=r then r % 256::lows 8 (r / 256)else r % 128::lows (cnt 9 (r / 128)) (r / 128)
noncomputable def OE(x:Int):List Int:=(Lx (x % 18446744073709551616)).reverse
noncomputable def vi(x:Int):List UInt8:=(OE x).map fun n=>n.toNat.toUInt8
theorem QE{f:Nat}{r:Int}:cnt f r<=f:=by
 induction f generalizing r with
 |zero=>exact Nat.le_refl _
 |succ f ih =>
  unfold cnt;split
  ·exact Nat.succ_le_succ ih
  ·exact Nat.zero_le _
theorem Fx{r:Int}:(Lx r).length<=10:=by
 unfold Lx;split
 ·exact Nat.succ_le_succ (Nat.le_trans (Nat.le_of_eq wC) (by decide))
 ·exact Nat.succ_le_succ (Nat.le_trans (Nat.le_of_eq wC) QE)
theorem wH{x:Int}:(vi x).length<=10:=by unfold vi OE;rw [List.length_map,List.length_reverse];exact Fx
theorem QF{r:Int}:∀y∈Lx r,0<=y/\y<256:=by
 unfold Lx;split
 ·exact List.forall_mem_cons.mpr ⟨⟨Int.emod_nonneg r (by decide),Int.emod_lt_of_pos r (by decide)⟩,Fw⟩
 ·exact List.forall_mem_cons.mpr ⟨⟨Int.emod_nonneg r (by decide),Int.lt_trans (Int.emod_lt_of_pos r (show(0:Int)<128 by decide)) (by decide)⟩,Fw⟩
theorem QG{x:Int}:∀y∈OE x,0<=y/\y<256:=fun y h=>QF y (List.mem_reverse.mp h)
theorem MT{H:AH}{l:List Int}(h:l.length<=10):jG [.ref H.length] (H++[.list (l.map V.int)]) = .ok .none (H++[.list (l.reverse.map V.int)]) :=
 (J8 aK (by rw [List.length_map];exact Nat.le_trans h (by decide))).trans (by rw [gb,List.map_reverse])
theorem wI{H:AH}{x:Int}:∃X,fL [.int x] H = .ok (.bytes (vi x)) (H++X):=by
 refine⟨[.list ((OE x).map V.int)],?_⟩
 have b1:=iF (H:=H++[.list ((OE x).map V.int)]) (ns:=OE x) aK (by have:=wH (x:=x);rw [vi,List.length_map]at this;exact Nat.le_trans this (by decide)) QG
 have m:iS (.int x) (.int 18446744073709551616) H = .ok (.int (x % 18446744073709551616)) H:=Jg (by decide)
 have p(K:AH):xu (.int 2) (.int 56) K = .ok (.int 72057594037927936) K:=rfl
 have rv:=MT (H:=H) (Fx (r:=x % 18446744073709551616))
 unfold OE Lx at b1
 unfold vi OE Lx
 have r1:x % 18446744073709551616<18446744073709551616:=Int.emod_lt_of_pos x (by decide)
 unfold Lx at rv
 by_cases c:72057594037927936<=x % 18446744073709551616
 ·rw [if_pos c]at rv b1 ⊢
  obtain⟨t',f⟩:=Wd (H:=H) (x := .int x) 8 0 (x % 18446744073709551616 / 256) [.int (x % 18446744073709551616 % 256)] .undef (show 1+8<=1000 by decide)
  have F:=(lI (i:=3) (b:=As) (a:=ak (.int 8)) (n:=8) rfl (by decide)).trans f
  exact vf 1 3 qM [.int x] H rfl m (p _) (SD c) (eO aK) rfl (wD (L:=[]) (by decide)) (D6 (by decide)) F (eO aK) rv b1
 ·rw [if_neg c]at rv b1 ⊢
  obtain⟨r',f⟩:=QD (H:=H) (x := .int x) (t := .undef) 9 (x % 18446744073709551616 / 128) [.int (x % 18446744073709551616 % 128)] (show 1+9<=1000 by decide) (wG (Int.lt_of_lt_of_le r1 (by decide)))
  exact vf 1 3 qM [.int x] H rfl m (p _) (Fb c) (eO aK) MA (wD (L:=[]) (by decide)) (D6 (by decide)) f (eO aK) rv b1
section
noncomputable def val:Nat->Int->Int
 | 0,_=>0
 |m+1,q=>val m (q / 128)*128+q % 128
theorem val_eq:∀{m:Nat}{q:Int},0<=q->q<128 ^ m->val m q=q:=by
 intro m
 induction m with
 |zero=>exact fun h0 h1=>Int.le_antisymm h0 (Int.lt_add_one_iff.mp h1)
 |succ m ih =>
  intro q h0 h1
  show val m (q / 128)*128+q % 128=q
  rw [ih (Int.ediv_nonneg h0 (by decide)) (wG h1),Int.mul_comm]
  exact Int.mul_ediv_add_emod q 128
theorem MU:∀{f:Nat}{q:Int},0<=q->q<128 ^ f->val (cnt f q) q=q:=by
 intro f
 induction f with
 |zero=>exact fun h0 h1=>Int.le_antisymm h0 (Int.lt_add_one_iff.mp h1)
 |succ f ih =>
  intro q h0 h1
  unfold cnt
  by_cases c:0<q
  ·rw [if_pos c]
   show val (cnt f (q / 128)) (q / 128)*128+q % 128=q
   rw [ih (Int.ediv_nonneg h0 (by decide)) (wG h1),Int.mul_comm]
   exact Int.mul_ediv_add_emod q 128
  ·rw [if_neg c];exact Int.le_antisymm h0 (Int.not_lt.mp c)
theorem Hs:∀{f k:Nat}{q:Int},q<128 ^ k->cnt f q<=k:=by
 intro f
 induction f with
 |zero=>exact fun _=>Nat.zero_le _
 |succ f ih =>
  intro k q h
  unfold cnt
  by_cases c:0<q
  ·rw [if_pos c]
   cases k with
   |zero=>exact absurd c (Int.not_lt.mpr (Int.lt_add_one_iff.mp h))
   |succ k=>exact Nat.succ_le_succ (ih (wG h))
  ·rw [if_neg c];exact Nat.zero_le _
noncomputable def MV(n:Int):UInt8:=n.toNat.toUInt8
theorem MW{b:List UInt8}{j m:Nat}{z N:Int}(hz:z<b.length)(hg:128<=gz b z)(hm:m≠8):vg b (j+1) m z N=vg b j (m+1) (z+1) (N*128+gz b z % 128):=by
 rw [Js,if_pos hz,if_neg hm,if_neg (Int.not_lt.mpr hg)]
theorem At.lt{b x:List UInt8}{a:UInt8}{z:Int}(T:At b z (a::x)):z<b.length:=Int.le_trans (Int.add_le_add_left (Int.ofNat_le.mpr (Nat.le_add_left 1 x.length)) z) T.HK
theorem Kl{b R:List UInt8}{y z:Int}(T:At b z (MV y::R))(h0:0<=y)(h1:y<256):gz b z=y:=T.Cg.trans (Vb h0 h1)
theorem snoc{y:Int}{l:List Int}:(y::l).reverse.map MV=l.reverse.map MV++[MV y]:=by rw [List.reverse_cons,List.map_append];rfl
theorem D7{b:List UInt8}{y z q:Int}{m:Nat}(T:At b z ((y::lows m q).reverse.map MV)):At b z ((lows m q).reverse.map MV)/\At b (z+m) [MV y]:=by
 rw [snoc]at T
 have U:=T.tl
 rw [List.length_map,List.length_reverse,wC]at U
 exact⟨T.hd,U⟩
theorem Fy{b:List UInt8}{z:Int}:∀{m j:Nat}{q:Int},At b z ((lows m q).reverse.map MV)->m<=8->vg b (j+m) 0 z 0=vg b j m (z+m) (val m q):=by
 intro m
 induction m with
 |zero=>intro j q _ _;show vg b j 0 z 0=vg b j 0 (z+0) 0;rw [Int.add_zero]
 |succ m ih =>
  intro j q T hm
  have U:=D7 T
  have g:=Kl U.2 (Int.le_trans (by decide) Kg.1) Kg.2
  have st:=MW (j:=j) (N:=val m (q / 128)) U.2.lt (g▸Kg.1) (Nat.ne_of_lt hm)
  rw [g,Int.add_emod_right,Int.emod_emod,Int.add_assoc]at st
  exact(congrArg (vg b · 0 z 0) (Nat.succ_add_eq_add_succ j m).symm).trans ((ih U.1 (Nat.le_of_lt hm)).trans st)
theorem Fz{b:List UInt8}{z x:Int}(T:At b z (vi x)):∃y,vg b 9 0 z 0=some (x % 18446744073709551616,y):=by
 have r0:0<=x % 18446744073709551616:=Int.emod_nonneg x (by decide)
 have r1:x % 18446744073709551616<18446744073709551616:=Int.emod_lt_of_pos x (by decide)
 have T:At b z ((Lx (x % 18446744073709551616)).reverse.map MV):=T
 generalize x % 18446744073709551616=r at *
 unfold Lx at T
 by_cases c:72057594037927936<=r
 ·rw [if_pos c]at T
  have U:=D7 T
  refine⟨z+8+1,(Fy (j:=1) U.1 (Nat.le_refl 8)).trans ?_⟩
  rw [Js,if_pos U.2.lt,if_pos rfl,Kl U.2 (Int.emod_nonneg r (by decide)) (Int.emod_lt_of_pos r (by decide)),val_eq (Int.ediv_nonneg r0 (by decide)) (Int.ediv_lt_of_lt_mul (by decide) r1),Int.mul_comm,Int.mul_ediv_add_emod];rfl
 ·rw [if_neg c]at T
  have U:=D7 T
  have h7:r / 128<128 ^ 7:=Int.ediv_lt_of_lt_mul (by decide) (Int.not_le.mp c)
  have m7:cnt 9 (r / 128)<=7:=Hs h7
  obtain⟨j,hj⟩:=Nat.le.dest m7
  have p:(0:Int)<=r % 128/\r % 128<128:=⟨Int.emod_nonneg r (by decide),Int.emod_lt_of_pos r (by decide)⟩
  have g:=Kl U.2 p.1 (Int.lt_trans p.2 (by decide))
  have e:=Fy (j:=j+2) U.1 (Nat.le_trans m7 (by decide))
  rw [show j+2+cnt 9 (r / 128)=9 by lia,Js (n:=j+1),if_pos U.2.lt,if_neg (Nat.ne_of_lt (Nat.lt_of_le_of_lt m7 (by decide))),g,if_pos p.2,MU (Int.ediv_nonneg r0 (by decide)) (Int.lt_trans h7 (by decide)),Int.emod_emod,Int.mul_comm,Int.mul_ediv_add_emod]at e
  exact⟨_,e⟩
theorem Km{x:Int}(h : -9223372036854775808<=x/\x<9223372036854775808):x=sg (x % 18446744073709551616):=by
 unfold sg;split<;>lia
noncomputable def D8(x:Int):List UInt8:=1::(vi x++[114])
variable{b old:List UInt8}{pg k r:Int}{raws:List (List UInt8)}
theorem Laid.Tz(L:Laid b old pg 13 r raws){ks:List Int}(hl:raws=ks.map D8)(so:gp ks)(sm:∀x∈ks,-9223372036854775808<=x/\x<9223372036854775808):i5 b pg ks/\fq b pg=true:=by
 have kd:=L.kind
 have hn:raws.length=ks.length:=hl▸List.length_map ..
 refine⟨⟨.inl kd,L.count.trans (congrArg Nat.cast hn),fun i hi=>?_,so,hn▸L.few⟩,by unfold fq;rw [kd];rfl⟩
 have T:=L.raw (i:=i) (Q:=1::(vi ks[i]++[114])) (by rw [hl,List.getElem?_map,List.getElem?_eq_getElem hi];rfl)
 obtain⟨y,hy⟩:=Fz T.Rm.hd
 exact⟨L.place (hn▸hi),fun h=>absurd (kd.symm.trans h) (by decide),fun _=>⟨_,_,_,y,B5 T.lt (by rw [T.Cg];decide),T.Rm.nn,hy,Km (sm ks[i] (List.getElem_mem hi))⟩⟩
theorem Laid.TA(L:Laid b old pg 5 r raws){ks:List Int}(hn:raws.length=ks.length)(hr:∀i(h:i<ks.length),∃pre,pre.length=4/\raws[i]? = some (pre++vi ks[i]))(so:gp ks)(sm:∀x∈ks,-9223372036854775808<=x/\x<9223372036854775808):i5 b pg ks/\fq b pg=false:=by
 have kd:=L.kind
 refine⟨⟨.inr kd,L.count.trans (congrArg Nat.cast hn),fun i hi=>?_,so,hn▸L.few⟩,by unfold fq;rw [kd];rfl⟩
 obtain⟨pre,h1,h2⟩:=hr i hi
 have T:=L.off h2
 rw [h1]at T
 obtain⟨y,hy⟩:=Fz T
 exact⟨L.place (hn▸hi),fun _=>⟨_,y,hy,Km (sm ks[i] (List.getElem_mem hi))⟩,fun h=>absurd (kd.symm.trans h) (by decide)⟩
end
inductive Ev{α:Type}(I:AH->Prop)(q:R α)(a:α):Prop
 |mk (H':AH) (e:q = .ok a H') (i:I H')
theorem MY{n:Nat}{vs bO:List V}{el:EF}{g:V->V}(I:AH->Prop)(hI:∀{H},I H->lst H n=some vs)(hz:vs.length<=16777214)(he:∀v∈vs,∀{H},I H->Ev I (el (v::bO) H) (g v)) :
  ∀(q k:Nat)(acc:List V){H:AH},k+q=vs.length->acc.length<=k->I H->Ev I (iX bO (r6 true) el (q+1) (.list n k) acc H) (acc++(vs.drop k).map g):=by
 intro q
 induction q with
 |zero =>
  intro k acc H hk _ hH
  rw [List.drop_eq_nil_of_le (i:=k) (Nat.le_of_eq hk.symm)]
  refine⟨H,?_,hH⟩
  show cC (Src.next (.list n k) H) _ = _
  rw [oE (hI hH),List.getElem?_eq_none (i:=k) (Nat.le_of_eq hk.symm)]
  exact congrArg (R.ok · H) (List.append_nil acc).symm
 |succ q ih =>
  intro k acc H hk ha hH
  have hk':=(Nat.succ_add_eq_add_succ k q).trans hk
  have c:k<vs.length:=Nat.le.intro hk'
  obtain⟨H1,e1,i1⟩:=he _ (List.getElem_mem c) hH
  obtain⟨H2,e2,i2⟩:=ih (k+1) (acc++[g vs[k]]) hk' (by rw [List.length_append];exact Nat.succ_le_succ ha) i1
  refine⟨H2,?_,i2⟩
  show cC (Src.next (.list n k) H) _ = _
  rw [oE (hI hH),List.getElem?_eq_getElem c,List.drop_eq_getElem_cons c]
  show HF (el (vs[k]::bO) H) _ = _
  rw [e1]
  exact(if_pos (Nat.le_trans ha (Nat.le_trans (Nat.le_of_lt c) hz))).trans (e2.trans (by rw [List.append_assoc];rfl))
theorem QH{cap:Option Nat}{ρ:List V}{a:EF}{H H0:AH}{n:Nat}{vs bO:List V}{el:EF}{g:V->V}(I:AH->Prop)(hc:Bw cap ρ=some bO)(ha:a ρ H0 = .ok (.ref n) H)(hH:I H)(hI:∀{H},I H->lst H n=some vs)(hz:vs.length<=16777214)(he:∀v∈vs,∀{H},I H->Ev I (el (v::bO) H) (g v)) :
  ∃H',I H'/\gG cap (iA a) (r6 true) el ρ H0 = .ok (.ref H'.length) (H'++[.list (vs.map g)]):=by
 obtain⟨H1,e,i⟩:=MY I hI hz he vs.length 0 [] (Nat.zero_add _) (Nat.le_refl _) hH
 refine⟨H1,i,?_⟩
 unfold gG qE iA
 rw [hc,ha]
 show((cC (lst H n) _).bind _).bind _ = _
 rw [hI hH]
 show((HF (iX bO (r6 true) el (vs.length+1) (.list n 0) [] H) .ok).bind _) = _
 rw [e];rfl
inductive TF(bO:List V)(el:EF)(I:AH->Prop)(P:V->Prop)(n k:Nat)(acc:List V)(H:AH):Prop
 |mk (ys:List V) (H':AH) (e:iX bO (r6 true) el (n+1) (.range k n) acc H = .ok (acc++ys) H') (i:I H') (l:ys.length=n) (p:∀y∈ys,P y)
theorem MZ{bO:List V}{el:EF}(I:AH->Prop){P:V->Prop}(he:∀(k:Nat) H,I H -> ∃y H',el (.int k::bO) H = .ok y H'/\I H'/\P y) :
  ∀(n k:Nat)(acc:List V)(H:AH),acc.length+n<=1000->I H->TF bO el I P n k acc H:=by
 intro n
 induction n with
 |zero=>exact fun k acc H _ hH=>⟨[],H,congrArg (R.ok · H) (List.append_nil acc).symm,hH,rfl,fun _ h=>absurd h List.not_mem_nil⟩
 |succ n ih =>
  intro k acc H ha hH
  obtain⟨y,H1,e1,i1,p1⟩:=he k H hH
  obtain⟨ys,H2,e2,i2,p2,p3⟩:=ih (k+1) (acc++[y]) H1 (wF ha) i1
  refine⟨y::ys,H2,?_,i2,congrArg (· + 1) p2,List.forall_mem_cons.mpr ⟨p1,p3⟩⟩
  show HF (el (.int k::bO) H) _ = _
  rw [e1]
  exact(if_pos (Nat.le_trans (Nat.le_add_right _ _) (Nat.le_trans ha (by decide)))).trans (e2.trans (by rw [List.append_assoc];rfl))
noncomputable def zp:List UInt8:=List.replicate 128 0
theorem wJ:zp.length=128:=List.length_replicate
noncomputable abbrev FA(a:Nat)(sp:V):AO := .dict [(.bA,.int 128),(.ay,.ref a),(.m9,sp)]
theorem extend{H:AH}{aT:List (List UInt8)}{sp:V}{Y:AH}(h:aT.length<=10) :
  dQ [.inst 742 H.length] (H++FA (H.length+1) sp :: .list (aT.map V.bytes)::Y) = .ok (.int (aT.length+1:Nat)) (H++FA (H.length+1) sp :: .list ((aT++[zp]).map V.bytes)::Y):=by
 have l:((aT++[zp]).map V.bytes).length=aT.length+1:=by rw [List.length_map,List.length_append];rfl
 have ap:aY [.ref (H.length+1),.bytes zp] (H++FA (H.length+1) sp :: .list (aT.map V.bytes)::Y) = .ok .none (H++FA (H.length+1) sp :: .list ((aT++[zp]).map V.bytes)::Y) :=
  (append_at Cc (by rw [List.length_map];exact Nat.le_trans h (by decide))).trans (by rw [Oz,List.map_append];rfl)
 have ln:=fu (H:=H++FA (H.length+1) sp :: .list ((aT++[zp]).map V.bytes)::Y) Cc (by rw [l];exact Nat.le_trans (Nat.succ_le_succ h) (by decide))
 rw [l]at ln
 exact vf 1 0 pN [.inst 742 H.length] (H++FA (H.length+1) sp :: .list (aT.map V.bytes)::Y) rfl eN (eO Cc) eN (Ar (by decide)) ap eN ln
noncomputable def Kn:TS := .aA (.expr (.dW 742 none dQ (.var 0) .nil)) .aL
theorem TG{H Y:AH}{sp:V}:∀(n k:Nat)(aT:List (List UInt8))(t:V),aT.length+n<=10 -> ∃t',forR 1 Kn.f n k [.inst 742 H.length,t] (H++FA (H.length+1) sp :: .list (aT.map V.bytes)::Y) = .next [.inst 742 H.length,t'] (H++FA (H.length+1) sp :: .list ((aT++List.replicate n zp).map V.bytes)::Y):=by
 intro n
 induction n with
 |zero=>exact fun k aT t _=>⟨t,by rw [List.replicate_zero,List.append_nil];rfl⟩
 |succ n ih =>
  intro k aT t h
  obtain⟨t',e⟩:=ih (k+1) (aT++[zp]) (.int k) (by rw [List.length_append];exact(Nat.succ_add_eq_add_succ _ n)▸h)
  have T:Kn.f [.inst 742 H.length,.int k] (H++FA (H.length+1) sp :: .list (aT.map V.bytes)::Y) = .next [.inst 742 H.length,.int k] (H++FA (H.length+1) sp :: .list ((aT++[zp]).map V.bytes)::Y):=dS (ρ:=[.inst 742 H.length,.int k]) (H:=H++FA (H.length+1) sp :: .list (aT.map V.bytes)::Y) Kn eN (extend (Nat.le_trans (Nat.le_add_right _ _) h))
  exact⟨t',(Qn T).trans (e.trans (by rw [List.append_assoc];rfl))⟩
theorem D9{H:AH}:dg 742 eF [.int 128] H = .ok (.inst 742 H.length) (H++[FA (H.length+1) (.ref (H.length+2)),.list [],.list []]):=by
 have d:=eN (H:=H) (vs:=[]) (X:=[])
 exact qW ((vf 2 0 sG [.inst 742 H.length,.int 128] (H++[AO.dict []]) rfl d (bH (bQ d)) (bH (bQ (bH (bQ d))))).trans
  (congrArg (R.ok V.none) (by rw [gb,List.append_assoc,List.length_append];simp [xy])))
theorem yN{H:AH}:kB [] H = .ok (.inst 742 H.length) (H++[FA (H.length+1) (.ref (H.length+2)),.list ((List.replicate 5 zp).map V.bytes),.list []]):=by
 obtain⟨t,f⟩:=TG (H:=H) (sp := .ref (H.length+2)) (Y:=[.list []]) 5 0 [] (.undef) (by decide)
 exact vf 0 2 B0 [] H rfl D9 f
noncomputable def We(v:V):Int:=(vInt v).getD 0
noncomputable def encL(rows:Bool)(v:V):List UInt8:=if rows=true then D8 (We v)else sJ (NU v)
noncomputable def encM(rows:Bool)(v:V):List UInt8:=if rows=true then vi (We v)else sJ (NU v)
noncomputable def rB(rows:Bool)(v:V):Prop:=if rows=true then ∃x,v = .int x else ∃k,v = .bytes k/\k.length<=10
noncomputable def QI:TX V := .ite (.of (.var 1)) (.bin aS (.bin aS (.call bJ (.cons (.list (.cons (.con (.int 1)) .nil)) .nil)) (.call fL (.cons (.var 0) .nil))) (.con (.bytes [114]))) (.bin aS (.call bJ (.cons (.list (.cons (.call bT (.cons (.var 0) .nil)) .nil)) .nil)) (.var 0))
noncomputable def EL:EF:=QI.f
theorem QJ{x:Int}:(vi x).length+1+1<=12:=Nat.add_le_add_right wH 2
theorem Cj{rows:Bool}{v:V}(g:rB rows v):(encL rows v).length<=16:=by
 cases rows with
 |false=>obtain⟨k,rfl,h⟩:=g;exact Nat.le_trans (Nat.succ_le_succ h) (by decide)
 |true =>
  obtain⟨x,rfl⟩:=g
  show(vi x++[114]).length+1<=16
  rw [List.length_append];exact Nat.le_trans QJ (by decide)
theorem Ko{rows:Bool}{v:V}(g:rB rows v):(encM rows v).length<=12:=by
 cases rows with
 |false=>obtain⟨k,rfl,h⟩:=g;exact Nat.le_trans (Nat.succ_le_succ h) (by decide)
 |true=>obtain⟨x,rfl⟩:=g;exact Nat.le_trans wH (by decide)
theorem Kq{H:AH}{z:Int}(h:0<=z/\z<256):bJ [.ref H.length] (H++[.list [.int z]]) = .ok (.bytes [z.toNat.toUInt8]) (H++[.list [.int z]]) :=
 iF (ns:=[z]) aK (show 1<=16777216 by decide) (List.forall_mem_cons.mpr ⟨h,fun _ h=>absurd h List.not_mem_nil⟩)
theorem Kr{H:AH}{k:List UInt8}(h:k.length<=10):bJ [.ref H.length] (H++[.list [.int k.length]]) = .ok (.bytes [k.length.toUInt8]) (H++[.list [.int k.length]]):=Kq ⟨Int.natCast_nonneg _,Int.ofNat_lt.mpr (Nat.lt_of_le_of_lt h (by decide))⟩
theorem FD{H:AH}{k:List UInt8}(h:k.length<=10):aS (.bytes [k.length.toUInt8]) (.bytes k) H = .ok (.bytes (sJ k)) H:=ff (Nat.le_trans (Nat.add_le_add_left h 1) (by decide))
theorem TH{rows:Bool}{v:V}{H:AH}(g:rB rows v):Ev (Kp [] H) (EL [v,.bool rows] H) (.bytes (encL rows v)):=by
 cases rows with
 |false =>
  obtain⟨k,rfl,h⟩:=g
  exact⟨_,j5 (ρ:=[.bytes k,.bool false]) (H:=H) QI (nW (Nat.le_trans h (by decide))) (Kr h) (FD h),.app⟩
 |true =>
  obtain⟨x,rfl⟩:=g
  obtain⟨X,p⟩:=wI (H:=H++[.list [.int 1]]) (x:=x)
  have a2(K:AH):aS (.bytes ([1]++vi x)) (.bytes [114]) K = .ok (.bytes (encL true (.int x))) K:=ff (by rw [List.length_append];exact Nat.le_trans (Nat.add_le_add_right (Nat.add_le_add_left wH 1) 1) (by decide))
  exact⟨_,j5 (ρ:=[.int x,.bool true]) (H:=H) QI (Kq (by decide)) p (ff (a:=[1]) (by exact Nat.le_trans (Nat.add_le_add_left wH 1) (by decide))) (a2 _),Kp.app.trans .app⟩
theorem rC{H:AH}{k r:Int}{n:Nat}:dg 644 cV [.int k,.ref n,.int r] H = .ok (.inst 644 H.length) (H++[.dict [(.kind,.int k),(.raws,.ref n),(.right,.int r)]]):=by
 have d:=eN (H:=H) (vs:=[]) (X:=[])
 exact qW ((vf 4 0 wc [.inst 644 H.length,.int k,.ref n,.int r] (H++[AO.dict []]) rfl d (bQ d) (bQ (bQ d))).trans
  (congrArg (R.ok V.none) (by rw [List.set_set,List.set_set,gb];rfl)))
inductive Ck(H:AH)(rs:List Nat)(i:Nat)(l:List V):Prop
 |mk (r:Nat) (h:rs[i]? = some r) (e:lst H r=some l)
inductive tT(H:AH)(lv:Nat)(au:List (List V)):Prop
 |mk (rs:List Nat) (h:lst H lv=some (rs.map V.ref)) (l:rs.length=au.length) (k:∀i(h:i<au.length),Ck H rs i au[i])
structure jx(H:AH)(rows:Bool)(lv mv pv:Nat)(au:List (List V))(av:List V)(ay:List Nat)(rt:Nat):Prop where
 kH:tT H lv au
 mids:lst H mv=some av
 aT:lst H pv=some ((ay++[rt]).map fun p=>V.int (p+1:Nat))
 np:ay.length=au.length
 nm:av.length+1=au.length
 few:au.length<=3
 size:∀l∈au,l.length<=3
 rD:∀l∈au,∀v∈l,rB rows v
 rE:∀v∈av,rB rows v
 oU:∀p∈ay,p<5
 rF:rt<5
 apart:ay.Nodup
 apart':rt∉ay
noncomputable def tU(n:Nat)(ay:List Nat)(rt i:Nat):Nat:=if n=1 then rt else ay.getD i 0
noncomputable def kL(rows:Bool):Int:=if rows=true then 13 else 10
noncomputable def kI(rows:Bool):Int:=if rows=true then 5 else 2
noncomputable def FE:TX V := .ite (.of (.bin iw (.call bT (.cons (.var 0) .nil)) (.con (.int 1)))) (.var 5) (.item (.var 2) (.var 6))
noncomputable def Vc(a b:Int):EF:=jD (cR (ai 3)) (ak (.int a)) (ak (.int b))
noncomputable def FF:TS := .aA (.set 7 (.raw (gG (some 3) (iA (cy (ai 0) (ai 6))) (r6 true) EL))) (.aA (.set 8 (.raw FE.f))
  (.aA (.expr (.call cY (.cons (.var 4) (.cons (.var 8) (.cons (.call (dg 644 cV) (.cons (.raw (Vc 13 10)) (.cons (.var 7) (.cons (.con (.int 0)) .nil)))) .nil))))) .aL))
noncomputable def FH:SF:=FF.f
theorem Ks{r:List UInt8}{n:Nat}{s:Int}(h:r.length<=16)(g:s<=18*n):q9 r+s<=18*((n+1:Nat):Int):=by unfold q9;lia
theorem wK{raws:List (List UInt8)}(h:raws.length<=3)(hr:∀r∈raws,r.length<=16):(fV raws).sum<=54:=by
 have:∀rs:List (List UInt8),(∀r∈rs,r.length<=16)->(fV rs).sum<=18*rs.length:=by
  intro rs
  induction rs with
  |nil=>exact fun _=>by decide
  |cons r rs ih=>exact fun h=>Ks (h r List.mem_cons_self) (ih fun r hr=>h r (List.mem_cons_of_mem _ hr))
 exact Int.le_trans (this raws hr) (Int.mul_le_mul_of_nonneg_left (Int.ofNat_le.mpr h) (by decide))
theorem Au{s pg k:Int}(h:s<=84):s<=128 - baseOf pg - gf k:=by
 have b:=wg (pg:=pg)
 have:gf k<=12:=by unfold gf;split<;>decide
 lia
theorem uF{ay:List Nat}{rt n:Nat}(np:ay.length=n)(few:n<=3):((ay++[rt]).map fun p=>V.int (p+1:Nat)).length<=16777216:=by
 rw [List.length_map,List.length_append,np];exact Nat.le_trans (Nat.succ_le_succ few) (by decide)
theorem TJ{H:AH}{lv pv rt n i:Nat}{rs ay:List Nat}{a b c d e f:V}(hl:lst H lv=some (rs.map V.ref))(r2:rs.length=n)(lp:lst H pv=some ((ay++[rt]).map fun p=>V.int (p+1:Nat)))(np:ay.length=n)(few:n<=3)(hi:i<n) :
  FE.f [.ref lv,a,.ref pv,b,c,.int (rt+1:Nat),.int i,d,e,f] H = .ok (.int (tU n ay rt i+1:Nat)) H:=by
 have ln:=fu hl (by rw [List.length_map,r2];exact Nat.le_trans few (by decide))
 rw [List.length_map,r2]at ln
 unfold tU
 by_cases c:n=1
 ·rw [if_pos c]
  exact j5 (ρ:=[.ref lv,a,.ref pv,b,_,.int (rt+1:Nat),.int i,d,e,f]) (H:=H) FE ln (qI (by rw [c];rfl))
 ·rw [if_neg c]
  have Wf:i<ay.length:=np▸hi
  have it:=d8 (i:=i) (v := .int (ay.getD i 0+1:Nat)) lp (uF np few) (by
   rw [List.getElem?_map,List.getElem?_append_left Wf,List.getElem?_eq_getElem Wf,getD_at (List.getElem?_eq_getElem Wf)];rfl)
  exact j5 (ρ:=[.ref lv,a,.ref pv,b,_,.int (rt+1:Nat),.int i,d,e,f]) (H:=H) FE ln (g7 (beq_false_of_ne fun q=>c (Int.ofNat_inj.mp q))) it
theorem TL{H0 H:AH}{rows:Bool}{lv mv pv st pl rt i:Nat}{au:List (List V)}{av:List V}{ay:List Nat}{sp o7 o8 u:V}{aT:List (List UInt8)}
  (I:jx H0 rows lv mv pv au av ay rt) (kp:Kp [] H0 H) (S:CW H st pl sp aT) (hi:i<au.length) (ho:aT[tU au.length ay rt i]? = some zp) :
  ∃H' TM Wg,FH [.ref lv,.ref mv,.ref pv,.bool rows,.inst 742 st,.int (rt+1:Nat),.int i,o7,o8,u] H = .next [.ref lv,.ref mv,.ref pv,.bool rows,.inst 742 st,.int (rt+1:Nat),.int i,TM,Wg,u] H'/\Kp [pl] H H' ∧
   lst H' pl=some ((aT.set (tU au.length ay rt i) (uf zp (tU au.length ay rt i+1:Nat) (kL rows) 0 (au[i].map (encL rows)))).map V.bytes):=by
 obtain⟨rs,r1,r2,r3⟩:=I.kH
 obtain⟨r,r4,r5⟩:=r3 i hi
 have hg:=I.rD _ (List.getElem_mem hi)
 have hz:=I.size _ (List.getElem_mem hi)
 have l1:=kp.lst ed r1
 have l2:=kp.lst ed r5
 have few:=I.few
 have it:=d8 (i:=i) (v := .ref r) l1 (by rw [List.length_map,r2];exact Nat.le_trans few (by decide)) (by rw [List.getElem?_map,r4];rfl)
 obtain⟨H1,c2,c1⟩:=QH (cap:=some 3) (ρ:=[.ref lv,.ref mv,.ref pv,.bool rows,.inst 742 st,.int (rt+1:Nat),.int i,o7,o8,u]) (a:=cy (ai 0) (ai 6)) (bO:=[.bool rows]) (el:=EL) (fun K=>Kp [] H K) (g:=fun v => .bytes (encL rows v)) rfl (DK rfl rfl it) .refl (fun k=>k.lst ed l2) (Nat.le_trans hz (by decide))
  (fun v hv K k=>by
   obtain⟨K',e,k'⟩:=TH (H:=K) (hg v hv)
   exact⟨K',e,k.trans k'⟩)
 have k2:Kp [] H (H1++[.list (au[i].map fun v => .bytes (encL rows v))]):=c2.trans .app
 have k3:Kp [] H (H1++[.list (au[i].map fun v => .bytes (encL rows v))]++[.dict [(.kind,.int (kL rows)),(.raws,.ref H1.length),(.right,.int 0)]]):=k2.trans .app
 have lr:lst (H1++[.list (au[i].map fun v => .bytes (encL rows v))]) H1.length=some ((au[i].map (encL rows)).map V.bytes):=aK.trans (by rw [List.map_map];rfl)
 have pg:=TJ (a := .ref mv) (b := .bool rows) (c := .inst 742 st) (d := .ref H1.length) (e:=o8) (f:=u) (k2.lst ed l1) r2 ((kp.trans k2).lst ed I.aT) I.np few hi
 have enc{r}(hr:r∈au[i].map (encL rows)):r.length<=16:=by
  obtain⟨v,hv,rfl⟩:=List.mem_map.mp hr
  exact Cj (hg v hv)
 have hl:(au[i].map (encL rows)).length<=3:=by rw [List.length_map];exact hz
 have S3:=S.kp k3 ed ed
 obtain⟨H',w1,w2,w3⟩:=pA (k:=kL rows) (r:=0) S3.hs S3.hp S3.h5 S3.hlen ho eN (cP lr) (Nat.le_trans hl (by decide)) (fun r hr=>Nat.le_trans (enc hr) (by decide)) (by cases rows<;>decide) (by decide) (Au (Int.le_trans (wK hl fun r hr=>enc hr) (by decide)))
 have kl{n8:V}(K:AH):Vc 13 10 [.ref lv,.ref mv,.ref pv,.bool rows,.inst 742 st,.int (rt+1:Nat),.int i,.ref H1.length,n8,u] K = .ok (.int (kL rows)) K:=by cases rows<;>rfl
 exact⟨H',.ref H1.length,.int (tU au.length ay rt i+1:Nat),dS (ρ:=[.ref lv,.ref mv,.ref pv,.bool rows,.inst 742 st,.int (rt+1:Nat),.int i,o7,o8,u]) (H:=H) FF c1 pg (kl _) rC w1,k3.up.trans w2,w3⟩
noncomputable def layAt(rows:Bool)(au:List (List V))(ay:List Nat)(rt j:Nat):List UInt8:=uf zp (tU au.length ay rt j+1:Nat) (kL rows) 0 ((au.getD j []).map (encL rows))
structure pT(rows:Bool)(au:List (List V))(ay:List Nat)(rt k:Nat)(aT:List (List UInt8)):Prop where
 oU:aT.length=5
 len:∀b∈aT,b.length=128
 got:∀j,j<k->aT[tU au.length ay rt j]? = some (layAt rows au ay rt j)
 zero:∀p,p<5->(∀j,j<k->p≠tU au.length ay rt j)->aT[p]? = some zp
section
variable{H:AH}{rows:Bool}{lv mv pv rt:Nat}{au:List (List V)}{av:List V}{ay:List Nat}
theorem jR(I:jx H rows lv mv pv au av ay rt){j:Nat}(hj:j<au.length):ay[j]? = some (ay.getD j 0):=by rw [List.getElem?_eq_getElem (I.np▸hj),getD_at (List.getElem?_eq_getElem (I.np▸hj))]
theorem jx.Cm(I:jx H rows lv mv pv au av ay rt):av.length<=3:=Nat.le_trans (Nat.le_succ _) (Nat.le_trans (Nat.le_of_eq I.nm) I.few)
theorem rG(I:jx H rows lv mv pv au av ay rt){j:Nat}(hj:j<au.length):ay.getD j 0<5:=I.oU _ (List.mem_of_getElem? (jR I hj))
theorem Ku(I:jx H rows lv mv pv au av ay rt){j:Nat}(hj:j<au.length):tU au.length ay rt j<5:=by
 unfold tU;split
 ·exact I.rF
 ·exact rG I hj
theorem FI{n i j:Nat}(hi:i<n)(hj:j<n)(h:i≠j):n≠1:=fun e=>h ((Nat.lt_one_iff.mp (e▸hi)).trans (Nat.lt_one_iff.mp (e▸hj)).symm)
theorem Kv(I:jx H rows lv mv pv au av ay rt){i j:Nat}(hi:i<au.length)(hj:j<au.length)(h:i≠j):tU au.length ay rt i≠tU au.length ay rt j:=by
 unfold tU
 rw [if_neg (FI hi hj h),if_neg (FI hi hj h)]
 exact fun q=>h ((List.getElem?_inj (I.np▸hi) I.apart).mp ((jR I hi).trans (q▸(jR I hj).symm)))
theorem pT.next(I:jx H rows lv mv pv au av ay rt){k:Nat}{aT:List (List UInt8)}(L:pT rows au ay rt k aT)(hk:k<au.length)(hl:(layAt rows au ay rt k).length=128) :
  pT rows au ay rt (k+1) (aT.set (tU au.length ay rt k) (layAt rows au ay rt k)):=by
 refine⟨(List.length_set ..).trans L.oU,fun b hb=>(List.mem_or_eq_of_mem_set hb).elim (L.len b) fun h=>h▸hl,fun j hj=>?_,fun p hp hn=>?_⟩
 ·by_cases c:j=k
  ·rw [c,List.getElem?_set_self (L.oU▸Ku I hk)]
  ·have jk:=Nat.lt_of_le_of_ne (Nat.le_of_lt_succ hj) c
   rw [List.getElem?_set_ne (Kv I hk (Nat.lt_trans jk hk) fun e=>c e.symm)];exact L.got j jk
 ·rw [List.getElem?_set_ne fun q=>hn k (Nat.lt_succ_self k) q.symm]
  exact L.zero p hp fun j hj=>hn j (Nat.lt_succ_of_lt hj)
theorem OG{k:Nat}(hk:k<au.length):au.getD k []=au[k]:=getD_at (List.getElem?_eq_getElem hk)
theorem yO(I:jx H rows lv mv pv au av ay rt){k:Nat}(hk:k<au.length) :
  (fV ((au.getD k []).map (encL rows))).sum<=128 - baseOf (tU au.length ay rt k+1:Nat) - gf (kL rows)/\(layAt rows au ay rt k).length=128:=by
 have ft:(fV ((au.getD k []).map (encL rows))).sum<=128 - baseOf (tU au.length ay rt k+1:Nat) - gf (kL rows):=by
  rw [OG hk]
  refine Au (Int.le_trans (wK (by rw [List.length_map];exact I.size _ (List.getElem_mem hk)) fun r hr=>?_) (by decide))
  obtain⟨v,hv,rfl⟩:=List.mem_map.mp hr
  exact Cj (I.rD _ (List.getElem_mem hk) v hv)
 exact⟨ft,rA wJ ft⟩
end
inductive TN(H0:AH)(rows:Bool)(st pl rt:Nat)(sp:V)(au:List (List V))(ay:List Nat)(p:V->V->V->List V)(q:RS):Prop
 |mk (H':AH) (aT:List (List UInt8)) (o6 o7 o8:V) (e:q = .next (p o6 o7 o8) H') (k:Kp [] H0 H') (S:CW H' st pl sp aT) (L:pT rows au ay rt au.length aT)
theorem TP{H0:AH}{rows:Bool}{lv mv pv st pl rt:Nat}{au:List (List V)}{av:List V}{ay:List Nat}{sp u:V}
  (I:jx H0 rows lv mv pv au av ay rt) (hpl:H0.length<=pl) :
  ∀(m k:Nat)(H:AH)(aT:List (List UInt8))(o6 o7 o8:V),k+m=au.length->Kp [] H0 H->CW H st pl sp aT->pT rows au ay rt k aT →
  TN H0 rows st pl rt sp au ay (fun o6 o7 o8=>[.ref lv,.ref mv,.ref pv,.bool rows,.inst 742 st,.int (rt+1:Nat),o6,o7,o8,u]) (forR 6 FH m k [.ref lv,.ref mv,.ref pv,.bool rows,.inst 742 st,.int (rt+1:Nat),o6,o7,o8,u] H):=by
 intro m
 induction m with
 |zero =>
  intro k H aT o6 o7 o8 hk kp S L
  have e:k=au.length:=hk
  exact⟨H,aT,o6,o7,o8,rfl,kp,S,e▸L⟩
 |succ m ih =>
  intro k H aT o6 o7 o8 hk kp S L
  have hk':=(Nat.succ_add_eq_add_succ k m).trans hk
  have hi:k<au.length:=Nat.le.intro hk'
  obtain⟨H1,TM,Wg,e1,k1,p1⟩:=TL (o7:=o7) (o8:=o8) (u:=u) I kp S hi (L.zero _ (Ku I hi) fun j hj=>Kv I hi (Nat.lt_trans hj hi) (Nat.ne_of_gt hj))
  rw [← OG hi]at p1
  have L1:=L.next I hi (yO I hi).2
  obtain⟨H2,QK,a,b,c,e2,q1,q2,q3⟩:=ih (k+1) H1 _ (.int k) TM Wg hk' ((kp.up.trans k1).drop hpl) ⟨k1.dct (gE (nX S.hs S.hp)) S.hs,p1,L1.oU,L1.len⟩ L1
  exact⟨H2,QK,a,b,c,(Qn e1).trans e2,q1,q2,q3⟩
theorem Kw{H:AH}{p:Int}(h0:0<=p)(h1:p<65536):∃X,mj [.int p] H = .ok (.bytes (four p)) (H++X) :=
 ⟨[.list [.int 0,.int 0,.int (p / 256),.int (p % 256)]],vf 1 0 DQ [.int p] H rfl (qJ (by decide)) (nh (by decide)) (iF (ns:=[0,0,p / 256,p % 256]) aK (show 4<=16777216 by decide)
  (List.forall_mem_cons.mpr ⟨by decide,List.forall_mem_cons.mpr ⟨by decide,List.forall_mem_cons.mpr ⟨⟨Int.ediv_nonneg h0 (by decide),Int.ediv_lt_of_lt_mul (by decide) h1⟩,List.forall_mem_cons.mpr ⟨⟨Int.emod_nonneg p (by decide),Int.emod_lt_of_pos p (by decide)⟩,fun _ h=>absurd h List.not_mem_nil⟩⟩⟩⟩))⟩
noncomputable def QL:TX V := .ite (.of (.var 3)) (.call fL (.cons (.item (.var 1) (.var 6)) .nil)) (.bin aS (.call bJ (.cons (.list (.cons (.call bT (.cons (.item (.var 1) (.var 6)) .nil)) .nil)) .nil)) (.item (.var 1) (.var 6)))
noncomputable def EM:EF:=QL.f
noncomputable def FJ:TS := .aA (.set 9 (.raw EM)) (.aA (.expr (.fk iU aY (.var 7) (.cons (.bin aS (.call mj (.cons (.item (.var 2) (.var 6)) .nil)) (.var 9)) .nil))) .aL)
noncomputable def FL:SF:=FJ.f
theorem TQ{H:AH}{rows:Bool}{v a c d e f g i:V}{mv k:Nat}{av:List V}(hm:lst H mv=some av)(hl:av.length<=16777216)(hk:av[k]? = some v)(gd:rB rows v) :
  Ev (Kp [] H) (EM [a,.ref mv,c,.bool rows,d,e,.int k,f,g,i] H) (.bytes (encM rows v)):=by
 have it:=d8 (i:=k) hm hl hk
 cases rows with
 |false =>
  obtain⟨b,rfl,h⟩:=gd
  exact⟨_,j5 (ρ:=[a,.ref mv,c,.bool false,d,e,.int k,f,g,i]) (H:=H) QL it (nW (Nat.le_trans h (by decide))) (Kr h) (d8 (cP hm) hl hk) (FD h),.app⟩
 |true =>
  obtain⟨x,rfl⟩:=gd
  obtain⟨X,p⟩:=wI (H:=H) (x:=x)
  exact⟨_,j5 (ρ:=[a,.ref mv,c,.bool true,d,e,.int k,f,g,i]) (H:=H) QL it p,.app⟩
noncomputable def Av(rows:Bool)(av:List V)(ay:List Nat)(k:Nat):List UInt8:=four (ay.getD k 0+1:Nat)++encM rows (av.getD k .none)
theorem Cn{H:AH}{rows:Bool}{lv mv pv rt:Nat}{au:List (List V)}{av:List V}{ay:List Nat}(I:jx H rows lv mv pv au av ay rt){k:Nat}(hk:k<av.length):(Av rows av ay k).length<=16:=by
 unfold Av;rw [getD_at (List.getElem?_eq_getElem hk),List.length_append];exact Nat.add_le_add_left (Ko (I.rE _ (List.getElem_mem hk))) 4
inductive TR(H:AH)(rl:Nat)(vs:List V)(p:V->List V)(q:RS):Prop
 |mk (H':AH) (o9:V) (e:q = .next (p o9) H') (k:Kp [rl] H H') (l:lst H' rl=some vs)
theorem TU{H0 H:AH}{rows:Bool}{lv mv pv rt i rl:Nat}{au:List (List V)}{av:List V}{ay:List Nat}{s r o8 o9:V}{acc:List V}
  (I:jx H0 rows lv mv pv au av ay rt) (kp:Kp [] H0 H) (hl:lst H rl=some acc) (ha:acc.length<=100) (hi:i<av.length) :
  TR H rl (acc++[.bytes (Av rows av ay i)]) (fun o9=>[.ref lv,.ref mv,.ref pv,.bool rows,s,r,.int i,.ref rl,o8,o9]) (FL [.ref lv,.ref mv,.ref pv,.bool rows,s,r,.int i,.ref rl,o8,o9] H):=by
 have hi2:i<au.length:=Nat.lt_trans hi (I.nm▸Nat.lt_succ_self _)
 obtain⟨H1,e1,k1⟩:=TQ (a := .ref lv) (c := .ref pv) (d:=s) (e:=r) (f := .ref rl) (g:=o8) (i:=o9) (kp.lst ed I.mids) (Nat.le_trans I.Cm (by decide)) (List.getElem?_eq_getElem hi) (I.rE _ (List.getElem_mem hi))
 have it:=d8 (i:=i) (v := .int (ay.getD i 0+1:Nat)) ((kp.trans k1).lst ed I.aT) (uF I.np I.few) (by
  rw [List.getElem?_map,List.getElem?_append_left (I.np▸hi2),jR I hi2];rfl)
 obtain⟨X,e2⟩:=Kw (H:=H1) (p:=(ay.getD i 0+1:Nat)) (Int.natCast_nonneg _) (Int.ofNat_lt.mpr (Nat.lt_trans (Nat.succ_lt_succ (rG I hi2)) (by decide)))
 have k2:Kp [] H (H1++X):=k1.trans .app
 have rl:=Cn I hi
 unfold Av at rl ⊢
 rw [getD_at (List.getElem?_eq_getElem hi)]at rl ⊢
 exact⟨_,.bytes (encM rows av[i]),dS (ρ:=[.ref lv,.ref mv,.ref pv,.bool rows,s,r,.int i,.ref _,o8,o9]) (H:=H) FJ e1 (eO (k1.lst ed hl)) it e2 (ff (mH (Nat.le_trans rl (by decide)))) (append_at (k2.lst ed hl) (Nat.le_trans ha (by decide))),k2.up.trans .set,gq (k2.lst ed hl)⟩
inductive TV(H:AH)(rl:Nat)(vs:List V)(p:V->V->List V)(q:RS):Prop
 |mk (H':AH) (o6 o9:V) (e:q = .next (p o6 o9) H') (k:Kp [rl] H H') (l:lst H' rl=some vs)
theorem TY{H0:AH}{rows:Bool}{lv mv pv rt rl:Nat}{au:List (List V)}{av:List V}{ay:List Nat}{s r o8:V}
  (I:jx H0 rows lv mv pv au av ay rt) (Yt:H0.length<=rl) :
  ∀(m k:Nat)(H:AH)(o6 o9:V),k+m=av.length->Kp [] H0 H->lst H rl=some ((List.range k).map fun j => .bytes (Av rows av ay j)) →
  TV H rl ((List.range av.length).map fun j => .bytes (Av rows av ay j)) (fun o6 o9=>[.ref lv,.ref mv,.ref pv,.bool rows,s,r,o6,.ref rl,o8,o9]) (forR 6 FL m k [.ref lv,.ref mv,.ref pv,.bool rows,s,r,o6,.ref rl,o8,o9] H):=by
 intro m
 induction m with
 |zero =>
  intro k H o6 o9 hk kp hl
  have e:k=av.length:=hk
  exact⟨H,o6,o9,rfl,.refl,e▸hl⟩
 |succ m ih =>
  intro k H o6 o9 hk kp hl
  have hk':=(Nat.succ_add_eq_add_succ k m).trans hk
  have hi:k<av.length:=Nat.le.intro hk'
  obtain⟨H1,Yu,e1,k1,l1⟩:=TU (s:=s) (r:=r) (o8:=o8) (o9:=o9) I kp hl (by rw [List.length_map,List.length_range];exact Nat.le_trans (Nat.le_of_lt hi) (Nat.le_trans I.Cm (by decide))) hi
  obtain⟨H2,a,b,e2,k2,l2⟩:=ih (k+1) H1 (.int k) Yu hk' ((kp.up.trans k1).drop Yt) (by rw [l1,List.range_succ,List.map_append];rfl)
  exact⟨H2,a,b,(Qn e1).trans e2,k1.trans k2,l2⟩
section
noncomputable def jj(rows:Bool)(av:List V)(ay:List Nat):List (List UInt8):=(List.range av.length).map (Av rows av ay)
structure mJ(rows:Bool)(au:List (List V))(av:List V)(ay:List Nat)(rt:Nat)(aT:List (List UInt8)):Prop where
 oU:aT.length=5
 len:∀b∈aT,b.length=128
 got:∀j,j<au.length->aT[tU au.length ay rt j]? = some (layAt rows au ay rt j)
 root:1<au.length->aT[rt]? = some (uf zp (rt+1:Nat) (kI rows) (ay.getD (au.length - 1) 0+1:Nat) (jj rows av ay))
noncomputable def Ea:TS := .aA (.set 7 (.list .nil)) (.aA (.ej (fX 6 (aF bT (af (ai 1) aC)) FL)) (.aA (.expr (.call cY (.cons (.var 4) (.cons (.var 5) (.cons (.call (dg 644 cV) (.cons (.raw (Vc 5 2)) (.cons (.var 7) (.cons (.item (.var 2) (.bin eH (.call bT (.cons (.var 0) .nil)) (.con (.int 1)))) .nil)))) .nil))))) .aL))
noncomputable def TZ:TS := .aA (.nU [4,5] (.tup (.cons (.call kB .nil) (.cons (.item (.var 2) (.neg (.con (.int 1)))) .nil)))) (.aA (.ej (fX 6 (aF bT (af (ai 0) aC)) FH)) (.aA (.ja (.of (.bin oR (.call bT (.cons (.var 0) .nil)) (.con (.int 1)))) (.ej Ea.f) .aL) (.aA (.ret (.var 4)) .aL)))
variable{H:AH}{rows:Bool}{lv mv pv rt:Nat}{au:List (List V)}{av:List V}{ay:List Nat}
theorem yP(I:jx H rows lv mv pv au av ay rt):(fV (jj rows av ay)).sum<=128 - baseOf (rt+1:Nat) - gf (kI rows)/\(jj rows av ay).length<=3 /\ ∀r∈jj rows av ay,r.length<=16:=by
 have l:(jj rows av ay).length<=3:=by rw [jj,List.length_map,List.length_range];exact I.Cm
 have m:∀r∈jj rows av ay,r.length<=16:=fun r hr=>by
  obtain⟨k,hk,rfl⟩:=List.mem_map.mp hr
  exact Cn I (List.mem_range.mp hk)
 exact⟨Au (Int.le_trans (wK l m) (by decide)),l,m⟩
theorem Co(I:jx H rows lv mv pv au av ay rt)(h:1<au.length){j:Nat}(hj:j<au.length):rt≠tU au.length ay rt j:=fun q=>by
 unfold tU at q
 rw [if_neg (Nat.ne_of_gt h)]at q
 exact I.apart' (q▸List.mem_of_getElem? (jR I hj))
inductive T3(H:AH)(st pl:Nat)(sp:V)(L:List (List UInt8)->Prop)(q:RS)(ρ:List V):Prop
 |mk (H':AH) (aT:List (List UInt8)) (x7 x6 x9:V) (e:q = .next (((ρ.set 6 x6).set 7 x7).set 9 x9) H') (k:Kp [pl] H H') (S:CW H' st pl sp aT) (l:L aT)
theorem pU(I:jx H rows lv mv pv au av ay rt){H':AH}(k:Kp [] H H'):bT [.ref lv] H' = .ok (.int au.length) H':=by
 obtain⟨oV,r1,r2,r3⟩:=I.kH
 have ln:=fu (k.lst ed r1) (by rw [List.length_map,r2];exact Nat.le_trans I.few (by decide))
 rw [List.length_map,r2]at ln
 exact ln
theorem Kx{H2:AH}{st pl:Nat}{sp x6 x7 x8:V}{aT:List (List UInt8)}(I:jx H rows lv mv pv au av ay rt)(h:1<au.length)(k2:Kp [] H H2)(hpl:H.length<=pl)(S:CW H2 st pl sp aT)(L2:pT rows au ay rt au.length aT) :
  T3 H2 st pl sp (mJ rows au av ay rt) (Ea.f [.ref lv,.ref mv,.ref pv,.bool rows,.inst 742 st,.int (rt+1:Nat),x6,x7,x8,.undef] H2) [.ref lv,.ref mv,.ref pv,.bool rows,.inst 742 st,.int (rt+1:Nat),x6,x7,x8,.undef]:=by
 have Xu:Kp [] H2 (H2++[.list []]) := .app
 have k3:=k2.trans Xu
 obtain⟨H4,a4,b4,e4,k4,l4⟩:=TY (s := .inst 742 st) (r := .int (rt+1:Nat)) (o8:=x8) I k2.len av.length 0 (H2++[.list []]) x6 .undef (Nat.zero_add _) k3 aK
 have k5:Kp [] H2 H4:=(Xu.up.trans k4).drop (Nat.le_refl _)
 have k6:=k2.trans k5
 have l1:=Nat.sub_lt (Nat.lt_trans Nat.one_pos h) Nat.one_pos
 have it:=d8 (i:=au.length - 1) (v := .int (ay.getD (au.length - 1) 0+1:Nat)) (k6.lst ed I.aT) (uF I.np I.few) (by
  rw [List.getElem?_map,List.getElem?_append_left (I.np▸l1),jR I l1];rfl)
 rw [Int.ofNat_sub (Nat.le_of_lt h)]at it
 have Wh:Kp [] H4 (H4++[.dict [(.kind,.int (kI rows)),(.raws,.ref H2.length),(.right,.int (ay.getD (au.length - 1) 0+1:Nat))]]) := .app
 have S7:=S.kp (k5.trans Wh) ed ed
 have ft:=yP I
 have l7:=(Wh.lst ed l4).trans (by rw [show(fun j=>V.bytes (Av rows av ay j))=V.bytes∘Av rows av ay from rfl,<- List.map_map];rfl:_ = some ((jj rows av ay).map V.bytes))
 obtain⟨H',w1,w2,w3⟩:=pA (k:=kI rows) (r:=(ay.getD (au.length - 1) 0+1:Nat)) (i:=rt) S7.hs S7.hp S7.h5 S7.hlen (L2.zero rt I.rF fun j hj=>Co I h hj) eN l7 (Nat.le_trans ft.2.1 (by decide)) (fun r hr=>Nat.le_trans (ft.2.2 r hr) (by decide)) (by cases rows<;>decide)
  ⟨Int.natCast_nonneg _,Int.ofNat_lt.mpr (Nat.lt_trans (Nat.succ_lt_succ (rG I l1)) (by decide))⟩ ft.1
 have kk(K:AH){n6 n7:V}:Vc 5 2 [.ref lv,.ref mv,.ref pv,.bool rows,.inst 742 st,.int (rt+1:Nat),n6,n7,x8,b4] K = .ok (.int (kI rows)) K:=by cases rows<;>rfl
 have F:=(lI (i:=6) (b:=FL) (a:=aF bT (af (ai 1) aC)) (ρ:=[.ref lv,.ref mv,.ref pv,.bool rows,.inst 742 st,.int (rt+1:Nat),x6,.ref H2.length,x8,.undef]) (y_call rfl (fu (k3.lst ed I.mids) (Nat.le_trans I.Cm (by decide)))) (Nat.le_trans I.Cm (by decide))).trans e4
 have e{X:List UInt8}:(aT.set rt X).length=5:=(List.length_set ..).trans L2.oU
 have len(b)(hb:b∈aT.set rt (uf zp (rt+1:Nat) (kI rows) (ay.getD (au.length - 1) 0+1:Nat) (jj rows av ay))):b.length=128:=(List.mem_or_eq_of_mem_set hb).elim (L2.len b) fun h=>h▸rA wJ ft.1
 exact⟨H',_,.ref H2.length,a4,b4,dS (ρ:=[.ref lv,.ref mv,.ref pv,.bool rows,.inst 742 st,.int (rt+1:Nat),x6,x7,x8,.undef]) (H:=H2) Ea F (kk _) (pU I k6) rfl it rC w1,(k5.trans Wh).up.trans w2,
  ⟨w2.dct (gE (nX S7.hs S7.hp)) S7.hs,w3,e,len⟩,⟨e,len,fun j hj=>by rw [List.getElem?_set_ne (Co I h hj)];exact L2.got j hj,fun _=>by rw [List.getElem?_set_self (L2.oU▸I.rF)]⟩⟩
inductive M0(H:AH)(rows:Bool)(au:List (List V))(av:List V)(ay:List Nat)(rt:Nat)(q:R V):Prop
 |mk (H':AH) (st pl:Nat) (sp:V) (aT:List (List UInt8)) (e:q = .ok (.inst 742 st) H') (k:Kp [] H H') (S:CW H' st pl sp aT) (L:mJ rows au av ay rt aT)
theorem Cp(I:jx H rows lv mv pv au av ay rt):M0 H rows au av ay rt (eM [.ref lv,.ref mv,.ref pv,.bool rows] H):=by
 have k1:Kp [] H (H++[FA (H.length+1) (.ref (H.length+2)),.list ((List.replicate 5 zp).map V.bytes),.list []]) := .app
 have hz:∀b∈List.replicate 5 zp,b.length=128:=fun b hb=>List.eq_of_mem_replicate hb▸wJ
 have z0:pT rows au ay rt 0 (List.replicate 5 zp):=⟨rfl,hz,fun j h=>absurd h (Nat.not_lt_zero _),fun p hp _=>by rw [List.getElem?_replicate,if_pos hp]⟩
 have il:=mE (vs:=ay.map fun p=>V.int (p+1:Nat)) (v := .int (rt+1:Nat)) ((k1.lst ed I.aT).trans (by rw [List.map_append];rfl)) (by rw [List.length_map,I.np];exact Nat.lt_of_le_of_lt I.few (by decide))
 obtain⟨H2,aT,a,b,c,e2,k2,S2,L2⟩:=TP (u := .undef) I (Nat.le_succ H.length) au.length 0 _ _ .undef .undef .undef (Nat.zero_add _) k1 ⟨eN,Cc,rfl,hz⟩ z0
 have F:=(lI (i:=6) (b:=FH) (a:=aF bT (af (ai 0) aC)) (ρ:=[.ref lv,.ref mv,.ref pv,.bool rows,.inst 742 H.length,.int (rt+1:Nat),.undef,.undef,.undef,.undef]) (y_call rfl (pU I k1)) (Nat.le_trans I.few (by decide))).trans e2
 by_cases h:1<au.length
 ·obtain⟨H',QK,x7,x6,x9,w1,w2,w3,w4⟩:=Kx (x6:=a) (x7:=b) (x8:=c) I h k2 (Nat.le_succ _) S2 L2
  exact⟨H',H.length,H.length+1,_,QK,vf 4 6 TZ [.ref lv,.ref mv,.ref pv,.bool rows] H rfl yN il F (pU I k2) (G6 (Int.ofNat_lt.mpr h)) w1,(k2.up.trans w2).drop (Nat.le_succ _),w3,w4⟩
 ·exact⟨H2,H.length,H.length+1,_,aT,vf 4 6 TZ [.ref lv,.ref mv,.ref pv,.bool rows] H rfl yN il F (pU I k2) (kC fun q=>h (Int.ofNat_lt.mp q)),k2,S2,L2.oU,L2.len,L2.got,fun q=>absurd q h⟩
end
section
variable{H:AH}{lv mv pv rt:Nat}{ay:List Nat}{aT:List (List UInt8)}
noncomputable def eU(l:List (List UInt8)):List V:=l.map V.bytes
noncomputable def eI(l:List Int):List V:=l.map V.int
theorem encK(l:List (List UInt8)):(eU l).map (encL false)=l.map sJ:=by rw [eU,List.map_map];rfl
theorem Wi(l:List Int):(eI l).map (encL true)=l.map D8:=by rw [eI,List.map_map];rfl
theorem getD_map{α:Type}{f:α->List V}{l:List α}{j:Nat}(h:j<l.length):(l.map f).getD j []=f l[j]:=getD_at (by rw [List.getElem?_map,List.getElem?_eq_getElem h];rfl)
theorem mK{α:Type}{f:α->V}{l:List α}{j:Nat}(h:j<l.length):(l.map f)[j]? = some (f l[j]):=by rw [List.getElem?_map,List.getElem?_eq_getElem h];rfl
theorem wL{rows:Bool}{av:List V}{i:Nat}(hi:i<av.length):(jj rows av ay)[i]? = some (four (ay.getD i 0+1:Nat)++encM rows (av.getD i .none)):=by
 unfold jj;rw [List.getElem?_map,List.getElem?_range hi];rfl
theorem uG{rows:Bool}{av:List V}:(jj rows av ay).length=av.length:=by rw [jj,List.length_map,List.length_range]
section
variable{rows:Bool}{au:List (List V)}{av:List V}
theorem yQ(I:jx H rows lv mv pv au av ay rt){j:Nat}(hj:j<au.length):Laid (layAt rows au ay rt j) zp (tU au.length ay rt j+1:Nat) (kL rows) 0 ((au.getD j []).map (encL rows)) :=
 ⟨rfl,wJ,(yO I hj).1,by cases rows<;>decide,by decide⟩
theorem jx.l1(I:jx H rows lv mv pv au av ay rt):au.length - 1<au.length:=Nat.sub_lt (I.nm▸Nat.succ_pos _) Nat.one_pos
noncomputable abbrev FN(rows:Bool)(n:Nat)(av:List V)(ay:List Nat)(rt:Nat):List UInt8:=uf zp (rt+1:Nat) (kI rows) (ay.getD (n - 1) 0+1:Nat) (jj rows av ay)
theorem M6(I:jx H rows lv mv pv au av ay rt){j:Nat}(hj:j<au.length){m:Nat}(h:6<=m):ay.getD j 0+1<m:=Nat.lt_of_lt_of_le (Nat.succ_lt_succ (rG I hj)) h
theorem sL(I:jx H rows lv mv pv au av ay rt):Laid (FN rows au.length av ay rt) zp (rt+1:Nat) (kI rows) (ay.getD (au.length - 1) 0+1:Nat) (jj rows av ay) :=
 ⟨rfl,wJ,(yP I).1,by cases rows<;>decide,Int.natCast_nonneg _,Int.ofNat_lt.mpr (M6 I I.l1 (by decide))⟩
theorem kids(I:jx H rows lv mv pv au av ay rt){i:Nat}(hi:i<au.length):∃p,ay[i]? = some p/\jP (FN rows au.length av ay rt) (rt+1:Nat) i=(p+1:Nat):=by
 have nm:(jj rows av ay).length=au.length - 1:=uG.trans (Nat.eq_sub_of_add_eq I.nm)
 refine(sL I).QC (by cases rows<;>decide) (ps:=ay) (Q:=fun i=>encM rows (av.getD i .none)) (fun j hj=>?_) ⟨ay.getD (au.length - 1) 0,by rw [nm];exact jR I I.l1,rfl⟩ i (nm▸Nat.le_sub_one_of_lt hi)
 have Xv:j<au.length:=Nat.lt_trans (nm▸hj) I.l1
 exact⟨_,jR I Xv,Nat.lt_trans (rG I Xv) (by decide),wL (uG (rows:=rows) (ay:=ay)▸hj)⟩
theorem Ky(h:1<au.length){i p:Nat}(hp:ay[i]? = some p):tU au.length ay rt i=p:=by
 unfold tU;rw [if_neg (Nat.ne_of_gt h)];exact getD_at hp
end
theorem yR{α:Type}{P:List UInt8->Int->List α->Prop}{rows:Bool}{f:List α->List V}{bX:List (List α)}{ms:List α}{mids:List V}(I:jx H rows lv mv pv (bX.map f) mids ay rt)(L:mJ rows (bX.map f) mids ay rt aT)(nm:ms.length+1=bX.length)
  (leaf:∀j(hj:j<bX.length),P (layAt rows (bX.map f) ay rt j) (tU (bX.map f).length ay rt j+1:Nat) bX[j]/\fq (layAt rows (bX.map f) ay rt j) (tU (bX.map f).length ay rt j+1:Nat)=true)
  (root:P (FN rows (bX.map f).length mids ay rt) (rt+1:Nat) ms/\fq (FN rows (bX.map f).length mids ay rt) (rt+1:Nat)=false):wm P aT bX ms ay rt:=by
 have hl:(bX.map f).length=bX.length:=List.length_map ..
 have lf(j:Nat)(hj:j<bX.length):wk P aT (tU (bX.map f).length ay rt j) bX[j]:=⟨_,L.got j (hl▸hj),(leaf j hj).1,(leaf j hj).2⟩
 refine⟨nm,fun ks e=>?_,fun h=>⟨_,L.root (hl▸h),root.1,root.2,fun i hi=>?_⟩⟩
 ·subst e
  exact lf 0 Nat.one_pos
 ·obtain⟨p,p1,p2⟩:=kids I (i:=i) (hl▸hi)
  exact⟨p,bX[i],p1,List.getElem?_eq_getElem hi,p2,Ky (hl▸h) p1▸lf i hi⟩
theorem Cq{k:List UInt8}:rB false (.bytes k)->k.length<=17
 |⟨_,e,h⟩=>V.noConfusion e fun e=>e▸Nat.le_trans h (by decide)
theorem Kz{bX:List (List (List UInt8))}{ms:List (List UInt8)}(I:jx H false lv mv pv (bX.map eU) (eU ms) ay rt)(L:mJ false (bX.map eU) (eU ms) ay rt aT)(so:∀l∈bX,sortedK l)(Wj:sortedK ms):tR aT bX ms ay rt:=by
 have ml:(eU ms).length=ms.length:=List.length_map ..
 refine yR (P:=jQ) I L (ml▸I.nm.trans (List.length_map ..)) (fun j hj=>?_) ?_
 ·have ll:=yQ I (j:=j) ((List.length_map ..).symm▸hj)
  rw [getD_map hj,encK]at ll
  exact ll.keys (off:=0) (ks:=bX[j]) (List.length_map ..) (.inl ⟨rfl,rfl⟩) (fun i hi=>⟨[],rfl,by rw [List.getElem?_map,List.getElem?_eq_getElem hi];rfl⟩) (so _ (List.getElem_mem hj))
   fun k hk=>Cq (I.rD (eU bX[j]) (List.mem_map.mpr ⟨_,List.getElem_mem hj,rfl⟩) (.bytes k) (List.mem_map.mpr ⟨k,hk,rfl⟩))
 ·exact(sL I).keys (off:=4) (ks:=ms) (uG.trans ml) (.inr ⟨rfl,rfl⟩) (fun i hi=>⟨four (ay.getD i 0+1:Nat),rfl,by
   rw [wL (ml▸hi),getD_at (show(eU ms)[i]? = some (.bytes ms[i])from mK hi)];rfl⟩) Wj fun k hk=>Cq (I.rE (.bytes k) (List.mem_map.mpr ⟨k,hk,rfl⟩))
theorem KA{bX:List (List Int)}{ms:List Int}(I:jx H true lv mv pv (bX.map eI) (eI ms) ay rt)(L:mJ true (bX.map eI) (eI ms) ay rt aT)(so:∀l∈bX,gp l)(Wj:gp ms)
  (bd:∀l∈bX,∀x∈l,-9223372036854775808<=x/\x<9223372036854775808) (Yv:∀x∈ms,-9223372036854775808<=x/\x<9223372036854775808):tS aT bX ms ay rt:=by
 have ml:(eI ms).length=ms.length:=List.length_map ..
 refine yR (P:=i5) I L (ml▸I.nm.trans (List.length_map ..)) (fun j hj=>?_) ?_
 ·have ll:=yQ I (j:=j) ((List.length_map ..).symm▸hj)
  rw [getD_map hj,Wi]at ll
  exact ll.Tz (ks:=bX[j]) rfl (so _ (List.getElem_mem hj)) (bd _ (List.getElem_mem hj))
 ·exact(sL I).TA (ks:=ms) (uG.trans ml) (fun i hi=>⟨four (ay.getD i 0+1:Nat),rfl,by
   rw [wL (ml▸hi),getD_at (show(eI ms)[i]? = some (.int ms[i])from mK hi)];rfl⟩) Wj Yv
end
inductive cW(H:AH)(s:Nat):Prop
 |mk (a b:Int) (e:lst H s=some [.int a,.int b])
theorem cW.kp{H H':AH}{s:Nat}(k:Kp [] H H'):cW H s->cW H' s
 |⟨a,b,e⟩=>⟨a,b,k.lst ed e⟩
theorem cW.lt{H:AH}{s:Nat}:cW H s->s<H.length
 |⟨_,_,e⟩=>mq e
theorem KC{H:AH}{n i:Nat}{vs:List V}{v:V}(h:lst H n=some vs)(hi:i<vs.length)(hl:vs.length<=1000):Bq v (.ref n) (.int i) H = .ok () (H.set n (.list (vs.set i v))):=by
 show(lst H n).elim _ _ = _
 rw [h]
 exact if_pos ⟨Int.natCast_nonneg _,Int.ofNat_lt.mpr hi,Nat.le_trans hl (by decide)⟩
inductive Wk(H:AH)(s:Nat)(top:Int)(q:R V):Prop
 |mk (d:Nat) (H':AH) (e:q = .ok (.int d) H') (l:(d:Int)<top) (k:Kp [s] H H') (S:cW H' s)
theorem gg{H:AH}{s:Nat}{top:Int}(S:cW H s)(h0:0<top)(h1:top<1073741824):Wk H s top (bE [.ref s,.int top] H):=by
 obtain⟨a,b,e⟩:=S
 have nn(z:Int):((z % top).toNat:Int)=z % top:=Int.toNat_of_nonneg (Int.emod_nonneg _ (Int.ne_of_gt h0))
 have i0:=d8 (i:=0) (v := .int a) e (show 2<=16777216 by decide) rfl
 by_cases c:0<a
 ·have w:=vf 2 1 we [.ref s,.int top] H rfl i0 (G6 c) i0 rfl (nh h0) i0 (qJ ⟨h0,h1⟩) (KC (i:=0) (v := .int (a / top)) e (show 0<2 by decide) (show 2<=1000 by decide))
  rw [← nn a]at w
  exact⟨_,_,w,by rw [nn];exact Int.emod_lt_of_pos _ h0,.set,⟨_,_,gq e⟩⟩
 ·have i1:=d8 (i:=1) (v := .int b) e (show 2<=16777216 by decide) rfl
  have b0:0<=(b*39373+7) % 2147483647:=Int.emod_nonneg _ (by decide)
  have b1:(b*39373+7) % 2147483647<2147483647:=Int.emod_lt_of_pos _ (by decide)
  have st:=KC (i:=1) (v := .int ((b*39373+7) % 2147483647)) e (show 1<2 by decide) (show 2<=1000 by decide)
  have i2:=d8 (i:=1) (v := .int ((b*39373+7) % 2147483647)) (gq (ws:=[.int a,.int ((b*39373+7) % 2147483647)]) e) (show 2<=16777216 by decide) rfl
  have w:=vf 2 1 we [.ref s,.int top] H rfl i0 (kC c) i1 (nT rfl) rfl rfl (nh (by decide)) st i2 i2 (vV (.inl (Ju b0 b1 (by decide)))) rfl (nh (by decide)) (qJ (by decide)) rfl (nh h0)
  rw [← nn]at w
  exact⟨_,_,w,by rw [nn];exact Int.emod_lt_of_pos _ h0,.set,⟨_,_,gq e⟩⟩
inductive One(H:AH)(s:Nat)(vs:List V)(q:R V):Prop
 |mk (v:V) (H':AH) (e:q = .ok v H') (m:v∈vs) (k:Kp [s] H H') (S:cW H' s)
theorem rH{H:AH}{s t:Nat}{vs:List V}(S:cW H s)(ht:lst H t=some vs)(hst:t≠s)(h0:0<vs.length)(h1:vs.length<=1000):One H s vs (dN [.ref s,.ref t] H):=by
 obtain⟨d,H',e,d1,k,S'⟩:=gg S (top:=vs.length) (Int.ofNat_lt.mpr h0) (Int.ofNat_lt.mpr (Nat.lt_of_le_of_lt h1 (by decide)))
 have hz:=Nat.le_trans h1 (show 1000<=16777216 by decide)
 have hd:=Int.ofNat_lt.mp d1
 exact⟨vs[d],H',vf 2 0 Hf [.ref s,.ref t] H rfl (fu ht hz) e (d8 (k.lst (gE hst) ht) hz (List.getElem?_eq_getElem hd)),List.getElem_mem _,k,S'⟩
noncomputable def nV(k:Nat):V := .int (k:Int)
theorem M7:∀{ys:List V},(∀y∈ys,∃k:Nat,k<4/\y=nV k) -> ∃ns:List Nat,ys=ns.map nV /\ ∀k∈ns,k<4:=by
 intro ys
 induction ys with
 |nil=>exact fun _=>⟨[],rfl,fun _ h=>absurd h List.not_mem_nil⟩
 |cons y ys ih =>
  intro h
  obtain⟨ns,h1,h2⟩:=ih fun y hy=>h y (List.mem_cons_of_mem _ hy)
  obtain⟨k,h3,h4⟩:=h y List.mem_cons_self
  exact⟨k::ns,by rw [h1,h4];rfl,List.forall_mem_cons.mpr ⟨h3,h2⟩⟩
theorem Wl{α:Type}{v a b c d:α}(h:v∈[a,b,c,d]):v=a\/v=b\/v=c\/v=d:=(List.mem_cons.mp h).imp_right fun h=>(List.mem_cons.mp h).imp_right fun h=>(List.mem_cons.mp h).imp_right List.mem_singleton.mp
theorem QM{v:V}(h:v∈[V.int 1,.int 2,.int 3,.int 3]):∃c:Nat,1<=c/\c<=3/\v = .int c:=by
 rcases Wl h with h | h | h | h
 ·exact⟨1,by decide,by decide,h⟩
 ·exact⟨2,by decide,by decide,h⟩
 ·exact⟨3,by decide,by decide,h⟩
 ·exact⟨3,by decide,by decide,h⟩
inductive T4(H:AH)(s:Nat)(q:R V):Prop
 |mk (n:Nat) (H':AH) (ns:List Nat) (e:q = .ok (.ref n) H') (l:lst H' n=some (ns.map nV)) (h:H.length<=n) (n1:1<=ns.length) (n3:ns.length<=3) (n4:∀k∈ns,k<4) (k:Kp [s] H H') (S:cW H' s)
noncomputable def Wm:EF:=aF dN (af (ai 0) (af (bk (af (ak (.int 1)) (af (ak (.int 2)) (af (ak (.int 3)) (af (ak (.int 3)) aC))))) aC))
noncomputable def Wn:EF:=aF bE (af (ai 1) (af (ak (.int 4)) aC))
theorem yS{H:AH}{s:Nat}(S:cW H s):T4 H s (gH [.ref s] H):=by
 have k1:Kp [] H (H++[.list [.int 1,.int 2,.int 3,.int 3]]) := .app
 obtain⟨v,H2,e2,v2,k2,S2⟩:=rH (S.kp k1) aK (Nat.ne_of_gt S.lt) (show 0<4 by decide) (show 4<=1000 by decide)
 obtain⟨c,hc1,hc3,hv⟩:=QM v2
 subst hv
 obtain⟨ys,H3,c1,⟨k3,S3⟩,c3,c4⟩:=MZ (bO:=[.ref s]) (el:=Wn) (fun K=>Kp [s] H2 K/\cW K s) (P:=fun y => ∃k:Nat,k<4/\y=nV k)
  (fun k K ⟨kk,SS⟩=>by
   obtain⟨d,K',e,d1,k',S'⟩:=gg SS (top:=4) (by decide) (by decide)
   exact⟨.int d,K',y_call rfl e,⟨kk.trans k',S'⟩,d,Int.ofNat_lt.mp d1,rfl⟩) c 0 [] H2 (by rw [List.length_nil,Nat.zero_add];exact Nat.le_trans hc3 (by decide)) ⟨.refl,S2⟩
 obtain⟨ns,hns,Yw⟩:=M7 c4
 subst hns
 rw [List.length_map]at c3
 have k4:Kp [s] H H3:=(k1.up.trans k2).trans k3
 have X:gG (some 0) (lY Wm) (r6 true) Wn [.ref s] H = .ok (.ref H3.length) (H3++[.list (ns.map nV)]):=by
  unfold gG qE
  show((lY Wm [.ref s] H).bind _).bind _ = _
  rw [Hl (show Wm [.ref s] H = .ok (.int c) H2 from y_call rfl e2) (Nat.le_trans hc3 (by decide))]
  show((HF (iX [.ref s] (r6 true) Wn (c+1) (.range 0 c) [] H2) .ok).bind _) = _
  rw [c1];rfl
 exact⟨H3.length,_,ns,vf 1 0 BZ [.ref s] H rfl X,aK,k4.len,c3▸hc1,c3▸hc3,Yw,k4.trans .app,S3.kp .app⟩
theorem mL{H:AH}{n:Nat}{vs:List V}{lo hi:Option Int}(h:lst H n=some vs)(hl:vs.length<=1000):zC lo hi (.ref n) H = .ok (.ref H.length) (H++[.list (fD vs lo hi)]):=by
 show(lst H n).elim _ _ = _
 rw [h];exact if_pos (Nat.le_trans hl (by decide))
theorem jo{H:AH}{n m:Nat}{vs ws:List V}(h:lst H n=some vs)(h':lst H m=some ws)(hl:vs.length+ws.length<=1000):aS (.ref n) (.ref m) H = .ok (.ref H.length) (H++[.list (vs++ws)]):=by
 show cC (lst H n) _ = _
 rw [h]
 show cC (lst H m) _ = _
 rw [h'];exact if_pos (Nat.le_trans hl (by decide))
theorem KD{α:Type}{l:List α}{n:Nat}(h:n<=l.length):fD l none (some (n:Int))=l.take n:=by
 unfold fD
 rw [Option.elim_none,Option.elim_some,uE (Int.natCast_nonneg _) (Int.ofNat_le.mpr h)];rfl
noncomputable abbrev pV(p:Nat):V := .int (p+1:Nat)
inductive Yx(l:List V):Prop
 |mk (ps:List Nat) (e:l=ps.map pV) (n:ps.length=4) (d:ps.Nodup) (i:∀p∈ps,1<=p/\p<5)
theorem QN{a:Nat}(h:(a:Int)<4):Yx (fD [V.int 2,.int 3,.int 4,.int 5] (some a) none++fD [V.int 2,.int 3,.int 4,.int 5] none (some a)):=by
 match a,h with
 | 0,_=>exact⟨[1,2,3,4],rfl,rfl,by decide,by decide⟩
 | 1,_=>exact⟨[2,3,4,1],rfl,rfl,by decide,by decide⟩
 | 2,_=>exact⟨[3,4,1,2],rfl,rfl,by decide,by decide⟩
 | 3,_=>exact⟨[4,1,2,3],rfl,rfl,by decide,by decide⟩
 |n+4,h=>exact absurd (Int.ofNat_lt.mp h) (Nat.not_lt.mpr (Nat.le_add_left 4 n))
theorem KE{ps:List Nat}{n:Nat}(d:ps.Nodup)(h:n<ps.length):ps[n]∉ps.take n:=fun q=>by
 obtain⟨i,hi,e⟩:=List.getElem_of_mem q
 rw [List.getElem_take]at e
 rw [List.length_take]at hi
 exact Nat.ne_of_lt (Nat.lt_of_lt_of_le hi (Nat.min_le_left _ _)) ((List.getElem_inj d).mp e)
noncomputable def M8:TX V := .ite (.of (.bin iw (.call bE (.cons (.var 0) (.cons (.con (.int 2)) .nil))) (.con (.int 0)))) (.con (.int 1)) (.item (.var 2) (.var 1))
inductive T5(H:AH)(s n:Nat)(ps:List Nat)(q:R V):Prop
 |mk (rt:Nat) (H':AH) (e:q = .ok (pV rt) H') (l:rt<5) (i:rt∉ps.take n) (k:Kp [s] H H') (S:cW H' s)
theorem Ht{H:AH}{s n t:Nat}{ps:List Nat}{u:V}(S:cW H s)(l:lst H t=some (ps.map pV))(ht:t≠s)(p4:ps.length=4)(hn:n<=3)(d:ps.Nodup)(i:∀p∈ps,1<=p/\p<5):T5 H s n ps (M8.f [.ref s,.int n,.ref t,u] H):=by
 obtain⟨w,H7,e7,w1,k7,S7⟩:=gg S (top:=2) (by decide) (by decide)
 by_cases c:(w:Int)=0
 ·exact⟨0,H7,j5 (ρ:=[.ref s,.int n,.ref t,u]) (H:=H) M8 e7 (qI (by rw [c];rfl)),by decide,fun h=>absurd (i _ (List.mem_of_mem_take h)).1 (by decide),k7,S7⟩
 ·have hp:n<ps.length:=p4▸Nat.lt_succ_of_le hn
  exact⟨ps[n],H7,j5 (ρ:=[.ref s,.int n,.ref t,u]) (H:=H) M8 e7 (g7 (beq_false_of_ne c)) (d8 (k7.lst (gE ht) l) (by rw [List.length_map,p4];decide) (mK hp)),(i _ (List.getElem_mem _)).2,KE d hp,k7,S7⟩
noncomputable def Wo:TS := .aA (.set 2 (.list (.cons (.con (.int 2)) (.cons (.con (.int 3)) (.cons (.con (.int 4)) (.cons (.con (.int 5)) .nil)))))) (.aA (.set 3 (.call bE (.cons (.var 0) (.cons (.con (.int 4)) .nil)))) (.aA (.set 2 (.bin aS (.cut (.var 2) (.so (.var 3)) .no) (.cut (.var 2) .no (.so (.var 3))))) (.aA (.ret (.bin aS (.cut (.var 2) .no (.so (.var 1))) (.list (.cons (.raw M8.f) .nil)))) .aL)))
inductive T6(H:AH)(s n:Nat)(q:R V):Prop
 |mk (p:Nat) (H':AH) (ay:List Nat) (rt:Nat) (e:q = .ok (.ref p) H') (l:lst H' p=some ((ay++[rt]).map pV)) (h:H.length<=p) (np:ay.length=n) (i:∀p∈ay,p<5) (i':rt<5) (d:ay.Nodup) (d':rt∉ay) (k:Kp [s] H H') (S:cW H' s)
theorem yT{H:AH}{s n:Nat}(S:cW H s)(hn:n<=3):T6 H s n (gI [.ref s,.int n] H):=by
 have k1:Kp [] H (H++[.list [.int 2,.int 3,.int 4,.int 5]]) := .app
 obtain⟨a,H2,e2,a1,k2,S2⟩:=gg (S.kp k1) (top:=4) (by decide) (by decide)
 have M9:Kp [s] H H2:=k1.up.trans k2
 have sl:s<H2.length:=Nat.lt_of_lt_of_le S.lt M9.len
 have l2:=k2.lst (gE (Nat.ne_of_gt S.lt)) aK
 obtain⟨ps,q0,p4,pd,pi⟩:=QN a1
 have ql:(fD [V.int 2,.int 3,.int 4,.int 5] (some a) none).length+(fD [V.int 2,.int 3,.int 4,.int 5] none (some a)).length=4:=by rw [← List.length_append,q0,List.length_map,p4]
 have c1:=mL (lo:=some a) (hi:=none) l2 (show 4<=1000 by decide)
 have c2:=mL (lo:=none) (hi:=some a) (cP (X:=[.list (fD [V.int 2,.int 3,.int 4,.int 5] (some a) none)]) l2) (show 4<=1000 by decide)
 have ad:=jo (cP (X:=[.list (fD [V.int 2,.int 3,.int 4,.int 5] none (some a))]) (aK (H:=H2) (vs:=fD [V.int 2,.int 3,.int 4,.int 5] (some a) none) (X:=[]))) aK (by rw [ql];decide)
 rw [q0]at ad
 obtain⟨K,hK⟩:∃K,K=H2++[AO.list (fD [V.int 2,.int 3,.int 4,.int 5] (some a) none)]++[AO.list (fD [V.int 2,.int 3,.int 4,.int 5] none (some a))]:=⟨_,rfl⟩
 have k3:Kp [] H2 K:=hK▸Kp.app.trans .app
 rw [← hK]at ad c2
 have c3:=mL (lo:=none) (hi:=some (n:Int)) (aK (H:=K) (vs:=ps.map pV) (X:=[])) (by rw [List.length_map,p4];decide)
 rw [KD (by rw [List.length_map,p4];exact Nat.le_succ_of_le hn),<- List.map_take]at c3
 have k6:Kp [] H2 (K++[AO.list (ps.map pV)]++[AO.list ((ps.take n).map pV)]):=k3.trans (Kp.app.trans .app)
 have n1:s<K.length:=Nat.lt_of_lt_of_le sl k3.len
 have n2:s<(K++[AO.list (ps.map pV)]).length:=Nat.lt_of_lt_of_le n1 (Kp.app (xs:=[])).len
 obtain⟨rt,H7,e7,r5,rn,k7,S7⟩:=Ht (u := .int a) (S2.kp k6) (cP aK) (Nat.ne_of_gt n1) p4 hn pd pi
 have tl:(ps.take n).length=n:=by rw [List.length_take,p4];exact Nat.min_eq_left (Nat.le_succ_of_le hn)
 have T7:=jo (cP (X:=[AO.list [pV rt]]) (k7.lst (gE (Nat.ne_of_gt n2)) aK)) aK (by rw [List.length_map,tl];exact Nat.le_trans (Nat.succ_le_succ hn) (by decide))
 have k8:Kp [s] H (H7++[AO.list [pV rt]]):=(M9.trans (k6.up.trans k7)).trans .app
 exact⟨_,_,ps.take n,rt,vf 2 2 Wo [.ref s,.int n] H rfl e2 c1 c2 ad c3 e7 T7,aK.trans (by rw [List.map_append];rfl),k8.len,tl,fun p hp=>(pi _ (List.mem_of_mem_take hp)).2,r5,pd.sublist (List.take_sublist _ _),rn,k8.trans .app,(S7.kp .app).kp .app⟩
inductive Wp(H:AH)(q:R V):Prop
 |mk (n:Nat) (H':AH) (e:q = .ok (.ref n) H') (k:Kp [] H H') (h:H.length<=n) (S:cW H' n)
theorem KG{H:AH}{nums:List Int}(h:nums.length<=63):Wp H (mi [.olist nums,.int 0] H):=by
 have hz:=Nat.le_trans h (show 63<=16777216 by decide)
 have ln:bT [.olist nums] H = .ok (.int nums.length) H:=if_pos hz
 have mb(z:Int)(b:Bool):iQ (.int z) (.int (if b=true then 1 else 0)) H = .ok (.int (z*(if b=true then 1 else 0))) H:=vV (.inr (by cases b<;>decide))
 have pw:xu (.int 10) (.int 18) H = .ok (.int 1000000000000000000) H:=rfl
 by_cases q:0<nums.length
 ·have it:ki (.olist nums) (.int 0) H = .ok (.int nums[0]) H:=(if_pos (c:=nums.length<=16777216/\(0:Int)<=0/\(0:Int)<nums.length) ⟨hz,by decide,Int.ofNat_lt.mpr q⟩).trans (by show cC nums[0]? _ = _;rw [List.getElem?_eq_getElem q];rfl)
  exact⟨_,_,vf 2 3 wd [.olist nums,.int 0] H rfl ln (xH (Int.ofNat_lt.mpr q)) it rfl rfl rfl rfl rfl (nh (by decide)) (nT rfl) (nT rfl) rfl (nT rfl) rfl rfl (nT rfl) rfl (nh (by decide)) pw rfl B8 (mb _ _),.app,Nat.le_refl _,⟨_,_,aK⟩⟩
 ·exact⟨_,_,vf 2 3 wd [.olist nums,.int 0] H rfl ln (g5 fun e=>q (Int.ofNat_lt.mp e)) rfl rfl rfl rfl rfl (nh (by decide)) (nT rfl) (nT rfl) rfl (nT rfl) rfl rfl (nT rfl) rfl (nh (by decide)) pw rfl B8 (mb _ _),.app,Nat.le_refl _,⟨_,_,aK⟩⟩
section
variable{H:AH}{lv mv pv rt:Nat}{ay:List Nat}
noncomputable def KH(j:Nat):TX V := .call bT (.cons (.raw (gG (some 3) (iA (ai j)) (cR (aH ltV (ai 0) (ai 1))) (ai 0))) .nil)
noncomputable def Eb(j:Nat):EF:=(KH j).f
theorem OH{α:Type}{f:α->V}{p:V->Bool}{j n:Nat}{ρ:List V}{key:V}{ks:List α}(hc:Bw (some 3) ρ=some [key])(hj:gA ρ j H = .ok (.ref n) H)(hl:lst H n=some (ks.map f))(hz:ks.length<=100)
  (ht:∀k,cR (aH ltV (ai 0) (ai 1)) [f k,key] H = .ok (p (f k)) H) (he:∀k,ai 0 [f k,key] H = .ok (f k) H):∃X,Eb j ρ H = .ok (.int ((ks.filter (p∘f)).length:Nat)) (H++X):=by
 have c:=J0 (a:=ai j) (jL:=cR (aH ltV (ai 0) (ai 1))) (el:=ai 0) (p:=p) (g:=fun v=>v) hc hj hl (by rw [List.length_map];exact Nat.le_trans hz (by decide)) (fun v hv=>by
  obtain⟨k,_,rfl⟩:=List.mem_map.mp hv
  exact ht k) (fun v hv _=>by
  obtain⟨k,_,rfl⟩:=List.mem_map.mp hv
  exact he k)
 rw [List.map_id',List.filter_map]at c
 have ln:=fu (H:=H++[.list ((ks.filter (p∘f)).map f)]) aK (by rw [List.length_map];exact Nat.le_trans (List.length_filter_le _ _) (Nat.le_trans hz (by decide)))
 rw [List.length_map]at ln
 exact⟨_,j5 (KH j) (ρ:=ρ) (H:=H) c ln⟩
theorem OI{j n:Nat}{ρ:List V}{key:List UInt8}{ks:List (List UInt8)}(h3:ρ[3]? = some (.bytes key))(hj:gA ρ j H = .ok (.ref n) H)(hl:lst H n=some (eU ks))(hz:ks.length<=100):∃X,Eb j ρ H = .ok (.int (ltN ks key:Nat)) (H++X) :=
 OH (p:=fun v=>bl (NU v) key) (key := .bytes key) (by show(ρ[3]?).bind IQ = _;rw [h3];rfl) hj hl hz (fun _=>xG (pq rfl rfl rfl)) fun _=>rfl
theorem OJ{j n:Nat}{ρ:List V}{key:Int}{ks:List Int}(h3:ρ[3]? = some (.int key))(hj:gA ρ j H = .ok (.ref n) H)(hl:lst H n=some (eI ks))(hz:ks.length<=100):∃X,Eb j ρ H = .ok (.int (jO ks key:Nat)) (H++X) :=
 OH (p:=fun v=>decide (We v<key)) (key := .int key) (by show(ρ[3]?).bind IQ = _;rw [h3];rfl) hj hl hz (fun _=>xG (pq rfl rfl rfl)) fun _=>rfl
theorem FO{α:Type}[BEq α][LawfulBEq α][DecidableEq α]{l:List α}{a:α}:l.any (· == a)=decide (a∈l):=by
 by_cases h:a∈l
 ·rw [decide_eq_true h,List.any_eq_true];exact⟨a,h,BEq.rfl⟩
 ·rw [decide_eq_false h,List.any_eq_false];exact fun x hx e=>h (eq_of_beq e▸hx)
theorem T8{n:Nat}{key:List UInt8}{ks:List (List UInt8)}(hl:lst H n=some (eU ks)):L6 (.bytes key) (.ref n) H = .ok (.bool (decide (key∈ks))) H:=by
 show cC ((lst H n).bind tH) _ = _
 rw [hl]
 show cC (tH (ks.map V.bytes)) _ = _
 rw [yL,oj,FO]
theorem Wq{n:Nat}{key:Int}{ks:List Int}(hl:lst H n=some (eI ks)):L6 (.int key) (.ref n) H = .ok (.bool (decide (key∈ks))) H:=by
 show cC ((lst H n).bind intsOf) _ = _
 rw [hl]
 show cC (intsOf (ks.map V.int)) _ = _
 rw [pS,oj,FO]
inductive Due(H:AH)(z:V)(path:List V)(q:R V):Prop
 |mk (d:Nat) (H':AH) (e:q = .ok (.tup [.ref d,z]) H') (l:lst H' d=some path) (k:Kp [] H H')
inductive KI(H:AH)(lv i:Nat)(l:List V):Prop
 |mk (r:Nat) (e:ki (.ref lv) (.int i) H = .ok (.ref r) H) (h:lst H r=some l)
section
variable{rows:Bool}{au:List (List V)}{av:List V}(I:jx H rows lv mv pv au av ay rt){H':AH}(k:Kp [] H H')
include I k
theorem FP{i:Nat}(hi:i<au.length):KI H' lv i au[i]:=by
 obtain⟨rs,r1,r2,r3⟩:=I.kH
 obtain⟨r,r4,r5⟩:=r3 i hi
 exact⟨r,d8 (k.lst ed r1) (by rw [List.length_map,r2];exact Nat.le_trans I.few (by decide)) (by rw [List.getElem?_map,r4];rfl),k.lst ed r5⟩
theorem uH{i:Nat}(hi:i<au.length):ki (.ref pv) (.int i) H' = .ok (.int (ay.getD i 0+1:Nat)) H' :=
 d8 (k.lst ed I.aT) (uF I.np I.few) (by rw [List.getElem?_map,List.getElem?_append_left (I.np▸hi),jR I hi];rfl)
theorem uI:ki (.ref pv) (.int (-1)) H' = .ok (.int (rt+1:Nat)) H' :=
 mE (vs:=ay.map fun p=>V.int (p+1:Nat)) ((k.lst ed I.aT).trans (by rw [List.map_append];rfl)) (by rw [List.length_map,I.np];exact Nat.lt_of_le_of_lt I.few (by decide))
end
theorem Ec{α:Type}{rows:Bool}{f:List α->List V}{bX:List (List α)}{mids:List V}(I:jx H rows lv mv pv (bX.map f) mids ay rt){H':AH}(k:Kp [] H H'){i:Nat}(hi:i<bX.length):KI H' lv i (f bX[i])/\(f bX[i]).length<=3:=by
 have l:=FP I k (i:=i) (by rw [List.length_map];exact hi)
 rw [List.getElem_map]at l
 exact⟨l,I.size _ (List.mem_map.mpr ⟨_,List.getElem_mem hi,rfl⟩)⟩
noncomputable def rI:TX V := .ite (.of (.bin L6 (.var 3) (.var 7))) (.con (.int 0)) (.ite (.of (.bin ltV (.var 9) (.call bT (.cons (.var 7) .nil)))) (.con (.int 1)) (.neg (.con (.int 1))))
noncomputable def yU:TS := .aA (.set 9 (.raw (Eb 7))) (.aA (.set 10 (.raw rI.f)) (.aA (.ret (.tup (.cons (.bin aS (.var 5) (.list (.cons (.tup (.cons (.var 8) (.cons (.var 9) .nil))) .nil))) (.cons (.var 10) .nil)))) .aL))
noncomputable def FQ:SF:=yU.f
noncomputable abbrev QO(a b c r4 v6:V)(key:List UInt8)(pt lf:Nat)(pg:Int)(v:V):List V:=[a,b,c,.bytes key,r4,.ref pt,v6,.ref lf,.int pg,v,.undef]
noncomputable abbrev T9(ks:List (List UInt8))(key:List UInt8):Int:=if key∈ks then 0 else if ltN ks key<ks.length then 1 else -1
theorem Na{a b c r4 v6:V}{key:List UInt8}{pt lf:Nat}{pg:Int}{ks:List (List UInt8)}(hl:lst H lf=some (eU ks))(hz:ks.length<=100):rI.f (QO a b c r4 v6 key pt lf pg (.int (ltN ks key:Nat))) H = .ok (.int (T9 ks key)) H:=by
 have ik:=T8 (key:=key) hl
 have ln:=fu hl (by rw [eU,List.length_map];exact Nat.le_trans hz (by decide))
 rw [eU,List.length_map]at ln
 unfold T9
 by_cases c1:key∈ks
 ·rw [decide_eq_true c1]at ik
  rw [if_pos c1];exact j5 (ρ:=QO a b c r4 v6 key pt lf pg (.int (ltN ks key:Nat))) (H:=H) rI ik
 ·rw [decide_eq_false c1]at ik
  rw [if_neg c1]
  by_cases c2:ltN ks key<ks.length
  ·rw [if_pos c2];exact j5 (ρ:=QO a b c r4 v6 key pt lf pg (.int (ltN ks key:Nat))) (H:=H) rI ik ln (xH (Int.ofNat_lt.mpr c2))
  ·rw [if_neg c2];exact j5 (ρ:=QO a b c r4 v6 key pt lf pg (.int (ltN ks key:Nat))) (H:=H) rI ik ln (g5 fun e=>c2 (Int.ofNat_lt.mp e))
inductive OL(H:AH)(z:V)(path:List V)(q:RS):Prop
 |mk (d:Nat) (H':AH) (e:q = .ret (.tup [.ref d,z]) H') (l:lst H' d=some path) (k:Kp [] H H')
theorem Cr{a b c r4 v6:V}{key:List UInt8}{pt lf:Nat}{path:List V}{pg:Int}{ks:List (List UInt8)}(hp:lst H pt=some path)(hl:lst H lf=some (eU ks))(hz:ks.length<=100)(hpl:path.length<=100) :
  OL H (.int (T9 ks key)) (path++[.tup [.int pg,.int (ltN ks key:Nat)]]) (FQ (QO a b c r4 v6 key pt lf pg .undef) H):=by
 obtain⟨X,c1⟩:=OI (ρ:=QO a b c r4 v6 key pt lf pg .undef) (j:=7) rfl rfl hl hz
 have ad:=jo (H:=H++X++[.list [.tup [.int pg,.int (ltN ks key:Nat)]]]) (cP (cP hp)) aK (Nat.le_trans (Nat.succ_le_succ hpl) (by decide))
 exact⟨_,_,dS (ρ:=QO a b c r4 v6 key pt lf pg .undef) (H:=H) yU c1 (Na (cP hl) hz) ad,aK,(Kp.app.trans .app).trans .app⟩
end
section
variable{H:AH}{lv mv pv rt:Nat}{ay:List Nat}
noncomputable def KJ:TS := .ja (.of (.bin oR (.call bT (.cons (.var 0) .nil)) (.con (.int 1))))
 (.aA (.set 6 (.raw (Eb 1))) (.aA (.expr (.fk iU aY (.var 5) (.cons (.tup (.cons (.var 4) (.cons (.var 6) .nil))) .nil))) (.aA (.ja (.of (.bin L6 (.var 3) (.var 1))) (.aA (.ret (.tup (.cons (.var 5) (.cons (.con (.int 0)) .nil)))) .aL) .aL) (.aA (.nU [7,8] (.tup (.cons (.item (.var 0) (.var 6)) (.cons (.item (.var 2) (.var 6)) .nil)))) .aL))))
 (.aA (.nU [7,8] (.tup (.cons (.item (.var 0) (.con (.int 0))) (.cons (.var 4) .nil)))) .aL)
noncomputable def QR:TS := .aA (.nU [4,5] (.tup (.cons (.item (.var 2) (.neg (.con (.int 1)))) (.cons (.list .nil) .nil)))) (.aA KJ (.ej FQ))
section
variable{au:List (List (List UInt8))}{av:List (List UInt8)}{key:List UInt8}
theorem QS(c:1<au.length)(hm:key∈av):kE au av key=0:=by rw [kE,wo c hm];rfl
theorem KL(h:1<au.length->key∉av){L:List (List UInt8)}(hL:leafOf au av key=L):kE au av key=T9 L key:=by
 rw [kE,wq h,hL]
 unfold T9
 by_cases c:key∈L
 ·rw [if_pos (decide_eq_true c),if_pos c]
 ·rw [if_neg (fun e=>c (of_decide_eq_true e)),if_neg c]
end
theorem Nb{bX:List (List (List UInt8))}{ms:List (List UInt8)}(I:jx H false lv mv pv (bX.map eU) (eU ms) ay rt){key:List UInt8} :
  Due H (.int (kE bX ms key)) (eS bX ms ay rt key) (iI [.ref lv,.ref mv,.ref pv,.bytes key] H):=by
 have ml:ms.length+1=bX.length:=(congrArg (· + 1) (List.length_map ..)).symm.trans (I.nm.trans (List.length_map ..))
 have ll:(bX.map eU).length=bX.length:=List.length_map ..
 have Rn:=uI I .refl
 have k1:Kp [] H (H++[.list []]) := .app
 have ln:=pU I k1
 rw [ll]at ln
 by_cases c:1<bX.length
 ·obtain⟨X,e2⟩:=OI (key:=key) (H:=H++[.list []]) (ρ:=[.ref lv,.ref mv,.ref pv,.bytes key,.int (rt+1:Nat),.ref H.length,.undef,.undef,.undef,.undef,.undef]) (j:=1) rfl rfl (k1.lst ed I.mids) (Nat.le_trans (List.length_map .. ▸ I.Cm) (by decide))
  have l2:lst (H++[AO.list []]++X) H.length=some []:=cP aK
  have ap:=append_at (w:=step rt (ltN ms key)) l2 (by decide)
  have k3:Kp [] H ((H++[AO.list []]++X).set H.length (.list ([]++[step rt (ltN ms key)]))):=((k1.trans .app).up.trans .set).drop (Nat.le_refl _)
  have l3:=gq (ws:=[]++[step rt (ltN ms key)]) l2
  have ik:=T8 (key:=key) (k3.lst ed I.mids)
  by_cases hm:key∈ms
  ·rw [decide_eq_true hm]at ik
   rw [QS c hm,Ca c hm]
   exact⟨H.length,_,vf 4 7 QR [.ref lv,.ref mv,.ref pv,.bytes key] H rfl Rn ln (G6 (Int.ofNat_lt.mpr c)) e2 (eO l2) ap ik,l3,k3⟩
  ·rw [decide_eq_false hm]at ik
   have hi:=pR ml (wi (ks:=ms) (key:=key))
   obtain⟨⟨lf,f1,f2⟩,sz⟩:=Ec I k3 hi
   have pa:=uH I k3 (i:=ltN ms key) (ll▸hi)
   have h2:=List.getElem?_eq_getElem hi
   rw [KL (fun _=>hm) (qZ c h2),wu c hm (jR I (ll▸hi)) h2]
   obtain⟨d,H',t1,t2,t3⟩:=Cr (a := .ref lv) (b := .ref mv) (c := .ref pv) (r4 := .int (rt+1:Nat)) (v6 := .int (ltN ms key:Nat)) (key:=key) (pg:=(ay.getD (ltN ms key) 0+1:Nat)) l3 f2 (Nat.le_trans (List.length_map .. ▸ sz) (by decide)) (show 1<=100 by decide)
   exact⟨d,H',vf 4 7 QR [.ref lv,.ref mv,.ref pv,.bytes key] H rfl Rn ln (G6 (Int.ofNat_lt.mpr c)) e2 (eO l2) ap ik f1 pa t1,t2,k3.trans t3⟩
 ·have l0:0<bX.length:=ml▸Nat.succ_pos _
  obtain⟨⟨lf,f1,f2⟩,sz⟩:=Ec I k1 l0
  have lo:leafOf bX ms key=bX[0]:=by rw [leafOf,if_neg c];exact getD_at (List.getElem?_eq_getElem l0)
  have kp:eS bX ms ay rt key=[step rt (ltN bX[0] key)]:=by rw [eS,if_neg c,getD_at (List.getElem?_eq_getElem l0)]
  rw [KL (fun h=>absurd h c) lo,kp]
  obtain⟨d,H',t1,t2,t3⟩:=Cr (a := .ref lv) (b := .ref mv) (c := .ref pv) (r4 := .int (rt+1:Nat)) (v6 := .undef) (key:=key) (pg:=(rt+1:Nat)) (aK (H:=H) (X:=[])) f2 (Nat.le_trans (List.length_map .. ▸ sz) (by decide)) (show 0<=100 by decide)
  exact⟨d,H',vf 4 7 QR [.ref lv,.ref mv,.ref pv,.bytes key] H rfl Rn ln (kC fun e=>c (Int.ofNat_lt.mp e)) f1 t1,t2,k1.trans t3⟩
end
section
variable{H:AH}{lv mv pv rt:Nat}{ay:List Nat}
noncomputable def Ua:TX Bool := .of (.bin iw (.call bT (.cons (.var 0) .nil)) (.con (.int 1)))
noncomputable def KN:TS := .aA (.ret (.tup (.cons (.bin aS (.var 8) (.list (.cons (.tup (.cons (.var 7) (.cons (.raw (Eb 6)) .nil))) .nil))) (.cons (.bin L6 (.var 3) (.var 6)) .nil)))) .aL
noncomputable def Ub:TS := .aA (.set 4 (.item (.var 2) (.neg (.con (.int 1))))) (.aA (.set 5 (.raw (Eb 1))) (.aA (.nU [6,7] (.tup (.cons (.item (.var 0) (.var 5)) (.cons (.ite Ua (.var 4) (.item (.var 2) (.var 5))) .nil))))
 (.aA (.set 8 (.ite Ua (.list .nil) (.list (.cons (.tup (.cons (.var 4) (.cons (.var 5) .nil))) .nil)))) (.ej KN.f))))
theorem Cs{a b c r4 v5:V}{key:Int}{pt lf:Nat}{path:List V}{pg:Int}{ks:List Int}(hp:lst H pt=some path)(hl:lst H lf=some (eI ks))(hz:ks.length<=100)(hpl:path.length<=100) :
  OL H (.bool (decide (key∈ks))) (path++[.tup [.int pg,.int (jO ks key:Nat)]]) (KN.f [a,b,c,.int key,r4,v5,.ref lf,.int pg,.ref pt] H):=by
 obtain⟨X,c1⟩:=OJ (key:=key) (ρ:=[a,b,c,.int key,r4,v5,.ref lf,.int pg,.ref pt]) (j:=6) rfl rfl hl hz
 have ad:=jo (H:=H++X++[.list [.tup [.int pg,.int (jO ks key:Nat)]]]) (cP (cP hp)) aK (Nat.le_trans (Nat.succ_le_succ hpl) (by decide))
 exact⟨_,_,dS (ρ:=[a,b,c,.int key,r4,v5,.ref lf,.int pg,.ref pt]) (H:=H) KN c1 ad (Wq (cP (cP (cP hl)))),aK,(Kp.app.trans .app).trans .app⟩
theorem Nc{bX:List (List Int)}{ms:List Int}(I:jx H true lv mv pv (bX.map eI) (eI ms) ay rt){key:Int} :
  Due H (.bool (decide (key∈kF bX ms key))) (jn bX ms ay rt key) (iJ [.ref lv,.ref mv,.ref pv,.int key] H):=by
 have ml:ms.length+1=bX.length:=(congrArg (· + 1) (List.length_map ..)).symm.trans (I.nm.trans (List.length_map ..))
 have ll:(bX.map eI).length=bX.length:=List.length_map ..
 have Rn:=uI I .refl
 obtain⟨X,e2⟩:=OJ (key:=key) (H:=H) (ρ:=[.ref lv,.ref mv,.ref pv,.int key,.int (rt+1:Nat),.undef,.undef,.undef,.undef]) (j:=1) rfl rfl I.mids (Nat.le_trans (List.length_map .. ▸ I.Cm) (by decide))
 have k2:Kp [] H (H++X) := .app
 have ln:=pU I k2
 rw [ll]at ln
 have hi:=pR ml (wj (ks:=ms) (key:=key))
 obtain⟨⟨lf,f1,f2⟩,sz⟩:=Ec I k2 hi
 have sz:=Nat.le_trans (List.length_map .. ▸ sz:bX[jO ms key].length<=3) (show 3<=100 by decide)
 by_cases c:1<bX.length
 ·have h2:=List.getElem?_eq_getElem hi
  rw [sI c h2,yJ c (jR I (ll▸hi)) h2]
  obtain⟨d,H',t1,t2,t3⟩:=Cs (path:=[step rt (jO ms key)]) (H:=H++X++[AO.list [step rt (jO ms key)]]) (a := .ref lv) (b := .ref mv) (c := .ref pv) (r4 := .int (rt+1:Nat)) (v5 := .int (jO ms key:Nat)) (key:=key) (pg:=(ay.getD (jO ms key) 0+1:Nat)) aK (cP f2) sz (show 1<=100 by decide)
  have o:=g7 (H:=H++X) (z:=(bX.length:Nat)) (u:=1) (beq_false_of_ne fun e=>Nat.ne_of_gt c (Int.ofNat_inj.mp e))
  exact⟨d,H',vf 4 5 Ub [.ref lv,.ref mv,.ref pv,.int key] H rfl Rn e2 f1 ln o (uH I k2 (ll▸hi)) ln o t1,t2,(k2.trans .app).trans t3⟩
 ·have c1:=pQ ml c
  have r0:jO ms key=0:=Nat.le_zero.mp (Nat.le_trans wj (Nat.le_of_eq (Nat.succ.inj (ml.trans c1))))
  have lo:kF bX ms key=bX[jO ms key]:=by rw [kF,if_neg c];exact getD_at (by rw [← r0];exact List.getElem?_eq_getElem hi)
  have rp:jn bX ms ay rt key=[step rt (jO bX[jO ms key] key)]:=by rw [jn,if_neg c,lo]
  rw [lo,rp]
  obtain⟨d,H',t1,t2,t3⟩:=Cs (path:=[]) (H:=H++X++[AO.list []]) (a := .ref lv) (b := .ref mv) (c := .ref pv) (r4 := .int (rt+1:Nat)) (v5 := .int (jO ms key:Nat)) (key:=key) (pg:=(rt+1:Nat)) aK (cP f2) sz (show 0<=100 by decide)
  have o:=qI (H:=H++X) (z:=(bX.length:Nat)) (u:=1) (by rw [c1];rfl)
  exact⟨d,H',vf 4 5 Ub [.ref lv,.ref mv,.ref pv,.int key] H rfl Rn e2 f1 ln o ln o t1,t2,(k2.trans .app).trans t3⟩
end
section
variable{H:AH}{lv mv pv rt:Nat}{ay:List Nat}
noncomputable def nj(p:List V):Prop := ∀v∈p,∃a b:Int,v = .tup [.int a,.int b]
theorem nj.nil:nj []:=fun _ h=>absurd h List.not_mem_nil
theorem nj.cons{a b:Int}{p:List V}(h:nj p):nj (.tup [.int a,.int b]::p):=List.forall_mem_cons.mpr ⟨⟨a,b,rfl⟩,h⟩
theorem mO{f:V->V->Option Bool}:∀{vs:List V},(∀v∈vs,f v v=some true)->allEq f vs vs=some true:=by
 intro vs
 induction vs with
 |nil=>exact fun _=>rfl
 |cons v vs ih =>
  intro h
  show(f v v).bind (fun a=>(allEq f vs vs).bind _) = _
  rw [h v List.mem_cons_self,ih fun v hv=>h v (List.mem_cons_of_mem _ hv)];rfl
theorem eq_int{n:Nat}{a:Int}:tF H n (.int a) (.int a)=some true:=by cases n<;>exact congrArg some BEq.rfl
theorem Nd{n:Nat}{vs:List V}(h:∀v∈vs,tF H n v v=some true):tF H (n+1) (.tup vs) (.tup vs)=some true:=(if_pos rfl).trans (mO h)
theorem wM{n i j:Nat}{p:List V}(hi:lst H i=some p)(hj:lst H j=some p)(h:nj p):tF H (n+3) (.ref i) (.ref j)=some true:=by
 show(lst H i).bind (fun vs=>(lst H j).bind _) = _
 rw [hi,hj]
 refine(if_pos rfl).trans (mO fun v hv=>?_)
 obtain⟨a,b,rfl⟩:=h v hv
 exact Nd (List.forall_mem_cons.mpr ⟨eq_int,List.forall_mem_cons.mpr ⟨eq_int,fun _ h=>absurd h List.not_mem_nil⟩⟩)
theorem Nf{i j:Nat}{p:List V}(hi:lst H i=some p)(hj:lst H j=some p)(h:nj p):xw (.ref i) (.ref j) H = .ok (.bool false) H:=by
 show cC (tF H 4 _ _) _ = _
 rw [wM (n:=1) hi hj h];rfl
theorem Ng{i j:Nat}{p:List V}(hi:lst H i=some p)(hj:lst H j=some p)(h:nj p):iw (.ref i) (.ref j) H = .ok (.bool true) H:=by
 show cC (tF H 4 _ _) _ = _
 rw [wM (n:=1) hi hj h];rfl
theorem KO{i j:Nat}{p:List V}{v:V}(hi:lst H i=some p)(hj:lst H j=some p)(h:nj p)(hv:tF H 3 v v=some true):xw (.tup [.ref i,v]) (.tup [.ref j,v]) H = .ok (.bool false) H:=by
 have e1:allEq (tF H 3) [v] [v]=some true:=mO (List.forall_mem_cons.mpr ⟨hv,fun _ h=>absurd h List.not_mem_nil⟩)
 have e:allEq (tF H 3) [.ref i,v] [.ref j,v]=some true:=by
  show(tF H 3 (.ref i) (.ref j)).bind (fun a=>(allEq (tF H 3) [v] [v]).bind _) = _
  rw [wM (n:=0) hi hj h,e1];rfl
 have e4:tF H (3+1) (.tup [.ref i,v]) (.tup [.ref j,v])=some true:=(if_pos (e:=none) (c:=[V.ref i,v].length=[V.ref j,v].length) rfl).trans e
 show cC (tF H (3+1) _ _) _ = _
 rw [e4];rfl
theorem yV{sizes:List Nat}{last:Bool}:nj (d9 sizes ay rt last):=by
 unfold d9
 by_cases c:1<sizes.length
 ·rw [if_pos c];cases last<;>exact .cons (.cons .nil)
 ·rw [if_neg c];cases last<;>exact .cons .nil
noncomputable def Nh:TX V := .ite (.of (.bin iw (.var 4) (.con (.int 0)))) (.list (.cons (.tup (.cons (.var 3) (.cons (.con (.int 0)) .nil))) .nil)) (.list (.cons (.tup (.cons (.var 3) (.cons (.con (.int 0)) .nil))) (.cons (.tup (.cons (.item (.var 2) (.con (.int 0))) (.cons (.con (.int 0)) .nil))) .nil)))
noncomputable def Ni:TX V := .ite (.of (.bin iw (.var 4) (.con (.int 0)))) (.list (.cons (.tup (.cons (.var 3) (.cons (.var 6) .nil))) .nil)) (.list (.cons (.tup (.cons (.var 3) (.cons (.var 4) .nil))) (.cons (.tup (.cons (.item (.var 2) (.var 4)) (.cons (.var 6) .nil))) .nil)))
noncomputable def Wr:TS := .aA (.nU [3,4] (.tup (.cons (.item (.var 2) (.neg (.con (.int 1)))) (.cons (.bin eH (.call bT (.cons (.var 1) .nil)) (.con (.int 1))) .nil))))
 (.aA (.set 5 (.raw Nh.f)) (.aA (.ja (.of (.bin xw (.call fF (.cons (.var 0) (.cons (.var 3) (.cons (.con (.bool false)) .nil)))) (.var 5))) (.aA (.ret (.con (.bool false))) .aL) .aL)
 (.aA (.set 6 (.bin eH (.call bT (.cons (.item (.var 1) (.var 4)) .nil)) (.con (.int 1)))) (.aA (.ret (.bin iw (.call fF (.cons (.var 0) (.cons (.var 3) (.cons (.con (.bool true)) .nil)))) (.raw Ni.f))) .aL))))
section
variable{rows:Bool}{au:List (List V)}{av:List V}(I:jx H rows lv mv pv au av ay rt){H':AH}(k:Kp [] H H')
include I
theorem KP(c:¬ 1<au.length):av.length=0:=Nat.succ.inj (I.nm.trans (pQ I.nm c))
theorem KQ(c:1<au.length):(av.length:Int)≠0:=fun e=>by
 have e:=Int.ofNat_inj.mp (e:((av.length:Nat):Int)=((0:Nat):Int))
 rw [← I.nm,e]at c;exact absurd c (Nat.lt_irrefl _)
include k
theorem Uc{t l u v:V}:Nh.f [t,l,.ref pv,.int (rt+1:Nat),.int av.length,u,v] H' = .ok (.ref H'.length) (H'++[.list (d9 (au.map List.length) ay rt false)]):=by
 unfold d9
 rw [List.length_map]
 by_cases c:1<au.length
 ·rw [if_pos c]
  exact j5 (ρ:=[t,l,.ref pv,.int (rt+1:Nat),.int av.length,u,v]) (H:=H') Nh (g7 (beq_false_of_ne (KQ I c))) (uH I k (i:=0) (Nat.lt_trans Nat.one_pos c))
 ·rw [if_neg c]
  exact j5 (ρ:=[t,l,.ref pv,.int (rt+1:Nat),.int av.length,u,v]) (H:=H') Nh (qI (by rw [KP I c];rfl))
theorem Ud{t l u:V}{L:List V}(hL:au[av.length]? = some L):Ni.f [t,l,.ref pv,.int (rt+1:Nat),.int av.length,u,.int ((L.length:Int) - 1)] H' = .ok (.ref H'.length) (H'++[.list (d9 (au.map List.length) ay rt true)]):=by
 have g:(au.map List.length).getD av.length 0=L.length:=getD_at (by rw [List.getElem?_map,hL];rfl)
 have n1:au.length - 1=av.length:=(Nat.eq_sub_of_add_eq I.nm).symm
 unfold d9
 rw [List.length_map,n1,g]
 by_cases c:1<au.length
 ·rw [if_pos c]
  exact j5 (ρ:=[t,l,.ref pv,.int (rt+1:Nat),.int av.length,u,.int ((L.length:Int) - 1)]) (H:=H') Ni (g7 (beq_false_of_ne (KQ I c))) (uH I k (i:=av.length) (pR I.nm (Nat.le_refl _)))
 ·rw [KP I c]at g
  rw [if_neg c,g]
  exact j5 (ρ:=[t,l,.ref pv,.int (rt+1:Nat),.int av.length,u,.int ((L.length:Int) - 1)]) (H:=H') Ni (qI (by rw [KP I c];rfl))
end
theorem ends_right{rows:Bool}{au:List (List V)}{av:List V}{tn st:Nat}{aT:List (List UInt8)}(I:jx H rows lv mv pv au av ay rt)(E:JX aT (au.map List.length) ay rt)(T:bW H tn st)(S:bR H st aT) :
  Ev (Kp [] H) (dO [.inst 527 tn,.ref lv,.ref pv] H) (.bool true):=by
 have sb:eH (.int au.length) (.int 1) H = .ok (.int av.length) H:=by
  rw [PV,<- I.nm];exact congrArg (fun z=>R.ok (V.int z) H) (Int.add_sub_cancel (av.length:Int) 1)
 have k1:Kp [] H (H++[.list (d9 (au.map List.length) ay rt false)]) := .app
 obtain⟨X1,e1⟩:=wx (last:=false) (T.app (X:=[.list (d9 (au.map List.length) ay rt false)])) S.app E
 have k2:Kp [] H (H++[.list (d9 (au.map List.length) ay rt false)] ++ .list (d9 (au.map List.length) ay rt false)::X1):=k1.trans .app
 have ne:=Nf (aK (X:=X1)) (cP (aK (H:=H) (X:=[]))) (yV (sizes:=au.map List.length) (ay:=ay) (rt:=rt) (last:=false))
 have hi:=pR I.nm (Nat.le_refl av.length)
 obtain⟨lf,g1,g2⟩:=FP I k2 hi
 have Yy:=fu g2 (Nat.le_trans (I.size _ (List.getElem_mem hi)) (by decide))
 obtain⟨X2,e2⟩:=wx (last:=true) (T.app.app (X := .list (d9 (au.map List.length) ay rt false)::X1)) S.app.app E
 have k3:=k2.trans (Kp.app (X := .list (d9 (au.map List.length) ay rt true)::X2))
 exact⟨_,vf 3 4 Wr [.inst 527 tn,.ref lv,.ref pv] H rfl (uI I .refl) (pU I .refl) sb (Uc I .refl) e1 ne g1 Yy rfl e2 (Ud I k3 (List.getElem?_eq_getElem hi)) (Ng (cP aK) aK yV),k3.trans .app⟩
end
section
variable{H:AH}{lv mv pv rt:Nat}{ay:List Nat}
theorem Aw{j n:Nat}{ks:List (Nat×Nat)}{fs:List (Fd×V)}(ht:H[j]? = some (.tab ks))(h:dct H n=some fs):n≠j:=fun e=>AO.noConfusion (Option.some.inj ((iG h).symm.trans (e▸ht)))
theorem pW{j n:Nat}{ks:List (Nat×Nat)}{vs:List V}(ht:H[j]? = some (.tab ks))(h:lst H n=some vs):n≠j:=fun e=>AO.noConfusion (Option.some.inj ((fh h).symm.trans (e▸ht)))
theorem bR.tab{st j:Nat}{aT:List (List UInt8)}{ks:List (Nat×Nat)}{x:AO}(ht:H[j]? = some (.tab ks)):bR H st aT->bR (H.set j x) st aT
 |⟨pl,sp,h1,h2,h3,h4⟩=>⟨pl,sp,Kp.set.dct (gE (Aw ht h1)) h1,Kp.set.lst (gE (pW ht h2)) h2,h3,h4⟩
theorem bW.tab{st tn j:Nat}{ks:List (Nat×Nat)}{x:AO}(ht:H[j]? = some (.tab ks)):bW H tn st->bW (H.set j x) tn st
 |⟨a,b,h1⟩=>⟨a,b,Kp.set.dct (gE (Aw ht h1)) h1⟩
theorem bR.kp{H':AH}{st:Nat}{aT:List (List UInt8)}(k:Kp [] H H'):bR H st aT->bR H' st aT
 |⟨pl,sp,h1,h2,h3,h4⟩=>⟨pl,sp,k.dct ed h1,k.lst ed h2,h3,h4⟩
theorem bW.kp{H':AH}{st tn:Nat}(k:Kp [] H H'):bW H tn st->bW H' tn st
 |⟨a,b,h1⟩=>⟨a,b,k.dct ed h1⟩
theorem Ck.kp{H':AH}{rs:List Nat}{i:Nat}{l:List V}(k:Kp [] H H'):Ck H rs i l->Ck H' rs i l
 |⟨r,a,b⟩=>⟨r,a,k.lst ed b⟩
theorem tT.kp{H':AH}{au:List (List V)}(k:Kp [] H H'):tT H lv au->tT H' lv au
 |⟨rs,r1,r2,r3⟩=>⟨rs,k.lst ed r1,r2,fun i hi=>(r3 i hi).kp k⟩
theorem jx.kp{H':AH}{rows:Bool}{au:List (List V)}{av:List V}(I:jx H rows lv mv pv au av ay rt)(k:Kp [] H H'):jx H' rows lv mv pv au av ay rt :=
 {kH:=I.kH.kp k,mids:=k.lst ed I.mids,aT:=k.lst ed I.aT,np:=I.np,nm:=I.nm,few:=I.few,size:=I.size,rD:=I.rD,rE:=I.rE,oU:=I.oU,rF:=I.rF,apart:=I.apart,apart':=I.apart'}
inductive QT(H:AH)(j:Nat)(k:Nat×Nat)(ks:List (Nat×Nat))(q:R V):Prop
 |mk (H':AH) (e:q = .ok (.bool true) H') (kp:Kp [j] H H') (l:H'[j]? = some (.tab (k::ks)))
theorem KR{j:Nat}{ks:List (Nat×Nat)}{k:Nat×Nat}{is:List Nat}{ρ vs:List V}{el:EF}{X:AH}(ht:H[j]? = some (.tab ks))(hk:k∉ks)(hg:getAll ρ is=some vs)(he:el vs (H.set j (.tab (k::ks))) = .exc (H.set j (.tab (k::ks))++X)):QT H j k ks (vK j k is el ρ H):=by
 refine⟨H.set j (.tab (k::ks))++X,?_,Kp.set.trans .app,vU (by rw [List.getElem?_set_self (List.getElem?_eq_some_iff.mp ht).1])⟩
 unfold vK
 rw [ht]
 show(if k∉ks then cC (getAll ρ is) _ else _) = _
 rw [if_pos hk,hg]
 show Sf (el vs _) = _
 rw [he];rfl
theorem Nj{tn st j:Nat}{aT:List (List UInt8)}{ks:List (Nat×Nat)}{k:Nat×Nat}{is:List Nat}{ρ:List V}{z:Int}{b:List UInt8}(ht:H[j]? = some (.tab ks))(hk:k∉ks)(hg:getAll ρ is=some [.inst 527 tn,.int (rt+1:Nat)])
  (T:bW H tn st) (S:bR H st aT) (hb:aT[rt]? = some b) (kk:hU b (rt+1:Nat)) (hr:lH b (rt+1:Nat)=false) :
  QT H j k ks (vK j k is (aF dj (af (ai 0) (af (ai 1) (af (ak (.int z)) aC)))) ρ H):=by
 obtain⟨X,e⟩:=xM (key:=z) (T.tab (x := .tab (k::ks)) ht) (S.tab (x := .tab (k::ks)) ht) hb kk hr
 exact KR ht hk hg (z5 rfl e)
theorem Nk{tn st j:Nat}{aT:List (List UInt8)}{ks:List (Nat×Nat)}{k:Nat×Nat}{is:List Nat}{ρ:List V}{z:List UInt8}{b:List UInt8}(ht:H[j]? = some (.tab ks))(hk:k∉ks)(hg:getAll ρ is=some [.inst 527 tn,.int (rt+1:Nat)])
  (T:bW H tn st) (S:bR H st aT) (hb:aT[rt]? = some b) (kk:hU b (rt+1:Nat)) (hr:lH b (rt+1:Nat)=true) :
  QT H j k ks (vK j k is (aF dR (af (ai 0) (af (ai 1) (af (ak (.bytes z)) (af (aF (kZ 590) aC) aC))))) ρ H):=by
 obtain⟨X,e⟩:=Cb (key:=z) (o:=(H.set j (.tab (k::ks))).length) ((T.tab (x := .tab (k::ks)) ht).app (X:=[.dict []])) ((S.tab (x := .tab (k::ks)) ht).app (X:=[.dict []])) hb kk hr
 exact KR ht hk hg ((z5 rfl e).trans (by rw [List.append_assoc]))
theorem Hu{bX:List (List (List UInt8))}{ms key}:nj (eS bX ms ay rt key):=by
 unfold eS
 split
 ·split
  ·exact .cons .nil
  ·exact .cons (.cons .nil)
 ·exact .cons .nil
theorem Hv{bX:List (List Int)}{ms key}:nj (jn bX ms ay rt key):=by
 unfold jn
 split
 ·exact .cons (.cons .nil)
 ·exact .cons .nil
theorem Ue{n:Nat}{a:List UInt8}:tF H n (.bytes a) (.bytes a)=some true:=by cases n<;>exact congrArg some BEq.rfl
theorem Ct{i j:Nat}{bs:List (List UInt8)}(hi:lst H i=some (bs.map V.bytes))(hj:lst H j=some (bs.map V.bytes)):iw (.ref i) (.ref j) H = .ok (.bool true) H:=by
 show cC ((lst H i).bind fun vs=>(lst H j).bind _) _ = _
 rw [hi,hj]
 show cC (if _ = _ then allEq (tF H 3) _ _ else _) _ = _
 rw [if_pos rfl,mO fun v hv=>by obtain⟨b,_,rfl⟩:=List.mem_map.mp hv;exact Ue];rfl
noncomputable def FS:TS := .aA (.ja (.of (.bin xw (.call dR (.cons (.var 11) (.cons (.var 12) (.cons (.var 15) (.cons (.call (kZ 590) .nil) .nil))))) (.call iI (.cons (.var 5) (.cons (.var 6) (.cons (.var 9) (.cons (.var 15) .nil))))))) (.aA (.ret (.con (.bool false))) .aL) .aL) .aL
noncomputable def Cu:SF:=FS.f
inductive Xw{α:Type}(I:AH->Prop)(p:α->List V)(q:RS):Prop
 |mk (H':AH) (v:α) (e:q = .next (p v) H') (i:I H')
theorem KS{tn st:Nat}{aT:List (List UInt8)}{bX:List (List (List UInt8))}{ms:List (List UInt8)}{key:List UInt8}{a b c d e f g h i j:V}
  (I:jx H false lv mv pv (bX.map eU) (eU ms) ay rt) (K:tR aT bX ms ay rt) (T:bW H tn st) (S:bR H st aT) :
  Xw (Kp [] H) (fun v=>[a,b,c,d,e,.ref lv,.ref mv,f,g,.ref pv,h,.inst 527 tn,.int (rt+1:Nat),i,j,v]) (Cu [a,b,c,d,e,.ref lv,.ref mv,f,g,.ref pv,h,.inst 527 tn,.int (rt+1:Nat),i,j,.bytes key] H):=by
 obtain⟨X,e1⟩:=find_key (key:=key) (o:=H.length) (T.app (X:=[.dict []])) S.app eN K
 have k2:Kp [] H (H++[.dict []] ++ .list (eS bX ms ay rt key)::X):=Kp.app.trans .app
 obtain⟨d',H3,e3,l3,k3⟩:=Nb (key:=key) (I.kp k2)
 have ne:=KO (v := .int (kE bX ms key)) (k3.lst ed aK) l3 Hu eq_int
 exact⟨H3,.bytes key,dS (ρ:=[a,b,c,d,e,.ref lv,.ref mv,f,g,.ref pv,h,.inst 527 tn,.int (rt+1:Nat),i,j,.bytes key]) (H:=H) FS rfl e1 e3 ne,k2.trans k3⟩
theorem Nm{tn st n:Nat}{aT:List (List UInt8)}{bX:List (List (List UInt8))}{ms asked:List (List UInt8)}{a b c d e f g h i j:V}(K:tR aT bX ms ay rt) :
  ∀(q k:Nat)(H:AH)(o:V),jx H false lv mv pv (bX.map eU) (eU ms) ay rt->bW H tn st->bR H st aT->lst H n=some (eU asked)->k+q=asked.length →
  Xw (Kp [] H) (fun v=>[a,b,c,d,e,.ref lv,.ref mv,f,g,.ref pv,h,.inst 527 tn,.int (rt+1:Nat),i,j,v]) (forL 15 n Cu (q+1) k [a,b,c,d,e,.ref lv,.ref mv,f,g,.ref pv,h,.inst 527 tn,.int (rt+1:Nat),i,j,o] H):=by
 intro q
 induction q with
 |zero=>exact fun k H o I T S hl hk=>⟨H,o,U8 hl (List.getElem?_eq_none (by rw [eU,List.length_map];exact Nat.le_of_eq hk.symm)),.refl⟩
 |succ q ih =>
  intro k H o I T S hl hk
  have hk':=(Nat.succ_add_eq_add_succ k q).trans hk
  have c1:k<asked.length:=Nat.le.intro hk'
  obtain⟨H1,v1,e1,k1⟩:=KS (key:=asked[k]) I K T S
  obtain⟨H2,o',e2,k2⟩:=ih (k+1) H1 v1 (I.kp k1) (T.kp k1) (S.kp k1) (k1.lst ed hl) hk'
  exact⟨H2,o',(U7 hl (mK c1) e1).trans e2,k1.trans k2⟩
end
noncomputable def kb(n:Nat)(f:Bool):List UInt8:=(n / 256).toUInt8::(n % 256).toUInt8::(if f=true then [107]else [])
theorem Ug{a b:Nat}{f g:Bool}(h:a<b)(hb:b<65536):bl (kb a f) (kb b g)=true:=by
 have a1:=u8 (n:=a / 256) (by lia)
 have a2:=u8 (n:=a % 256) (by lia)
 have b1:=u8 (n:=b / 256) (by lia)
 have b2:=u8 (n:=b % 256) (by lia)
 unfold bl ym kb
 simp only [Builtin.Bytes.order]
 have QU(x y:UInt8):x > y ↔ y.toNat<x.toNat:=UInt8.lt_iff_toNat_lt
 simp only [QU,a1,a2,b1,b2]
 by_cases c1:a / 256<b / 256
 ·simp [c1]
 ·have c2:¬b / 256<a / 256:=by lia
  have c3:a % 256<b % 256:=by lia
  simp [c1,c2,c3]
inductive Kb(N:Nat)(k:List UInt8):Prop
 |mk (n:Nat) (f:Bool) (l:n<=N) (e:k=kb n f)
structure kJ(ks:List (List UInt8))(N:Nat):Prop where
 so:ks.Pairwise (fun a b=>bl a b=true)
 of:∀k∈ks,Kb N k
theorem kJ.nil{N:Nat}:kJ [] N:=⟨.nil,fun _ h=>absurd h List.not_mem_nil⟩
theorem kJ.next{ks:List (List UInt8)}{N N':Nat}{f:Bool}(G:kJ ks N)(h:N<N')(h':N'<65536):kJ (ks++[kb N' f]) N':=by
 refine⟨List.pairwise_append.mpr ⟨G.so,List.pairwise_singleton _ _,fun a ha b hb=>?_⟩,fun k hk=>?_⟩
 ·obtain⟨n,g,hn,rfl⟩:=G.of a ha
  rw [List.mem_singleton.mp hb]
  exact Ug (Nat.lt_of_le_of_lt hn h) h'
 ·rcases List.mem_append.mp hk with hk | hk
  ·obtain⟨n,g,hn,e⟩:=G.of k hk
   exact⟨n,g,Nat.le_trans hn (Nat.le_of_lt h),e⟩
  ·exact⟨N',f,Nat.le_refl _,List.mem_singleton.mp hk⟩
theorem QV{n:Nat}{f:Bool}:(kb n f).length<=3:=by cases f<;>exact Nat.le_of_ble_eq_true rfl
noncomputable def FT:TX V := .ite (.of (.bin iw (.call bE (.cons (.var 0) (.cons (.con (.int 2)) .nil))) (.con (.int 0)))) (.con (.bytes [])) (.con (.bytes [107]))
noncomputable def FU:TS := .aA (.set 2 (.bin aS (.bin aS (.var 2) (.con (.int 1))) (.call bE (.cons (.var 0) (.cons (.con (.int 90)) .nil))))) (.aA (.expr (.fk iU aY (.var 3) (.cons (.bin aS (.call bJ (.cons (.list (.cons (.bin iR (.var 2) (.con (.int 256))) (.cons (.bin iS (.var 2) (.con (.int 256))) .nil))) .nil)) (.raw FT.f)) .nil))) .aL)
noncomputable def KU:SF:=FU.f
noncomputable abbrev Xx(f:Bool):List UInt8:=if f=true then [107]else []
inductive Yz(H:AH)(s:Nat)(q:R V):Prop
 |mk (f:Bool) (H':AH) (e:q = .ok (.bytes (Xx f)) H') (k:Kp [s] H H') (S:cW H' s)
theorem kit_at{H:AH}{s:Nat}{ρ:List V}(S:cW H s):Yz H s (FT.f (.ref s::ρ) H):=by
 obtain⟨w,H3,e3,w1,k3,S3⟩:=gg S (top:=2) (by decide) (by decide)
 by_cases c:(w:Int)=0
 ·exact⟨false,H3,j5 (ρ := .ref s::ρ) (H:=H) FT e3 (qI (by rw [c];rfl)),k3,S3⟩
 ·exact⟨true,H3,j5 (ρ := .ref s::ρ) (H:=H) FT e3 (g7 (beq_false_of_ne c)),k3,S3⟩
inductive Uh(H:AH)(s nK N:Nat)(ks:List (List UInt8))(p:V->List V)(q:RS):Prop
 |mk (H':AH) (N':Nat) (f:Bool) (e:q = .next (p (.int N')) H') (n1:N<N') (n2:N'<=N+90) (l:lst H' nK=some (eU (ks++[kb N' f]))) (k:Kp [s,nK] H H') (S:cW H' s)
theorem Ui{H:AH}{s nK N:Nat}{ks:List (List UInt8)}{a:V}{r:List V}(S:cW H s)(hl:lst H nK=some (eU ks))(hs:nK≠s)(hN:N<60000)(hk:ks.length<=100) :
  Uh H s nK N ks (fun v => .ref s::a::v :: .ref nK::r) (KU (.ref s::a :: .int N :: .ref nK::r) H):=by
 obtain⟨d,H1,e1,d1,k1,S1⟩:=gg S (top:=90) (by decide) (by decide)
 have hd:=Int.ofNat_lt.mp d1
 have hb:N+1+d<65536:=Nat.lt_of_lt_of_le (Nat.add_lt_add (Nat.add_lt_add_right hN 1) hd) (by decide)
 have b1:bJ [.ref H1.length] (H1++[.list [.int (((N+1+d:Nat):Int) / 256),.int (((N+1+d:Nat):Int) % 256)]]) = .ok (.bytes [((N+1+d) / 256).toUInt8,((N+1+d) % 256).toUInt8]) (H1++[.list [.int (((N+1+d:Nat):Int) / 256),.int (((N+1+d:Nat):Int) % 256)]]) :=
  iF (ns:=[((N+1+d:Nat):Int) / 256,((N+1+d:Nat):Int) % 256]) aK (show 2<=16777216 by decide) (List.forall_mem_cons.mpr ⟨⟨Int.ediv_nonneg (Int.natCast_nonneg _) (by decide),Int.ediv_lt_of_lt_mul (by decide) (Int.ofNat_lt.mpr hb)⟩,List.forall_mem_cons.mpr ⟨⟨Int.emod_nonneg _ (by decide),Int.emod_lt_of_pos _ (by decide)⟩,fun _ h=>absurd h List.not_mem_nil⟩⟩)
 have k2:Kp [] H1 (H1++[.list [.int (((N+1+d:Nat):Int) / 256),.int (((N+1+d:Nat):Int) % 256)]]) := .app
 obtain⟨f,H3,e3,k3,⟨x,y,S3⟩⟩:=kit_at (ρ:=a :: .int (N+1+d:Nat) :: .ref nK::r) (S1.kp k2)
 have l1:=k1.lst (gE hs) hl
 have l3:=k3.lst (gE hs) (k2.lst ed l1)
 have ad:aS (.bytes [((N+1+d) / 256).toUInt8,((N+1+d) % 256).toUInt8]) (.bytes (Xx f)) H3 = .ok (.bytes (kb (N+1+d) f)) H3:=ff (by cases f<;>exact Nat.le_of_ble_eq_true rfl)
 exact⟨_,N+1+d,f,dS (ρ := .ref s::a :: .int N :: .ref nK::r) (H:=H) FU rfl e1 rfl (eO l1) (qJ (by decide)) (nh (by decide)) b1 e3 ad (append_at l3 (by rw [eU,List.length_map];exact Nat.le_trans hk (by decide))),
  Nat.lt_of_lt_of_le (Nat.lt_succ_self N) (Nat.le_add_right _ _),(Nat.add_assoc N 1 d).symm▸Nat.add_le_add_left (Nat.add_comm 1 d▸hd) N,(gq l3).trans (by rw [eU,eU,List.map_append];rfl),((k1.trans k2.up).trans k3).hd.trans Kp.set.tl,⟨x,y,Kp.set.lst (gE hs.symm) S3⟩⟩
inductive Uj(H:AH)(s nK n:Nat)(p:V->V->List V)(q:RS):Prop
 |mk (H':AH) (N':Nat) (ks':List (List UInt8)) (o':V) (e:q = .next (p (.int N') o') H') (l:lst H' nK=some (eU ks')) (G:kJ ks' N') (n':ks'.length=n) (k:Kp [s,nK] H H') (S:cW H' s)
theorem Uk{s nK:Nat}{a:V}{r:List V}(hs:nK≠s):∀(m k N:Nat)(ks:List (List UInt8))(H:AH)(o:V),cW H s->lst H nK=some (eU ks)->kJ ks N->ks.length=k->k+m<=12->N<=90*k →
  Uj H s nK (k+m) (fun v o => .ref s::a::v :: .ref nK::o::r) (forR 4 KU m k (.ref s::a :: .int N :: .ref nK::o::r) H):=by
 intro m
 induction m with
 |zero=>exact fun k N ks H o S hl G hk hm hN=>⟨H,N,ks,o,rfl,hl,G,hk,.refl,S⟩
 |succ m ih =>
  intro k N ks H o S hl G hk hm hN
  have M9:k<=12:=Nat.le_trans (Nat.le_add_right _ _) hm
  have N9:N<=1080:=Nat.le_trans hN (Nat.mul_le_mul_left 90 M9)
  obtain⟨H1,N1,f,e1,n1,n2,l1,k1,S1⟩:=Ui (N:=N) (a:=a) (r := .int (k:Int)::r) S hl hs (Nat.lt_of_le_of_lt N9 (by decide)) (hk▸Nat.le_trans M9 (by decide))
  have n3:=Nat.le_trans n2 (Nat.add_le_add_right hN 90)
  obtain⟨H2,N2,YA,o2,e2,l2,G2,q2,k2,S2⟩:=ih (k+1) N1 _ H1 (.int (k:Int)) S1 l1 (G.next n1 (Nat.lt_of_le_of_lt n2 (Nat.lt_of_le_of_lt (Nat.add_le_add_right N9 90) (by decide)))) (by rw [List.length_append,hk];rfl) ((Nat.succ_add_eq_add_succ k m).symm▸hm) n3
  exact⟨H2,N2,YA,o2,(Qn e1).trans e2,l2,G2,q2.trans (Nat.succ_add_eq_add_succ k m),k1.trans k2,S2⟩
inductive FW(H:AH)(oV:List Nat)(bad:List Nat)(i:Nat)(l:List V):Prop
 |mk (r:Nat) (h:oV[i]? = some r) (e:lst H r=some l) (n:r∉bad)
inductive cN(H:AH)(nL:Nat)(bad:List Nat)(Cv:List (List V)):Prop
 |mk (oV:List Nat) (h:lst H nL=some (oV.map V.ref)) (l:oV.length=Cv.length) (k:∀i(h:i<Cv.length),FW H oV bad i Cv[i])
theorem FW.kp{H H':AH}{oV bad xs:List Nat}{i:Nat}{l:List V}(k:Kp xs H H')(hb:∀x∈xs,x∈bad):FW H oV bad i l->FW H' oV bad i l
 |⟨r,d,e,f⟩=>⟨r,d,k.lst (fun q=>f (hb r q)) e,f⟩
theorem cN.kp{H H':AH}{nL:Nat}{bad xs:List Nat}{Cv:List (List V)}(L:cN H nL bad Cv)(k:Kp xs H H')(h:nL∉xs)(hb:∀x∈xs,x∈bad):cN H' nL bad Cv :=
 match L with | ⟨oV,a,b,c⟩=>⟨oV,k.lst h a,b,fun i hi=>(c i hi).kp k hb⟩
inductive Ul(H:AH)(nL:Nat)(bad:List Nat)(Cv:List (List V))(q:R V):Prop
 |mk (H':AH) (e:q = .ok .none H') (L:cN H' nL bad Cv) (k:Kp [nL] H H')
theorem cN.add{H:AH}{nL r:Nat}{bad:List Nat}{Cv:List (List V)}{lf:List V}(L:cN H nL bad Cv)(hr:lst H r=some lf)(hb:r∉bad)(hn:nL∈bad)(hz:Cv.length<=100):Ul H nL bad (Cv++[lf]) (aY [.ref nL,.ref r] H):=by
 obtain⟨oV,a,b,c⟩:=L
 have k:Kp [nL] H (H.set nL (.list (oV.map V.ref++[.ref r]))) := .set
 refine⟨_,append_at a (by rw [List.length_map,b];exact Nat.le_trans hz (by decide)),⟨oV++[r],(gq a).trans (by rw [List.map_append];rfl),by rw [List.length_append,List.length_append,b];rfl,fun i hi=>?_⟩,k⟩
 by_cases q:i<Cv.length
 ·obtain⟨r',d,e,f⟩:=c i q
  rw [List.getElem_append_left q]
  exact⟨r',by rw [List.getElem?_append_left (b▸q)];exact d,k.lst (gE fun e=>f (e▸hn)) e,f⟩
 ·have e:i=Cv.length:=Nat.le_antisymm (Nat.le_of_lt_succ (by rw [List.length_append]at hi;exact hi)) (Nat.le_of_not_lt q)
  subst e
  rw [List.getElem_append_right (Nat.le_refl _),List.getElem_singleton]
  exact⟨r,by rw [← b,List.getElem?_concat_length],k.lst (gE fun e=>hb (e▸hn)) hr,hb⟩
theorem Ed{n z:Nat}:clipAt n (z:Int)=min z n:=by
 unfold clipAt
 rw [if_neg (Int.not_lt.mpr (Int.natCast_nonneg z))]
 by_cases h:z<=n
 ·rw [Int.min_eq_left (Int.ofNat_le.mpr h),Int.max_eq_right (Int.natCast_nonneg z),Nat.min_eq_left h];rfl
 ·have h:=Nat.le_of_not_le h
  rw [Int.min_eq_right (Int.ofNat_le.mpr h),Int.max_eq_right (Int.natCast_nonneg n),Nat.min_eq_right h];rfl
theorem KV{α:Type}{l:List α}{a b:Nat}(h:a<=b):fD l (some (a:Int)) (some (b:Int))=(l.drop a).take (b - a):=by
 unfold fD
 rw [Option.elim_some,Option.elim_some,Ed,Ed]
 by_cases q:a<=l.length
 ·rw [Nat.min_eq_left q]
  by_cases q2:b<=l.length
  ·rw [Nat.min_eq_left q2]
  ·have q2:=Nat.le_of_not_le q2
   rw [Nat.min_eq_right q2,List.take_of_length_le (Nat.le_of_eq (List.length_drop ..)),List.take_of_length_le (by rw [List.length_drop];exact Nat.sub_le_sub_right q2 a)]
 ·have q:=Nat.le_of_not_le q
  rw [Nat.min_eq_right q,List.drop_eq_nil_of_le (Nat.le_refl _),List.drop_eq_nil_of_le q,List.take_nil,List.take_nil]
noncomputable def eT{α:Type}:List Nat->List α->List (List α)
 | [],_=>[]
 |n::ns,l=>l.take n::eT ns (l.drop (n+1))
noncomputable def nv{α:Type}:List Nat->List α->List α
 | [],_=>[]
 |n::ns,l=>(l.drop n).take 1++nv ns (l.drop (n+1))
noncomputable def FY:TS := .aA (.expr (.fk iU aY (.var 5) (.cons (.cut (.var 3) (.so (.var 7)) (.so (.bin aS (.var 7) (.var 8)))) .nil))) (.aA (.expr (.fk iU ur (.var 6) (.cons (.cut (.var 3) (.so (.bin aS (.var 7) (.var 8))) (.so (.bin aS (.bin aS (.var 7) (.var 8)) (.con (.int 1))))) .nil))) (.aA (.set 7 (.bin aS (.bin aS (.var 7) (.var 8)) (.con (.int 1)))) .aL))
noncomputable def KW:SF:=FY.f
theorem Hw{H:AH}{n m:Nat}{vs ws:List V}(h:lst H n=some vs)(h':lst H m=some ws)(hz:vs.length+ws.length<=16777214):ur [.ref n,.ref m] H = .ok .none (H.set n (.list (vs++ws))):=by
 show cC (lst H n) (fun vs=>cC (lst H m) _) = _
 rw [h,h'];exact if_pos hz
inductive Um(H:AH)(nL nM:Nat)(bad:List Nat)(Ls:List (List V))(Ms:List V)(ρ:List V)(q:RS):Prop
 |mk (H':AH) (e:q = .next ρ H') (L:cN H' nL bad Ls) (M:lst H' nM=some Ms) (k:Kp [nL,nM] H H')
theorem Un{H:AH}{nK nL nM at_ n:Nat}{vs Ms:List V}{Ls:List (List V)}{a b c d:V}{r:List V}{bad:List Nat}(hb:∀x∈bad,x<H.length)(b1:nL∈bad)(b2:nM∈bad)(hK:lst H nK=some vs)(hL:cN H nL bad Ls)(hM:lst H nM=some Ms)(d1:nK≠nL)(d2:nK≠nM)(d3:nL≠nM)(z1:vs.length<=100)(z2:Ls.length<=100)(z3:Ms.length<=100) :
  Um H nL nM bad (Ls++[(vs.drop at_).take n]) (Ms++(vs.drop (at_+n)).take 1) (a::b::c :: .ref nK::d :: .ref nL :: .ref nM :: .int (at_+n+1:Nat) :: .int n::r) (KW (a::b::c :: .ref nK::d :: .ref nL :: .ref nM :: .int at_ :: .int n::r) H):=by
 have iL:iU (.ref nL) H=true:=by obtain⟨oV,q,_,_⟩:=hL;exact eO q
 have c1:=mL (lo:=some (at_:Int)) (hi:=some ((at_+n:Nat):Int)) hK (Nat.le_trans z1 (by decide))
 rw [KV (Nat.le_add_right _ _),Nat.add_sub_cancel_left]at c1
 have k1:Kp [] H (H++[.list ((vs.drop at_).take n)]) := .app
 obtain⟨H2,e2,L2,k2⟩:=(hL.kp k1 ed fun x hx=>absurd hx ed).add (r:=H.length) (lf:=(vs.drop at_).take n) aK (fun q=>Nat.lt_irrefl _ (hb _ q)) b1 z2
 have M2:=k2.lst (gE d3.symm) (k1.lst ed hM)
 have c3:=mL (lo:=some ((at_+n:Nat):Int)) (hi:=some ((at_+n+1:Nat):Int)) (k2.lst (gE d1) (k1.lst ed hK)) (Nat.le_trans z1 (by decide))
 rw [KV (Nat.le_add_right _ _),Nat.add_sub_cancel_left]at c3
 have k3:Kp [] H2 (H2++[.list ((vs.drop (at_+n)).take 1)]) := .app
 have M3:=k3.lst ed M2
 have ex:=Hw M3 aK (Nat.le_trans (Nat.add_le_add z3 (List.length_take_le 1 _)) (by decide))
 exact⟨_,dS (ρ:=a::b::c :: .ref nK::d :: .ref nL :: .ref nM :: .int at_ :: .int n::r) (H:=H) FY iL rfl c1 e2 (eO M2) rfl rfl rfl c3 ex rfl rfl,(L2.kp k3 ed fun x hx=>absurd hx ed).kp .set (gE d3) (fun x hx=>List.mem_singleton.mp hx▸b2),gq M3,((k1.up.trans k2).trans k3.up).hd.trans Kp.set.tl⟩
inductive Uo(H:AH)(nL nM:Nat)(bad:List Nat)(Ls:List (List V))(Ms:List V)(p:V->V->List V)(q:RS):Prop
 |mk (H':AH) (x y:V) (e:q = .next (p x y) H') (L:cN H' nL bad Ls) (M:lst H' nM=some Ms) (k:Kp [nL,nM] H H')
theorem Up{nS nK nL nM:Nat}{vs:List V}{ns:List Nat}{a b c d:V}{r:List V}{bad:List Nat}(b1:nL∈bad)(b2:nM∈bad)(d1:nK≠nL)(d2:nK≠nM)(d3:nL≠nM)(d4:nS≠nL)(d5:nS≠nM)(z1:vs.length<=100)(z4:ns.length<=3) :
  ∀(q k at_:Nat)(Ms:List V)(Ls:List (List V))(H:AH)(o:V),(∀x∈bad,x<H.length)->lst H nS=some (ns.map nV)->lst H nK=some vs->cN H nL bad Ls->lst H nM=some Ms->k+q=ns.length->Ls.length<=k->Ms.length<=k →
  Uo H nL nM bad (Ls++eT (ns.drop k) (vs.drop at_)) (Ms++nv (ns.drop k) (vs.drop at_)) (fun x y=>a::b::c :: .ref nK::d :: .ref nL :: .ref nM::x::y::r) (forL 8 nS KW (q+1) k (a::b::c :: .ref nK::d :: .ref nL :: .ref nM :: .int at_::o::r) H):=by
 intro q
 induction q with
 |zero =>
  intro k at_ Ms Ls H o hb hS hK hL hM hk _ _
  have hk:=Nat.le_of_eq hk.symm
  rw [List.drop_eq_nil_of_le (i:=k) hk]
  exact⟨H,.int at_,o,U8 hS (List.getElem?_eq_none (by rw [List.length_map];exact hk)),(List.append_nil Ls).symm▸hL,(List.append_nil Ms).symm▸hM,.refl⟩
 |succ q ih =>
  intro k at_ Ms Ls H o hb hS hK hL hM hk g1 g2
  have hk':=(Nat.succ_add_eq_add_succ k q).trans hk
  have c1:k<ns.length:=Nat.le.intro hk'
  have k3:k<=100:=Nat.le_trans (Nat.le_of_lt c1) (Nat.le_trans z4 (by decide))
  obtain⟨H1,e1,L1,M1,k1⟩:=Un (a:=a) (b:=b) (c:=c) (d:=d) (r:=r) (n:=ns[k]) (at_:=at_) hb b1 b2 hK hL hM d1 d2 d3 z1 (Nat.le_trans g1 k3) (Nat.le_trans g2 k3)
  obtain⟨H2,x,y,e2,L2,M2,k2⟩:=ih (k+1) (at_+ns[k]+1) _ _ H1 (.int (ns[k]:Nat)) (fun x hx=>Nat.lt_of_lt_of_le (hb x hx) k1.len) (k1.lst (Lw d4 (gE d5)) hS) (k1.lst (Lw d1 (gE d2)) hK) L1 M1 hk' (by rw [List.length_append];exact Nat.succ_le_succ g1) (by rw [List.length_append];exact Nat.add_le_add g2 (List.length_take_le 1 _))
  rw [List.append_assoc]at L2 M2
  rw [List.drop_eq_getElem_cons c1]
  unfold eT nv
  rw [List.drop_drop,List.drop_drop]
  exact⟨H2,x,y,(U7 hS (mK c1) e1).trans e2,L2,M2,k1.trans k2⟩
theorem split_len{α:Type}{ns:List Nat}{l:List α}:(eT ns l).length=ns.length:=by
 induction ns generalizing l with
 |nil=>rfl
 |cons n ns ih=>simp [eT,ih]
theorem sM{α:Type}{ns:List Nat}{l:List α}:∀x∈eT ns l,x.Sublist l /\ ∃n∈ns,x.length<=n:=by
 induction ns generalizing l with
 |nil=>intro x h;cases h
 |cons n ns ih =>
  intro x h
  simp only [eT,List.mem_cons]at h
  rcases h with rfl | h
  ·exact⟨List.take_sublist _ _,n,by simp,List.length_take_le _ _⟩
  ·obtain⟨a,m,b,c⟩:=ih x h
   exact⟨a.trans (List.drop_sublist _ _),m,by simp [b],c⟩
theorem FZ{α:Type}{ns:List Nat}{l:List α}:(nv ns l).Sublist l:=by
 induction ns generalizing l with
 |nil=>simp [nv]
 |cons n ns ih =>
  have h1:((l.drop n).take 1++nv ns (l.drop (n+1))).Sublist (l.drop n):=by
   have e:l.drop n=(l.drop n).take 1++l.drop (n+1):=by
    have:=List.take_append_drop 1 (l.drop n)
    rw [List.drop_drop]at this
    exact this.symm
   conv=>rhs;rw [e]
   exact List.Sublist.append (List.Sublist.refl _) ih
  exact h1.trans (List.drop_sublist _ _)
theorem Uq{α:Type}:∀{ns:List Nat}{n:Nat}{l:List α},l.length=n+(ns.sum+ns.length)->(nv (n::ns) l).length=ns.length:=by
 intro ns
 induction ns with
 |nil =>
  intro n l h
  show(List.take 1 (l.drop n)++[]).length=0
  rw [List.drop_eq_nil_of_le (i:=n) (Nat.le_of_eq h)];rfl
 |cons m ns ih =>
  intro n l h
  have h2:l.length=n+1+(m+(ns.sum+ns.length)):=by rw [h,List.sum_cons,List.length_cons];lia
  show(List.take 1 (l.drop n)++nv (m::ns) (l.drop (n+1))).length=ns.length+1
  rw [List.length_append,ih (by rw [List.length_drop,h2,Nat.add_sub_cancel_left]),List.length_take,List.length_drop,h2,Nat.add_assoc,Nat.add_sub_cancel_left,Nat.min_eq_left (Nat.le_add_right _ _),Nat.add_comm]
theorem Np{α:Type}{ns:List Nat}{l:List α}(h:l.length+1=ns.sum+ns.length)(h0:0<ns.length):(nv ns l).length+1=ns.length:=by
 cases ns with
 |nil=>exact absurd h0 (Nat.lt_irrefl _)
 |cons n ns=>exact congrArg (· + 1) (Uq (Nat.succ.inj (h.trans (by rw [List.sum_cons,List.length_cons,Nat.add_assoc];rfl))))
theorem Hx{α β:Type}{f:α->β}{ns:List Nat}{l:List α}:eT ns (l.map f)=(eT ns l).map (List.map f):=by
 induction ns generalizing l with
 |nil=>rfl
 |cons n ns ih=>simp [eT,<- ih]
theorem Nq{α β:Type}{f:α->β}{ns:List Nat}{l:List α}:nv ns (l.map f)=(nv ns l).map f:=by
 induction ns generalizing l with
 |nil=>rfl
 |cons n ns ih=>simp [nv,<- ih]
theorem wN{ks:List (List UInt8)}(h:ks.Pairwise (fun a b=>bl a b=true)):sortedK ks:=fun i j hi hj hij=>List.pairwise_iff_getElem.mp h i j hi hj hij
noncomputable def Sh(s:Nat)(H:AH):AH:=H.set s (.tab [])
theorem Kp.sh{s:Nat}{H H':AH}(k:Kp [s] H H')(hs:s<H.length):Kp [] (Sh s H) (Sh s H'):=by
 refine⟨fun n o _ h=>?_,by rw [Sh,Sh,List.length_set,List.length_set];exact k.len⟩
 unfold Sh at h ⊢
 by_cases c:s=n
 ·subst c
  rw [List.getElem?_set_self hs]at h
  rw [List.getElem?_set_self (Nat.lt_of_lt_of_le hs k.len)];exact h
 ·rw [List.getElem?_set_ne c]at h ⊢
  exact k.at_ n o (gE fun e=>c e.symm) h
theorem rJ{s:Nat}{H:AH}:Kp [s] H (Sh s H) := .set
theorem OM{s n:Nat}{H:AH}{o:AO}(ho:∀ks,o ≠ .tab ks)(h:(Sh s H)[n]? = some o):H[n]? = some o:=by
 unfold Sh at h
 by_cases c:s=n
 ·subst c
  have q:=(List.getElem?_eq_some_iff.mp h).1
  rw [List.length_set]at q
  rw [List.getElem?_set_self q]at h;exact absurd (Option.some.inj h).symm (ho [])
 ·rw [List.getElem?_set_ne c]at h;exact h
theorem sN{s n:Nat}{H:AH}{vs:List V}(h:lst (Sh s H) n=some vs):lst H n=some vs:=by
 unfold lst;rw [OM (fun _ e=>AO.noConfusion e) (fh h)];rfl
theorem KY{s n:Nat}{H:AH}{vs:List (Fd×V)}(h:dct (Sh s H) n=some vs):dct H n=some vs:=by
 unfold dct;rw [OM (fun _ e=>AO.noConfusion e) (iG h)];rfl
structure yW(G:AH)(rows:Bool)(au:List (List V))(av:List V)(ay:List Nat)(rt lv mv pv st pl tn bf:Nat)(aT:List (List UInt8)):Prop where
 ON:jx G rows lv mv pv au av ay rt
 trees:bW G tn st
 Ro:∃sp,CW G st pl sp aT
 copy:lst G bf=some (aT.map V.bytes)
 all:mJ rows au av ay rt aT
section
variable{G G':AH}{rows:Bool}{au:List (List V)}{av:List V}{ay:List Nat}{rt lv mv pv st pl tn bf:Nat}{aT:List (List UInt8)}
theorem yW.kp(S:yW G rows au av ay rt lv mv pv st pl tn bf aT)(k:Kp [] G G'):yW G' rows au av ay rt lv mv pv st pl tn bf aT :=
 ⟨S.ON.kp k,S.trees.kp k,S.Ro.imp fun _ c=>c.kp k ed ed,k.lst ed S.copy,S.all⟩
theorem Ck.un{s i:Nat}{rs:List Nat}{l:List V}:Ck (Sh s G) rs i l->Ck G rs i l
 |⟨r,a,b⟩=>⟨r,a,sN b⟩
theorem tT.un{s:Nat}:tT (Sh s G) lv au->tT G lv au
 |⟨rs,r1,r2,r3⟩=>⟨rs,sN r1,r2,fun i hi=>(r3 i hi).un⟩
theorem bW.un{s:Nat}:bW (Sh s G) tn st->bW G tn st
 |⟨x,y,b⟩=>⟨x,y,KY b⟩
theorem jx.un{s:Nat}(I:jx (Sh s G) rows lv mv pv au av ay rt):jx G rows lv mv pv au av ay rt :=
 {kH:=I.kH.un,mids:=sN I.mids,aT:=sN I.aT,np:=I.np,nm:=I.nm,few:=I.few,size:=I.size,rD:=I.rD,rE:=I.rE,oU:=I.oU,rF:=I.rF,apart:=I.apart,apart':=I.apart'}
theorem yW.un{s:Nat}(S:yW (Sh s G) rows au av ay rt lv mv pv st pl tn bf aT):yW G rows au av ay rt lv mv pv st pl tn bf aT :=
 ⟨S.ON.un,S.trees.un,S.Ro.imp fun _ c=>⟨KY c.hs,sN c.hp,c.h5,c.hlen⟩,sN S.copy,S.all⟩
theorem yW.storeAt(S:yW G rows au av ay rt lv mv pv st pl tn bf aT):bR G st aT:=S.Ro.elim fun _ c=>c.at_
theorem yW.held(S:yW G rows au av ay rt lv mv pv st pl tn bf aT):lst G pl=some (aT.map V.bytes):=S.Ro.elim fun _ c=>c.hp
end
theorem KZ:∀{ns:List Nat},(ns.map fun k:Nat=>(k:Int)).sum=(ns.sum:Nat):=by
 intro ns
 induction ns with
 |nil=>rfl
 |cons n ns ih=>rw [List.map_cons,List.sum_cons,ih,List.sum_cons];rfl
theorem Ur{H:AH}{n:Nat}{ns:List Nat}(h:lst H n=some (ns.map nV)):Dh [.ref n] H = .ok (.int (ns.sum:Nat)) H :=
 (J1 (ns:=ns.map fun k:Nat=>(k:Int)) (h.trans (by rw [List.map_map];rfl))).trans (by rw [KZ])
theorem Ef{H:AH}{st:Nat}:dg 527 cU [.inst 742 st,.inst 742 st] H = .ok (.inst 527 H.length) (H++[.dict [(.gQ,.inst 742 st),(.free,.inst 742 st),(.changes,.oO)]]):=by
 have d:=eN (H:=H) (vs:=[]) (X:=[])
 exact qW ((vf 3 0 Ab [.inst 527 H.length,.inst 742 st,.inst 742 st] (H++[AO.dict []]) rfl d (bQ d) rfl (bQ (bQ d))).trans
  (congrArg (R.ok V.none) (by rw [List.set_set,List.set_set,gb];rfl)))
theorem K0{H:AH}{n:Nat}{vs:List V}(h:lst H n=some vs)(hz:vs.length<=1000):lD [.ref n] H = .ok (.ref H.length) (H++[.list vs]):=by
 show cC (lst H n) _ = _
 rw [h];exact if_pos (Nat.le_trans hz (by decide))
noncomputable def K1(S P:Nat)(is:List Nat):SF:=(jH is (cS (af (aF (dg 527 cU) (af (ai S) (af (ai S) aC))) (af (cy (ai P) (jJ (ak (.int 1)))) (af (aF lD (af (b8 742 .ay (ai S)) aC)) aC)))))
inductive Us(H:AH)(rows:Bool)(au:List (List V))(av:List V)(ay:List Nat)(rt lv mv pv st pl:Nat)(aT:List (List UInt8)):Prop
 |mk (tn bf:Nat) (H':AH) (k:Kp [] H H') (S:yW H' rows au av ay rt lv mv pv st pl tn bf aT)
  (e:∀(is:List Nat)(S P:Nat)(ρ:List V),(∀K,gA ρ S K = .ok (.inst 742 st) K)->(∀K,gA ρ P K = .ok (.ref pv) K)->is.length=3->K1 S P is ρ H = .next (dX ρ is [.inst 527 tn,.int (rt+1:Nat),.ref bf]) H')
theorem K2{H:AH}{rows:Bool}{au:List (List V)}{av:List V}{ay:List Nat}{rt lv mv pv st pl:Nat}{sp:V}{aT:List (List UInt8)}
  (I:jx H rows lv mv pv au av ay rt) (S:CW H st pl sp aT) (A:mJ rows au av ay rt aT):Us H rows au av ay rt lv mv pv st pl aT:=by
 have k1:Kp [] H (H++[.dict [(.gQ,.inst 742 st),(.free,.inst 742 st),(.changes,.oO)]]) := .app
 have S1:=S.kp k1 ed ed
 have cp:=K0 S1.hp (by rw [List.length_map,S.h5];decide)
 have k:=k1.trans (Kp.app (X:=[.list (aT.map V.bytes)]))
 exact⟨_,_,_,k,⟨I.kp k,⟨_,_,bH eN⟩,⟨sp,S.kp k ed ed⟩,aK,A⟩,fun is Sx P ρ g1 g2 h3 =>
  Oj (Oh (pM (y_call (pM (g1 _) (pM (g1 _) rfl)) Ef) (pM (DK (g2 _) rfl (uI I k1)) (pM (y_call (pM (DL (g1 _) S1.hs rfl fun e=>V.noConfusion e) rfl) cp) rfl))) rfl) (by rw [h3];rfl)⟩
theorem yW.sh{G:AH}{s:Nat}{rows:Bool}{au:List (List V)}{av:List V}{ay:List Nat}{rt lv mv pv st pl tn bf:Nat}{aT:List (List UInt8)}
  (S:yW G rows au av ay rt lv mv pv st pl tn bf aT) (R:cW G s) (hI:jx (Sh s G) rows lv mv pv au av ay rt):yW (Sh s G) rows au av ay rt lv mv pv st pl tn bf aT:=by
 obtain⟨a,⟨x,y,b⟩,⟨sp,c⟩,e,f⟩:=S
 obtain⟨u,v,r⟩:=R
 have ne{n:Nat}(h:lst G n=some (aT.map V.bytes)):n≠s:=fun e=>by
  have:=congrArg List.length (Option.some.inj (h.symm.trans (e▸r)))
  rw [List.length_map,f.oU]at this;exact absurd this (show ¬ 5=2 by decide)
 exact⟨hI,⟨x,y,rJ.dct (gE (nX b r)) b⟩,⟨sp,c.kp rJ (gE (nX c.hs r)) (gE (ne c.hp))⟩,rJ.lst (gE (ne e)) e,f⟩
noncomputable def F0:TS := .nU [1,2,3] (.tup (.cons (.call gH (.cons (.var 0) .nil)) (.cons (.con (.int 0)) (.cons (.list .nil) .nil))))
noncomputable def OO:SF:=F0.f
noncomputable def K3:TX V := .bin eH (.bin aS (.call Dh (.cons (.var 1) .nil)) (.call bT (.cons (.var 1) .nil))) (.con (.int 1))
noncomputable def OP:SF:=fX 4 K3.f KU
noncomputable def F1:TS := .nU [5,6,7] (.tup (.cons (.list .nil) (.cons (.list .nil) (.cons (.con (.int 0)) .nil))))
noncomputable def K4:SF:=F1.f
noncomputable def K5:SF:=(lF 8 (ai 1) KW)
noncomputable def F2:TS := .set 9 (.call gI (.cons (.var 0) (.cons (.call bT (.cons (.var 1) .nil)) .nil)))
noncomputable def OQ:SF:=F2.f
noncomputable def F3:TS := .set 10 (.call eM (.cons (.var 5) (.cons (.var 6) (.cons (.var 9) (.cons (.con (.bool false)) .nil)))))
noncomputable def OR:SF:=F3.f
theorem K6{a b rest:SF}{ρ Xy Xz:List V}{H H1 H2:AH}(h1:a ρ H = .next Xy H1)(h2:b Xy H1 = .next Xz H2):aq a (aq b rest) ρ H=rest Xz H2:=(vX h1 rfl).trans (vX h2 rfl)
theorem Ws:∀{ns:List Nat},(∀k∈ns,k<4)->ns.sum<=3*ns.length:=by
 intro ns
 induction ns with
 |nil=>exact fun _=>Nat.le_refl _
 |cons n ns ih =>
  intro h
  rw [List.sum_cons,List.length_cons,Nat.mul_succ,Nat.add_comm]
  exact Nat.add_le_add (ih fun k hk=>h k (List.mem_cons_of_mem _ hk)) (Nat.le_of_lt_succ (h n List.mem_cons_self))
theorem QW{a b:Nat}(h:a<=3*b)(b3:b<=3):a+b - 1<=11:=by lia
theorem QX{G:Prop}{H:AH}{s:Nat}(S:cW H s)
  (k:∀{nS nK N:Nat}{H3:AH}{ns:List Nat}{ks:List (List UInt8)}{o4:V},lst H3 nS=some (ns.map nV)->lst H3 nK=some (eU ks)->kJ ks N->ks.length+1=ns.sum+ns.length->1<=ns.length->ns.length<=3->(∀k∈ns,k<4)->nS≠s->nK≠s->ks.length<=11->Kp [s] H H3->cW H3 s →
   (∀rest:SF,aq OO (aq OP rest) [.ref s,.undef,.undef,.undef,.undef,.undef,.undef,.undef,.undef,.undef,.undef,.undef,.undef,.undef,.undef,.undef] H=rest [.ref s,.ref nS,.int N,.ref nK,o4,.undef,.undef,.undef,.undef,.undef,.undef,.undef,.undef,.undef,.undef,.undef] H3)->G):G:=by
 have sl:=S.lt
 obtain⟨nS,H1,ns,e1,lS,hS,n1,n3,n4,k1,S1⟩:=yS S
 have k2:Kp [] H1 (H1++[.list []]) := .app
 have Wu:=k2.lst ed lS
 have Ut:nS≠s:=Nat.ne_of_gt (Nat.lt_of_lt_of_le sl hS)
 have Uu:H1.length≠s:=Nat.ne_of_gt (Nat.lt_of_lt_of_le sl k1.len)
 have Wv:=QW (Ws n4) n3
 have n0:1<=ns.sum+ns.length:=Nat.le_trans n1 (Nat.le_add_left _ _)
 obtain⟨H3,N,ks,o4,e3,YB,G3,q3,k3,S3⟩:=Uk (s:=s) (nK:=H1.length) (a := .ref nS) (r:=[.undef,.undef,.undef,.undef,.undef,.undef,.undef,.undef,.undef,.undef,.undef]) Uu (ns.sum+ns.length - 1) 0 0 [] (H1++[.list []]) .undef (S1.kp k2) aK .nil rfl (by rw [Nat.zero_add];exact Nat.le_trans Wv (by decide)) (Nat.le_refl _)
 rw [Nat.zero_add]at q3
 have su:=Ur Wu
 have ln:=fu Wu (by rw [List.length_map];exact Nat.le_trans n3 (by decide))
 rw [List.length_map]at ln
 have z:((ns.sum:Nat):Int)+(ns.length:Nat) - 1=((ns.sum+ns.length - 1:Nat):Int):=(Int.ofNat_sub n0).symm
 have f:K3.f [.ref s,.ref nS,.int (0:Nat),.ref H1.length,.undef,.undef,.undef,.undef,.undef,.undef,.undef,.undef,.undef,.undef,.undef,.undef] (H1++[.list []]) = .ok (.int (ns.sum+ns.length - 1:Nat)) (H1++[.list []]):=(j5 (ρ:=[.ref s,.ref nS,.int (0:Nat),.ref H1.length,.undef,.undef,.undef,.undef,.undef,.undef,.undef,.undef,.undef,.undef,.undef,.undef]) (H:=H1++[AO.list []]) K3 su ln rfl rfl).trans (congrArg (fun z=>R.ok (V.int z) _) z)
 have Nr:Kp [H1.length,s] H H3:=((k1.trans k2.up).tl).trans (k3.mono fun x h=>(List.mem_cons.mp h).elim (fun e=>e▸List.mem_cons_of_mem _ (List.mem_singleton_self _)) fun h=>List.mem_singleton.mp h▸List.mem_cons_self)
 have YC:nS≠H1.length:=Nat.ne_of_lt (mq lS)
 exact k (k3.lst (Lw Ut (gE YC)) Wu) YB G3 (by rw [q3];exact Nat.sub_add_cancel n0) n1 n3 n4 Ut Uu (q3▸Wv) (Nr.drop k1.len) S3
  fun rest=>K6 (dS (ρ:=[.ref s,.undef,.undef,.undef,.undef,.undef,.undef,.undef,.undef,.undef,.undef,.undef,.undef,.undef,.undef,.undef]) (H:=H) F0 e1) ((lI f (Nat.le_trans Wv (by decide))).trans e3)
theorem QY{G:Prop}{H:AH}{s nS nK:Nat}{N:Int}{ns:List Nat}{ks:List (List UInt8)}{o4:V}(S:cW H s)(lS:lst H nS=some (ns.map nV))(lK:lst H nK=some (eU ks))(n3:ns.length<=3)(Vd:ks.length<=11)
  (k:∀{nL:Nat}{H5:AH}{o7 o8:V},cN H5 nL [nL,nL+1,s] (eT ns (eU ks))->lst H5 (nL+1)=some (nv ns (eU ks))->Kp [] H H5->nL≠s->nL+1≠s->(∀rest:SF,aq K4 (aq K5 rest) [.ref s,.ref nS,.int N,.ref nK,o4,.undef,.undef,.undef,.undef,.undef,.undef,.undef,.undef,.undef,.undef,.undef] H=rest [.ref s,.ref nS,.int N,.ref nK,o4,.ref nL,.ref (nL+1),o7,o8,.undef,.undef,.undef,.undef,.undef,.undef,.undef] H5)->G):G:=by
 have sl:=S.lt
 have k4:Kp [] H (H++[.list [],.list []]) := .app
 have a1:=mq lK
 have a2:=mq lS
 obtain⟨H5,x,y,e5,L5,M5,k5⟩:=Up (nS:=nS) (nK:=nK) (nL:=H.length) (nM:=H.length+1) (vs:=eU ks) (ns:=ns) (a := .ref s) (b := .ref nS) (c := .int N) (d:=o4) (r:=[.undef,.undef,.undef,.undef,.undef,.undef,.undef]) (bad:=[H.length,H.length+1,s]) List.mem_cons_self (List.mem_cons_of_mem _ List.mem_cons_self)
  (Nat.ne_of_lt a1) (Nat.ne_of_lt (Nat.lt_succ_of_lt a1)) (Nat.ne_of_lt (Nat.lt_succ_self _)) (Nat.ne_of_lt a2) (Nat.ne_of_lt (Nat.lt_succ_of_lt a2)) (by rw [eU,List.length_map];exact Nat.le_trans Vd (by decide)) n3 ns.length 0 0 [] [] (H++[.list [],.list []]) .undef
  (by rw [List.length_append];exact List.forall_mem_cons.mpr ⟨Nat.lt_add_of_pos_right (by decide),List.forall_mem_cons.mpr ⟨Nat.lt_succ_self _,List.forall_mem_cons.mpr ⟨Nat.lt_of_lt_of_le sl (Nat.le_add_right _ _),fun _ h=>absurd h List.not_mem_nil⟩⟩⟩)
  (k4.lst ed lS) (k4.lst ed lK) ⟨[],aK,rfl,fun i h=>absurd h (Nat.not_lt_zero _)⟩ rj (Nat.zero_add _) (Nat.le_refl _) (Nat.le_refl _)
 have s3:K4 [.ref s,.ref nS,.int N,.ref nK,o4,.undef,.undef,.undef,.undef,.undef,.undef,.undef,.undef,.undef,.undef,.undef] H = .next [.ref s,.ref nS,.int N,.ref nK,o4,.ref H.length,.ref (H.length+1),.int (0:Nat),.undef,.undef,.undef,.undef,.undef,.undef,.undef,.undef] (H++[.list [],.list []]):=(dS (ρ:=[.ref s,.ref nS,.int N,.ref nK,o4,.undef,.undef,.undef,.undef,.undef,.undef,.undef,.undef,.undef,.undef,.undef]) (H:=H) F1).trans (by rw [List.append_assoc,List.length_append];rfl)
 have s4:K5 [.ref s,.ref nS,.int N,.ref nK,o4,.ref H.length,.ref (H.length+1),.int (0:Nat),.undef,.undef,.undef,.undef,.undef,.undef,.undef,.undef] (H++[.list [],.list []]) = _:=(qX (a:=ai 1) rfl (k4.lst ed lS)).trans (by rw [List.length_map])
 exact k L5 M5 (((k4.up.trans k5).drop (Nat.le_refl _)).drop (Nat.le_succ _)) (Nat.ne_of_gt sl) (Nat.ne_of_gt (Nat.lt_succ_of_lt sl)) fun rest=>K6 s3 (s4.trans e5)
theorem cN.kH{H:AH}{nL:Nat}{bad:List Nat}{Cv:List (List V)}:cN H nL bad Cv->tT H nL Cv
 |⟨oV,r1,r2,r3⟩=>⟨oV,r1,r2,fun i hi=>match r3 i hi with | ⟨r,a,b,_⟩=>⟨r,a,b⟩⟩
theorem kJ.len{ks:List (List UInt8)}{N:Nat}(G:kJ ks N){k:List UInt8}(h:k∈ks):k.length<=3:=by
 obtain⟨n,f,_,e⟩:=G.of k h
 exact e▸QV
theorem kJ.good{ks l:List (List UInt8)}{N:Nat}(G:kJ ks N)(h:l.Sublist ks):∀v∈eU l,rB false v:=fun v hv=>by
 obtain⟨k,hk,rfl⟩:=List.mem_map.mp hv
 exact⟨k,rfl,Nat.le_trans (G.len (h.subset hk)) (by decide)⟩
theorem K7{H:AH}{nL pv rt N:Nat}{bad ns ay:List Nat}{ks:List (List UInt8)}(L:cN H nL bad (eT ns (eU ks)))(M:lst H (nL+1)=some (nv ns (eU ks)))(P:lst H pv=some ((ay++[rt]).map pV))(G:kJ ks N)
  (hl:ks.length+1=ns.sum+ns.length) (n1:1<=ns.length) (n3:ns.length<=3) (n4:∀k∈ns,k<4) (np:ay.length=ns.length) (p5:∀p∈ay,p<5) (r5:rt<5) (nd:ay.Nodup) (Uv:rt∉ay):jx H false nL (nL+1) pv ((eT ns ks).map eU) (eU (nv ns ks)) ay rt:=by
 have sl:((eT ns ks).map eU).length=ns.length:=by rw [List.length_map,split_len]
 have e1:eT ns (eU ks)=(eT ns ks).map eU:=Hx
 exact {
  kH:=e1▸L.kH,mids:=M.trans (congrArg some Nq),aT:=P,np:=np.trans sl.symm,nm:=by rw [sl,eU,List.length_map];exact Np hl n1,few:=sl▸n3
  size:=fun l hl=>by
   obtain⟨l',h1,rfl⟩:=List.mem_map.mp hl
   obtain⟨_,n,h2,h3⟩:=sM l' h1
   rw [eU,List.length_map];exact Nat.le_trans h3 (Nat.le_of_lt_succ (n4 n h2))
  rD:=fun l hl=>by
   obtain⟨l',h1,rfl⟩:=List.mem_map.mp hl
   exact G.good (sM l' h1).1
  rE:=G.good FZ,oU:=p5,rF:=r5,apart:=nd,apart':=Uv}
theorem QZ{G:Prop}{H:AH}{s nS nK nL N:Nat}{ns:List Nat}{ks:List (List UInt8)}{o4 o7 o8:V}(S:cW H s)(lS:lst H nS=some (ns.map nV))(L:cN H nL [nL,nL+1,s] (eT ns (eU ks)))(M:lst H (nL+1)=some (nv ns (eU ks)))(d1:nL≠s)(d2:nL+1≠s)
  (G3:kJ ks N) (hl:ks.length+1=ns.sum+ns.length) (n1:1<=ns.length) (n3:ns.length<=3) (n4:∀k∈ns,k<4)
  (k:∀{H8:AH}{pv st tn bf pl rt:Nat}{ay:List Nat}{aT:List (List UInt8)},Kp [s] H H8->cW H8 s->yW (Sh s H8) false ((eT ns ks).map eU) (eU (nv ns ks)) ay rt nL (nL+1) pv st pl tn bf aT->tR aT (eT ns ks) (nv ns ks) ay rt →
   (∀rest:SF,aq OQ (aq OR (aq (K1 10 9 [11,12,13]) rest)) [.ref s,.ref nS,.int N,.ref nK,o4,.ref nL,.ref (nL+1),o7,o8,.undef,.undef,.undef,.undef,.undef,.undef,.undef] H=rest [.ref s,.ref nS,.int N,.ref nK,o4,.ref nL,.ref (nL+1),o7,o8,.ref pv,.inst 742 st,.inst 527 tn,.int (rt+1:Nat),.ref bf,.undef,.undef] H8)->G):G:=by
 have ln:=fu lS (by rw [List.length_map];exact Nat.le_trans n3 (by decide))
 rw [List.length_map]at ln
 obtain⟨pv,H6,ay,rt,e6,YD,YE,np,p5,Ww,nd,Uv,k6,S6⟩:=yT S n3
 have OS:∀x∈[s],x∈[nL,nL+1,s]:=fun x h=>List.mem_singleton.mp h▸List.mem_cons_of_mem _ (List.mem_cons_of_mem _ List.mem_cons_self)
 have Wx:pv≠s:=Nat.ne_of_gt (Nat.lt_of_lt_of_le S.lt YE)
 have I6:=K7 ((L.kp k6 (gE d1) OS).kp rJ (gE d1) OS) (rJ.lst (gE d2) (k6.lst (gE d2) M)) (rJ.lst (gE Wx) YD) G3 hl n1 n3 n4 np p5 Ww nd Uv
 obtain⟨H7,st,pl,sp,aT,e7,k7,S7,A⟩:=Cp I6.un
 obtain⟨tn,bf,H8,k8,Si,e8⟩:=K2 (I6.un.kp k7) S7 A
 have Wy:=k7.trans k8
 have S8:=S6.kp Wy
 exact k (k6.trans Wy.up) S8 (Si.sh S8 (I6.kp (Kp.sh Wy.up S6.lt))) (Kz I6.un A (fun l hl=>wN (G3.so.sublist (sM l hl).1)) (wN (G3.so.sublist FZ)))
  fun rest=>(K6 (dS (ρ:=[.ref s,.ref nS,.int N,.ref nK,o4,.ref nL,.ref (nL+1),o7,o8,.undef,.undef,.undef,.undef,.undef,.undef,.undef]) (H:=H) F2 ln e6) (dS (ρ:=[.ref s,.ref nS,.int N,.ref nK,o4,.ref nL,.ref (nL+1),o7,o8,.ref pv,.undef,.undef,.undef,.undef,.undef,.undef]) (H:=H6) F3 e7)).trans (vX (e8 [11,12,13] 10 9 [.ref s,.ref nS,.int N,.ref nK,o4,.ref nL,.ref (nL+1),o7,o8,.ref pv,.inst 742 st,.undef,.undef,.undef,.undef,.undef] (fun _=>rfl) (fun _=>rfl) rfl) rfl)
theorem Eg{G:Prop}{H:AH}{s:Nat}(S:cW H s)
  (k:∀{H':AH}{nS nK nL pv st tn bf pl N rt:Nat}{o4 o7 o8:V}{ks:List (List UInt8)}{bX:List (List (List UInt8))}{ms:List (List UInt8)}{ay:List Nat}{aT:List (List UInt8)},Kp [s] H H'->cW H' s->yW (Sh s H') false (bX.map eU) (eU ms) ay rt nL (nL+1) pv st pl tn bf aT->tR aT bX ms ay rt->lst H' nK=some (eU ks)->nK≠s->ks.length<=11->(∀k∈ks,k.length<=3) →
   (∀rest:SF,aq OO (aq OP (aq K4 (aq K5 (aq OQ (aq OR (aq (K1 10 9 [11,12,13]) rest)))))) [.ref s,.undef,.undef,.undef,.undef,.undef,.undef,.undef,.undef,.undef,.undef,.undef,.undef,.undef,.undef,.undef] H=rest [.ref s,.ref nS,.int N,.ref nK,o4,.ref nL,.ref (nL+1),o7,o8,.ref pv,.inst 742 st,.inst 527 tn,.int (rt+1:Nat),.ref bf,.undef,.undef] H')->G):G :=
 QX S fun lS lK G3 hl n1 n3 n4 d1 d2 Vd k3 S3 r1=>QY S3 lS lK n3 Vd fun L M k5 d3 d4 r2=>QZ (S3.kp k5) (k5.lst ed lS) L M d3 d4 G3 hl n1 n3 n4 fun k8 S8 Si K r3 =>
  k (k3.trans (k5.up.trans k8)) S8 Si K (k8.lst (gE d2) (k5.lst ed lK)) d2 Vd (fun _ h=>G3.len h) fun rest=>(r1 _).trans ((r2 _).trans (r3 rest))
noncomputable def F4:TS := .set 14 (.bin aS (.cut (.var 3) .no (.so (.call bE (.cons (.var 0) (.cons (.con (.int 4)) .nil))))) (.list (.cons (.con (.bytes [])) (.cons (.call bJ (.cons (.list (.cons (.con (.int 0)) (.cons (.call bE (.cons (.var 0) (.cons (.con (.int 200)) .nil))) .nil))) .nil)) (.cons (.call bJ (.cons (.list (.cons (.con (.int 9)) (.cons (.con (.int 9)) (.cons (.con (.int 9)) .nil)))) .nil)) .nil)))))
noncomputable def OT:SF:=F4.f
noncomputable def Cw:TX V := .bin aS (.var 14) (.list (.cons (.bin aS (.call dN (.cons (.var 0) (.cons (.bin aS (.var 3) (.list (.cons (.con (.bytes [97])) .nil))) .nil))) (.con (.bytes [33]))) .nil))
noncomputable def Eh:EF:=Cw.f
noncomputable def K8:TS := .ja (.bor (.not (.of (.call dO (.cons (.var 11) (.cons (.var 5) (.cons (.var 9) .nil)))))) (.bor (.not (.of (.raw (vK 2 fG [11,12] (aF dj (af (ai 0) (af (ai 1) (af (ak (.int 5)) aC)))))))) (.tt false))) (.aA (.ret (.con (.bool false))) .aL) .aL
noncomputable def F5:TS := .aA (.ej OT) (.aA (.ej (lF 15 Eh Cu)) (.aA K8 (.aA (.ret (.bin iw (.attr 742 .ay (.var 10)) (.var 13))) .aL)))
theorem Q0{α:Type}{l:List α}{d:Nat}:fD l none (some (d:Int))=l.take d:=by
 unfold fD
 rw [Option.elim_none,Option.elim_some,Ed]
 by_cases q:d<=l.length
 ·rw [Nat.min_eq_left q];rfl
 ·have q:=Nat.le_of_not_le q
  rw [Nat.min_eq_right q,List.take_of_length_le q];exact List.take_of_length_le (Nat.le_refl _)
theorem K9{G:Prop}{H:AH}{s nK:Nat}{ks:List (List UInt8)}{a b c4 c5 c6 c7 c8 c9 F6 F7 c12 OU OV:V}(S:cW H s)(hK:lst H nK=some (eU ks))(hs:nK≠s)(hk:ks.length<=11)
  (k:∀{H':AH}{nA:Nat}{asked:List (List UInt8)},OT [.ref s,a,b,.ref nK,c4,c5,c6,c7,c8,c9,F6,F7,c12,OU,.undef,OV] H = .next [.ref s,a,b,.ref nK,c4,c5,c6,c7,c8,c9,F6,F7,c12,OU,.ref nA,OV] H'->lst H' nA=some (eU asked)->asked.length<=20->Kp [s] H H'->cW H' s->nA≠s->G):G:=by
 obtain⟨d,H1,e1,d1,k1,S1⟩:=gg S (top:=4) (by decide) (by decide)
 have c1:=mL (lo:=none) (hi:=some (d:Int)) (k1.lst (gE hs) hK) (by rw [eU,List.length_map];exact Nat.le_trans hk (by decide))
 rw [Q0]at c1
 have k2:Kp [] H1 (H1++[.list ((eU ks).take d)]) := .app
 obtain⟨w,H3,e3,w1,k3,S3⟩:=gg (S1.kp k2) (top:=200) (by decide) (by decide)
 have l3:=k3.lst (gE (Nat.ne_of_gt (Nat.lt_of_lt_of_le S.lt k1.len))) aK
 have b3:=iF (H:=H3++[.list [.int 0,.int w]]) (ns:=[0,(w:Int)]) aK (show 2<=16777216 by decide) (List.forall_mem_cons.mpr ⟨by decide,List.forall_mem_cons.mpr ⟨⟨Int.natCast_nonneg _,Int.lt_trans w1 (by decide)⟩,fun _ h=>absurd h List.not_mem_nil⟩⟩)
 have b4:=iF (H:=H3++[.list [.int 0,.int w]]++[.list [.int 9,.int 9,.int 9]]) (ns:=[9,9,9]) aK (show 3<=16777216 by decide) (by decide)
 have tl:((eU ks).take d).length<=11:=Nat.le_trans (List.length_take_le' _ _) (by rw [eU,List.length_map];exact hk)
 have Wz:Kp [] H3 (H3++[.list [.int 0,.int w]]++[.list [.int 9,.int 9,.int 9]]++[.list (eU [[],[(0:Int).toNat.toUInt8,(w:Int).toNat.toUInt8],[(9:Int).toNat.toUInt8,(9:Int).toNat.toUInt8,(9:Int).toNat.toUInt8]])]):=(Kp.app.trans .app).trans .app
 have ad:=jo (Wz.lst ed l3) aK (Nat.le_trans (Nat.add_le_add_right tl 3) (by decide))
 have kA:=((k1.trans k2.up).trans k3).trans Wz.up
 exact k (dS (ρ:=[.ref s,a,b,.ref nK,c4,c5,c6,c7,c8,c9,F6,F7,c12,OU,.undef,OV]) (H:=H) F4 e1 c1 e3 b3 b4 ad) (asked:=ks.take d++[[],[(0:Int).toNat.toUInt8,(w:Int).toNat.toUInt8],[(9:Int).toNat.toUInt8,(9:Int).toNat.toUInt8,(9:Int).toNat.toUInt8]]) (aK.trans (by unfold eU;rw [List.map_append,List.map_take]))
  (by rw [List.length_append];exact Nat.le_trans (Nat.add_le_add_right (Nat.le_trans (List.length_take_le' d ks) hk) 3) (show 11+3<=20 by decide)) (kA.trans .app) ((S3.kp Wz).kp .app) (Nat.ne_of_gt (Nat.lt_of_lt_of_le S.lt kA.len))
theorem Q2{G:Prop}{H:AH}{s nK nA:Nat}{ks asked:List (List UInt8)}{a b c4 c5 c6 c7 c8 c9 F6 F7 c12 OU OV:V}(S:cW H s)(hK:lst H nK=some (eU ks))(hs:nK≠s)(hk:ks.length<=11)(YF:∀k∈ks,k.length<=3)(hA:lst H nA=some (eU asked))(hz:asked.length<=20)(hn:nA≠s)
  (k:∀{H':AH}{n:Nat}{asked':List (List UInt8)},Eh [.ref s,a,b,.ref nK,c4,c5,c6,c7,c8,c9,F6,F7,c12,OU,.ref nA,OV] H = .ok (.ref n) H'->lst H' n=some (eU asked')->Kp [s] H H'->cW H' s->G):G:=by
 have k1:Kp [] H (H++[.list [.bytes [97]]]) := .app
 have Uw:=jo (k1.lst ed hK) aK (by rw [eU,List.length_map];exact Nat.le_trans (Nat.succ_le_succ hk) (by decide))
 have e0:eU ks++[.bytes [97]]=eU (ks++[[97]]):=by rw [eU,eU,List.map_append];rfl
 rw [e0]at Uw
 have k2:=k1.trans (Kp.app (X:=[.list (eU (ks++[[97]]))]))
 have nl:(eU (ks++[[97]])).length=ks.length+1:=by rw [eU,List.length_map,List.length_append];rfl
 obtain⟨v,H3,e3,hv,k3,S3⟩:=rH (S.kp k2) aK (Nat.ne_of_gt (Nat.lt_of_lt_of_le S.lt k1.len)) (nl▸Nat.succ_pos _) (nl▸Nat.le_trans (Nat.succ_le_succ hk) (by decide))
 obtain⟨q,hq,rfl⟩:=List.mem_map.mp hv
 have ql:q.length<=3:=(List.mem_append.mp hq).elim (YF q) fun h=>List.mem_singleton.mp h▸(by decide)
 have kk:Kp [s] H (H3++[.list [.bytes (q++[33])]]):=(k2.up.trans k3).trans .app
 have T7:=jo (kk.lst (gE hn) hA) aK (by rw [eU,List.length_map];exact Nat.le_trans (Nat.succ_le_succ hz) (by decide))
 exact k (j5 (ρ:=[.ref s,a,b,.ref nK,c4,c5,c6,c7,c8,c9,F6,F7,c12,OU,.ref nA,OV]) (H:=H) Cw Uw e3 (ff (Nat.le_trans (Nat.add_le_add_right ql 1) (by decide))) T7) (asked':=asked++[q++[33]]) (aK.trans (by rw [eU,eU,List.map_append];rfl)) (kk.trans .app) ((S3.kp .app).kp .app)
inductive Q3(aT:List (List UInt8))(rt:Nat)(r:Bool):Prop
 |mk (b:List UInt8) (h:aT[rt]? = some b) (k:hU b (rt+1:Nat)) (e:lH b (rt+1:Nat)=r)
theorem wm.root{α:Type}{P:List UInt8->Int->List α->Prop}{r:Bool}(hP:∀{b pg ks},P b pg ks->hU b pg/\lH b pg=r){aT:List (List UInt8)}{bX:List (List α)}{ms:List α}{ay:List Nat}{rt:Nat}(K:wm P aT bX ms ay rt):Q3 aT rt r:=by
 by_cases c:1<bX.length
 ·obtain⟨b,h1,h2,_,_⟩:=K.more c
  exact⟨b,h1,(hP h2).1,(hP h2).2⟩
 ·obtain⟨ks,rfl⟩:=List.length_eq_one_iff.mp (pQ K.mid c)
  obtain⟨b,h1,h2,_⟩:=K.one ks rfl
  exact⟨b,h1,(hP h2).1,(hP h2).2⟩
theorem jQ.rt{b:List UInt8}{pg:Int}{ks:List (List UInt8)}(K:jQ b pg ks):hU b pg/\lH b pg=false:=⟨K.kind.ok,K.kind.JS⟩
theorem i5.rt{b:List UInt8}{pg:Int}{ks:List Int}(K:i5 b pg ks):hU b pg/\lH b pg=true:=⟨K.kind.ok,K.kind.rows⟩
theorem F8{α:Type}{f:List α->List V}(hf:∀l,(f l).length=l.length){bX:List (List α)}:(bX.map f).map List.length=bX.map List.length:=by rw [List.map_map];exact List.map_congr_left fun l _=>hf l
inductive Nt(H:AH)(s:Nat)(q:R V):Prop
 |mk (H':AH) (t:List (Nat×Nat)) (e:q = .ok (.bool true) H') (k:Kp [s,2] H H') (S:cW H' s) (h:H'[2]? = some (.tab t))
theorem cW.off{H H':AH}{s j:Nat}(k:Kp [j] H H')(h:s≠j):cW H s->cW H' s
 |⟨a,b,e⟩=>⟨a,b,k.lst (gE h) e⟩
theorem Ei{H:AH}{s:Nat}(S:cW H s)(ht:H[2]? = some (.tab [])):Nt H s (fM [.ref s] H):=by
 have hs2:s≠2:=by obtain⟨a,b,e⟩:=S;exact pW ht e
 refine Eg S fun{H1 nS nK nL pv st tn bf pl N rt o4 o7 o8 ks bX ms ay aT} k1 S1 Ve K lK WA kl YG r=>?_
 refine K9 (a := .ref nS) (b := .int (N:Nat)) (c4:=o4) (c5 := .ref nL) (c6 := .ref (nL+1)) (c7:=o7) (c8:=o8) (c9 := .ref pv) (F6 := .inst 742 st) (F7 := .inst 527 tn) (c12 := .int (rt+1:Nat)) (OU := .ref bf) (OV := .undef) S1 lK WA kl fun{H2 nA asked} e2 lA al k2 S2 YH=>?_
 refine Q2 (a := .ref nS) (b := .int (N:Nat)) (c4:=o4) (c5 := .ref nL) (c6 := .ref (nL+1)) (c7:=o7) (c8:=o8) (c9 := .ref pv) (F6 := .inst 742 st) (F7 := .inst 527 tn) (c12 := .int (rt+1:Nat)) (OU := .ref bf) (OV := .undef) S2 (k2.lst (gE WA) lK) WA kl YG lA al YH fun{H3 n3 La} e3 l3 k3 S3=>?_
 have Hy:=(Ve.kp (Kp.sh (k2.trans k3) S1.lt)).un
 obtain⟨H4,YI,e4,k4⟩:=Nm (a := .ref s) (b := .ref nS) (c := .int (N:Nat)) (d := .ref nK) (e:=o4) (f:=o7) (g:=o8) (h := .inst 742 st) (i := .ref bf) (j := .ref nA) K La.length 0 H3 .undef Hy.ON Hy.trees Hy.storeAt l3 (Nat.zero_add _)
 have Vf:=Hy.kp k4
 obtain⟨H5,e5,k5⟩:=ends_right Vf.ON (F8 (f:=eU) (fun _=>List.length_map ..)▸K.e jQ.e) Vf.trees Vf.storeAt
 have Ly:=Vf.kp k5
 have Vg:Kp [s] H H5:=(((k1.trans k2).trans k3).trans k4.up).trans k5.up
 have Vh:=Vg.at_ 2 _ (gE hs2.symm) ht
 obtain⟨b,hb,kk,hr⟩:=K.root jQ.rt
 obtain⟨H6,e6,k6,t6⟩:=Nj (is:=[11,12]) (k:=fG) (z:=5) (ρ:=[.ref s,.ref nS,.int (N:Nat),.ref nK,o4,.ref nL,.ref (nL+1),o7,o8,.ref pv,.inst 742 st,.inst 527 tn,.int (rt+1:Nat),.ref bf,.ref nA,YI]) Vh List.not_mem_nil rfl Ly.trees Ly.storeAt hb kk hr
 obtain⟨sp,c5⟩:=Ly.Ro
 have s9:lF 15 Eh Cu [.ref s,.ref nS,.int (N:Nat),.ref nK,o4,.ref nL,.ref (nL+1),o7,o8,.ref pv,.inst 742 st,.inst 527 tn,.int (rt+1:Nat),.ref bf,.ref nA,.undef] H2=forL 15 n3 Cu (La.length+1) 0 [.ref s,.ref nS,.int (N:Nat),.ref nK,o4,.ref nL,.ref (nL+1),o7,o8,.ref pv,.inst 742 st,.inst 527 tn,.int (rt+1:Nat),.ref bf,.ref nA,.undef] H3:=(qX e3 l3).trans (by rw [eU,List.length_map])
 exact⟨H6,_,Ol rfl ((r F5.f).trans (dS (ρ:=[.ref s,.ref nS,.int (N:Nat),.ref nK,o4,.ref nL,.ref (nL+1),o7,o8,.ref pv,.inst 742 st,.inst 527 tn,.int (rt+1:Nat),.ref bf,.undef,.undef]) (H:=H1) F5 e2 (s9.trans e4) e5 e6 (k6.dct (gE (Aw Vh c5.hs)) c5.hs) (Ct (k6.lst (gE (pW Vh c5.hp)) c5.hp) (k6.lst (gE (pW Vh Ly.copy)) Ly.copy)))),
  Vg.hd.trans k6.tl,((S3.kp k4).kp k5).off k6 hs2,t6⟩
structure GoodR(xs:List Int)(lo r:Int):Prop where
 so:xs.Pairwise (fun a b=>a<=b)
 of:∀x∈xs,lo<=x/\x<=r
theorem GoodR.nil{lo r:Int}:GoodR [] lo r:=⟨.nil,fun _ h=>absurd h List.not_mem_nil⟩
theorem GoodR.up{xs:List Int}{lo r r':Int}(G:GoodR xs lo r)(h:r<=r'):GoodR xs lo r':=⟨G.so,fun x hx=>⟨(G.of x hx).1,Int.le_trans (G.of x hx).2 h⟩⟩
theorem GoodR.next{xs:List Int}{lo r r':Int}(G:GoodR xs lo r)(h:r<=r')(hl:lo<=r):GoodR (xs++[r']) lo r' :=
 ⟨List.pairwise_append.mpr ⟨G.so,List.pairwise_singleton _ _,fun a ha b hb=>List.mem_singleton.mp hb▸Int.le_trans (G.of a ha).2 h⟩,
  fun x hx=>(List.mem_append.mp hx).elim (fun hx=>(G.up h).of x hx) fun hx=>(List.mem_singleton.mp hx).symm▸⟨Int.le_trans hl h,Int.le_refl _⟩⟩
noncomputable def OW:TS := .aA (.set 2 (.bin aS (.bin aS (.var 2) (.con (.int 1))) (.call bE (.cons (.var 0) (.cons (.con (.int 90)) .nil))))) (.aA (.expr (.fk iU aY (.var 6) (.cons (.var 2) .nil))) .aL)
noncomputable def Vi:SF:=OW.f
theorem OX{H:AH}{n:Nat}{xs:List Int}{x:Int}(h:lst H n=some (eI xs))(hz:xs.length<=100):aY [.ref n,.int x] H = .ok .none (H.set n (.list (eI (xs++[x])))) :=
 (append_at h (by rw [eI,List.length_map];exact Nat.le_trans hz (by decide))).trans (by unfold eI;rw [List.map_append];rfl)
theorem Nu{x:Int}{d:Nat}:x<x+1+d:=Int.lt_of_lt_of_le (Int.lt_succ x) (Int.le_add_of_nonneg_right (Int.natCast_nonneg d))
theorem le_step{x:Int}{d:Nat}(h:(d:Int)<90):x+1+d<=x+90:=by rw [Int.add_assoc,Int.add_comm 1];exact Int.add_le_add_left h x
inductive Ux(H:AH)(s nF:Nat)(x:Int)(xs:List Int)(p:V->List V)(q:RS):Prop
 |mk (H':AH) (x':Int) (e:q = .next (p (.int x')) H') (n1:x<x') (n2:x'<=x+90) (l:lst H' nF=some (eI (xs++[x']))) (k:Kp [s,nF] H H') (S:cW H' s)
theorem Uy{H:AH}{s nF:Nat}{xs:List Int}{x:Int}{a1 a3 a4 a5:V}{r:List V}(S:cW H s)(hl:lst H nF=some (eI xs))(hs:nF≠s)(hz:xs.length<=100) :
  Ux H s nF x xs (fun v => .ref s::a1::v::a3::a4::a5 :: .ref nF::r) (Vi (.ref s::a1 :: .int x::a3::a4::a5 :: .ref nF::r) H):=by
 obtain⟨d,H1,e1,d1,k1,S1⟩:=gg S (top:=90) (by decide) (by decide)
 have l1:=k1.lst (gE hs) hl
 exact⟨_,x+1+d,dS (ρ := .ref s::a1 :: .int x::a3::a4::a5 :: .ref nF::r) (H:=H) OW rfl e1 rfl (eO l1) (OX l1 hz),Nu,le_step d1,gq l1,k1.hd.trans Kp.set.tl,S1.off .set hs.symm⟩
inductive Uz(H:AH)(s nF n:Nat)(lo x hi:Int)(p:V->V->List V)(q:RS):Prop
 |mk (H':AH) (x':Int) (xs':List Int) (o':V) (e:q = .next (p (.int x') o') H') (l:lst H' nF=some (eI xs')) (G:GoodR xs' lo x') (n':xs'.length=n) (n1:x<=x') (n2:x'<=hi) (k:Kp [s,nF] H H') (S:cW H' s)
theorem Nv{x x1:Int}{m:Nat}(h:x1<=x+90):x1+90*m<=x+90*((m+1:Nat):Int):=by lia
theorem UA{s nF:Nat}{lo:Int}{a1 a3 a4 a5:V}{r:List V}(hs:nF≠s):∀(m k:Nat)(x:Int)(xs:List Int)(H:AH)(o:V),cW H s->lst H nF=some (eI xs)->GoodR xs lo x->lo<=x->xs.length=k->k+m<=12 →
  Uz H s nF (k+m) lo x (x+90*m) (fun v o => .ref s::a1::v::a3::a4::a5 :: .ref nF::o::r) (forR 7 Vi m k (.ref s::a1 :: .int x::a3::a4::a5 :: .ref nF::o::r) H):=by
 intro m
 induction m with
 |zero=>exact fun k x xs H o S hl G h0 hk hm=>⟨H,x,xs,o,rfl,hl,G,hk,Int.le_refl _,Int.le_of_eq (Int.add_zero x).symm,.refl,S⟩
 |succ m ih =>
  intro k x xs H o S hl G h0 hk hm
  obtain⟨H1,x1,e1,n1,n2,l1,k1,S1⟩:=Uy (a1:=a1) (a3:=a3) (a4:=a4) (a5:=a5) (x:=x) (r := .int (k:Int)::r) S hl hs (hk▸Nat.le_trans (Nat.le_add_right _ _) (Nat.le_trans hm (by decide)))
  obtain⟨H2,x2,YJ,o2,e2,l2,G2,q2,n3,n4,k2,S2⟩:=ih (k+1) x1 _ H1 (.int (k:Int)) S1 l1 (G.next (Int.le_of_lt n1) h0) (Int.le_trans h0 (Int.le_of_lt n1)) (by rw [List.length_append,hk];rfl) ((Nat.succ_add_eq_add_succ k m).symm▸hm)
  exact⟨H2,x2,YJ,o2,(Qn e1).trans e2,l2,G2,q2.trans (Nat.succ_add_eq_add_succ k m),Int.le_trans (Int.le_of_lt n1) n3,Int.le_trans n4 (Nv n2),k1.trans k2,S2⟩
theorem Kp.swap{a b:Nat}{H H':AH}(k:Kp [a,b] H H'):Kp [b,a] H H':=k.mono fun x h=>(List.mem_cons.mp h).elim (fun e=>e▸List.mem_cons_of_mem _ (List.mem_singleton_self _)) fun h=>List.mem_singleton.mp h▸List.mem_cons_self
noncomputable def F9:TS := .aA (.set 6 (.list .nil)) (.aA (.ej (fX 7 (ai 5) Vi)) (.aA (.expr (.fk iU aY (.var 3) (.cons (.var 6) .nil))) (.aA (.set 2 (.bin aS (.var 2) (.call bE (.cons (.var 0) (.cons (.con (.int 3)) .nil))))) (.aA (.expr (.fk iU aY (.var 4) (.cons (.var 2) .nil))) .aL))))
noncomputable def Cx:SF:=F9.f
structure yX(bX:List (List Int))(ms:List Int)(lo r:Int):Prop where
 leaf:∀l∈bX,GoodR l lo r/\l.length<=3
 mid:GoodR ms lo r
theorem WB{x x2:Int}{n d:Nat}(h:x2<=x+90*n)(hn:n<=3)(hd:(d:Int)<3):x2+d<=x+300:=by lia
inductive UB(H:AH)(s nL nM:Nat)(bX:List (List Int))(ms:List Int)(lo x:Int)(p:V->V->V->List V)(q:RS):Prop
 |mk (H':AH) (x':Int) (xs:List Int) (o6 o7:V) (e:q = .next (p (.int x') o6 o7) H') (L:cN H' nL [nL,nM,s] ((bX++[xs]).map eI)) (M:lst H' nM=some (eI (ms++[x']))) (G:yX (bX++[xs]) (ms++[x']) lo x') (n1:x<=x') (n2:x'<=x+300) (k:Kp [nL,nM,s] H H') (S:cW H' s)
theorem UC{H:AH}{s nL nM n:Nat}{bX:List (List Int)}{ms:List Int}{x lo:Int}{a1 o6 o7:V}{r:List V}(S:cW H s)(hL:cN H nL [nL,nM,s] (bX.map eI))(hM:lst H nM=some (eI ms))(d1:nL≠s)(d2:nM≠s)(d3:nL≠nM)(hn:n<=3)(z1:bX.length<=100)(z2:ms.length<=100)(G:yX bX ms lo x)(h0:lo<=x) :
  UB H s nL nM bX ms lo x (fun v o6 o7 => .ref s::a1::v :: .ref nL :: .ref nM :: .int n::o6::o7::r) (Cx (.ref s::a1 :: .int x :: .ref nL :: .ref nM :: .int n::o6::o7::r) H):=by
 have lL:nL<H.length:=by obtain⟨oV,q,_,_⟩:=hL;exact mq q
 have m1:nL∈[nL,nM,s]:=List.mem_cons_self
 have m2:nM∈[nL,nM,s]:=List.mem_cons_of_mem _ List.mem_cons_self
 have OS:∀x∈[s],x∈[nL,nM,s]:=fun x h=>List.mem_singleton.mp h▸List.mem_cons_of_mem _ (List.mem_cons_of_mem _ List.mem_cons_self)
 have k1:Kp [] H (H++[.list []]) := .app
 obtain⟨H2,x2,xs,TM,e2,l2,G2,q2,n1,n2,k2,S2⟩:=UA (lo:=lo) (a1:=a1) (a3 := .ref nL) (a4 := .ref nM) (a5 := .int n) (r:=r) (Nat.ne_of_gt S.lt) n 0 x [] (H++[.list []]) o7 (S.kp k1) aK .nil h0 rfl (by rw [Nat.zero_add];exact Nat.le_trans hn (by decide))
 rw [Nat.zero_add]at q2
 have M9:Kp [s] H H2:=(k1.up.trans k2.swap).drop (Nat.le_refl _)
 have L2:=hL.kp M9 (gE d1) OS
 have iL:iU (.ref nL) H2=true:=by obtain⟨oV,q,_,_⟩:=L2;exact eO q
 obtain⟨H3,e3,L3,k3⟩:=L2.add (r:=H.length) (lf:=eI xs) l2 (Lw (Nat.ne_of_gt lL) (Lw (Nat.ne_of_gt (mq hM)) (gE (Nat.ne_of_gt S.lt)))) m1 (by rw [List.length_map];exact z1)
 obtain⟨d,H4,e4,dd,k4,S4⟩:=gg (S2.off k3 d1.symm) (top:=3) (by decide) (by decide)
 have M4:=k4.lst (gE d2) (k3.lst (gE d3.symm) (M9.lst (gE d2) hM))
 have up:x2<=x2+d:=Int.le_add_of_nonneg_right (Int.natCast_nonneg d)
 have fr:=(lI (i:=7) (b:=Vi) (a:=ai 5) (ρ := .ref s::a1 :: .int x :: .ref nL :: .ref nM :: .int n :: .ref H.length::o7::r) (H:=H++[.list []]) rfl (Nat.le_trans hn (by decide))).trans e2
 exact⟨_,x2+d,xs,.ref H.length,TM,dS (ρ := .ref s::a1 :: .int x :: .ref nL :: .ref nM :: .int n::o6::o7::r) (H:=H) F9 fr iL e3 e4 rfl (eO M4) (OX M4 z2),
  by rw [List.map_append];exact(L3.kp k4 (gE d1) OS).kp .set (gE d3) fun x h=>List.mem_singleton.mp h▸m2,gq M4,
  ⟨fun l hl=>(List.mem_append.mp hl).elim (fun h=>⟨(G.leaf l h).1.up (Int.le_trans n1 up),(G.leaf l h).2⟩) fun h=>(List.mem_singleton.mp h).symm▸⟨G2.up up,q2▸hn⟩,G.mid.next (Int.le_trans n1 up) h0⟩,
  Int.le_trans n1 up,WB n2 hn dd,((M9.tl.tl.trans k3.hd).trans k4.tl.tl).trans Kp.set.hd.tl,S4.off .set d2.symm⟩
theorem WC{x x1 x2:Int}{n k:Nat}(h:x1<=x+300)(g:x2<=x1+300*((n - (k+1):Nat):Int))(c:k<n):x2<=x+300*((n - k:Nat):Int):=by lia
inductive UD(H:AH)(s nL nM n:Nat)(lo hi:Int)(p:V->V->V->V->List V)(q:RS):Prop
 |mk (H':AH) (x':Int) (WD:List Int) (Q4:List (List Int)) (o5 o6 o7:V) (e:q = .next (p (.int x') o5 o6 o7) H') (L:cN H' nL [nL,nM,s] (Q4.map eI)) (M:lst H' nM=some (eI WD)) (G:yX Q4 WD lo x') (l1:Q4.length=n) (l2:WD.length=n) (n2:x'<=hi) (k:Kp [nL,nM,s] H H') (S:cW H' s)
theorem UE{s nS nL nM:Nat}{ns:List Nat}{lo:Int}{a1:V}{r:List V}(d1:nL≠s)(d2:nM≠s)(d3:nL≠nM)(d4:nS≠nL)(d5:nS≠nM)(d6:nS≠s)(h4:∀n∈ns,n<4)(z4:ns.length<=3) :
  ∀(q k:Nat)(x:Int)(ms:List Int)(bX:List (List Int))(H:AH)(o5 o6 o7:V),cW H s->lst H nS=some (ns.map nV)->cN H nL [nL,nM,s] (bX.map eI)->lst H nM=some (eI ms)->yX bX ms lo x->lo<=x->k+q=ns.length->bX.length=k->ms.length=k →
  UD H s nL nM ns.length lo (x+300*(ns.length - k:Nat)) (fun v o5 o6 o7 => .ref s::a1::v :: .ref nL :: .ref nM::o5::o6::o7::r) (forL 5 nS Cx (q+1) k (.ref s::a1 :: .int x :: .ref nL :: .ref nM::o5::o6::o7::r) H):=by
 intro q
 induction q with
 |zero =>
  intro k x ms bX H o5 o6 o7 S hS hL hM G h0 hk g1 g2
  have hk:k=ns.length:=hk
  exact⟨H,x,ms,bX,o5,o6,o7,U8 hS (List.getElem?_eq_none (by rw [List.length_map];exact Nat.le_of_eq hk.symm)),hL,hM,G,g1.trans hk,g2.trans hk,Int.le_add_of_nonneg_right (Int.mul_nonneg (by decide) (Int.natCast_nonneg _)),.refl,S⟩
 |succ q ih =>
  intro k x ms bX H o5 o6 o7 S hS hL hM G h0 hk g1 g2
  have hk':=(Nat.succ_add_eq_add_succ k q).trans hk
  have c1:k<ns.length:=Nat.le.intro hk'
  have k9:k<=100:=Nat.le_trans (Nat.le_of_lt c1) (Nat.le_trans z4 (by decide))
  obtain⟨H1,x1,xs,p6,p7,e1,L1,M1,G1,n1,n2,k1,S1⟩:=UC (a1:=a1) (o6:=o6) (o7:=o7) (r:=r) (n:=ns[k]) S hL hM d1 d2 d3 (Nat.le_of_lt_succ (h4 _ (List.getElem_mem c1))) (g1▸k9) (g2▸k9) G h0
  obtain⟨H2,x2,YK,WE,q5,q6,q7,e2,L2,M2,G2,a,b,c,k2,S2⟩:=ih (k+1) x1 _ _ H1 (.int (ns[k]:Nat)) p6 p7 S1 (k1.lst (Lw d4 (Lw d5 (gE d6))) hS) L1 M1 G1 (Int.le_trans h0 n1) hk' (by rw [List.length_append,g1];rfl) (by rw [List.length_append,g2];rfl)
  exact⟨H2,x2,YK,WE,q5,q6,q7,(U7 (i:=5) (b:=Cx) (ρ := .ref s::a1 :: .int x :: .ref nL :: .ref nM::o5::o6::o7::r) hS (show(ns.map nV)[k]? = some (.int (ns[k]:Nat))from mK c1) e1).trans e2,L2,M2,G2,a,b,WC n2 c c1,k1.trans k2,S2⟩
noncomputable def Ga:TS := .ud [1,2,3,4] (.tup (.cons (.call gH (.cons (.var 0) .nil)) (.cons (.call dN (.cons (.var 0) (.cons (.list (.cons (.neg (.con (.int 300))) (.cons (.con (.int 0)) (.cons (.bin xu (.con (.int 2)) (.con (.int 62))) .nil)))) .nil))) (.cons (.list .nil) (.cons (.list .nil) .nil)))))
noncomputable def Lb:SF:=Ga.f
noncomputable def Lc:SF:=(lF 5 (ai 1) Cx)
theorem WG{α:Type}{v a b c:α}(h:v∈[a,b,c]):v=a\/v=b\/v=c:=(List.mem_cons.mp h).imp_right fun h=>(List.mem_cons.mp h).imp_right List.mem_singleton.mp
theorem Ld{v:V}(h:v∈[V.int (-300),.int 0,.int 4611686018427387904]):∃x,v = .int x /\ -300<=x/\x<=4611686018427387904:=by
 rcases WG h with h | h | h
 ·exact⟨_,h,by decide,by decide⟩
 ·exact⟨_,h,by decide,by decide⟩
 ·exact⟨_,h,by decide,by decide⟩
theorem WH{x x0:Int}{n:Nat}(h:x<=x0+300*((n - 0:Nat):Int))(h0:x0<=4611686018427387904)(hn:n<=3):x<9223372036854775808:=by lia
theorem Q5{G:Prop}{H:AH}{s:Nat}(S:cW H s)
  (k:∀{nS nL:Nat}{x:Int}{bX:List (List Int)}{ms:List Int}{o5 o6 o7:V}{H5:AH}{ns:List Nat},lst H5 nS=some (ns.map nV)->cN H5 nL [nL,nL+1,s] (bX.map eI)->lst H5 (nL+1)=some (eI ms)->yX bX ms (-300) x->bX.length=ns.length->ms.length=ns.length->x<9223372036854775808->1<=ns.length->ns.length<=3->nL≠s->nL+1≠s->Kp [s] H H5->cW H5 s →
   (∀rest:SF,aq Lb (aq Lc rest) [.ref s,.undef,.undef,.undef,.undef,.undef,.undef,.undef,.undef,.undef,.undef,.undef,.undef,.undef,.undef] H=rest [.ref s,.ref nS,.int x,.ref nL,.ref (nL+1),o5,o6,o7,.undef,.undef,.undef,.undef,.undef,.undef,.undef] H5)->G):G:=by
 obtain⟨nS,H1,ns,e1,lS,hS,n1,n3,n4,k1,S1⟩:=yS S
 have k2:Kp [] H1 (H1++[.list [.int (-300),.int 0,.int 4611686018427387904]]) := .app
 have g1:=Nat.lt_of_lt_of_le S.lt k1.len
 obtain⟨v,H3,e3,hv,k3,S3⟩:=rH (S1.kp k2) aK (Nat.ne_of_gt g1) (show 0<3 by decide) (show 3<=1000 by decide)
 obtain⟨x0,hx,YL,YM⟩:=Ld hv
 subst hx
 have Nr:Kp [s] H1 H3:=k2.up.trans k3
 have g3:s<H3.length:=Nat.lt_of_lt_of_le g1 Nr.len
 have WI:nS≠s:=Nat.ne_of_gt (Nat.lt_of_lt_of_le S.lt hS)
 have a2:nS<H3.length:=Nat.lt_of_lt_of_le (mq lS) Nr.len
 have k4:Kp [] H3 (H3++[.list [],.list []]) := .app
 have WJ:=k4.lst ed (Nr.lst (gE WI) lS)
 have d1:H3.length≠s:=Nat.ne_of_gt g3
 have d2:H3.length+1≠s:=Nat.ne_of_gt (Nat.lt_succ_of_lt g3)
 obtain⟨H5,x,ms,bX,o5,o6,o7,e5,L5,M5,G5,UG,Vj,bx,k5,S5⟩:=UE (lo := -300) (a1 := .ref nS) (r:=[.undef,.undef,.undef,.undef,.undef,.undef,.undef]) d1 d2 (Nat.ne_of_lt (Nat.lt_succ_self _)) (Nat.ne_of_lt a2) (Nat.ne_of_lt (Nat.lt_succ_of_lt a2)) WI n4 n3 ns.length 0 x0 [] [] (H3++[.list [],.list []]) .undef .undef .undef (S3.kp k4) WJ ⟨[],aK,rfl,fun i h=>absurd h (Nat.not_lt_zero _)⟩ rj ⟨fun l hl=>absurd hl List.not_mem_nil,GoodR.nil⟩ YL (Nat.zero_add _) rfl rfl
 have pw:xu (.int 2) (.int 62) H1 = .ok (.int 4611686018427387904) H1:=rfl
 have s1:Lb [.ref s,.undef,.undef,.undef,.undef,.undef,.undef,.undef,.undef,.undef,.undef,.undef,.undef,.undef,.undef] H = .next [.ref s,.ref nS,.int x0,.ref H3.length,.ref (H3.length+1),.undef,.undef,.undef,.undef,.undef,.undef,.undef,.undef,.undef,.undef] (H3++[.list [],.list []]):=(dS (ρ:=[.ref s,.undef,.undef,.undef,.undef,.undef,.undef,.undef,.undef,.undef,.undef,.undef,.undef,.undef,.undef]) (H:=H) Ga e1 pw e3).trans (by rw [List.append_assoc,List.length_append];rfl)
 have s2:Lc [.ref s,.ref nS,.int x0,.ref H3.length,.ref (H3.length+1),.undef,.undef,.undef,.undef,.undef,.undef,.undef,.undef,.undef,.undef] (H3++[.list [],.list []])=forL 5 nS Cx (ns.length+1) 0 [.ref s,.ref nS,.int x0,.ref H3.length,.ref (H3.length+1),.undef,.undef,.undef,.undef,.undef,.undef,.undef,.undef,.undef,.undef] (H3++[.list [],.list []]):=(qX (a:=ai 1) rfl WJ).trans (by rw [List.length_map])
 have Vg:Kp [s] H3 H5:=((k4.up.trans k5).drop (Nat.le_refl _)).drop (Nat.le_succ _)
 exact k (k5.lst (Lw (Nat.ne_of_lt a2) (Lw (Nat.ne_of_lt (Nat.lt_succ_of_lt a2)) (gE WI))) WJ) L5 M5 G5 UG Vj (WH bx YM n3) n1 n3 d1 d2 ((k1.trans Nr).trans Vg) S5 fun rest=>K6 s1 (s2.trans e5)
noncomputable def Gb:TS := .nU [4,8] (.tup (.cons (.cut (.var 4) .no (.so (.neg (.con (.int 1))))) (.cons (.call gI (.cons (.var 0) (.cons (.call bT (.cons (.var 1) .nil)) .nil))) .nil)))
noncomputable def OY:SF:=Gb.f
noncomputable def Gc:TS := .set 9 (.call eM (.cons (.var 3) (.cons (.var 4) (.cons (.var 8) (.cons (.con (.bool true)) .nil)))))
noncomputable def OZ:SF:=Gc.f
theorem Le{n:Nat}:(-1:Int)+((n+1:Nat):Int)=n:=by
 show(-1:Int)+((n:Int)+1)=n
 rw [Int.add_comm (n:Int) 1,<- Int.add_assoc];exact Int.zero_add _
theorem Nx:∀{n:Nat},clipAt n (-1)=n - 1
 | 0=>rfl
 |n+1=>by
  unfold clipAt
  rw [if_pos (by decide),Le,Int.min_eq_left (Int.ofNat_le.mpr (Nat.le_succ n)),Int.max_eq_right (Int.natCast_nonneg n)];rfl
theorem Lf{α:Type}{l:List α}:fD l none (some (-1))=l.take (l.length - 1):=by
 unfold fD
 rw [Option.elim_none,Option.elim_some,Nx];rfl
theorem wO{ks:List Int}(h:ks.Pairwise (fun a b=>a<=b)):gp ks:=fun i j hi hj hij=>List.pairwise_iff_getElem.mp h i j hi hj hij
theorem yY(l:List Int):∀v∈eI l,rB true v:=fun v hv=>by
 obtain⟨k,_,rfl⟩:=List.mem_map.mp hv
 exact⟨k,rfl⟩
theorem Q6{G:Prop}{H:AH}{s nS nL:Nat}{x:Int}{bX:List (List Int)}{ms:List Int}{o5 o6 o7:V}{ns:List Nat}(S:cW H s)(lS:lst H nS=some (ns.map nV))(L:cN H nL [nL,nL+1,s] (bX.map eI))(M:lst H (nL+1)=some (eI ms))(G5:yX bX ms (-300) x)(UG:bX.length=ns.length)(Vj:ms.length=ns.length)(hx:x<9223372036854775808)(n1:1<=ns.length)(n3:ns.length<=3)(d1:nL≠s)
  (k:∀{H8:AH}{nM pv st tn bf pl rt:Nat}{ms:List Int}{ay:List Nat}{aT:List (List UInt8)},Kp [s] H H8->cW H8 s->yW (Sh s H8) true (bX.map eI) (eI ms) ay rt nL nM pv st pl tn bf aT->tS aT bX ms ay rt →
   (∀rest:SF,aq OY (aq OZ (aq (K1 9 8 [10,11,12]) rest)) [.ref s,.ref nS,.int x,.ref nL,.ref (nL+1),o5,o6,o7,.undef,.undef,.undef,.undef,.undef,.undef,.undef] H=rest [.ref s,.ref nS,.int x,.ref nL,.ref nM,o5,o6,o7,.ref pv,.inst 742 st,.inst 527 tn,.int (rt+1:Nat),.ref bf,.undef,.undef] H8)->G):G:=by
 have ln:=fu (cP (X:=[.list (eI (ms.take (ms.length - 1)))]) lS) (by rw [List.length_map];exact Nat.le_trans n3 (by decide))
 rw [List.length_map]at ln
 have ct:=mL (lo:=none) (hi:=some (-1)) M (by rw [eI,List.length_map,Vj];exact Nat.le_trans n3 (by decide))
 have cm:fD (eI ms) none (some (-1))=eI (ms.take (ms.length - 1)):=by rw [Lf];unfold eI;rw [List.length_map,List.map_take]
 rw [cm]at ct
 have k6:Kp [] H (H++[.list (eI (ms.take (ms.length - 1)))]) := .app
 obtain⟨pv,H7,ay,rt,e7,YN,YO,np,p5,Ww,nd,Uv,k7,S7⟩:=yT (S.kp k6) n3
 have OS:∀x∈[s],x∈[nL,nL+1,s]:=fun x h=>List.mem_singleton.mp h▸List.mem_cons_of_mem _ (List.mem_cons_of_mem _ List.mem_cons_self)
 have Wx:pv≠s:=Nat.ne_of_gt (Nat.lt_of_lt_of_le (S.kp k6).lt YO)
 have XA:H.length≠s:=Nat.ne_of_gt S.lt
 have sub:(ms.take (ms.length - 1)).Sublist ms:=List.take_sublist _ _
 have ml:(ms.take (ms.length - 1)).length+1=ns.length:=by rw [List.length_take,Nat.min_eq_left (Nat.sub_le _ _),Vj];exact Nat.sub_add_cancel n1
 have I7:jx (Sh s H7) true nL H.length pv (bX.map eI) (eI (ms.take (ms.length - 1))) ay rt :=
  {kH:=(((L.kp k6 ed fun x h=>absurd h ed).kp k7 (gE d1) OS).kp rJ (gE d1) OS).kH,mids:=rJ.lst (gE XA) (k7.lst (gE XA) aK),aT:=rJ.lst (gE Wx) YN
   np:=by rw [List.length_map,UG];exact np
   nm:=by rw [List.length_map,UG,eI,List.length_map];exact ml
   few:=by rw [List.length_map,UG];exact n3
   size:=fun l hl=>by
    obtain⟨l',h1,rfl⟩:=List.mem_map.mp hl
    rw [eI,List.length_map];exact(G5.leaf l' h1).2
   rD:=fun l hl=>by
    obtain⟨l',h1,rfl⟩:=List.mem_map.mp hl
    exact yY l'
   rE:=yY _,oU:=p5,rF:=Ww,apart:=nd,apart':=Uv}
 obtain⟨H8,st,pl,sp,aT,e8,k8,S8,A⟩:=Cp I7.un
 obtain⟨tn,bf,H9,k9,Si,e9⟩:=K2 (I7.un.kp k8) S8 A
 have WK:=k8.trans k9
 have S9:=S7.kp WK
 exact k ((k6.up.trans k7).trans WK.up) S9 (Si.sh S9 (I7.kp (Kp.sh WK.up S7.lt))) (KA I7.un A (fun l hl=>wO (G5.leaf l hl).1.so) (wO (G5.mid.so.sublist sub))
   (fun l hl y hy=>⟨Int.le_trans (by decide) ((G5.leaf l hl).1.of y hy).1,Int.lt_of_le_of_lt ((G5.leaf l hl).1.of y hy).2 hx⟩) fun y hy=>⟨Int.le_trans (by decide) (G5.mid.of y (sub.subset hy)).1,Int.lt_of_le_of_lt (G5.mid.of y (sub.subset hy)).2 hx⟩)
  fun rest=>(K6 (dS (ρ:=[.ref s,.ref nS,.int x,.ref nL,.ref (nL+1),o5,o6,o7,.undef,.undef,.undef,.undef,.undef,.undef,.undef]) (H:=H) Gb ct ln e7) (dS (ρ:=[.ref s,.ref nS,.int x,.ref nL,.ref H.length,o5,o6,o7,.ref pv,.undef,.undef,.undef,.undef,.undef,.undef]) (H:=H7) Gc e8)).trans (vX (e9 [10,11,12] 9 8 [.ref s,.ref nS,.int x,.ref nL,.ref H.length,o5,o6,o7,.ref pv,.inst 742 st,.undef,.undef,.undef,.undef,.undef] (fun _=>rfl) (fun _=>rfl) rfl) rfl)
theorem Ej{G:Prop}{H:AH}{s:Nat}(S:cW H s)
  (k:∀{H':AH}{nS nL nM pv st tn bf pl rt:Nat}{x:Int}{o5 o6 o7:V}{bX:List (List Int)}{ms:List Int}{ay:List Nat}{aT:List (List UInt8)},Kp [s] H H'->cW H' s->yW (Sh s H') true (bX.map eI) (eI ms) ay rt nL nM pv st pl tn bf aT->tS aT bX ms ay rt →
   (∀rest:SF,aq Lb (aq Lc (aq OY (aq OZ (aq (K1 9 8 [10,11,12]) rest)))) [.ref s,.undef,.undef,.undef,.undef,.undef,.undef,.undef,.undef,.undef,.undef,.undef,.undef,.undef,.undef] H=rest [.ref s,.ref nS,.int x,.ref nL,.ref nM,o5,o6,o7,.ref pv,.inst 742 st,.inst 527 tn,.int (rt+1:Nat),.ref bf,.undef,.undef] H')->G):G :=
 Q5 S fun lS L M G5 lv lm hx n1 n3 d1 d2 k1 S1 r1=>Q6 S1 lS L M G5 lv lm hx n1 n3 d1 fun k2 S2 Si K r2=>k (k1.trans k2) S2 Si K fun rest=>(r1 _).trans (r2 rest)
theorem Ny{H:AH}{n:Nat}{oV:List Nat}{bX:List (List V)}(hl:lst H n=some (oV.map V.ref))(hn:oV.length=bX.length)(hr:∀i(h:i<bX.length),Ck H oV i bX[i])(hz:∀l∈bX,l.length<=3)(h3:bX.length<=3) :
  ∀(q k:Nat)(acc:List V),k+q=bX.length->acc.length<=3*k->flat (q+1) (.list n k) acc H=some (acc++(bX.drop k).flatten):=by
 intro q
 induction q with
 |zero =>
  intro k acc hk _
  have hk:=Nat.le_of_eq hk.symm
  show(Src.next (.list n k) H).bind _ = _
  rw [oE hl,List.getElem?_eq_none (i:=k) (by rw [List.length_map,hn];exact hk),List.drop_eq_nil_of_le (i:=k) hk]
  exact congrArg some (List.append_nil acc).symm
 |succ q ih =>
  intro k acc hk ha
  have hk':=(Nat.succ_add_eq_add_succ k q).trans hk
  have c:k<bX.length:=Nat.le.intro hk'
  obtain⟨r,a,b⟩:=hr k c
  have l3:=Nat.add_le_add ha (hz _ (List.getElem_mem c))
  show(Src.next (.list n k) H).bind _ = _
  rw [oE hl,show(oV.map V.ref)[k]? = some (.ref r) by rw [List.getElem?_map,a];rfl,List.drop_eq_getElem_cons c,List.flatten_cons]
  show(lst H r).bind _ = _
  rw [b]
  exact(if_pos (Nat.le_trans l3 (Nat.le_trans (Nat.add_le_add_right (Nat.mul_le_mul_left 3 (Nat.le_trans (Nat.le_of_lt c) h3)) 3) (by decide)))).trans ((ih (k+1) _ hk' (by rw [List.length_append];exact l3)).trans (by rw [List.append_assoc]))
theorem Lg:∀{l:List (List Int)},(∀x∈l,x.length<=3)->l.flatten.length<=3*l.length:=by
 intro l
 induction l with
 |nil=>exact fun _=>Nat.le_refl _
 |cons x l ih =>
  intro h
  rw [List.flatten_cons,List.length_append,List.length_cons,Nat.mul_succ,Nat.add_comm]
  exact Nat.add_le_add (ih fun y hy=>h y (List.mem_cons_of_mem _ hy)) (h x List.mem_cons_self)
noncomputable def Gd:TS := .set 13 (.bin aS (.bin aS (.raw (sq (ai 3))) (.var 4)) (.list (.cons (.con (.int 7)) .nil)))
noncomputable def O0:SF:=Gd.f
theorem Ge{a b:List Int}:eI a++eI b=eI (a++b):=by unfold eI;rw [List.map_append]
theorem h9{a:List Int}:(eI a).length=a.length:=List.length_map ..
theorem Nz{G:Prop}{H:AH}{lv mv pv rt:Nat}{bX:List (List Int)}{ms:List Int}{ay:List Nat}{a b c5 c6 c7 c8 c9 F6 F7 c12 UH:V}(I:jx H true lv mv pv (bX.map eI) (eI ms) ay rt)
  (k:∀{H':AH}{nA:Nat}{xs:List Int},O0 [a,b,UH,.ref lv,.ref mv,c5,c6,c7,c8,c9,F6,F7,c12,.undef,.undef] H = .next [a,b,UH,.ref lv,.ref mv,c5,c6,c7,c8,c9,F6,F7,c12,.ref nA,.undef] H'->lst H' nA=some (eI xs)->0<xs.length->xs.length<=20->Kp [] H H'->H.length<=nA->G):G:=by
 obtain⟨oV,r1,r2,r3⟩:=I.kH
 have ml:ms.length<=3:=h9▸I.Cm
 have l3:bX.length<=3:=List.length_map eI▸I.few
 have fl:=Ny r1 r2 r3 I.size I.few oV.length 0 [] ((Nat.zero_add _).trans r2) (Nat.le_refl _)
 have fz:bX.flatten.length<=9:=Nat.le_trans (Lg fun l hl=>h9▸I.size (eI l) (List.mem_map.mpr ⟨l,hl,rfl⟩)) (Nat.mul_le_mul_left 3 l3)
 have ef:((bX.map eI).drop 0).flatten=eI bX.flatten:=by
  show(bX.map (List.map V.int)).flatten=bX.flatten.map V.int
  rw [List.map_flatten]
 rw [ef]at fl
 have cx:sq (ai 3) [a,b,UH,.ref lv,.ref mv,c5,c6,c7,c8,c9,F6,F7,c12,.undef,.undef] H = .ok (.ref H.length) (H++[.list (eI bX.flatten)]):=by
  unfold sq iA
  show((cC (lst H lv) _).bind _) = _
  rw [r1]
  show cC (flat ((oV.map V.ref).length+1) (.list lv 0) [] H) _ = _
  rw [List.length_map,fl];rfl
 have k1:Kp [] H (H++[.list (eI bX.flatten)]) := .app
 have Uw:=jo aK (k1.lst ed I.mids) (by rw [h9,h9];exact Nat.le_trans (Nat.add_le_add fz ml) (by decide))
 rw [Ge]at Uw
 have fm:(bX.flatten++ms).length<=12:=by rw [List.length_append];exact Nat.add_le_add fz ml
 have kk:=(k1.trans (Kp.app (X:=[.list (eI (bX.flatten++ms))]))).trans (Kp.app (X:=[.list [.int 7]]))
 have T7:=jo (cP (X:=[.list [.int 7]]) (aK (H:=H++[.list (eI bX.flatten)]) (vs:=eI (bX.flatten++ms)) (X:=[]))) aK (by rw [h9];exact Nat.le_trans (Nat.succ_le_succ fm) (by decide))
 exact k (dS (ρ:=[a,b,UH,.ref lv,.ref mv,c5,c6,c7,c8,c9,F6,F7,c12,.undef,.undef]) (H:=H) Gd cx Uw T7) (xs:=bX.flatten++ms++[7]) (aK.trans (by rw [← Ge (b:=[7])];rfl)) (by rw [List.length_append];exact Nat.succ_pos _) (by rw [List.length_append];exact Nat.le_trans (Nat.succ_le_succ fm) (by decide)) (kk.trans .app) kk.len
noncomputable def Cy:TS := .aA (.set 14 (.bin aS (.call dN (.cons (.var 0) (.cons (.var 13) .nil))) (.call dN (.cons (.var 0) (.cons (.list (.cons (.con (.int 0)) (.cons (.con (.int 0)) (.cons (.con (.int 1)) (.cons (.neg (.con (.int 1))) .nil))))) .nil)))))
 (.aA (.ja (.of (.bin xw (.call dj (.cons (.var 10) (.cons (.var 11) (.cons (.var 14) .nil)))) (.call iJ (.cons (.var 3) (.cons (.var 4) (.cons (.var 8) (.cons (.var 14) .nil))))))) (.aA (.ret (.con (.bool false))) .aL) .aL) .aL)
noncomputable def wQ:SF:=Cy.f
theorem eq_bool{H:AH}{n:Nat}{a:Bool}:tF H n (.bool a) (.bool a)=some true:=by cases n<;>exact congrArg some BEq.rfl
inductive UI(H:AH)(s:Nat)(p:V->List V)(q:RS):Prop
 |mk (H':AH) (o:V) (e:q = .next (p o) H') (k:Kp [s] H H') (S:cW H' s)
theorem Lh{H:AH}{s lv mv pv rt tn st nA pl bf:Nat}{aT:List (List UInt8)}{ay:List Nat}{bX:List (List Int)}{ms xs:List Int}{a1 a2 a5 a6 a7 a9 Lz o:V}
  (Si:yW (Sh s H) true (bX.map eI) (eI ms) ay rt lv mv pv st pl tn bf aT) (K:tS aT bX ms ay rt) (S:cW H s) (hA:lst H nA=some (eI xs)) (hn:nA≠s) (x0:0<xs.length) (x1:xs.length<=20) :
  UI H s (fun o=>[.ref s,a1,a2,.ref lv,.ref mv,a5,a6,a7,.ref pv,a9,.inst 527 tn,.int (rt+1:Nat),Lz,.ref nA,o]) (wQ [.ref s,a1,a2,.ref lv,.ref mv,a5,a6,a7,.ref pv,a9,.inst 527 tn,.int (rt+1:Nat),Lz,.ref nA,o] H):=by
 obtain⟨v,H1,e1,hv,k1,S1⟩:=rH S hA hn (h9.symm▸x0) (h9.symm▸Nat.le_trans x1 (by decide))
 obtain⟨x,hx,rfl⟩:=List.mem_map.mp hv
 have k2:Kp [] H1 (H1++[.list (eI [0,0,1,-1])]) := .app
 obtain⟨w,H3,e3,hw,k3,S3⟩:=rH (S1.kp k2) aK (Nat.ne_of_gt S1.lt) (show 0<4 by decide) (show 4<=1000 by decide)
 obtain⟨y,hy,rfl⟩:=List.mem_map.mp hw
 have Nr:Kp [s] H H3:=(k1.trans k2.up).trans k3
 have Hy:=(Si.kp (Kp.sh Nr S.lt)).un
 obtain⟨X,e4⟩:=DY (key:=x+y) Hy.trees Hy.storeAt K
 have k4:Kp [] H3 (H3 ++ .list (jn bX ms ay rt (x+y))::X) := .app
 obtain⟨d',H5,e5,l5,k5⟩:=Nc (key:=x+y) (Hy.kp k4).ON
 exact⟨H5,.int (x+y),dS (ρ:=[.ref s,a1,a2,.ref lv,.ref mv,a5,a6,a7,.ref pv,a9,.inst 527 tn,.int (rt+1:Nat),Lz,.ref nA,o]) (H:=H) Cy e1 e3 rfl e4 e5 (KO (k5.lst ed aK) l5 Hv eq_bool),(Nr.trans k4.up).trans k5.up,(S3.kp k4).kp k5⟩
inductive UJ(H:AH)(s:Nat)(p:V->V->List V)(q:RS):Prop
 |mk (H':AH) (a o:V) (e:q = .next (p a o) H') (k:Kp [s] H H') (S:cW H' s)
theorem NB{s lv mv pv rt tn st nA pl bf:Nat}{aT:List (List UInt8)}{ay:List Nat}{bX:List (List Int)}{ms xs:List Int}{a1 a2 a5 a6 a9 Lz:V}(K:tS aT bX ms ay rt)(hn:nA≠s)(x0:0<xs.length)(x1:xs.length<=20) :
  ∀(m k:Nat)(H:AH)(a7 o:V),yW (Sh s H) true (bX.map eI) (eI ms) ay rt lv mv pv st pl tn bf aT->cW H s->lst H nA=some (eI xs) →
  UJ H s (fun a7 o=>[.ref s,a1,a2,.ref lv,.ref mv,a5,a6,a7,.ref pv,a9,.inst 527 tn,.int (rt+1:Nat),Lz,.ref nA,o]) (forR 7 wQ m k [.ref s,a1,a2,.ref lv,.ref mv,a5,a6,a7,.ref pv,a9,.inst 527 tn,.int (rt+1:Nat),Lz,.ref nA,o] H):=by
 intro m
 induction m with
 |zero=>exact fun k H a7 o Si S hA=>⟨H,a7,o,rfl,.refl,S⟩
 |succ m ih =>
  intro k H a7 o Si S hA
  obtain⟨H1,o1,e1,k1,S1⟩:=Lh (a1:=a1) (a2:=a2) (a5:=a5) (a6:=a6) (a7 := .int (k:Int)) (a9:=a9) (Lz:=Lz) (o:=o) Si K S hA hn x0 x1
  obtain⟨H2,YQ,o2,e2,k2,S2⟩:=ih (k+1) H1 (.int (k:Int)) o1 (Si.kp (Kp.sh k1 S.lt)) S1 (k1.lst (gE hn) hA)
  exact⟨H2,YQ,o2,(Qn (i:=7) (b:=wQ) (ρ:=[.ref s,a1,a2,.ref lv,.ref mv,a5,a6,a7,.ref pv,a9,.inst 527 tn,.int (rt+1:Nat),Lz,.ref nA,o]) e1).trans e2,k1.trans k2,S2⟩
noncomputable def uJ:TX V := .ite (.of (.bin xw (.item (.var 3) (.neg (.con (.int 1)))) (.list .nil))) (.item (.item (.var 3) (.neg (.con (.int 1)))) (.neg (.con (.int 1)))) (.con .none)
theorem uK{H:AH}{n:Nat}{vs:List V}{v:V}(hl:lst H n=some vs)(h0:0<vs.length)(hz:vs.length<=1000)(hv:vs[vs.length - 1]? = some v):ki (.ref n) (.int (-1)) H = .ok v H:=by
 obtain⟨m,hm⟩:∃m,vs.length=m+1:=⟨vs.length - 1,(Nat.sub_add_cancel h0).symm⟩
 rw [hm]at hv
 show(lst H n).elim _ _ = _
 rw [hl]
 show NW vs (-1) H = _
 unfold NW
 rw [if_pos (Nat.le_trans hz (by decide)),if_neg (by decide),hm,Le,if_pos (Int.natCast_nonneg m),Int.toNat_natCast,show vs[m]? = some v from hv];rfl
theorem Li{H:AH}{i j:Nat}{xs:List Int}(hi:lst H i=some (eI xs))(hj:lst H j=some []):xw (.ref i) (.ref j) H = .ok (.bool (decide (xs.length≠0))) H:=by
 show cC ((lst H i).bind fun vs=>(lst H j).bind _) _ = _
 rw [hi,hj]
 cases xs with
 |nil=>rfl
 |cons x xs=>rfl
theorem ND{H:AH}{lv mv pv rt:Nat}{bX:List (List Int)}{ms:List Int}{ay:List Nat}{a b c:V}{r:List V}(I:jx H true lv mv pv (bX.map eI) (eI ms) ay rt):Ev (Kp [] H) (uJ.f (a::b::c :: .ref lv::r) H) (mG bX):=by
 obtain⟨oV,r1,r2,r3⟩:=I.kH
 have hi:=I.l1
 obtain⟨q,h1,h2⟩:=r3 _ hi
 rw [List.getElem_map]at h2
 have ll:(bX.map eI).length=bX.length:=List.length_map ..
 have XC:gc bX=bX[(bX.map eI).length - 1]'(by rw [ll]at hi ⊢;exact hi):=by
  exact(congrArg (fun i=>bX.getD i []) (congrArg (fun i=>i - 1) ll.symm)).trans (getD_at (List.getElem?_eq_getElem _))
 rw [← XC]at h2
 have fl:(oV.map V.ref).length=(bX.map eI).length:=(List.length_map ..).trans r2
 have f3:(oV.map V.ref).length<=1000:=fl▸Nat.le_trans I.few (by decide)
 have f0:0<(oV.map V.ref).length:=fl▸Nat.lt_of_le_of_lt (Nat.zero_le _) hi
 have g:(oV.map V.ref)[(oV.map V.ref).length - 1]? = some (.ref q):=by rw [fl,List.getElem?_map,h1];rfl
 have k1:Kp [] H (H++[.list []]) := .app
 have ne:=Li (k1.lst ed h2) aK
 have sz:(gc bX).length<=3:=by
  have:=I.size _ (List.getElem_mem hi)
  rw [List.getElem_map,<- XC,h9]at this;exact this
 unfold mG
 by_cases c0:(gc bX).length=0
 ·rw [decide_eq_false (fun h=>h c0)]at ne
  rw [if_pos c0]
  exact⟨_,j5 (ρ:=a::b::c :: .ref lv::r) (H:=H) uJ (uK r1 f0 f3 g) ne,k1⟩
 ·rw [decide_eq_true c0]at ne
  rw [if_neg c0]
  have l0:=Nat.pos_of_ne_zero c0
  have hl:=Nat.sub_lt l0 Nat.one_pos
  exact⟨_,j5 (ρ:=a::b::c :: .ref lv::r) (H:=H) uJ (uK r1 f0 f3 g) ne (uK (k1.lst ed r1) f0 f3 g) (uK (k1.lst ed h2) (h9.symm▸l0) (h9.symm▸Nat.le_trans sz (by decide)) (by rw [h9,getD_at (List.getElem?_eq_getElem hl)];exact mK hl)),k1⟩
noncomputable def Gf:TS := .aA (.ej O0) (.aA (.ej (fX 7 (ak (.int 4)) wQ)) (.aA (.ja (.of (.bin xw (.call jm (.cons (.var 10) (.cons (.var 11) .nil))) (.raw uJ.f))) (.aA (.ret (.con (.bool false))) .aL) .aL)
 (.aA (.ja (.not (.of (.call dO (.cons (.var 10) (.cons (.var 3) (.cons (.var 8) .nil)))))) (.aA (.ret (.con (.bool false))) .aL) .aL)
 (.aA (.ret (.and (.raw (vK 1 fJ [10,11] (aF dR (af (ai 0) (af (ai 1) (af (ak (.bytes [97])) (af (aF (kZ 590) aC) aC))))))) (.bin iw (.attr 742 .ay (.var 9)) (.var 12)))) .aL))))
theorem NE{H:AH}{bX:List (List Int)}:xw (mG bX) (mG bX) H = .ok (.bool false) H:=by
 unfold mG
 split
 ·rfl
 ·show cC (tF H 4 _ _) _ = _
  rw [eq_int];rfl
inductive Q7(H:AH)(s:Nat)(q:R V):Prop
 |mk (H':AH) (t:List (Nat×Nat)) (e:q = .ok (.bool true) H') (k:Kp [s,1] H H') (h:H'[1]? = some (.tab t))
theorem Ek{H:AH}{s:Nat}(S:cW H s)(ht:H[1]? = some (.tab [])):Q7 H s (fN [.ref s] H):=by
 have hs2:s≠1:=by obtain⟨a,b,e⟩:=S;exact pW ht e
 refine Ej S fun{H1 nS nL nM pv st tn bf pl rt x o5 o6 o7 bX ms ay aT} k1 S1 Ve K r=>?_
 refine Nz (a := .ref s) (b := .ref nS) (UH := .int x) (c5:=o5) (c6:=o6) (c7:=o7) (c8 := .ref pv) (c9 := .inst 742 st) (F6 := .inst 527 tn) (F7 := .int (rt+1:Nat)) (c12 := .ref bf) Ve.un.ON fun{H2 nA xs} e2 lA x0 x1 k2 hnA=>?_
 have XD:=Ve.kp (Kp.sh (k2.up (ys:=[s])) S1.lt)
 obtain⟨H3,a7,XE,e3,k3,S3⟩:=NB (a1 := .ref nS) (a2 := .int x) (a5:=o5) (a6:=o6) (a9 := .inst 742 st) (Lz := .ref bf) K (Nat.ne_of_gt (Nat.lt_of_lt_of_le S1.lt hnA)) x0 x1 4 0 H2 o7 .undef XD (S1.kp k2) lA
 have Hy:=(XD.kp (Kp.sh k3 (S1.kp k2).lt)).un
 obtain⟨X,e4⟩:=DZ Hy.trees Hy.storeAt K
 have k4:Kp [] H3 (H3++X) := .app
 obtain⟨H5,e5,k5⟩:=ND (a := .ref s) (b := .ref nS) (c := .int x) (r:=[.ref nM,o5,o6,a7,.ref pv,.inst 742 st,.inst 527 tn,.int (rt+1:Nat),.ref bf,.ref nA,XE]) (Hy.kp k4).ON
 have Ly:=(Hy.kp k4).kp k5
 obtain⟨H6,e6,k6⟩:=ends_right Ly.ON (F8 (f:=eI) (fun _=>List.length_map ..)▸K.e i5.e) Ly.trees Ly.storeAt
 have UK:=Ly.kp k6
 have XF:Kp [s] H H6:=(((k1.trans k2.up).trans k3).trans (k4.trans k5).up).trans k6.up
 have Vk:=XF.at_ 1 _ (gE hs2.symm) ht
 obtain⟨b,hb,kk,hr⟩:=K.root i5.rt
 obtain⟨H7,e7,k7,t7⟩:=Nk (is:=[10,11]) (k:=fJ) (z:=[97]) (ρ:=[.ref s,.ref nS,.int x,.ref nL,.ref nM,o5,o6,a7,.ref pv,.inst 742 st,.inst 527 tn,.int (rt+1:Nat),.ref bf,.ref nA,XE]) Vk List.not_mem_nil rfl UK.trees UK.storeAt hb kk hr
 obtain⟨sp,c6⟩:=UK.Ro
 have F:=(lI (i:=7) (b:=wQ) (a:=ak (.int 4)) (n:=4) (ρ:=[.ref s,.ref nS,.int x,.ref nL,.ref nM,o5,o6,o7,.ref pv,.inst 742 st,.inst 527 tn,.int (rt+1:Nat),.ref bf,.ref nA,.undef]) rfl (by decide)).trans e3
 exact⟨H7,_,Ol rfl ((r Gf.f).trans (dS (ρ:=[.ref s,.ref nS,.int x,.ref nL,.ref nM,o5,o6,o7,.ref pv,.inst 742 st,.inst 527 tn,.int (rt+1:Nat),.ref bf,.undef,.undef]) (H:=H1) Gf e2 F e4 e5 NE e6 e7 (k7.dct (gE (Aw Vk c6.hs)) c6.hs) (Ct (k7.lst (gE (pW Vk c6.hp)) c6.hp) (k7.lst (gE (pW Vk UK.copy)) UK.copy)))),XF.hd.trans k7.tl,t7⟩
noncomputable def El:R V->Bool
 | .ok (.bool true) (.tab _ :: .tab [] :: .tab []::_)=>true
 |_=>false
theorem Lj:El (eG [] [.tab [],.tab [],.tab []])=true:=by decide +kernel
theorem Hz{x:R V}(h:El x=true):∃k0 r,x = .ok (.bool true) (.tab k0 :: .tab [] :: .tab []::r):=by
 unfold El at h
 split at h
 ·exact⟨_,_,rfl⟩
 ·cases h
theorem Em:∃k0 r,eG [] [.tab [],.tab [],.tab []] = .ok (.bool true) (.tab k0 :: .tab [] :: .tab []::r):=Hz Lj
theorem NF{nums:List Int}{H H0 H1 H2 H3:AH}{s:Nat}(e0:eG [] H = .ok (.bool true) H0)(e1:mi [.olist nums,.int 0] H0 = .ok (.ref s) H1)(e2:fM [.ref s] H1 = .ok (.bool true) H2)(e3:fN [.ref s] H2 = .ok (.bool true) H3) :
  E6 [.olist nums,.undef] H = .ret (.bool true) H3:=by simp [E6,e0,e1,e2,e3]
theorem plain(nums:List Int)(hn:nums.length<=63):∃H' k0 k1 k2 r,E6 (.olist nums::List.replicate 1 .undef) [.tab [],.tab [],.tab []] = .ret (.bool true) H'/\H' = .tab k0 :: .tab k1 :: .tab k2::r:=by
 obtain⟨k0,r0,e0⟩:=Em
 obtain⟨H0,UL⟩:∃H0:AH,H0 = .tab k0 :: .tab [] :: .tab []::r0:=⟨_,rfl⟩
 rw [← UL]at e0
 have t0:H0[0]? = some (.tab k0):=by rw [UL];rfl
 have t1:H0[1]? = some (.tab []):=by rw [UL];rfl
 have t2:H0[2]? = some (.tab []):=by rw [UL];rfl
 have l0:3<=H0.length:=by rw [UL];simp
 obtain⟨s,H1,e1,k1,hs,S1⟩:=KG (H:=H0) hn
 obtain⟨H2,a2,e2,k2,S2,YR⟩:=Ei S1 (k1.at_ 2 _ ed t2)
 obtain⟨H3,a3,e3,k3,YS⟩:=Ek S2 (k2.at_ 1 _ (by simp;lia) (k1.at_ 1 _ (by simp) t1))
 have q0:=k3.at_ 0 _ (by simp;lia) (k2.at_ 0 _ (by simp;lia) (k1.at_ 0 _ (by simp) t0))
 have q2:=k3.at_ 2 _ (by simp;lia) YR
 refine⟨H3,k0,a3,a2,H3.drop 3,?_,?_⟩
 ·exact NF e0 e1 e2 e3
 ·have g(n:Nat)(o:AO)(h:H3[n]? = some o):H3.drop n=o::H3.drop (n+1):=by
   obtain⟨hl,he⟩:=List.getElem?_eq_some_iff.mp h
   rw [← he];exact List.drop_eq_getElem_cons hl
  have:=g 0 _ q0
  rw [List.drop_zero,g 1 _ YS,g 2 _ q2]at this
  exact this
end P
namespace fin
def tw448459338275823397:=0
def tw17512474026176034454:=0
def tw4598667867955821814:=0
def tw8577089030196625639:=0
def tw17628183408451194143:=0
def tw945457799607111265:=0
def tw3939050589584296047:=0
def tw8269367382603917829:=0
def tw12741526300851653767:=0
def tw17036620345825979748:=0
def tw11575174756993882273:=0
def tw1344375218359569892:=0
def tw1450881378762983150:=0
def tw16584127079891442865:=0
def tw10391319463526535247:=0
def tw13162651487661262736:=0
def tw2512408688544751470:=0
def tw8656503046869711584:=0
def tw452842511749404161:=0
def tw5011121235533021005:=0
def tw4788878847521262168:=0
def tw2321816554428607280:=0
def tw8119881530291889089:=0
def tw10383673109516279431:=0
def tw9712136527352899355:=0
def tw15243534294739168615:=0
def tw13272504610945704091:=0
def tw1766193274316824492:=0
def tw12292906935544458286:=0
def tw5984158551500366440:=0
def tw3008263204520378139:=0
def tw3236217559460173300:=0
def tw10043950574865488231:=0
def tw2444273588731816371:=0
def tw15434440284735832900:=0
def tw11414674201277728305:=0
def tw3125960719983571848:=0
def tw6227736768552902789:=0
def tw1422313219903470601:=0
def tw3865292505339112164:=0
def tw17425937995043322649:=0
def tw1035503724928835527:=0
def tw17220895691602665673:=0
def tw16109372258727991565:=0
def tw2366236672687842684:=0
def tw18105942590061964161:=0
def tw14560573928864763818:=0
def tw13894747593318719542:=0
def tw10194128795564708546:=0
def tw4763952550126662671:=0
def tw5372875611105449904:=0
def tw16570786720924097770:=0
def tw14468091648759818802:=0
def tw9703995961882730528:=0
def tw7582188889784017880:=0
def tw8288733244629462318:=0
def tw5555312102172926907:=0
def tw783796507600188894:=0
def tw16269368082590959529:=0
def tw12239064139714945176:=0
def tw12780881840741157306:=0
def tw7021976415091001641:=0
def tw2565351972500760935:=0
def tw16771295499568265973:=0
def tw10716087972647372204:=0
def tw10091234832980417260:=0
def tw3810338749695602999:=0
def tw17809232949079649038:=0
def tw1213908355484861934:=0
def tw14075178694198228753:=0
def tw13781542876482819989:=0
def tw17347454772498655404:=0
def tw18164189302063226315:=0
def tw10939691994893167182:=0
def tw17911201065640838737:=0
def tw11067033192786714914:=0
def tw266292477781368812:=0
def tw9330868436908423606:=0
def tw3004984022683251337:=0
def tw12757720458447036936:=0
def tw3211687289105081006:=0
def tw10782327089294195420:=0
def tw1469139661183043837:=0
def tw15149952090015108872:=0
def tw11061592194353771069:=0
def tw8075192146702601997:=0
def tw2632913303063955942:=0
def tw9725021084223525626:=0
def tw6498334528663615478:=0
def tw7000300075881102575:=0
def tw17861066769153400444:=0
def tw11325060847842403200:=0
def tw14793013804824869981:=0
def tw13119895379190043232:=0
def tw8660049834305141905:=0
def tw8947099994592609211:=0
def tw11280146832396436108:=0
def tw3459265974087741279:=0
def tw3268265519342814607:=0
def tw13326868189938593150:=0
def tw11201512880063761335:=0
def tw13235901397817054834:=0
def tw2516017022742817472:=0
def tw2086631506510373192:=0
def tw18295790063311454060:=0
def tw11414119711712004833:=0
def tw14336544582882092262:=0
def tw5969918560705584894:=0
def tw12612204703400128841:=0
def tw418608610138435605:=0
def tw12740692763255036000:=0
def tw3767311804947220896:=0
def tw10313180648002132564:=0
def tw18011332887955570755:=0
def tw4538191230965241994:=0
def tw15741700470354863883:=0
def tw6951216239237536575:=0
def tw452785534982262242:=0
def tw7675655780812522254:=0
def tw12283613380358538863:=0
def tw15590172107835277464:=0
def tw8058895272353334144:=0
def tw15153159077126877473:=0
def tw1281744992317467088:=0
def tw4698916972681325765:=0
def tw13700621096757390547:=0
def tw11906472874536768445:=0
def tw7033882931294258662:=0
def tw8013244705931419473:=0
def tw6385529401280152062:=0
def tw3810570522144960214:=0
def tw4547926851270420831:=0
def tw15219631101029703214:=0
def tw8511326990415419460:=0
def tw5169673773032560159:=0
def tw3630369809193849705:=0
def tw13925877587632400325:=0
def tw12464766053444552404:=0
def tw1324748791087667916:=0
def tw8383791847781177783:=0
def tw888132650186811988:=0
def tw14578271805448956485:=0
def tw17717364068325071970:=0
def tw14111491100615862519:=0
def tw15273852366172491244:=0
def tw9610726530385051774:=0
def tw7267163888087337239:=0
def tw4868334931027891882:=0
def tw9038226972742754082:=0
def tw9059937348426287209:=0
def tw295240868970151085:=0
def tw1992996095170833049:=0
def tw15019234207855213703:=0
def tw11607805686811502034:=0
def tw9247658263007524724:=0
def tw8622160174418277736:=0
def tw7439575562449295702:=0
def tw2046393882495617769:=0
def tw8399098705505230059:=0
def tw3314143786362844604:=0
def tw16510490156224867327:=0
def tw14210890002308233579:=0
def tw4040260094072895976:=0
def tw2051409578822353534:=0
def tw6718411051458867188:=0
def tw2523478847598653984:=0
def tw4879674094562380441:=0
def tw1397303283331804279:=0
def tw12458955589063782577:=0
def tw5776136370200156792:=0
def tw4723787954990577340:=0
def tw17164383140453370395:=0
def tw12757126508119417436:=0
def tw1547390860169783007:=0
def tw2888837374417270719:=0
def tw2556814553914141322:=0
def tw4704930585520482657:=0
def tw5230622158679508976:=0
def tw16196181902256332553:=0
def tw15120748072543544848:=0
def tw12751662967071866640:=0
def tw828056024939588000:=0
def tw17610481187121035141:=0
def tw8569027658895312972:=0
def tw14830759852652495907:=0
def tw17149882997012438147:=0
def tw12135189313929291683:=0
def tw13724452099449386491:=0
def tw5678346346211369953:=0
def tw13898374239775968522:=0
def tw4306616734650971735:=0
def tw331587747771337591:=0
def tw17567850324905474699:=0
def tw7563514974416257223:=0
def tw11936995450923721628:=0
def tw14568449535678555946:=0
def tw12718612220689870738:=0
def tw10895054467252067526:=0
def tw14345562132136545540:=0
def tw13516622038369049944:=0
def tw14679806638718605512:=0
def tw6388184931127306564:=0
def tw16502652511500755:=0
def tw17362494058136835672:=0
def tw15583698165555649274:=0
def tw1080700006314346644:=0
def tw12237877928780879103:=0
def tw10790007923984976650:=0
def tw5920281757701029450:=0
def tw8731306006301319769:=0
def tw1348009686575996458:=0
def tw6058378993454661626:=0
def tw15815952407149668801:=0
def tw6525817661751114472:=0
def tw7348594602126897846:=0
def tw6712194924023145494:=0
def tw13619204772191458394:=0
def tw4769821431679368130:=0
def tw11750646167744613905:=0
def tw16503470079419688546:=0
def tw11039862389202566683:=0
def tw12284014389350100970:=0
def tw6323506392446703087:=0
def tw3028926083550364057:=0
def tw16958243865122950064:=0
def tw18082680734076937219:=0
def tw15832999045522443761:=0
def tw16908780153626456763:=0
def tw1105837973531982728:=0
def tw7319501015663598286:=0
def tw18195182924450695511:=0
def tw2750517969252596574:=0
def tw824797018042769846:=0
def tw6113892759573084369:=0
def tw6485783843944922600:=0
def tw2415902012162501839:=0
def tw3738894495883498167:=0
def tw2824846461999071874:=0
def tw16103849850496634939:=0
def tw5292745204252695550:=0
def tw10242451874928486539:=0
def tw13815853411582834384:=0
def tw10372454290965829033:=0
def tw14728723275428758510:=0
def tw10567028658651823492:=0
def tw18004827428879835118:=0
def tw3776595801946039505:=0
def tw16175276709679454751:=0
def tw14178952322520976695:=0
def tw10002699936043487104:=0
def tw7177338460636591580:=0
def tw12946824338688289833:=0
def tw15396384818603876561:=0
def tw18075230132384515194:=0
def tw10708223146118651492:=0
def tw8643116662766533202:=0
def tw9357874355931990178:=0
def tw8757517558637225919:=0
def tw17719728818120068181:=0
def tw9544026089342320630:=0
def tw11277597615667878183:=0
def tw10504543856557348713:=0
def tw6455845175183424153:=0
def tw9221430085559818832:=0
def tw7929640520542984453:=0
def tw15279137341521000952:=0
def tw13294311002278339166:=0
def tw18105285910621931680:=0
def tw12567809125941998234:=0
def tw488218634404078324:=0
def tw12932903420030652473:=0
def tw7613945582906998725:=0
def tw7445452272831510455:=0
def tw16644462212089915155:=0
def tw1963134401048803436:=0
def tw9746901515087519452:=0
def tw17267618260052754613:=0
def tw14856888987745899463:=0
def tw17933470926392208243:=0
def tw480829909506669009:=0
def tw11395320378806372228:=0
def tw4162185377826839926:=0
def tw12356021495744459628:=0
def tw6335709333293612952:=0
def tw13175226182763708026:=0
def tw8559517257967667466:=0
def tw16252508478716706905:=0
def tw17570509445847580414:=0
def tw4652738160404261841:=0
def tw4265850918314828415:=0
def tw11151619158091525091:=0
def tw2316539691658765527:=0
def tw7380833856163905736:=0
def tw10829458402184033698:=0
def tw5734618986648460908:=0
def tw2775396313129547428:=0
def tw10279692637995926009:=0
def tw3812028171767442716:=0
def tw12876116671307685997:=0
def tw2789213428527533208:=0
def tw982560976839675504:=0
def tw12738864244801774330:=0
def tw8281523328739849912:=0
def tw5598441983335636414:=0
def tw3680538572021651005:=0
def tw14166196953294261902:=0
def tw5634151482396758240:=0
def tw4801982433088742459:=0
def tw14979938633740849765:=0
def tw12212933522069011988:=0
def tw16068754644101465803:=0
def tw16892666456041662371:=0
def tw5106123347721008290:=0
def tw15225332579556243176:=0
def tw17197158672614542318:=0
def tw2866121171748074186:=0
def tw9329150127792265844:=0
def tw8352470293576582857:=0
def tw7845872953664198349:=0
def tw8331973007464152698:=0
def tw17186005699333237546:=0
def tw17067295170570645592:=0
def tw16285329926789087883:=0
def tw1580780407708033493:=0
def tw15913912297419572864:=0
def tw10147658903529517814:=0
def tw8785817190682134681:=0
def tw2462912638960843985:=0
def tw15373703851562958014:=0
def tw16229209127682248589:=0
def tw247857538857077266:=0
def tw17485583185531914963:=0
def tw11869342324683393730:=0
def tw13718649260633737024:=0
def tw6968583824967984638:=0
def tw3112429581023547943:=0
def tw4910921440188858082:=0
def tw13066358836101814915:=0
def tw7856420140689306517:=0
def tw6872408275531757542:=0
def tw14943911441677524827:=0
def tw14838103818555229697:=0
def tw12355744275394475900:=0
def tw11309971608317499012:=0
def tw1014637456484912126:=0
def tw11953781441336167498:=0
def tw1625080806587739848:=0
def tw8261031787919469916:=0
def tw3599858809825778643:=0
def tw2441168790927817222:=0
def tw138543146574967220:=0
def tw8344675336782298973:=0
def tw6081921254191324426:=0
def tw18099640592841667524:=0
def tw14855157385224911753:=0
def tw16307707646766795581:=0
def tw10998343915150870288:=0
def tw2103456241558337223:=0
def tw9363291351745731410:=0
def tw16592019574015783615:=0
def tw5962627729488381771:=0
def tw12557769604369416430:=0
def tw16237762584071213788:=0
def tw3974152918291533672:=0
def tw17260493314774615805:=0
def tw14665711169546490834:=0
def tw5679570950571409650:=0
def tw8289400949097046189:=0
def tw4180101509539245183:=0
def tw10478924771774928865:=0
def tw10850621001676330593:=0
def tw8076651003907644567:=0
def tw16437064521429036054:=0
def tw5514125408013525434:=0
def tw3598329298470268980:=0
def tw11587955951900863698:=0
def tw12829507556594621215:=0
def tw743781803092876562:=0
def tw7278507554335971580:=0
def tw4950403968356008110:=0
def tw6435670951450185984:=0
def tw423345284130997744:=0
def tw16554438482525722971:=0
def tw17356987340757268870:=0
def tw2277568627679802767:=0
def tw10281396178488509929:=0
def tw5663504974038819100:=0
def tw11192643925408225281:=0
def tw16488607150827929282:=0
def tw428092273266315144:=0
def tw8415677887826043230:=0
def tw13412572060209156058:=0
def tw11875381402373810866:=0
def tw17314879045244329059:=0
def tw7028063314416541132:=0
def tw8924392036579600891:=0
def tw18404063521330658252:=0
def tw18362098788967529950:=0
def tw12586190556516072552:=0
def tw9260378047223084069:=0
def tw8408514402456403777:=0
def tw273201369580953799:=0
def tw14165584387687976329:=0
def tw3018758056844737939:=0
def tw7661832156752021035:=0
def tw17108682257543074861:=0
def tw14574801432027512755:=0
def tw1209720653154232198:=0
def tw5486226609284752418:=0
def tw9962418760945406050:=0
def tw17698229166291050911:=0
def tw15533503492667675913:=0
def tw14517287926952318261:=0
def tw7930893340574950883:=0
def tw11490603987736509336:=0
def tw5741801548637672665:=0
def tw111200028466390044:=0
def tw8272817396058243321:=0
def tw3762306804915933987:=0
def tw6144012678527597917:=0
def tw9966731872082626627:=0
def tw8097654560655122648:=0
def tw11227884535216515135:=0
def tw4696956992080197669:=0
def tw11693106759165616088:=0
def tw17740121861209819447:=0
def tw1982079694162106894:=0
def tw13199158710529813207:=0
def tw14497727239971306367:=0
def tw8614737586434602478:=0
def tw799341379326975648:=0
def tw13593179597827634900:=0
def tw16429022384663243119:=0
def tw2185935427153128515:=0
def tw16754643870311390997:=0
def tw13469397999491448738:=0
def tw5796354222422608987:=0
def tw17109930996152030393:=0
def tw5689665320540551426:=0
def tw10925335251469727208:=0
def tw6650461044873433052:=0
def tw15488412567658976549:=0
def tw14969715616416898430:=0
def tw12076048789873493973:=0
def tw12291753297600562012:=0
def tw14239432107786713131:=0
def tw5593514722818144331:=0
def tw17406136962360114138:=0
def tw6232080684201472732:=0
def tw17416127249078093707:=0
def tw12171577908484138354:=0
def tw14021872759519490765:=0
def tw17611727573569791414:=0
def tw3029852977388229646:=0
def tw3885313090954376144:=0
def tw2885147992704089249:=0
def tw17123178472405020103:=0
def tw14060254640080698258:=0
def tw16169705700103281134:=0
def tw17974384156558142227:=0
def tw9436597474664901934:=0
def tw5115476493328737885:=0
def tw6567050819087999508:=0
def tw11338875618241718471:=0
def tw10684981021144957211:=0
def tw15688172546075569117:=0
def tw891787732878383699:=0
def tw5647864574477489665:=0
def tw9387745189664136937:=0
def tw17344510285554748771:=0
def tw14109310954907245088:=0
def tw16656299143469825513:=0
def tw2671655128345628175:=0
def tw12105171945263650130:=0
def tw3788772014149755174:=0
def tw11293339424137598113:=0
def tw8465276812761224699:=0
def tw12448240930570709186:=0
def tw10874316729293906858:=0
def tw1535588207084551279:=0
def tw3955986520655104412:=0
def tw7098310284689642954:=0
def tw5957180451953820622:=0
def tw15240623583426463711:=0
def tw9746214513668125432:=0
def tw2275749259730422485:=0
def tw9562769462328344092:=0
def tw13870153662132920491:=0
def tw7830629276484211593:=0
def tw10699407837109476802:=0
def tw4440197508161821537:=0
def tw4013537778516871869:=0
def tw3129228512308937268:=0
def tw807531904560671035:=0
def tw15205425988870721313:=0
def tw9711862698833617823:=0
def tw15530151957754944063:=0
def tw373065315874586923:=0
def tw11024638832163780183:=0
def tw4891822661719351221:=0
def tw9297318355482256503:=0
def tw5725524221116865799:=0
def tw1202912048536075021:=0
def tw13501502787908985413:=0
def tw14449560505687523246:=0
def tw17743408960866722510:=0
def tw7995428538843987458:=0
def tw5978438607452443526:=0
def tw1921165311934587177:=0
def tw12868640280835112553:=0
def tw8774423053150036078:=0
def tw4806268862455609328:=0
def tw14667941539000003185:=0
def tw876206183137641144:=0
def tw3550807849831375056:=0
def tw13423622936843584764:=0
def tw17881394067367492771:=0
def tw18293562643322913751:=0
def tw4716181948101807:=0
def tw11147117730913898307:=0
def tw7779959011674639804:=0
def tw3356100899270023233:=0
def tw11298980531735778240:=0
def tw7547296005191728479:=0
def tw15201286185872193147:=0
def tw9722632081671974098:=0
def tw7803649310394182010:=0
def tw13360279666012451719:=0
def tw7383848191655739912:=0
def tw14018533915963200917:=0
def tw15476544859757588837:=0
def tw3404873503106905745:=0
def tw11454252539852477091:=0
def tw6220327705178566785:=0
def tw14909718650217641264:=0
def tw5320702786494000081:=0
def tw6454446336052903152:=0
def tw9113340658982188547:=0
def tw6566618420281934:=0
def tw4312942655851389009:=0
def tw745748316474750422:=0
def tw3246839028233683650:=0
def tw4759752924163587094:=0
def tw16328414832103592811:=0
def tw884059145510264010:=0
def tw9757074474933493440:=0
def tw17430205856086898164:=0
def tw10170948947761517979:=0
def tw8282812270067184934:=0
def tw13158425560686309300:=0
def tw4992356995671143779:=0
def tw13278809456085556237:=0
def tw13582292425324344769:=0
def tw8185091604740117843:=0
def tw6667815254911646788:=0
def tw8999559765510592377:=0
def tw9735714214384596553:=0
def tw4924110625330727750:=0
def tw7252610826061872596:=0
def tw14431720936831517352:=0
def tw7822013112032934038:=0
def tw17963964198891936676:=0
def tw2145012663239829070:=0
def tw5074779506442595448:=0
def tw15530281825414154361:=0
def tw6515953530934532768:=0
def tw544173102793226557:=0
def tw12809788781938459499:=0
def tw3839206501371402102:=0
def tw15621619335703214680:=0
def tw7692301277026442203:=0
def tw3863403702602939814:=0
def tw9524518906428321964:=0
def tw3794220679723124481:=0
def tw10907391636593693970:=0
def tw3906754673857718949:=0
def tw10007411396671696613:=0
def tw9806666330580929782:=0
def tw8658185699838806805:=0
def tw15566928917628492161:=0
def tw17344254963278052338:=0
def tw2090205506522743130:=0
def tw15523922138108190246:=0
def tw3293696948919318046:=0
def tw10751089155417173751:=0
def tw10696652717036330658:=0
def tw16497079637816224013:=0
def tw3558005061807245919:=0
def tw17696989986258524660:=0
def tw17971676594858020690:=0
def tw9825859731914700964:=0
def tw5351017473137806058:=0
def tw3975253019698251321:=0
def tw6794536074604225881:=0
def tw15523924160545744683:=0
def tw10411508006071892022:=0
def tw5713887491374438570:=0
def tw13929302177132474383:=0
def tw3998398428148030388:=0
def tw17821466097196317003:=0
def tw3683778510129048087:=0
def tw999798209818781672:=0
def tw9997704412844104603:=0
def tw4100293265295638779:=0
def tw4395496475954998127:=0
def tw17465016565071970851:=0
def tw12347537446847802165:=0
def tw15942684835789789487:=0
def tw4570111826955561243:=0
def tw12833947400113492166:=0
def tw11336253725339858928:=0
def tw8330952907988395303:=0
def tw9437242357050131058:=0
def tw11772964195913830049:=0
def tw5196160543931855155:=0
def tw8919302590299486024:=0
def tw6207176494656529804:=0
def tw5246096745964282443:=0
def tw10511823565363050587:=0
def tw8126443298418566877:=0
def tw584112131590315491:=0
def tw8004206274103572539:=0
def tw5102460946473063141:=0
def tw16867096813858660809:=0
def tw16625790000389398615:=0
def tw10936777179133785780:=0
def tw14658254696389335927:=0
def tw1544503264643628384:=0
def tw10070804522480449196:=0
def tw3432132637015033673:=0
def tw7650283484787511029:=0
def tw17637551073024348614:=0
def tw16145351769185666540:=0
def tw3373110491918621954:=0
def tw8953957674483744013:=0
def tw1921391257341544841:=0
def tw10656291684629039791:=0
def tw1635022588487117616:=0
def tw1545086475593560577:=0
def tw15399907426655090358:=0
def tw13523910257889291827:=0
def tw14139026862911339306:=0
def tw12409915417874342407:=0
def tw14257018576560825284:=0
def tw500868675978126160:=0
def tw12494888245299231016:=0
def tw3752056022367304142:=0
def tw3817654288837886093:=0
def tw17502855826952124057:=0
def tw11900726367713137988:=0
def tw12711679700452659978:=0
def tw7684487725183542926:=0
def tw4026100201820347962:=0
def tw6634307039904815820:=0
def tw8896352889252549814:=0
def tw11079828417688620724:=0
def tw7055459427971326715:=0
def tw6815667921103612162:=0
def tw2687768774938457991:=0
def tw17217429795192226366:=0
def tw15094949803261831281:=0
def tw4144819383078699286:=0
def tw7130589087949165531:=0
def tw7193555501269276637:=0
def tw4337157586716928682:=0
def tw947276838399291496:=0
def tw2976117146107443816:=0
def tw9453873691999584502:=0
def tw10875463905939285979:=0
def tw15564276425815640635:=0
def tw12273546716903637868:=0
def tw9339408515151402362:=0
def tw4928979718650693569:=0
def tw17449020081951674710:=0
def tw10580198807604790814:=0
def tw15619530173980987831:=0
def tw8629152706101051812:=0
def tw16639813094937441908:=0
def tw5293390819737331289:=0
def tw416177051242630535:=0
def tw1195334901915552329:=0
def tw1951045429614898598:=0
def tw944567322932927883:=0
def tw16115155874713506467:=0
def tw1346022578215293949:=0
def tw333583748066197110:=0
def tw16253991525020053840:=0
def tw15675102808854859970:=0
def tw380778119907437045:=0
def tw1887099378405440850:=0
def tw8668149382578428375:=0
def tw7852281542323078104:=0
def tw7282745182861764756:=0
def tw783483362715066742:=0
def tw17896612028031085017:=0
def tw2070271336192807200:=0
def tw3523348777828740581:=0
def tw7336344344812659824:=0
def tw13177410634674063896:=0
def tw3857263333814641470:=0
def tw2617349483901765261:=0
def tw5227809002895711924:=0
def tw6848912972918003917:=0
def tw4303106303303389909:=0
def tw5660257367854189524:=0
def tw11154830654865731599:=0
def tw3302319216010004292:=0
def tw14541005305830221311:=0
def tw3263211703599914710:=0
def tw2711489104339610207:=0
def tw8288038295193701981:=0
def tw11273041486466551846:=0
def tw1239743038759826550:=0
def tw10234915967203826555:=0
def tw2204852077615127585:=0
def tw5901363791540438844:=0
def tw7861780978402302908:=0
def tw3023385222666876323:=0
def tw12550770813317053977:=0
def tw1128348596072947701:=0
def tw9917203430921899224:=0
def tw757079261281740938:=0
def tw15144710454662140524:=0
def tw2218633174628956881:=0
def tw15238337123492228519:=0
def tw5141113994777284493:=0
def tw3216615955080020110:=0
def tw8590288500278120515:=0
def tw6289197191216398940:=0
def tw11432402860279490204:=0
def tw12149302876761508202:=0
def tw17830361364027725262:=0
def tw14333544728242365436:=0
def tw9839346839192117915:=0
def tw9682595657389325823:=0
def tw4217414874291451276:=0
def tw4170516301191304579:=0
def tw1252854909445205041:=0
def tw16903924287465469464:=0
def tw15846704840505152836:=0
def tw7816886789376521730:=0
def tw9747544060827109212:=0
def tw4329306826757983850:=0
def tw11615019562542576733:=0
def tw5074984922658293691:=0
def tw16324811567482535334:=0
def tw4754365596532378047:=0
def tw11179249921394602866:=0
def tw2910385600587045654:=0
def tw17734124249832182768:=0
def tw13570055632090124142:=0
def tw18230178534529381785:=0
def tw4588413851689716618:=0
def tw6449190631224713292:=0
def tw9556950149685670313:=0
def tw13511959964413161566:=0
def tw3456623496861543869:=0
def tw16448914465934546278:=0
def tw6068950659093879613:=0
def tw10393886385942881009:=0
def tw18176387895596863783:=0
def tw10671828304227620169:=0
def tw2186698500278933816:=0
def tw12454092890298587682:=0
def tw4218790737952374519:=0
def tw8053913732961167717:=0
def tw1727621133314857333:=0
def tw7321584467024264148:=0
def tw17495881415371897999:=0
def tw6400248389586479577:=0
def tw15069271281064182630:=0
def tw8429034201219468894:=0
def tw4613182775407389354:=0
def tw9913140749668108558:=0
def tw4898026214463823928:=0
def tw17535827442545306379:=0
def tw2377308710366028375:=0
def tw6341822008880759003:=0
def tw17656766251404061198:=0
def tw10076206341044045091:=0
def tw16256441300576474876:=0
def tw857469055436470443:=0
def tw17130245016438642246:=0
def tw3105451386036433885:=0
def tw13383306551100868464:=0
def tw5098551885099359569:=0
def tw17570709534508481193:=0
def tw11471956102464614933:=0
def tw5897612983314593646:=0
def tw12979919090201106820:=0
def tw7022806388564383982:=0
def tw4833179351181384845:=0
def tw13574545013463194659:=0
def tw5249893051879422871:=0
def tw12977279227502587607:=0
def tw16013192336732917361:=0
def tw18373065035072037172:=0
def tw2656788454239962097:=0
def tw9713546201632813291:=0
def tw251868834278440796:=0
def tw2236755162388048479:=0
def tw2896703901015224195:=0
def tw5792265106169080782:=0
def tw5402249366112354979:=0
def tw11707752901727499235:=0
def tw862447977868951606:=0
def tw1713156846745171867:=0
def tw3173534031939492945:=0
def tw7522001649326652513:=0
def tw9883050511414546368:=0
def tw2608567993692976607:=0
def tw7786677914034681988:=0
def tw7008622114716911220:=0
def tw5073790198343104882:=0
def tw17041991840579044601:=0
def tw13467322939085005891:=0
def tw2304379251839397102:=0
def tw3541825141892303889:=0
def tw15989303212955285315:=0
def tw3853475060279184000:=0
def tw13635414795387738630:=0
def tw12851234836949525663:=0
def tw15083174532876359662:=0
def tw16906536467411238026:=0
def tw17701328389417463424:=0
def tw1819255440876223710:=0
def tw15593647358623071937:=0
def tw6127190174262240918:=0
def tw16635916599214957972:=0
def tw6766580051018981234:=0
def tw14297971457927632359:=0
def tw9659392335347125073:=0
def tw1088692219920020602:=0
def tw2537931557510868981:=0
def tw1666694428299288667:=0
def tw3837020019201816242:=0
def tw12996517811204074000:=0
def tw2021336271155450331:=0
def tw15459455144867644326:=0
def tw13566729865485783148:=0
def tw846297522682114974:=0
def tw10599938827571368224:=0
def tw9509447333196811905:=0
def tw17869975865946814897:=0
def tw7249652514872940865:=0
def tw14134379338385194387:=0
def tw744865244796547220:=0
def tw5576714124690252594:=0
def tw3343445320678177929:=0
def tw14347400895652799225:=0
def tw5805905742469029177:=0
def tw5250828734511838712:=0
def tw13093503161671486093:=0
def tw12488866252601099091:=0
def tw1903126291601959907:=0
def tw12487371901255815361:=0
def tw8416529770105884409:=0
def tw7976502392129159676:=0
def tw6766378078585498003:=0
def tw14752907821818930876:=0
def tw17698704350827878285:=0
end fin
section
open PySem.Calls PySem.SeqAt
set_option maxHeartbeats 200000
variable{w:World}{cb:Bool}{d:Nat}{sc:List (Str×NameKind)}{names:List Str}
theorem NG{x:Str}{px p apos pos:Pos}{k:Nat}(hp:(apos.endLine==pos.line)=true)(env:Env):eval (.Call (.Attribute (.Constant (.bytes []) k p) (Str.ofString "join") apos) [.Name x px] [] pos) env=(do
   let ov<-eval (.Constant (.bytes []) k p) env
   PySem.standAt apos.atName
   let (f,first)<-PySem.holding [ov] (getMethod ov (Str.ofString "join") (pure false))
   callWith pos f first (backTo pos (starEach [.Name x px] env)) []):=by
 show(do
   let ov<-eval (.Constant (.bytes []) k p) env
   PySem.standAt apos.atName
   methodCall (.Constant (.bytes []) k p) (Str.ofString "join") apos pos env ov 1 (backTo pos (starEach [.Name x px] env)) []) = _
 have:∀ov,methodCall (.Constant (.bytes []) k p) (Str.ofString "join") apos pos env ov 1 (backTo pos (starEach [.Name x px] env)) []=(do
   let (f,first)<-PySem.holding [ov] (getMethod ov (Str.ofString "join") (pure false))
   callWith pos f first (backTo pos (starEach [.Name x px] env)) []):=fun ov=>by
  unfold methodCall
  have h1:methodCallForm 1 (backTo pos (starEach [.Name x px] env)) []=true:=rfl
  have h2:methodCallPos true (.Constant (.bytes []) k p) env apos pos=pure pos:=by
   unfold methodCallPos
   rw [hp];rfl
  rw [h1,h2];rfl
 simp only [this]
theorem Gg{C:Cfg}{cb:Bool}{d:Nat}{sc:List (Str×NameKind)}{names:List Str}{x:Str}{px p apos pos:Pos}{k:Nat}{l:LF}(hl:HE C cb d sc names [.Name x px] l)(hp:(apos.endLine==pos.line)=true) :
  ez C cb d sc names (.Call (.Attribute (.Constant (.bytes []) k p) (Str.ofString "join") apos) [.Name x px] [] pos) (cE Dg tI (ak (.bytes [])) l) :=
 @cB C cb d sc names (.Constant (.bytes []) k p) (Str.ofString "join") apos pos [.Name x px] "bytes.join" Dg (ak (.bytes [])) l tI (fun _=>pure false) Ma GF cT hl (fun env=>NG hp env)
theorem hb0{M:List Value->Prop}(h:M [])(vals:List Value)(e:vals.length=0):M vals:=by
 cases vals with
 |nil=>exact h
 |cons=>exact absurd e (Nat.succ_ne_zero _)
theorem Rp{M:List Value->Prop}{n:Nat}(h:∀a vals,vals.length=n->M (a::vals))(vals:List Value)(e:vals.length=n+1):M vals:=by
 cases vals with
 |nil=>exact absurd e (Nat.succ_ne_zero _).symm
 |cons a vals=>exact h a vals (Nat.succ.inj e)
theorem hb1{M:List Value->Prop}(h:∀a,M [a]):∀vals:List Value,vals.length=1->M vals:=Rp fun a=>hb0 (h a)
theorem qf{M:List Value->Prop}(h:∀a b,M [a,b]):∀vals:List Value,vals.length=2->M vals:=Rp fun a=>hb1 (h a)
theorem BB{M:List Value->Prop}(h:∀a b c,M [a,b,c]):∀vals:List Value,vals.length=3->M vals:=Rp fun a=>qf (h a)
theorem GO{M:List Value->Prop}(h:∀a b c d,M [a,b,c,d]):∀vals:List Value,vals.length=4->M vals:=Rp fun a=>BB (h a)
theorem XG{M:List Value->Prop}(h:∀a b c d e,M [a,b,c,d,e]):∀vals:List Value,vals.length=5->M vals:=Rp fun a=>GO (h a)
theorem YT{M:List Value->Prop}(h:∀a b c d e f,M [a,b,c,d,e,f]):∀vals:List Value,vals.length=6->M vals:=Rp fun a=>XG (h a)
theorem NH:∀fd:Fd,fd.str=Str.ofString "cell" -> (none:Option Fd)=some fd:=fc (by decide +kernel)
theorem wR:∀fd:Fd,fd.str=Str.ofString "child" -> (some .child:Option Fd)=some fd:=fc (by decide +kernel)
theorem i6:∀fd:Fd,fd.str=Str.ofString "count" -> (none:Option Fd)=some fd:=fc (by decide +kernel)
theorem sO:∀fd:Fd,fd.str=Str.ofString "deeper" -> (none:Option Fd)=some fd:=fc (by decide +kernel)
theorem HA:∀fd:Fd,fd.str=Str.ofString "extend" -> (none:Option Fd)=some fd:=fc (by decide +kernel)
theorem mP:∀fd:Fd,fd.str=Str.ofString "is_leaf" -> (none:Option Fd)=some fd:=fc (by decide +kernel)
theorem wU:∀fd:Fd,fd.str=Str.ofString "is_rows" -> (none:Option Fd)=some fd:=fc (by decide +kernel)
theorem uL:∀fd:Fd,fd.str=Str.ofString "kind" -> (some .kind:Option Fd)=some fd:=fc (by decide +kernel)
theorem rK:∀fd:Fd,fd.str=Str.ofString "node" -> (none:Option Fd)=some fd:=fc (by decide +kernel)
theorem xN:∀fd:Fd,fd.str=Str.ofString "page_count" -> (none:Option Fd)=some fd:=fc (by decide +kernel)
theorem wV:∀fd:Fd,fd.str=Str.ofString "place" -> (none:Option Fd)=some fd:=fc (by decide +kernel)
theorem Cz:∀fd:Fd,fd.str=Str.ofString "pointers" -> (none:Option Fd)=some fd:=fc (by decide +kernel)
theorem rL:∀fd:Fd,fd.str=Str.ofString "read_page" -> (none:Option Fd)=some fd:=fc (by decide +kernel)
theorem Lk:∀fd:Fd,fd.str=Str.ofString "right" -> (some .right:Option Fd)=some fd:=fc (by decide +kernel)
theorem wW:∀fd:Fd,fd.str=Str.ofString "rowid" -> (some .rowid:Option Fd)=some fd:=fc (by decide +kernel)
theorem NI:∀fd:Fd,fd.str=Str.ofString "sign" -> (none:Option Fd)=some fd:=fc (by decide +kernel)
theorem HB:∀fd:Fd,fd.str=Str.ofString "usable" -> (some .eg:Option Fd)=some fd:=fc (by decide +kernel)
theorem xO:∀fd:Fd,fd.str=Str.ofString "write_page" -> (none:Option Fd)=some fd:=fc (by decide +kernel)
theorem Ll{a b:Str}(h1:a.length<=100)(h2:b.length<=100):∀n:Int,1<=n/\n<=9->(Str.empty++a).length<=sizeLine/\(Str.empty++a++(toString n:Str)).length<=sizeLine/\(Str.empty++a++(toString n:Str)++b).length<=sizeLine:=by
 intro n hn
 have hs:((toString n:Str)).length<=10:=by
  have:n=1\/n=2\/n=3\/n=4\/n=5\/n=6\/n=7\/n=8\/n=9:=by lia
  rcases this with rfl | rfl | rfl | rfl | rfl | rfl | rfl | rfl | rfl<;>decide +kernel
 have he:Str.empty.length=0:=by decide +kernel
 simp only [strLen_append,sizeLine_eq]
 lia
theorem hv{p q:Prop}(h:p)(k:p->q):q:=k h
theorem HC{P:Params}{h:Heap}{a:Addr}{xs:List PyData}(wl:Well P h (.ref a) (ofPy (.list xs))):∃vs:List Value,h.get? a=some {cls := .type "list",data := .seq vs.toArray}:=by
 have e:ofPy (.list xs) = .list (ofPys xs):=by first | rfl | simp [ofPy]
 rw [e]at wl
 cases wl with
 |list h1 _=>exact⟨_,h1⟩
theorem Lm{h h':Heap}(hT:TabsAt laid h)(kp:∀b o,b∉fW->h.get? b=some o->h'.get? b=some o)(tb:∀P∈fW,∃ps,h'.get? P=some (tabObj ps)):OldK h h':=by
 have mem:∀b,b∈fW -> ∃c,(c,b)∈laid:=fun b hb=>by
  simp only [fW,List.mem_cons,List.not_mem_nil,or_false]at hb
  rcases hb with rfl | rfl | rfl
  ·exact⟨840,by simp [laid]⟩
  ·exact⟨833,by simp [laid]⟩
  ·exact⟨828,by simp [laid]⟩
 refine⟨fun b o e=>?_,fun b o e=>?_⟩
 ·by_cases hb:b∈fW
  ·obtain⟨c,hc⟩:=mem b hb
   obtain⟨h1,h2⟩:=hT _ hc
   rw [h2]at e
   cases e
   obtain⟨ps,hP⟩:=tb b hb
   exact .inr (.inl ⟨(h1.tab h2).isCodeTable,rfl,#[],ps,rfl,by rw [Array.empty_append];exact hP⟩)
  ·exact .inl (kp b o hb e)
 ·by_cases hb:b∈fW
  ·obtain⟨ps,hP⟩:=tb b hb
   exact⟨_,hP⟩
  ·exact⟨o,kp b o hb e⟩
noncomputable abbrev LO(q:Program):List Str :=
 looseW q [Str.ofString "WORD",Str.ofString "KINDS",Str.ofString "is_leaf_node_view",Str.ofString "is_rows_node_view"] ++
  List.map (fun x=>x.name) (recsOf q)++List.map (fun x=>x.fst) (litsOf q) ++
  List.map (fun x=>x.name) (clssOf q (looseW q [Str.ofString "WORD",Str.ofString "KINDS",Str.ofString "is_leaf_node_view",Str.ofString "is_rows_node_view"]))
noncomputable abbrev CF(K:Params->Frag)(q:Program)(w:World):Cfg:=⟨w,Challenge.rw_xw0241_01.row.prog,K w.params,topProg,LO q,51⟩
set_option Elab.async true
set_option maxHeartbeats 0 in
open fin in
theorem fin:PySem.Challenge.rw_xw0241_01.Holds:=by
 w_on
 o_law
 k_head
 (case hw=>w_witness2)
 k_fill
 refine hv (p := ∀{w:World}{cb:Bool}{d:Nat},uq (CF heap_1_39 view_1_40 w) cb d (inplaceOp .Add) E5) ?_ fun Ln=>?_
 ·intro w cb d
  exact L4
 refine hv (p := ∀{w:World}{cb:Bool}{d:Nat}{sc:List (Str×NameKind)}{names:List Str}{pos:Pos}(hx:sc.lookup (Str.ofString "HEADER_SIZE")=some .globalImplicit),ez (CF heap_1_39 view_1_40 w) cb d sc names (.Name (Str.ofString "HEADER_SIZE") pos) (ak (.int 32))) ?_ fun pB=>?_
 ·intro w cb d sc names pos hx
  exact gF (by dsimp only [CF];k_dflt k_is) ⟨_,rfl⟩ hx
 refine hv (p := ∀{w:World}{cb:Bool}{d:Nat}{sc:List (Str×NameKind)}{names:List Str}{pos:Pos}(hx:sc.lookup (Str.ofString "INNER_ROWS")=some .globalImplicit),ez (CF heap_1_39 view_1_40 w) cb d sc names (.Name (Str.ofString "INNER_ROWS") pos) (ak (.int 5))) ?_ fun jp=>?_
 ·intro w cb d sc names pos hx
  exact gF (by dsimp only [CF];k_dflt k_is) ⟨_,rfl⟩ hx
 refine hv (p := ∀{w:World}{cb:Bool}{d:Nat}{sc:List (Str×NameKind)}{names:List Str}{pos:Pos}(hx:sc.lookup (Str.ofString "LEAF_KEYS")=some .globalImplicit),ez (CF heap_1_39 view_1_40 w) cb d sc names (.Name (Str.ofString "LEAF_KEYS") pos) (ak (.int 10))) ?_ fun CA=>?_
 ·intro w cb d sc names pos hx
  exact gF (by dsimp only [CF];k_dflt k_is) ⟨_,rfl⟩ hx
 refine hv (p := ∀{w:World}{cb:Bool}{d:Nat}{sc:List (Str×NameKind)}{names:List Str}{pos:Pos}(hx:sc.lookup (Str.ofString "LEAF_ROWS")=some .globalImplicit),ez (CF heap_1_39 view_1_40 w) cb d sc names (.Name (Str.ofString "LEAF_ROWS") pos) (ak (.int 13))) ?_ fun kK=>?_
 ·intro w cb d sc names pos hx
  exact gF (by dsimp only [CF];k_dflt k_is) ⟨_,rfl⟩ hx
 refine hv (p := ∀{w:World}{cb:Bool}{d:Nat}{sc:List (Str×NameKind)}{names:List Str}{pos:Pos}(hx:sc.lookup (Str.ofString "LEAST_CELL")=some .globalImplicit),ez (CF heap_1_39 view_1_40 w) cb d sc names (.Name (Str.ofString "LEAST_CELL") pos) (ak (.int 4))) ?_ fun mQ=>?_
 ·intro w cb d sc names pos hx
  exact gF (by dsimp only [CF];k_dflt k_is) ⟨_,rfl⟩ hx
 refine hv (p := ∀{w:World}{cb:Bool}{d:Nat}{sc:List (Str×NameKind)}{names:List Str}{pos:Pos}(hx:sc.lookup (Str.ofString "MOST_DEPTH")=some .globalImplicit),ez (CF heap_1_39 view_1_40 w) cb d sc names (.Name (Str.ofString "MOST_DEPTH") pos) (ak (.int 50))) ?_ fun Ax=>?_
 ·intro w cb d sc names pos hx
  exact gF (by dsimp only [CF];k_dflt k_is) ⟨_,rfl⟩ hx
 refine hv (p := ∀{w:World}{cb:Bool}{d:Nat}{sc:List (Str×NameKind)}{names:List Str}{pos:Pos}(hx:sc.lookup (Str.ofString "POINTER")=some .globalImplicit),ez (CF heap_1_39 view_1_40 w) cb d sc names (.Name (Str.ofString "POINTER") pos) (ak (.int 2))) ?_ fun yZ=>?_
 ·intro w cb d sc names pos hx
  exact gF (by dsimp only [CF];k_dflt k_is) ⟨_,rfl⟩ hx
 refine hv (p := ∀{w:World}{cb:Bool}{d:Nat}{sc:List (Str×NameKind)}{names:List Str}{pos:Pos}(hx:sc.lookup (Str.ofString "WORD")=some .globalImplicit),ez (CF heap_1_39 view_1_40 w) cb d sc names (.Name (Str.ofString "WORD") pos) (ak (.int 18446744073709551616))) ?_ fun En=>?_
 ·intro w cb d sc names pos hx
  exact gF (by dsimp only [CF];k_dflt k_is) ⟨_,rfl⟩ hx
 refine hv (p := ∀{w:World}{sc:List (Str×NameKind)}(hx:sc.lookup (Str.ofString "bytearray")=some .globalImplicit),aW (CF heap_1_39 view_1_40 w) sc (Str.ofString "bytearray") (.type "bytearray")) ?_ fun rM=>?_
 ·intro w sc hx
  exact fC (by dsimp only [CF];k_dflt k_is) (by boot_by_name) (by decide) hx
 refine hv (p := ∀{w:World}{sc:List (Str×NameKind)}(hx:sc.lookup (Str.ofString "bytes")=some .globalImplicit),aW (CF heap_1_39 view_1_40 w) sc (Str.ofString "bytes") (.type "bytes")) ?_ fun df=>?_
 ·intro w sc hx
  exact fC (by dsimp only [CF];k_dflt k_is) (by boot_by_name) (by decide) hx
 refine hv (p := ∀{w:World}{sc:List (Str×NameKind)}(hx:sc.lookup (Str.ofString "int")=some .globalImplicit),aW (CF heap_1_39 view_1_40 w) sc (Str.ofString "int") (.type "int")) ?_ fun jc=>?_
 ·intro w sc hx
  exact fC (by dsimp only [CF];k_dflt k_is) (by boot_by_name) (by decide) hx
 refine hv (p := ∀{w:World}{sc:List (Str×NameKind)}(hx:sc.lookup (Str.ofString "len")=some .globalImplicit),aW (CF heap_1_39 view_1_40 w) sc (Str.ofString "len") (.builtin "len")) ?_ fun cu=>?_
 ·intro w sc hx
  exact fC (by dsimp only [CF];k_dflt k_is) (by boot_by_name) (by decide) hx
 refine hv (p := ∀{w:World}{sc:List (Str×NameKind)}(hx:sc.lookup (Str.ofString "list")=some .globalImplicit),aW (CF heap_1_39 view_1_40 w) sc (Str.ofString "list") (.type "list")) ?_ fun Gh=>?_
 ·intro w sc hx
  exact fC (by dsimp only [CF];k_dflt k_is) (by boot_by_name) (by decide) hx
 refine hv (p := ∀{w:World}{sc:List (Str×NameKind)}(hx:sc.lookup (Str.ofString "max")=some .globalImplicit),aW (CF heap_1_39 view_1_40 w) sc (Str.ofString "max") (.builtin "max")) ?_ fun Ay=>?_
 ·intro w sc hx
  exact fC (by dsimp only [CF];k_dflt k_is) (by boot_by_name) (by decide) hx
 refine hv (p := ∀{w:World}{sc:List (Str×NameKind)}(hx:sc.lookup (Str.ofString "range")=some .globalImplicit),aW (CF heap_1_39 view_1_40 w) sc (Str.ofString "range") (.type "range")) ?_ fun ic=>?_
 ·intro w sc hx
  exact fC (by dsimp only [CF];k_dflt k_is) (by boot_by_name) (by decide) hx
 refine hv (p := ∀{w:World}{sc:List (Str×NameKind)}(hx:sc.lookup (Str.ofString "sum")=some .globalImplicit),aW (CF heap_1_39 view_1_40 w) sc (Str.ofString "sum") (.builtin "sum")) ?_ fun Lo=>?_
 ·intro w sc hx
  exact fC (by dsimp only [CF];k_dflt k_is) (by boot_by_name) (by decide) hx
 refine hv (p := ∀{w:World}{sc:List (Str×NameKind)}(hx:sc.lookup (Str.ofString "_law_ends_right")=some .globalImplicit),aW (CF heap_1_39 view_1_40 w) sc (Str.ofString "_law_ends_right") (.ref 815)) ?_ fun lM=>?_
 ·intro w sc hx
  exact aM (by dsimp only [CF];k_dflt k_is) hx
 refine hv (p := ∀{w:World}{sc:List (Str×NameKind)}(hx:sc.lookup (Str.ofString "_law_four")=some .globalImplicit),aW (CF heap_1_39 view_1_40 w) sc (Str.ofString "_law_four") (.ref 774)) ?_ fun Eo=>?_
 ·intro w sc hx
  exact aM (by dsimp only [CF];k_dflt k_is) hx
 refine hv (p := ∀{w:World}{sc:List (Str×NameKind)}(hx:sc.lookup (Str.ofString "_law_is_refused")=some .globalImplicit),aW (CF heap_1_39 view_1_40 w) sc (Str.ofString "_law_is_refused") (.ref 822)) ?_ fun fO=>?_
 ·intro w sc hx
  exact aM (by dsimp only [CF];k_dflt k_is) hx
 refine hv (p := ∀{w:World}{sc:List (Str×NameKind)}(hx:sc.lookup (Str.ofString "_law_key_due")=some .globalImplicit),aW (CF heap_1_39 view_1_40 w) sc (Str.ofString "_law_key_due") (.ref 803)) ?_ fun xP=>?_
 ·intro w sc hx
  exact aM (by dsimp only [CF];k_dflt k_is) hx
 refine hv (p := ∀{w:World}{sc:List (Str×NameKind)}(hx:sc.lookup (Str.ofString "_law_keys_right")=some .globalImplicit),aW (CF heap_1_39 view_1_40 w) sc (Str.ofString "_law_keys_right") (.ref 829)) ?_ fun sP=>?_
 ·intro w sc hx
  exact aM (by dsimp only [CF];k_dflt k_is) hx
 refine hv (p := ∀{w:World}{sc:List (Str×NameKind)}(hx:sc.lookup (Str.ofString "_law_laid")=some .globalImplicit),aW (CF heap_1_39 view_1_40 w) sc (Str.ofString "_law_laid") (.ref 798)) ?_ fun jS=>?_
 ·intro w sc hx
  exact aM (by dsimp only [CF];k_dflt k_is) hx
 refine hv (p := ∀{w:World}{sc:List (Str×NameKind)}(hx:sc.lookup (Str.ofString "_law_one")=some .globalImplicit),aW (CF heap_1_39 view_1_40 w) sc (Str.ofString "_law_one") (.ref 767)) ?_ fun lN=>?_
 ·intro w sc hx
  exact aM (by dsimp only [CF];k_dflt k_is) hx
 refine hv (p := ∀{w:World}{sc:List (Str×NameKind)}(hx:sc.lookup (Str.ofString "_law_pages")=some .globalImplicit),aW (CF heap_1_39 view_1_40 w) sc (Str.ofString "_law_pages") (.ref 786)) ?_ fun tV=>?_
 ·intro w sc hx
  exact aM (by dsimp only [CF];k_dflt k_is) hx
 refine hv (p := ∀{w:World}{sc:List (Str×NameKind)}(hx:sc.lookup (Str.ofString "_law_pool")=some .globalImplicit),aW (CF heap_1_39 view_1_40 w) sc (Str.ofString "_law_pool") (.ref 753)) ?_ fun Ep=>?_
 ·intro w sc hx
  exact aM (by dsimp only [CF];k_dflt k_is) hx
 refine hv (p := ∀{w:World}{sc:List (Str×NameKind)}(hx:sc.lookup (Str.ofString "_law_row_due")=some .globalImplicit),aW (CF heap_1_39 view_1_40 w) sc (Str.ofString "_law_row_due") (.ref 808)) ?_ fun xQ=>?_
 ·intro w sc hx
  exact aM (by dsimp only [CF];k_dflt k_is) hx
 refine hv (p := ∀{w:World}{sc:List (Str×NameKind)}(hx:sc.lookup (Str.ofString "_law_rows_right")=some .globalImplicit),aW (CF heap_1_39 view_1_40 w) sc (Str.ofString "_law_rows_right") (.ref 834)) ?_ fun sQ=>?_
 ·intro w sc hx
  exact aM (by dsimp only [CF];k_dflt k_is) hx
 refine hv (p := ∀{w:World}{sc:List (Str×NameKind)}(hx:sc.lookup (Str.ofString "_law_sizes")=some .globalImplicit),aW (CF heap_1_39 view_1_40 w) sc (Str.ofString "_law_sizes") (.ref 779)) ?_ fun tW=>?_
 ·intro w sc hx
  exact aM (by dsimp only [CF];k_dflt k_is) hx
 refine hv (p := ∀{w:World}{sc:List (Str×NameKind)}(hx:sc.lookup (Str.ofString "_law_store")=some .globalImplicit),aW (CF heap_1_39 view_1_40 w) sc (Str.ofString "_law_store") (.ref 793)) ?_ fun CC=>?_
 ·intro w sc hx
  exact aM (by dsimp only [CF];k_dflt k_is) hx
 refine hv (p := ∀{w:World}{sc:List (Str×NameKind)}(hx:sc.lookup (Str.ofString "_law_take")=some .globalImplicit),aW (CF heap_1_39 view_1_40 w) sc (Str.ofString "_law_take") (.ref 760)) ?_ fun ek=>?_
 ·intro w sc hx
  exact aM (by dsimp only [CF];k_dflt k_is) hx
 refine hv (p := ∀{w:World}{sc:List (Str×NameKind)}(hx:sc.lookup (Str.ofString "_law_told_right")=some .globalImplicit),aW (CF heap_1_39 view_1_40 w) sc (Str.ofString "_law_told_right") (.ref 841)) ?_ fun sR=>?_
 ·intro w sc hx
  exact aM (by dsimp only [CF];k_dflt k_is) hx
 refine hv (p := ∀{w:World}{sc:List (Str×NameKind)}(hx:sc.lookup (Str.ofString "base_of")=some .globalImplicit),aW (CF heap_1_39 view_1_40 w) sc (Str.ofString "base_of") (.ref 613)) ?_ fun y9=>?_
 ·intro w sc hx
  exact aM (by dsimp only [CF];k_dflt k_is) hx
 refine hv (p := ∀{w:World}{sc:List (Str×NameKind)}(hx:sc.lookup (Str.ofString "capacity")=some .globalImplicit),aW (CF heap_1_39 view_1_40 w) sc (Str.ofString "capacity") (.ref 620)) ?_ fun Er=>?_
 ·intro w sc hx
  exact aM (by dsimp only [CF];k_dflt k_is) hx
 refine hv (p := ∀{w:World}{sc:List (Str×NameKind)}(hx:sc.lookup (Str.ofString "cost")=some .globalImplicit),aW (CF heap_1_39 view_1_40 w) sc (Str.ofString "cost") (.ref 601)) ?_ fun Q8=>?_
 ·intro w sc hx
  exact aM (by dsimp only [CF];k_dflt k_is) hx
 refine hv (p := ∀{w:World}{sc:List (Str×NameKind)}(hx:sc.lookup (Str.ofString "end_path")=some .globalImplicit),aW (CF heap_1_39 view_1_40 w) sc (Str.ofString "end_path") (.ref 545)) ?_ fun pX=>?_
 ·intro w sc hx
  exact aM (by dsimp only [CF];k_dflt k_is) hx
 refine hv (p := ∀{w:World}{sc:List (Str×NameKind)}(hx:sc.lookup (Str.ofString "find_key")=some .globalImplicit),aW (CF heap_1_39 view_1_40 w) sc (Str.ofString "find_key") (.ref 566)) ?_ fun jT=>?_
 ·intro w sc hx
  exact aM (by dsimp only [CF];k_dflt k_is) hx
 refine hv (p := ∀{w:World}{sc:List (Str×NameKind)}(hx:sc.lookup (Str.ofString "find_place")=some .globalImplicit),aW (CF heap_1_39 view_1_40 w) sc (Str.ofString "find_place") (.ref 559)) ?_ fun Az=>?_
 ·intro w sc hx
  exact aM (by dsimp only [CF];k_dflt k_is) hx
 refine hv (p := ∀{w:World}{sc:List (Str×NameKind)}(hx:sc.lookup (Str.ofString "find_rowid")=some .globalImplicit),aW (CF heap_1_39 view_1_40 w) sc (Str.ofString "find_rowid") (.ref 676)) ?_ fun jq=>?_
 ·intro w sc hx
  exact aM (by dsimp only [CF];k_dflt k_is) hx
 refine hv (p := ∀{w:World}{sc:List (Str×NameKind)}(hx:sc.lookup (Str.ofString "first_place")=some .globalImplicit),aW (CF heap_1_39 view_1_40 w) sc (Str.ofString "first_place") (.ref 669)) ?_ fun xR=>?_
 ·intro w sc hx
  exact aM (by dsimp only [CF];k_dflt k_is) hx
 refine hv (p := ∀{w:World}{sc:List (Str×NameKind)}(hx:sc.lookup (Str.ofString "fits")=some .globalImplicit),aW (CF heap_1_39 view_1_40 w) sc (Str.ofString "fits") (.ref 655)) ?_ fun Q9=>?_
 ·intro w sc hx
  exact aM (by dsimp only [CF];k_dflt k_is) hx
 refine hv (p := ∀{w:World}{sc:List (Str×NameKind)}(hx:sc.lookup (Str.ofString "four_at")=some .globalImplicit),aW (CF heap_1_39 view_1_40 w) sc (Str.ofString "four_at") (.ref 101)) ?_ fun oG=>?_
 ·intro w sc hx
  exact aM (by dsimp only [CF];k_dflt k_is) hx
 refine hv (p := ∀{w:World}{sc:List (Str×NameKind)}(hx:sc.lookup (Str.ofString "four_octets")=some .globalImplicit),aW (CF heap_1_39 view_1_40 w) sc (Str.ofString "four_octets") (.ref 122)) ?_ fun xS=>?_
 ·intro w sc hx
  exact aM (by dsimp only [CF];k_dflt k_is) hx
 refine hv (p := ∀{w:World}{sc:List (Str×NameKind)}(hx:sc.lookup (Str.ofString "get_varint")=some .globalImplicit),aW (CF heap_1_39 view_1_40 w) sc (Str.ofString "get_varint") (.ref 79)) ?_ fun fP=>?_
 ·intro w sc hx
  exact aM (by dsimp only [CF];k_dflt k_is) hx
 refine hv (p := ∀{w:World}{sc:List (Str×NameKind)}(hx:sc.lookup (Str.ofString "head_size")=some .globalImplicit),aW (CF heap_1_39 view_1_40 w) sc (Str.ofString "head_size") (.ref 143)) ?_ fun CD=>?_
 ·intro w sc hx
  exact aM (by dsimp only [CF];k_dflt k_is) hx
 refine hv (p := ∀{w:World}{sc:List (Str×NameKind)}(hx:sc.lookup (Str.ofString "is_leaf_node_view")=some .globalImplicit),aW (CF heap_1_39 view_1_40 w) sc (Str.ofString "is_leaf_node_view") (.ref 129)) ?_ fun eB=>?_
 ·intro w sc hx
  exact aM (by dsimp only [CF];k_dflt k_is) hx
 refine hv (p := ∀{w:World}{sc:List (Str×NameKind)}(hx:sc.lookup (Str.ofString "is_rows_node_view")=some .globalImplicit),aW (CF heap_1_39 view_1_40 w) sc (Str.ofString "is_rows_node_view") (.ref 136)) ?_ fun oW=>?_
 ·intro w sc hx
  exact aM (by dsimp only [CF];k_dflt k_is) hx
 refine hv (p := ∀{w:World}{sc:List (Str×NameKind)}(hx:sc.lookup (Str.ofString "last_rowid")=some .globalImplicit),aW (CF heap_1_39 view_1_40 w) sc (Str.ofString "last_rowid") (.ref 683)) ?_ fun AA=>?_
 ·intro w sc hx
  exact aM (by dsimp only [CF];k_dflt k_is) hx
 refine hv (p := ∀{w:World}{sc:List (Str×NameKind)}(hx:sc.lookup (Str.ofString "local_size")=some .globalImplicit),aW (CF heap_1_39 view_1_40 w) sc (Str.ofString "local_size") (.ref 164)) ?_ fun AB=>?_
 ·intro w sc hx
  exact aM (by dsimp only [CF];k_dflt k_is) hx
 refine hv (p := ∀{w:World}{sc:List (Str×NameKind)}(hx:sc.lookup (Str.ofString "max_local")=some .globalImplicit),aW (CF heap_1_39 view_1_40 w) sc (Str.ofString "max_local") (.ref 150)) ?_ fun CE=>?_
 ·intro w sc hx
  exact aM (by dsimp only [CF];k_dflt k_is) hx
 refine hv (p := ∀{w:World}{sc:List (Str×NameKind)}(hx:sc.lookup (Str.ofString "payload_of")=some .globalImplicit),aW (CF heap_1_39 view_1_40 w) sc (Str.ofString "payload_of") (.ref 538)) ?_ fun AC=>?_
 ·intro w sc hx
  exact aM (by dsimp only [CF];k_dflt k_is) hx
 refine hv (p := ∀{w:World}{sc:List (Str×NameKind)}(hx:sc.lookup (Str.ofString "place_in")=some .globalImplicit),aW (CF heap_1_39 view_1_40 w) sc (Str.ofString "place_in") (.ref 552)) ?_ fun Es=>?_
 ·intro w sc hx
  exact aM (by dsimp only [CF];k_dflt k_is) hx
 refine hv (p := ∀{w:World}{sc:List (Str×NameKind)}(hx:sc.lookup (Str.ofString "put_four")=some .globalImplicit),aW (CF heap_1_39 view_1_40 w) sc (Str.ofString "put_four") (.ref 115)) ?_ fun Et=>?_
 ·intro w sc hx
  exact aM (by dsimp only [CF];k_dflt k_is) hx
 refine hv (p := ∀{w:World}{sc:List (Str×NameKind)}(hx:sc.lookup (Str.ofString "put_two")=some .globalImplicit),aW (CF heap_1_39 view_1_40 w) sc (Str.ofString "put_two") (.ref 108)) ?_ fun za=>?_
 ·intro w sc hx
  exact aM (by dsimp only [CF];k_dflt k_is) hx
 refine hv (p := ∀{w:World}{sc:List (Str×NameKind)}(hx:sc.lookup (Str.ofString "put_varint")=some .globalImplicit),aW (CF heap_1_39 view_1_40 w) sc (Str.ofString "put_varint") (.ref 72)) ?_ fun rN=>?_
 ·intro w sc hx
  exact aM (by dsimp only [CF];k_dflt k_is) hx
 refine hv (p := ∀{w:World}{sc:List (Str×NameKind)}(hx:sc.lookup (Str.ofString "read_cell")=some .globalImplicit),aW (CF heap_1_39 view_1_40 w) sc (Str.ofString "read_cell") (.ref 206)) ?_ fun CG=>?_
 ·intro w sc hx
  exact aM (by dsimp only [CF];k_dflt k_is) hx
 refine hv (p := ∀{w:World}{sc:List (Str×NameKind)}(hx:sc.lookup (Str.ofString "signed")=some .globalImplicit),aW (CF heap_1_39 view_1_40 w) sc (Str.ofString "signed") (.ref 86)) ?_ fun rO=>?_
 ·intro w sc hx
  exact aM (by dsimp only [CF];k_dflt k_is) hx
 refine hv (p := ∀{w:World}{sc:List (Str×NameKind)}(hx:sc.lookup (Str.ofString "total")=some .globalImplicit),aW (CF heap_1_39 view_1_40 w) sc (Str.ofString "total") (.ref 606)) ?_ fun NJ=>?_
 ·intro w sc hx
  exact aM (by dsimp only [CF];k_dflt k_is) hx
 refine hv (p := ∀{w:World}{sc:List (Str×NameKind)}(hx:sc.lookup (Str.ofString "two_at")=some .globalImplicit),aW (CF heap_1_39 view_1_40 w) sc (Str.ofString "two_at") (.ref 94)) ?_ fun rP=>?_
 ·intro w sc hx
  exact aM (by dsimp only [CF];k_dflt k_is) hx
 refine hv (p := ∀{w:World}{sc:List (Str×NameKind)}(hx:sc.lookup (Str.ofString "write_content")=some .globalImplicit),aW (CF heap_1_39 view_1_40 w) sc (Str.ofString "write_content") (.ref 662)) ?_ fun gr=>?_
 ·intro w sc hx
  exact aM (by dsimp only [CF];k_dflt k_is) hx
 refine hv (p := ∀{w:World},aR (CF heap_1_39 view_1_40 w) (.ref 815)) ?_ fun kM=>?_
 ·intro w
  exact aV (by dsimp only [CF];k_dflt k_is)
 refine hv (p := ∀{w:World},aR (CF heap_1_39 view_1_40 w) (.ref 774)) ?_ fun CI=>?_
 ·intro w
  exact aV (by dsimp only [CF];k_dflt k_is)
 refine hv (p := ∀{w:World},aR (CF heap_1_39 view_1_40 w) (.ref 803)) ?_ fun wX=>?_
 ·intro w
  exact aV (by dsimp only [CF];k_dflt k_is)
 refine hv (p := ∀{w:World},aR (CF heap_1_39 view_1_40 w) (.ref 829)) ?_ fun rQ=>?_
 ·intro w
  exact aV (by dsimp only [CF];k_dflt k_is)
 refine hv (p := ∀{w:World},aR (CF heap_1_39 view_1_40 w) (.ref 798)) ?_ fun i7=>?_
 ·intro w
  exact aV (by dsimp only [CF];k_dflt k_is)
 refine hv (p := ∀{w:World},aR (CF heap_1_39 view_1_40 w) (.ref 767)) ?_ fun jU=>?_
 ·intro w
  exact aV (by dsimp only [CF];k_dflt k_is)
 refine hv (p := ∀{w:World},aR (CF heap_1_39 view_1_40 w) (.ref 786)) ?_ fun rR=>?_
 ·intro w
  exact aV (by dsimp only [CF];k_dflt k_is)
 refine hv (p := ∀{w:World},aR (CF heap_1_39 view_1_40 w) (.ref 753)) ?_ fun CJ=>?_
 ·intro w
  exact aV (by dsimp only [CF];k_dflt k_is)
 refine hv (p := ∀{w:World},aR (CF heap_1_39 view_1_40 w) (.ref 808)) ?_ fun wY=>?_
 ·intro w
  exact aV (by dsimp only [CF];k_dflt k_is)
 refine hv (p := ∀{w:World},aR (CF heap_1_39 view_1_40 w) (.ref 834)) ?_ fun rS=>?_
 ·intro w
  exact aV (by dsimp only [CF];k_dflt k_is)
 refine hv (p := ∀{w:World},aR (CF heap_1_39 view_1_40 w) (.ref 779)) ?_ fun rT=>?_
 ·intro w
  exact aV (by dsimp only [CF];k_dflt k_is)
 refine hv (p := ∀{w:World},aR (CF heap_1_39 view_1_40 w) (.ref 793)) ?_ fun AD=>?_
 ·intro w
  exact aV (by dsimp only [CF];k_dflt k_is)
 refine hv (p := ∀{w:World},aR (CF heap_1_39 view_1_40 w) (.ref 760)) ?_ fun dJ=>?_
 ·intro w
  exact aV (by dsimp only [CF];k_dflt k_is)
 refine hv (p := ∀{w:World},aR (CF heap_1_39 view_1_40 w) (.ref 841)) ?_ fun rU=>?_
 ·intro w
  exact aV (by dsimp only [CF];k_dflt k_is)
 refine hv (p := ∀{w:World},aR (CF heap_1_39 view_1_40 w) (.ref 613)) ?_ fun wZ=>?_
 ·intro w
  exact aV (by dsimp only [CF];k_dflt k_is)
 refine hv (p := ∀{w:World},aR (CF heap_1_39 view_1_40 w) (.ref 620)) ?_ fun CK=>?_
 ·intro w
  exact aV (by dsimp only [CF];k_dflt k_is)
 refine hv (p := ∀{w:World},aR (CF heap_1_39 view_1_40 w) (.ref 601)) ?_ fun NK=>?_
 ·intro w
  exact aV (by dsimp only [CF];k_dflt k_is)
 refine hv (p := ∀{w:World},aR (CF heap_1_39 view_1_40 w) (.ref 545)) ?_ fun nY=>?_
 ·intro w
  exact aV (by dsimp only [CF];k_dflt k_is)
 refine hv (p := ∀{w:World},aR (CF heap_1_39 view_1_40 w) (.ref 566)) ?_ fun i8=>?_
 ·intro w
  exact aV (by dsimp only [CF];k_dflt k_is)
 refine hv (p := ∀{w:World},aR (CF heap_1_39 view_1_40 w) (.ref 559)) ?_ fun xT=>?_
 ·intro w
  exact aV (by dsimp only [CF];k_dflt k_is)
 refine hv (p := ∀{w:World},aR (CF heap_1_39 view_1_40 w) (.ref 676)) ?_ fun iM=>?_
 ·intro w
  exact aV (by dsimp only [CF];k_dflt k_is)
 refine hv (p := ∀{w:World},aR (CF heap_1_39 view_1_40 w) (.ref 669)) ?_ fun w5=>?_
 ·intro w
  exact aV (by dsimp only [CF];k_dflt k_is)
 refine hv (p := ∀{w:World},aR (CF heap_1_39 view_1_40 w) (.ref 655)) ?_ fun NL=>?_
 ·intro w
  exact aV (by dsimp only [CF];k_dflt k_is)
 refine hv (p := ∀{w:World},aR (CF heap_1_39 view_1_40 w) (.ref 101)) ?_ fun mR=>?_
 ·intro w
  exact aV (by dsimp only [CF];k_dflt k_is)
 refine hv (p := ∀{w:World},aR (CF heap_1_39 view_1_40 w) (.ref 122)) ?_ fun w6=>?_
 ·intro w
  exact aV (by dsimp only [CF];k_dflt k_is)
 refine hv (p := ∀{w:World},aR (CF heap_1_39 view_1_40 w) (.ref 79)) ?_ fun eZ=>?_
 ·intro w
  exact aV (by dsimp only [CF];k_dflt k_is)
 refine hv (p := ∀{w:World},aR (CF heap_1_39 view_1_40 w) (.ref 143)) ?_ fun AE=>?_
 ·intro w
  exact aV (by dsimp only [CF];k_dflt k_is)
 refine hv (p := ∀{w:World},aR (CF heap_1_39 view_1_40 w) (.ref 129)) ?_ fun mS=>?_
 ·intro w
  exact aV (by dsimp only [CF];k_dflt k_is)
 refine hv (p := ∀{w:World},aR (CF heap_1_39 view_1_40 w) (.ref 136)) ?_ fun Eu=>?_
 ·intro w
  exact aV (by dsimp only [CF];k_dflt k_is)
 refine hv (p := ∀{w:World},aR (CF heap_1_39 view_1_40 w) (.ref 683)) ?_ fun xU=>?_
 ·intro w
  exact aV (by dsimp only [CF];k_dflt k_is)
 refine hv (p := ∀{w:World},aR (CF heap_1_39 view_1_40 w) (.ref 164)) ?_ fun xV=>?_
 ·intro w
  exact aV (by dsimp only [CF];k_dflt k_is)
 refine hv (p := ∀{w:World},aR (CF heap_1_39 view_1_40 w) (.ref 150)) ?_ fun AF=>?_
 ·intro w
  exact aV (by dsimp only [CF];k_dflt k_is)
 refine hv (p := ∀{w:World},aR (CF heap_1_39 view_1_40 w) (.ref 538)) ?_ fun xW=>?_
 ·intro w
  exact aV (by dsimp only [CF];k_dflt k_is)
 refine hv (p := ∀{w:World},aR (CF heap_1_39 view_1_40 w) (.ref 552)) ?_ fun CL=>?_
 ·intro w
  exact aV (by dsimp only [CF];k_dflt k_is)
 refine hv (p := ∀{w:World},aR (CF heap_1_39 view_1_40 w) (.ref 115)) ?_ fun CM=>?_
 ·intro w
  exact aV (by dsimp only [CF];k_dflt k_is)
 refine hv (p := ∀{w:World},aR (CF heap_1_39 view_1_40 w) (.ref 108)) ?_ fun w7=>?_
 ·intro w
  exact aV (by dsimp only [CF];k_dflt k_is)
 refine hv (p := ∀{w:World},aR (CF heap_1_39 view_1_40 w) (.ref 72)) ?_ fun pC=>?_
 ·intro w
  exact aV (by dsimp only [CF];k_dflt k_is)
 refine hv (p := ∀{w:World},aR (CF heap_1_39 view_1_40 w) (.ref 206)) ?_ fun AG=>?_
 ·intro w
  exact aV (by dsimp only [CF];k_dflt k_is)
 refine hv (p := ∀{w:World},aR (CF heap_1_39 view_1_40 w) (.ref 86)) ?_ fun oH=>?_
 ·intro w
  exact aV (by dsimp only [CF];k_dflt k_is)
 refine hv (p := ∀{w:World},aR (CF heap_1_39 view_1_40 w) (.ref 606)) ?_ fun Lp=>?_
 ·intro w
  exact aV (by dsimp only [CF];k_dflt k_is)
 refine hv (p := ∀{w:World},aR (CF heap_1_39 view_1_40 w) (.ref 94)) ?_ fun oJ=>?_
 ·intro w
  exact aV (by dsimp only [CF];k_dflt k_is)
 refine hv (p := ∀{w:World},aR (CF heap_1_39 view_1_40 w) (.ref 662)) ?_ fun fQ=>?_
 ·intro w
  exact aV (by dsimp only [CF];k_dflt k_is)
 refine hv (p := ∀{w:World}{sc:List (Str×NameKind)}(hx:sc.lookup (Str.ofString "Cell")=some .globalImplicit),aW (CF heap_1_39 view_1_40 w) sc (Str.ofString "Cell") (.ref 195)) ?_ fun Lq=>?_
 ·intro w sc hx
  exact aM (by dsimp only [CF];k_dflt k_is) hx
 refine hv (p := ∀{w:World},aR (CF heap_1_39 view_1_40 w) (.ref 195)) ?_ fun Gi=>?_
 ·intro w
  exact aV (by dsimp only [CF];k_dflt k_is)
 refine hv (p := ∀{w:World}{sc:List (Str×NameKind)}(hx:sc.lookup (Str.ofString "Content")=some .globalImplicit),aW (CF heap_1_39 view_1_40 w) sc (Str.ofString "Content") (.ref 644)) ?_ fun oK=>?_
 ·intro w sc hx
  exact aM (by dsimp only [CF];k_dflt k_is) hx
 refine hv (p := ∀{w:World},aR (CF heap_1_39 view_1_40 w) (.ref 644)) ?_ fun mT=>?_
 ·intro w
  exact aV (by dsimp only [CF];k_dflt k_is)
 refine hv (p := ∀{w:World}{sc:List (Str×NameKind)}(hx:sc.lookup (Str.ofString "Node")=some .globalImplicit),aW (CF heap_1_39 view_1_40 w) sc (Str.ofString "Node") (.ref 438)) ?_ fun Ra=>?_
 ·intro w sc hx
  exact aM (by dsimp only [CF];k_dflt k_is) hx
 refine hv (p := ∀{w:World},aR (CF heap_1_39 view_1_40 w) (.ref 438)) ?_ fun NN=>?_
 ·intro w
  exact aV (by dsimp only [CF];k_dflt k_is)
 refine hv (p := ∀{w:World}{sc:List (Str×NameKind)}(hx:sc.lookup (Str.ofString "OctetOrder")=some .globalImplicit),aW (CF heap_1_39 view_1_40 w) sc (Str.ofString "OctetOrder") (.ref 590)) ?_ fun ig=>?_
 ·intro w sc hx
  exact aM (by dsimp only [CF];k_dflt k_is) hx
 refine hv (p := ∀{w:World},aR (CF heap_1_39 view_1_40 w) (.ref 590)) ?_ fun gh=>?_
 ·intro w
  exact aV (by dsimp only [CF];k_dflt k_is)
 refine hv (p := ∀{w:World}{sc:List (Str×NameKind)}(hx:sc.lookup (Str.ofString "PageStore")=some .globalImplicit),aW (CF heap_1_39 view_1_40 w) sc (Str.ofString "PageStore") (.ref 742)) ?_ fun CN=>?_
 ·intro w sc hx
  exact aM (by dsimp only [CF];k_dflt k_is) hx
 refine hv (p := ∀{w:World},aR (CF heap_1_39 view_1_40 w) (.ref 742)) ?_ fun AI=>?_
 ·intro w
  exact aV (by dsimp only [CF];k_dflt k_is)
 refine hv (p := ∀{w:World}{sc:List (Str×NameKind)}(hx:sc.lookup (Str.ofString "Trees")=some .globalImplicit),aW (CF heap_1_39 view_1_40 w) sc (Str.ofString "Trees") (.ref 527)) ?_ fun mU=>?_
 ·intro w sc hx
  exact aM (by dsimp only [CF];k_dflt k_is) hx
 refine hv (p := ∀{w:World},aR (CF heap_1_39 view_1_40 w) (.ref 527)) ?_ fun jV=>?_
 ·intro w
  exact aV (by dsimp only [CF];k_dflt k_is)
 refine hv (p := ∀{w:World},aR (CF heap_1_39 view_1_40 w) (.ref 297)) ?_ fun AJ=>?_
 ·intro w
  exact aV (by dsimp only [CF];k_dflt k_is)
 refine hv (p := ∀{w:World},eL (CF heap_1_39 view_1_40 w) 438 (Str.ofString "cell") 297) ?_ fun AK=>?_
 ·intro w
  exact⟨by dsimp only [CF];k_dflt k_is,by dsimp only [CF];k_dflt k_is,by dsimp only [CF];k_dflt k_is⟩
 refine hv (p := ∀{w:World},aR (CF heap_1_39 view_1_40 w) (.ref 323)) ?_ fun lg=>?_
 ·intro w
  exact aV (by dsimp only [CF];k_dflt k_is)
 refine hv (p := ∀{w:World},eL (CF heap_1_39 view_1_40 w) 438 (Str.ofString "child") 323) ?_ fun li=>?_
 ·intro w
  exact⟨by dsimp only [CF];k_dflt k_is,by dsimp only [CF];k_dflt k_is,by dsimp only [CF];k_dflt k_is⟩
 refine hv (p := ∀{w:World},aR (CF heap_1_39 view_1_40 w) (.ref 248)) ?_ fun dK=>?_
 ·intro w
  exact aV (by dsimp only [CF];k_dflt k_is)
 refine hv (p := ∀{w:World},eL (CF heap_1_39 view_1_40 w) 438 (Str.ofString "count") 248) ?_ fun dM=>?_
 ·intro w
  exact⟨by dsimp only [CF];k_dflt k_is,by dsimp only [CF];k_dflt k_is,by dsimp only [CF];k_dflt k_is⟩
 refine hv (p := ∀{w:World},aR (CF heap_1_39 view_1_40 w) (.ref 234)) ?_ fun gu=>?_
 ·intro w
  exact aV (by dsimp only [CF];k_dflt k_is)
 refine hv (p := ∀{w:World},eL (CF heap_1_39 view_1_40 w) 438 (Str.ofString "is_leaf") 234) ?_ fun gw=>?_
 ·intro w
  exact⟨by dsimp only [CF];k_dflt k_is,by dsimp only [CF];k_dflt k_is,by dsimp only [CF];k_dflt k_is⟩
 refine hv (p := ∀{w:World},aR (CF heap_1_39 view_1_40 w) (.ref 241)) ?_ fun nk=>?_
 ·intro w
  exact aV (by dsimp only [CF];k_dflt k_is)
 refine hv (p := ∀{w:World},eL (CF heap_1_39 view_1_40 w) 438 (Str.ofString "is_rows") 241) ?_ fun nq=>?_
 ·intro w
  exact⟨by dsimp only [CF];k_dflt k_is,by dsimp only [CF];k_dflt k_is,by dsimp only [CF];k_dflt k_is⟩
 refine hv (p := ∀{w:World},aR (CF heap_1_39 view_1_40 w) (.ref 227)) ?_ fun jr=>?_
 ·intro w
  exact aV (by dsimp only [CF];k_dflt k_is)
 refine hv (p := ∀{w:World},eL (CF heap_1_39 view_1_40 w) 438 (Str.ofString "kind") 227) ?_ fun jt=>?_
 ·intro w
  exact⟨by dsimp only [CF];k_dflt k_is,by dsimp only [CF];k_dflt k_is,by dsimp only [CF];k_dflt k_is⟩
 refine hv (p := ∀{w:World},aR (CF heap_1_39 view_1_40 w) (.ref 290)) ?_ fun lj=>?_
 ·intro w
  exact aV (by dsimp only [CF];k_dflt k_is)
 refine hv (p := ∀{w:World},eL (CF heap_1_39 view_1_40 w) 438 (Str.ofString "place") 290) ?_ fun lq=>?_
 ·intro w
  exact⟨by dsimp only [CF];k_dflt k_is,by dsimp only [CF];k_dflt k_is,by dsimp only [CF];k_dflt k_is⟩
 refine hv (p := ∀{w:World},aR (CF heap_1_39 view_1_40 w) (.ref 255)) ?_ fun sS=>?_
 ·intro w
  exact aV (by dsimp only [CF];k_dflt k_is)
 refine hv (p := ∀{w:World},eL (CF heap_1_39 view_1_40 w) 438 (Str.ofString "pointers") 255) ?_ fun sU=>?_
 ·intro w
  exact⟨by dsimp only [CF];k_dflt k_is,by dsimp only [CF];k_dflt k_is,by dsimp only [CF];k_dflt k_is⟩
 refine hv (p := ∀{w:World},aR (CF heap_1_39 view_1_40 w) (.ref 276)) ?_ fun xX=>?_
 ·intro w
  exact aV (by dsimp only [CF];k_dflt k_is)
 refine hv (p := ∀{w:World},eL (CF heap_1_39 view_1_40 w) 438 (Str.ofString "right") 276) ?_ fun xY=>?_
 ·intro w
  exact⟨by dsimp only [CF];k_dflt k_is,by dsimp only [CF];k_dflt k_is,by dsimp only [CF];k_dflt k_is⟩
 refine hv (p := ∀{w:World},aR (CF heap_1_39 view_1_40 w) (.ref 316)) ?_ fun lu=>?_
 ·intro w
  exact aV (by dsimp only [CF];k_dflt k_is)
 refine hv (p := ∀{w:World},eL (CF heap_1_39 view_1_40 w) 438 (Str.ofString "rowid") 316) ?_ fun ly=>?_
 ·intro w
  exact⟨by dsimp only [CF];k_dflt k_is,by dsimp only [CF];k_dflt k_is,by dsimp only [CF];k_dflt k_is⟩
 refine hv (p := ∀{w:World},aR (CF heap_1_39 view_1_40 w) (.ref 587)) ?_ fun pY=>?_
 ·intro w
  exact aV (by dsimp only [CF];k_dflt k_is)
 refine hv (p := ∀{w:World},eL (CF heap_1_39 view_1_40 w) 590 (Str.ofString "sign") 587) ?_ fun pZ=>?_
 ·intro w
  exact⟨by dsimp only [CF];k_dflt k_is,by dsimp only [CF];k_dflt k_is,by dsimp only [CF];k_dflt k_is⟩
 refine hv (p := ∀{w:World},aR (CF heap_1_39 view_1_40 w) (.ref 725)) ?_ fun oX=>?_
 ·intro w
  exact aV (by dsimp only [CF];k_dflt k_is)
 refine hv (p := ∀{w:World},eL (CF heap_1_39 view_1_40 w) 742 (Str.ofString "extend") 725) ?_ fun oY=>?_
 ·intro w
  exact⟨by dsimp only [CF];k_dflt k_is,by dsimp only [CF];k_dflt k_is,by dsimp only [CF];k_dflt k_is⟩
 refine hv (p := ∀{w:World},aR (CF heap_1_39 view_1_40 w) (.ref 704)) ?_ fun lO=>?_
 ·intro w
  exact aV (by dsimp only [CF];k_dflt k_is)
 refine hv (p := ∀{w:World},eL (CF heap_1_39 view_1_40 w) 742 (Str.ofString "page_count") 704) ?_ fun lP=>?_
 ·intro w
  exact⟨by dsimp only [CF];k_dflt k_is,by dsimp only [CF];k_dflt k_is,by dsimp only [CF];k_dflt k_is⟩
 refine hv (p := ∀{w:World},aR (CF heap_1_39 view_1_40 w) (.ref 711)) ?_ fun ii=>?_
 ·intro w
  exact aV (by dsimp only [CF];k_dflt k_is)
 refine hv (p := ∀{w:World},eL (CF heap_1_39 view_1_40 w) 742 (Str.ofString "read_page") 711) ?_ fun ip=>?_
 ·intro w
  exact⟨by dsimp only [CF];k_dflt k_is,by dsimp only [CF];k_dflt k_is,by dsimp only [CF];k_dflt k_is⟩
 refine hv (p := ∀{w:World},aR (CF heap_1_39 view_1_40 w) (.ref 718)) ?_ fun lQ=>?_
 ·intro w
  exact aV (by dsimp only [CF];k_dflt k_is)
 refine hv (p := ∀{w:World},eL (CF heap_1_39 view_1_40 w) 742 (Str.ofString "write_page") 718) ?_ fun lR=>?_
 ·intro w
  exact⟨by dsimp only [CF];k_dflt k_is,by dsimp only [CF];k_dflt k_is,by dsimp only [CF];k_dflt k_is⟩
 refine hv (p := ∀{w:World},aR (CF heap_1_39 view_1_40 w) (.ref 524)) ?_ fun jd=>?_
 ·intro w
  exact aV (by dsimp only [CF];k_dflt k_is)
 refine hv (p := ∀{w:World},eL (CF heap_1_39 view_1_40 w) 527 (Str.ofString "deeper") 524) ?_ fun je=>?_
 ·intro w
  exact⟨by dsimp only [CF];k_dflt k_is,by dsimp only [CF];k_dflt k_is,by dsimp only [CF];k_dflt k_is⟩
 refine hv (p := ∀{w:World},aR (CF heap_1_39 view_1_40 w) (.ref 496)) ?_ fun gi=>?_
 ·intro w
  exact aV (by dsimp only [CF];k_dflt k_is)
 refine hv (p := ∀{w:World},eL (CF heap_1_39 view_1_40 w) 527 (Str.ofString "node") 496) ?_ fun gj=>?_
 ·intro w
  exact⟨by dsimp only [CF];k_dflt k_is,by dsimp only [CF];k_dflt k_is,by dsimp only [CF];k_dflt k_is⟩
 refine hv (p := ∀{w:World},aR (CF heap_1_39 view_1_40 w) (.ref 489)) ?_ fun ug=>?_
 ·intro w
  exact aV (by dsimp only [CF];k_dflt k_is)
 refine hv (p := ∀{w:World},eL (CF heap_1_39 view_1_40 w) 527 (Str.ofString "usable") 489) ?_ fun uh=>?_
 ·intro w
  exact⟨by dsimp only [CF];k_dflt k_is,by dsimp only [CF];k_dflt k_is,by dsimp only [CF];k_dflt k_is⟩
 refine hv (p := ∀{w:World},iD (CF heap_1_39 view_1_40 w) 195 (Fd.str .jC)) ?_ fun xZ=>?_
 ·intro w
  exact⟨by show plainGet (CF heap_1_39 view_1_40 w).K 195 (Str.ofString "local")=true;dsimp only [CF];k_dflt k_is,by dsimp only [CF];k_dflt k_is,⟨_,by show findIn (CF heap_1_39 view_1_40 w).K (.ref 195) (Str.ofString "local") = _;dsimp only [CF];k_dflt k_is,by dsimp only [CF];k_dflt k_is⟩⟩
 refine hv (p := ∀{w:World},iD (CF heap_1_39 view_1_40 w) 195 (Fd.str .overflow)) ?_ fun sV=>?_
 ·intro w
  exact⟨by show plainGet (CF heap_1_39 view_1_40 w).K 195 (Str.ofString "overflow")=true;dsimp only [CF];k_dflt k_is,by dsimp only [CF];k_dflt k_is,⟨_,by show findIn (CF heap_1_39 view_1_40 w).K (.ref 195) (Str.ofString "overflow") = _;dsimp only [CF];k_dflt k_is,by dsimp only [CF];k_dflt k_is⟩⟩
 refine hv (p := ∀{w:World},iD (CF heap_1_39 view_1_40 w) 644 (Fd.str .kind)) ?_ fun jf=>?_
 ·intro w
  exact⟨by show plainGet (CF heap_1_39 view_1_40 w).K 644 (Str.ofString "kind")=true;dsimp only [CF];k_dflt k_is,by dsimp only [CF];k_dflt k_is,⟨_,by show findIn (CF heap_1_39 view_1_40 w).K (.ref 644) (Str.ofString "kind") = _;dsimp only [CF];k_dflt k_is,by dsimp only [CF];k_dflt k_is⟩⟩
 refine hv (p := ∀{w:World},iD (CF heap_1_39 view_1_40 w) 644 (Fd.str .raws)) ?_ fun jg=>?_
 ·intro w
  exact⟨by show plainGet (CF heap_1_39 view_1_40 w).K 644 (Str.ofString "raws")=true;dsimp only [CF];k_dflt k_is,by dsimp only [CF];k_dflt k_is,⟨_,by show findIn (CF heap_1_39 view_1_40 w).K (.ref 644) (Str.ofString "raws") = _;dsimp only [CF];k_dflt k_is,by dsimp only [CF];k_dflt k_is⟩⟩
 refine hv (p := ∀{w:World},iD (CF heap_1_39 view_1_40 w) 644 (Fd.str .right)) ?_ fun sW=>?_
 ·intro w
  exact⟨by show plainGet (CF heap_1_39 view_1_40 w).K 644 (Str.ofString "right")=true;dsimp only [CF];k_dflt k_is,by dsimp only [CF];k_dflt k_is,⟨_,by show findIn (CF heap_1_39 view_1_40 w).K (.ref 644) (Str.ofString "right") = _;dsimp only [CF];k_dflt k_is,by dsimp only [CF];k_dflt k_is⟩⟩
 refine hv (p := ∀{w:World},iD (CF heap_1_39 view_1_40 w) 438 (Fd.str .base)) ?_ fun fR=>?_
 ·intro w
  exact⟨by show plainGet (CF heap_1_39 view_1_40 w).K 438 (Str.ofString "base")=true;dsimp only [CF];k_dflt k_is,by dsimp only [CF];k_dflt k_is,⟨_,by show findIn (CF heap_1_39 view_1_40 w).K (.ref 438) (Str.ofString "base") = _;dsimp only [CF];k_dflt k_is,by dsimp only [CF];k_dflt k_is⟩⟩
 refine hv (p := ∀{w:World},iD (CF heap_1_39 view_1_40 w) 438 (Fd.str .data)) ?_ fun dm=>?_
 ·intro w
  exact⟨by show plainGet (CF heap_1_39 view_1_40 w).K 438 (Str.ofString "data")=true;dsimp only [CF];k_dflt k_is,by dsimp only [CF];k_dflt k_is,⟨_,by show findIn (CF heap_1_39 view_1_40 w).K (.ref 438) (Str.ofString "data") = _;dsimp only [CF];k_dflt k_is,by dsimp only [CF];k_dflt k_is⟩⟩
 refine hv (p := ∀{w:World},iD (CF heap_1_39 view_1_40 w) 438 (Fd.str .eg)) ?_ fun nZ=>?_
 ·intro w
  exact⟨by show plainGet (CF heap_1_39 view_1_40 w).K 438 (Str.ofString "usable")=true;dsimp only [CF];k_dflt k_is,by dsimp only [CF];k_dflt k_is,⟨_,by show findIn (CF heap_1_39 view_1_40 w).K (.ref 438) (Str.ofString "usable") = _;dsimp only [CF];k_dflt k_is,by dsimp only [CF];k_dflt k_is⟩⟩
 refine hv (p := ∀{w:World},iD (CF heap_1_39 view_1_40 w) 742 (Fd.str .bA)) ?_ fun cX=>?_
 ·intro w
  exact⟨by show plainGet (CF heap_1_39 view_1_40 w).K 742 (Str.ofString "page_size")=true;dsimp only [CF];k_dflt k_is,by dsimp only [CF];k_dflt k_is,⟨_,by show findIn (CF heap_1_39 view_1_40 w).K (.ref 742) (Str.ofString "page_size") = _;dsimp only [CF];k_dflt k_is,by dsimp only [CF];k_dflt k_is⟩⟩
 refine hv (p := ∀{w:World},iD (CF heap_1_39 view_1_40 w) 742 (Fd.str .ay)) ?_ fun bF=>?_
 ·intro w
  exact⟨by show plainGet (CF heap_1_39 view_1_40 w).K 742 (Str.ofString "pages")=true;dsimp only [CF];k_dflt k_is,by dsimp only [CF];k_dflt k_is,⟨_,by show findIn (CF heap_1_39 view_1_40 w).K (.ref 742) (Str.ofString "pages") = _;dsimp only [CF];k_dflt k_is,by dsimp only [CF];k_dflt k_is⟩⟩
 refine hv (p := ∀{w:World},iD (CF heap_1_39 view_1_40 w) 527 (Fd.str .gQ)) ?_ fun jW=>?_
 ·intro w
  exact⟨by show plainGet (CF heap_1_39 view_1_40 w).K 527 (Str.ofString "pager")=true;dsimp only [CF];k_dflt k_is,by dsimp only [CF];k_dflt k_is,⟨_,by show findIn (CF heap_1_39 view_1_40 w).K (.ref 527) (Str.ofString "pager") = _;dsimp only [CF];k_dflt k_is,by dsimp only [CF];k_dflt k_is⟩⟩
 refine hv (p := ∀{w:World},gS (CF heap_1_39 view_1_40 w) 195 (Fd.str .child)) ?_ fun ya=>?_
 ·intro w
  exact⟨by dsimp only [CF];k_dflt k_is,by dsimp only [CF];k_dflt k_is,by show takerIn (CF heap_1_39 view_1_40 w).K 195 (Str.ofString "child")=some none;dsimp only [CF];k_dflt k_is,by dsimp only [CF];k_dflt k_is⟩
 refine hv (p := ∀{w:World},gS (CF heap_1_39 view_1_40 w) 195 (Fd.str .jC)) ?_ fun yb=>?_
 ·intro w
  exact⟨by dsimp only [CF];k_dflt k_is,by dsimp only [CF];k_dflt k_is,by show takerIn (CF heap_1_39 view_1_40 w).K 195 (Str.ofString "local")=some none;dsimp only [CF];k_dflt k_is,by dsimp only [CF];k_dflt k_is⟩
 refine hv (p := ∀{w:World},gS (CF heap_1_39 view_1_40 w) 195 (Fd.str .overflow)) ?_ fun sX=>?_
 ·intro w
  exact⟨by dsimp only [CF];k_dflt k_is,by dsimp only [CF];k_dflt k_is,by show takerIn (CF heap_1_39 view_1_40 w).K 195 (Str.ofString "overflow")=some none;dsimp only [CF];k_dflt k_is,by dsimp only [CF];k_dflt k_is⟩
 refine hv (p := ∀{w:World},gS (CF heap_1_39 view_1_40 w) 195 (Fd.str .rowid)) ?_ fun yc=>?_
 ·intro w
  exact⟨by dsimp only [CF];k_dflt k_is,by dsimp only [CF];k_dflt k_is,by show takerIn (CF heap_1_39 view_1_40 w).K 195 (Str.ofString "rowid")=some none;dsimp only [CF];k_dflt k_is,by dsimp only [CF];k_dflt k_is⟩
 refine hv (p := ∀{w:World},gS (CF heap_1_39 view_1_40 w) 195 (Fd.str .size)) ?_ fun AL=>?_
 ·intro w
  exact⟨by dsimp only [CF];k_dflt k_is,by dsimp only [CF];k_dflt k_is,by show takerIn (CF heap_1_39 view_1_40 w).K 195 (Str.ofString "size")=some none;dsimp only [CF];k_dflt k_is,by dsimp only [CF];k_dflt k_is⟩
 refine hv (p := ∀{w:World},gS (CF heap_1_39 view_1_40 w) 644 (Fd.str .kind)) ?_ fun ul=>?_
 ·intro w
  exact⟨by dsimp only [CF];k_dflt k_is,by dsimp only [CF];k_dflt k_is,by show takerIn (CF heap_1_39 view_1_40 w).K 644 (Str.ofString "kind")=some none;dsimp only [CF];k_dflt k_is,by dsimp only [CF];k_dflt k_is⟩
 refine hv (p := ∀{w:World},gS (CF heap_1_39 view_1_40 w) 644 (Fd.str .raws)) ?_ fun um=>?_
 ·intro w
  exact⟨by dsimp only [CF];k_dflt k_is,by dsimp only [CF];k_dflt k_is,by show takerIn (CF heap_1_39 view_1_40 w).K 644 (Str.ofString "raws")=some none;dsimp only [CF];k_dflt k_is,by dsimp only [CF];k_dflt k_is⟩
 refine hv (p := ∀{w:World},gS (CF heap_1_39 view_1_40 w) 644 (Fd.str .right)) ?_ fun sY=>?_
 ·intro w
  exact⟨by dsimp only [CF];k_dflt k_is,by dsimp only [CF];k_dflt k_is,by show takerIn (CF heap_1_39 view_1_40 w).K 644 (Str.ofString "right")=some none;dsimp only [CF];k_dflt k_is,by dsimp only [CF];k_dflt k_is⟩
 refine hv (p := ∀{w:World},gS (CF heap_1_39 view_1_40 w) 438 (Fd.str .base)) ?_ fun rV=>?_
 ·intro w
  exact⟨by dsimp only [CF];k_dflt k_is,by dsimp only [CF];k_dflt k_is,by show takerIn (CF heap_1_39 view_1_40 w).K 438 (Str.ofString "base")=some none;dsimp only [CF];k_dflt k_is,by dsimp only [CF];k_dflt k_is⟩
 refine hv (p := ∀{w:World},gS (CF heap_1_39 view_1_40 w) 438 (Fd.str .data)) ?_ fun AM=>?_
 ·intro w
  exact⟨by dsimp only [CF];k_dflt k_is,by dsimp only [CF];k_dflt k_is,by show takerIn (CF heap_1_39 view_1_40 w).K 438 (Str.ofString "data")=some none;dsimp only [CF];k_dflt k_is,by dsimp only [CF];k_dflt k_is⟩
 refine hv (p := ∀{w:World},gS (CF heap_1_39 view_1_40 w) 438 (Fd.str .A8)) ?_ fun AN=>?_
 ·intro w
  exact⟨by dsimp only [CF];k_dflt k_is,by dsimp only [CF];k_dflt k_is,by show takerIn (CF heap_1_39 view_1_40 w).K 438 (Str.ofString "page")=some none;dsimp only [CF];k_dflt k_is,by dsimp only [CF];k_dflt k_is⟩
 refine hv (p := ∀{w:World},gS (CF heap_1_39 view_1_40 w) 438 (Fd.str .eg)) ?_ fun w9=>?_
 ·intro w
  exact⟨by dsimp only [CF];k_dflt k_is,by dsimp only [CF];k_dflt k_is,by show takerIn (CF heap_1_39 view_1_40 w).K 438 (Str.ofString "usable")=some none;dsimp only [CF];k_dflt k_is,by dsimp only [CF];k_dflt k_is⟩
 refine hv (p := ∀{w:World},gS (CF heap_1_39 view_1_40 w) 742 (Fd.str .bA)) ?_ fun mV=>?_
 ·intro w
  exact⟨by dsimp only [CF];k_dflt k_is,by dsimp only [CF];k_dflt k_is,by show takerIn (CF heap_1_39 view_1_40 w).K 742 (Str.ofString "page_size")=some none;dsimp only [CF];k_dflt k_is,by dsimp only [CF];k_dflt k_is⟩
 refine hv (p := ∀{w:World},gS (CF heap_1_39 view_1_40 w) 742 (Fd.str .ay)) ?_ fun qa=>?_
 ·intro w
  exact⟨by dsimp only [CF];k_dflt k_is,by dsimp only [CF];k_dflt k_is,by show takerIn (CF heap_1_39 view_1_40 w).K 742 (Str.ofString "pages")=some none;dsimp only [CF];k_dflt k_is,by dsimp only [CF];k_dflt k_is⟩
 refine hv (p := ∀{w:World},gS (CF heap_1_39 view_1_40 w) 742 (Fd.str .m9)) ?_ fun qb=>?_
 ·intro w
  exact⟨by dsimp only [CF];k_dflt k_is,by dsimp only [CF];k_dflt k_is,by show takerIn (CF heap_1_39 view_1_40 w).K 742 (Str.ofString "spare")=some none;dsimp only [CF];k_dflt k_is,by dsimp only [CF];k_dflt k_is⟩
 refine hv (p := ∀{w:World},gS (CF heap_1_39 view_1_40 w) 527 (Fd.str .changes)) ?_ fun sZ=>?_
 ·intro w
  exact⟨by dsimp only [CF];k_dflt k_is,by dsimp only [CF];k_dflt k_is,by show takerIn (CF heap_1_39 view_1_40 w).K 527 (Str.ofString "changes")=some none;dsimp only [CF];k_dflt k_is,by dsimp only [CF];k_dflt k_is⟩
 refine hv (p := ∀{w:World},gS (CF heap_1_39 view_1_40 w) 527 (Fd.str .free)) ?_ fun yd=>?_
 ·intro w
  exact⟨by dsimp only [CF];k_dflt k_is,by dsimp only [CF];k_dflt k_is,by show takerIn (CF heap_1_39 view_1_40 w).K 527 (Str.ofString "free")=some none;dsimp only [CF];k_dflt k_is,by dsimp only [CF];k_dflt k_is⟩
 refine hv (p := ∀{w:World},gS (CF heap_1_39 view_1_40 w) 527 (Fd.str .gQ)) ?_ fun xd=>?_
 ·intro w
  exact⟨by dsimp only [CF];k_dflt k_is,by dsimp only [CF];k_dflt k_is,by show takerIn (CF heap_1_39 view_1_40 w).K 527 (Str.ofString "pager")=some none;dsimp only [CF];k_dflt k_is,by dsimp only [CF];k_dflt k_is⟩
 refine hv (p := ∀{w:World}{sc:List (Str×NameKind)}(hx:sc.lookup (Str.ofString "CorruptError")=some .globalImplicit),aW (CF heap_1_39 view_1_40 w) sc (Str.ofString "CorruptError") (.ref 51)) ?_ fun n5=>?_
 ·intro w sc hx
  exact aM (by dsimp only [CF];k_dflt k_is) hx
 refine hv (p := ∀{w:World}{cb:Bool}{d:Nat}{sc:List (Str×NameKind)}{names:List Str}{l:Expr}{np pos:Pos}{a:EF}(hx:sc.lookup (Str.ofString "KINDS")=some .globalImplicit)(ha:ez (CF heap_1_39 view_1_40 w) cb d sc names l a),yo (CF heap_1_39 view_1_40 w) cb d sc names (.Compare l [.NotIn] [.Name (Str.ofString "KINDS") np] pos) (vA [2,5,10,13] a)) ?_ fun Lr=>?_
 ·intro w cb d sc names l np pos a hx ha
  refine' IC (C:=CF heap_1_39 view_1_40 w) (aM ?e hx) ?k ?t ?dd ?x ha
  case e=>dsimp only [CF];k_dflt k_is
  case k=>dsimp only [CF];k_dflt k_is
  case t=>rfl
  case dd=>rfl
  case x=>exact .cons ⟨_,rfl⟩ (.cons ⟨_,rfl⟩ (.cons ⟨_,rfl⟩ (.cons ⟨_,rfl⟩ .nil)))
 refine hv (p := ∀{w:World},vI (CF heap_1_39 view_1_40 w)) ?_ fun Ew=>?_
 ·intro w
  refine' vI.of (fI:=35) ?k ?h1 ?h2 ?h3 ?h4 ?i ?t ?kk ?c ?b ?f1 ?f2 ?f3 ?n ?f4 ?f5 ?s1 ?s2
  case k=>dsimp only [CF];k_dflt k_is
  case h1=>rfl
  case h2=>decide +kernel
  case h3=>decide +kernel
  case h4=>decide +kernel
  case i=>dsimp only [CF];k_dflt k_is
  case t=>dsimp only [CF];k_dflt k_is
  case kk=>dsimp only [CF];k_dflt k_is
  case c=>dsimp only [CF];k_dflt k_is
  case b=>intro s a b;exact BindsTo.of_eq rfl
  case f1=>rfl
  case f2=>rfl
  case f3=>rfl
  case n=>decide
  case f4=>rfl
  case f5=>rfl
  case s1=>dsimp only [CF];k_dflt k_is
  case s2=>dsimp only [CF];k_dflt k_is
 refine hv (p := ∀{w:World},yx (CF heap_1_39 view_1_40 w) 822) ?_ fun AP=>?_
 ·intro w
  refine' yx.of ?k ?c ?b ?f1 ?f2 ?f3 ?n ?f4 ?f5 ?f6 ?g (Mj Ew) (aV ?kp)
  case k=>dsimp only [CF];k_dflt k_is
  case c=>dsimp only [CF];k_dflt k_is
  case b=>intro s a;exact BindsTo.of_eq rfl
  case f1=>rfl
  case f2=>rfl
  case f3=>rfl
  case n=>decide
  case f4=>rfl
  case f5=>rfl
  case f6=>rfl
  case g=>dsimp only [CF];k_dflt k_is
  case kp=>dsimp only [CF];k_dflt k_is
 refine hv (p := ∀{w:World}{cb:Bool}{d:Nat},bz (CF heap_1_39 view_1_40 w) cb d (.ref 590) (kZ 590)) ?_ fun gk=>?_
 ·intro w cb d
  exact Dq (by dsimp only [CF];k_dflt k_is) (by dsimp only [CF];k_dflt k_is)
 refine hv (p := ∀{w:World}{cb:Bool},aE (CF heap_1_39 view_1_40 w) cb 1 86 fZ) ?_ fun rW=>?_
 ·intro w cb
  refine' aJ (ps:=[Str.ofString "n"]) (ls:=[]) ?ho ?hcd ?hbind ?cL ?hnd ?hdc ?hbody ?hk ?hco ?hgen ?hcc
  case ho=>dsimp only [CF];k_dflt k_is
  case hcd=>dsimp only [CF];k_dflt k_is
  case hbind=>exact fun s=>hb1 fun _=>BindsTo.of_eq rfl
  case cL=>decide
  case hnd=>decide
  case hdc=>decide
  case hk=>rfl
  case hco=>rfl
  case hgen=>rfl
  case hcc=>exact fun c h=>nomatch (show(none:Option Addr)=some c from h)
  case hbody=>exact(ah (bU (aX Bb (ae rfl) (aG kW (En rfl) aB)) (ah (aP (aG fb (ae rfl) (En rfl)))
    aD) aD)
    (ah (aP (ae rfl))
    aD))
 refine hv (p := ∀{w:World}{cb:Bool},aE (CF heap_1_39 view_1_40 w) cb 1 94 f7) ?_ fun rX=>?_
 ·intro w cb
  refine' aJ (ps:=[Str.ofString "octets",Str.ofString "at"]) (ls:=[]) ?ho ?hcd ?hbind ?cL ?hnd ?hdc ?hbody ?hk ?hco ?hgen ?hcc
  case ho=>dsimp only [CF];k_dflt k_is
  case hcd=>dsimp only [CF];k_dflt k_is
  case hbind=>exact fun s=>qf fun _ _=>BindsTo.of_eq rfl
  case cL=>decide
  case hnd=>decide
  case hdc=>decide
  case hk=>rfl
  case hco=>rfl
  case hgen=>rfl
  case hcc=>exact fun c h=>nomatch (show(none:Option Addr)=some c from h)
  case hbody=>exact(ah (aP (aG aU (aG jE (br (ae rfl) (ae rfl)) aB) (br (ae rfl) (aG aU (ae rfl) aB))))
    aD)
 refine hv (p := ∀{w:World}{cb:Bool},aE (CF heap_1_39 view_1_40 w) cb 2 101 eX) ?_ fun oM=>?_
 ·intro w cb
  refine' aJ (ps:=[Str.ofString "octets",Str.ofString "at"]) (ls:=[]) ?ho ?hcd ?hbind ?cL ?hnd ?hdc ?hbody ?hk ?hco ?hgen ?hcc
  case ho=>dsimp only [CF];k_dflt k_is
  case hcd=>dsimp only [CF];k_dflt k_is
  case hbind=>exact fun s=>qf fun _ _=>BindsTo.of_eq rfl
  case cL=>decide
  case hnd=>decide
  case hdc=>decide
  case hk=>rfl
  case hco=>rfl
  case hgen=>rfl
  case hcc=>exact fun c h=>nomatch (show(none:Option Addr)=some c from h)
  case hbody=>exact(ah (aP (aG aU (aG jE (az (rP rfl) oJ (aE.call (aE.up (rX) (by decide))) (aa (ae rfl) (aa (ae rfl) aj))) aB) (az (rP rfl) oJ (aE.call (aE.up (rX) (by decide))) (aa (ae rfl) (aa (aG aU (ae rfl) aB) aj)))))
    aD)
 refine hv (p := ∀{w:World}{cb:Bool},aE (CF heap_1_39 view_1_40 w) cb 1 108 jv) ?_ fun zb=>?_
 ·intro w cb
  refine' aJ (ps:=[Str.ofString "octets",Str.ofString "at",Str.ofString "number"]) (ls:=[]) ?ho ?hcd ?hbind ?cL ?hnd ?hdc ?hbody ?hk ?hco ?hgen ?hcc
  case ho=>dsimp only [CF];k_dflt k_is
  case hcd=>dsimp only [CF];k_dflt k_is
  case hbind=>exact fun s=>BB fun _ _ _=>BindsTo.of_eq rfl
  case cL=>decide
  case hnd=>decide
  case hdc=>decide
  case hk=>rfl
  case hco=>rfl
  case hgen=>rfl
  case hcc=>exact fun c h=>nomatch (show(none:Option Addr)=some c from h)
  case hbody=>exact(ah (jI (ae rfl) (ae rfl) (aG kW (ae rfl) aB))
    (ah (jI (ae rfl) (aG aU (ae rfl) aB) (aG jF (ae rfl) aB))
    aD))
 refine hv (p := ∀{w:World}{cb:Bool},aE (CF heap_1_39 view_1_40 w) cb 2 115 l8) ?_ fun Ex=>?_
 ·intro w cb
  refine' aJ (ps:=[Str.ofString "octets",Str.ofString "at",Str.ofString "number"]) (ls:=[]) ?ho ?hcd ?hbind ?cL ?hnd ?hdc ?hbody ?hk ?hco ?hgen ?hcc
  case ho=>dsimp only [CF];k_dflt k_is
  case hcd=>dsimp only [CF];k_dflt k_is
  case hbind=>exact fun s=>BB fun _ _ _=>BindsTo.of_eq rfl
  case cL=>decide
  case hnd=>decide
  case hdc=>decide
  case hk=>rfl
  case hco=>rfl
  case hgen=>rfl
  case hcc=>exact fun c h=>nomatch (show(none:Option Addr)=some c from h)
  case hbody=>exact(ah (bY (az (za rfl) w7 (aE.call (aE.up (zb) (by decide))) (aa (ae rfl) (aa (ae rfl) (aa (aG kW (ae rfl) aB) aj)))))
    (ah (bY (az (za rfl) w7 (aE.call (aE.up (zb) (by decide))) (aa (ae rfl) (aa (aG aU (ae rfl) aB) (aa (aG jF (ae rfl) aB) aj)))))
    aD))
 refine hv (p := ∀{w:World},aE (CF heap_1_39 view_1_40 w) true 3 122 iH) ?_ fun ye=>?_
 ·intro w
  refine' aJ (ps:=[Str.ofString "number"]) (ls:=[Str.ofString "found"]) ?ho ?hcd ?hbind ?cL ?hnd ?hdc ?hbody ?hk ?hco ?hgen ?hcc
  case ho=>dsimp only [CF];k_dflt k_is
  case hcd=>dsimp only [CF];k_dflt k_is
  case hbind=>exact fun s=>hb1 fun _=>BindsTo.of_eq rfl
  case cL=>decide
  case hnd=>decide
  case hdc=>decide
  case hk=>rfl
  case hco=>rfl
  case hgen=>rfl
  case hcc=>exact fun c h=>nomatch (show(none:Option Addr)=some c from h)
  case hbody=>exact(ah (aN rfl rfl (az (rM rfl) cF EW (aa aB aj)))
    (ah (bY (az (Et rfl) CM (aE.call (aE.up (Ex) (by decide))) (aa (ae rfl) (aa aB (aa (ae rfl) aj)))))
    (ah (aP (az (df rfl) cF cA (aa (ae rfl) aj)))
    aD)))
 refine hv (p := ∀{w:World}{cb:Bool},aE (CF heap_1_39 view_1_40 w) cb 1 129 eY) ?_ fun oN=>?_
 ·intro w cb
  refine' aJ (ps:=[Str.ofString "kind"]) (ls:=[]) ?ho ?hcd ?hbind ?cL ?hnd ?hdc ?hbody ?hk ?hco ?hgen ?hcc
  case ho=>dsimp only [CF];k_dflt k_is
  case hcd=>dsimp only [CF];k_dflt k_is
  case hbind=>exact fun s=>hb1 fun _=>BindsTo.of_eq rfl
  case cL=>decide
  case hnd=>decide
  case hdc=>decide
  case hk=>rfl
  case hco=>rfl
  case hgen=>rfl
  case hcc=>exact fun c h=>nomatch (show(none:Option Addr)=some c from h)
  case hbody=>exact(ah (aP (NT (gB eV (ae rfl) (kK rfl)) (gB eV (ae rfl) (CA rfl))))
    aD)
 refine hv (p := ∀{w:World}{cb:Bool},aE (CF heap_1_39 view_1_40 w) cb 1 136 oB) ?_ fun HD=>?_
 ·intro w cb
  refine' aJ (ps:=[Str.ofString "kind"]) (ls:=[]) ?ho ?hcd ?hbind ?cL ?hnd ?hdc ?hbody ?hk ?hco ?hgen ?hcc
  case ho=>dsimp only [CF];k_dflt k_is
  case hcd=>dsimp only [CF];k_dflt k_is
  case hbind=>exact fun s=>hb1 fun _=>BindsTo.of_eq rfl
  case cL=>decide
  case hnd=>decide
  case hdc=>decide
  case hk=>rfl
  case hco=>rfl
  case hgen=>rfl
  case hcc=>exact fun c h=>nomatch (show(none:Option Addr)=some c from h)
  case hbody=>exact(ah (aP (NT (gB eV (ae rfl) (kK rfl)) (gB eV (ae rfl) (jp rfl))))
    aD)
 refine hv (p := ∀{w:World}{cb:Bool},aE (CF heap_1_39 view_1_40 w) cb 2 143 kq) ?_ fun CO=>?_
 ·intro w cb
  refine' aJ (ps:=[Str.ofString "kind"]) (ls:=[]) ?ho ?hcd ?hbind ?cL ?hnd ?hdc ?hbody ?hk ?hco ?hgen ?hcc
  case ho=>dsimp only [CF];k_dflt k_is
  case hcd=>dsimp only [CF];k_dflt k_is
  case hbind=>exact fun s=>hb1 fun _=>BindsTo.of_eq rfl
  case cL=>decide
  case hnd=>decide
  case hdc=>decide
  case hk=>rfl
  case hco=>rfl
  case hgen=>rfl
  case hcc=>exact fun c h=>nomatch (show(none:Option Addr)=some c from h)
  case hbody=>exact(ah (bU (cj (az (eB rfl) mS (aE.call (aE.up (oN) (by decide))) (aa (ae rfl) aj))) (ah (aP aB)
    aD) aD)
    (ah (aP aB)
    aD))
 refine hv (p := ∀{w:World}{cb:Bool},aE (CF heap_1_39 view_1_40 w) cb 1 150 ku) ?_ fun CP=>?_
 ·intro w cb
  refine' aJ (ps:=[Str.ofString "kind",Str.ofString "usable"]) (ls:=[]) ?ho ?hcd ?hbind ?cL ?hnd ?hdc ?hbody ?hk ?hco ?hgen ?hcc
  case ho=>dsimp only [CF];k_dflt k_is
  case hcd=>dsimp only [CF];k_dflt k_is
  case hbind=>exact fun s=>qf fun _ _=>BindsTo.of_eq rfl
  case cL=>decide
  case hnd=>decide
  case hdc=>decide
  case hk=>rfl
  case hco=>rfl
  case hgen=>rfl
  case hcc=>exact fun c h=>nomatch (show(none:Option Addr)=some c from h)
  case hbody=>exact(ah (bU (aX eV (ae rfl) (kK rfl)) (ah (aP (aG fb (ae rfl) aB))
    aD) aD)
    (ah (aP (az (Ay rfl) bI qv (aa aB (aa (aG fb (aG kW (aG fb (ae rfl) aB) aB) aB) aj))))
    aD))
 refine hv (p := ∀{w:World}{cb:Bool},aE (CF heap_1_39 view_1_40 w) cb 2 164 gW) ?_ fun AQ=>?_
 ·intro w cb
  refine' aJ (ps:=[Str.ofString "kind",Str.ofString "usable",Str.ofString "size"]) (ls:=[Str.ofString "most",Str.ofString "least",Str.ofString "surplus"]) ?ho ?hcd ?hbind ?cL ?hnd ?hdc ?hbody ?hk ?hco ?hgen ?hcc
  case ho=>dsimp only [CF];k_dflt k_is
  case hcd=>dsimp only [CF];k_dflt k_is
  case hbind=>exact fun s=>BB fun _ _ _=>BindsTo.of_eq rfl
  case cL=>decide
  case hnd=>decide
  case hdc=>decide
  case hk=>rfl
  case hco=>rfl
  case hgen=>rfl
  case hcc=>exact fun c h=>nomatch (show(none:Option Addr)=some c from h)
  case hbody=>exact(ah (aN rfl rfl (az (CE rfl) AF (aE.call (aE.up (CP) (by decide))) (aa (ae rfl) (aa (ae rfl) aj))))
    (ah (bU (aX NV (ae rfl) (ae rfl)) (ah (aP (ae rfl))
    aD) aD)
    (ah dc
    (ah dc
    (ah dc
    (ah dc
    aD))))))
 refine hv (p := ∀{w:World}{cb:Bool},aE (CF heap_1_39 view_1_40 w) cb 1 72 fL) ?_ fun rY=>?_
 ·intro w cb
  refine' aJ (ps:=[Str.ofString "n"]) (ls:=[Str.ofString "rest",Str.ofString "found",Str.ofString "turn"]) ?ho ?hcd ?hbind ?cL ?hnd ?hdc ?hbody ?hk ?hco ?hgen ?hcc
  case ho=>dsimp only [CF];k_dflt k_is
  case hcd=>dsimp only [CF];k_dflt k_is
  case hbind=>exact fun s=>hb1 fun _=>BindsTo.of_eq rfl
  case cL=>decide
  case hnd=>decide
  case hdc=>decide
  case hk=>rfl
  case hco=>rfl
  case hgen=>rfl
  case hcc=>exact fun c h=>nomatch (show(none:Option Addr)=some c from h)
  case hbody=>exact(ah (aN rfl rfl (aG jF (ae rfl) (En rfl)))
    (ah (aN rfl rfl (aO aj))
    (ah (bU (aX Bb (ae rfl) (aG De aB aB)) (ah (bY (cB cQ b9 (ae rfl) (aa (aG vh (ae rfl) aB) aj)))
    (ah (vz ⟨rfl,.inl rfl⟩ lX aB)
    (ah (kj rfl rfl (ic rfl) aB (ah (bY (cB cQ b9 (ae rfl) (aa (aG EJ (aG vh (ae rfl) aB) aB) aj)))
    (ah (vz ⟨rfl,.inl rfl⟩ lX aB)
    aD)))
    aD))) (ah (bY (cB cQ b9 (ae rfl) (aa (aG vh (ae rfl) aB) aj)))
    (ah (vz ⟨rfl,.inl rfl⟩ lX aB)
    (ah (lE 10 (aX kg (ae rfl) aB) (ah (bY (cB cQ b9 (ae rfl) (aa (aG EJ (aG vh (ae rfl) aB) aB) aj)))
    (ah (vz ⟨rfl,.inl rfl⟩ lX aB)
    aD)))
    aD))))
    (ah (bY (cB vp qu (ae rfl) aj))
    (ah (aP (az (df rfl) cF cA (aa (ae rfl) aj)))
    aD)))))
 refine hv (p := ∀{w:World}{cb:Bool},aE (CF heap_1_39 view_1_40 w) cb 1 79 cg) ?_ fun fS=>?_
 ·intro w cb
  refine' aJ (ps:=[Str.ofString "octets",Str.ofString "at"]) (ls:=[Str.ofString "number",Str.ofString "turn",Str.ofString "octet"]) ?ho ?hcd ?hbind ?cL ?hnd ?hdc ?hbody ?hk ?hco ?hgen ?hcc
  case ho=>dsimp only [CF];k_dflt k_is
  case hcd=>dsimp only [CF];k_dflt k_is
  case hbind=>exact fun s=>qf fun _ _=>BindsTo.of_eq rfl
  case cL=>decide
  case hnd=>decide
  case hdc=>decide
  case hk=>rfl
  case hco=>rfl
  case hgen=>rfl
  case hcc=>exact fun c h=>nomatch (show(none:Option Addr)=some c from h)
  case hbody=>exact(ah (aN rfl rfl aB)
    (ah (kj rfl rfl (ic rfl) aB (ah (bU (aX Bb (ae rfl) (az (cu rfl) bI bg (aa (ae rfl) aj))) (ah dc
    aD) aD)
    (ah (aN rfl rfl (br (ae rfl) (ae rfl)))
    (ah (vz ⟨rfl,.inl rfl⟩ Ln aB)
    (ah (bU (aX eV (ae rfl) aB) (ah (aP (bC (aa (aG EJ (aG Ij (ae rfl) aB) (ae rfl)) (aa (ae rfl) aj))))
    aD) aD)
    (ah (aN rfl rfl (aG EJ (aG Ij (ae rfl) aB) (aG vh (ae rfl) aB)))
    (ah (bU (aX fT (ae rfl) aB) (ah (aP (bC (aa (ae rfl) (aa (ae rfl) aj))))
    aD) aD)
    aD)))))))
    (ah dc
    aD)))
 refine hv (p := ∀{w:World}{cb:Bool},aE (CF heap_1_39 view_1_40 w) cb 1 178 eJ) ?_ fun CQ=>?_
 ·intro w cb
  refine' aJ (ps:=[Str.ofString "self",Str.ofString "child",Str.ofString "rowid",Str.ofString "size",Str.ofString "local",Str.ofString "overflow"]) (ls:=[]) ?ho ?hcd ?hbind ?cL ?hnd ?hdc ?hbody ?hk ?hco ?hgen ?hcc
  case ho=>dsimp only [CF];k_dflt k_is
  case hcd=>dsimp only [CF];k_dflt k_is
  case hbind=>exact fun s=>YT fun _ _ _ _ _ _=>BindsTo.of_eq rfl
  case cL=>decide
  case hnd=>decide
  case hdc=>decide
  case hk=>rfl
  case hco=>rfl
  case hgen=>rfl
  case hcc=>exact fun c h=>nomatch (show(none:Option Addr)=some c from h)
  case hbody=>exact(ah (cf (k := .child) rfl ya rfl (ae rfl))
    (ah (cf (k := .rowid) rfl yc rfl (ae rfl))
    (ah (cf (k := .size) rfl AL rfl (ae rfl))
    (ah (cf (k := .jC) rfl yb rfl (ae rfl))
    (ah (cf (k := .overflow) rfl sX rfl (ae rfl))
    aD)))))
 refine hv (p := ∀{w:World}{cb:Bool},bz (CF heap_1_39 view_1_40 w) cb 2 (.ref 195) (dg 195 eJ)) ?_ fun Gj=>?_
 ·intro w cb
  exact lG (by dsimp only [CF];k_dflt k_is) (by dsimp only [CF];k_dflt k_is) (by dsimp only [CF];k_dflt k_is) CQ
 refine hv (p := ∀{w:World}{cb:Bool},aE (CF heap_1_39 view_1_40 w) cb 3 206 iZ) ?_ fun CR=>?_
 ·intro w cb
  refine' aJ (ps:=[Str.ofString "octets",Str.ofString "at",Str.ofString "kind",Str.ofString "usable"]) (ls:=[Str.ofString "child",Str.ofString "rowid",Str.ofString "overflow",Str.ofString "number",Str.ofString "size",Str.ofString "many",Str.ofString "local"]) ?ho ?hcd ?hbind ?cL ?hnd ?hdc ?hbody ?hk ?hco ?hgen ?hcc
  case ho=>dsimp only [CF];k_dflt k_is
  case hcd=>dsimp only [CF];k_dflt k_is
  case hbind=>exact fun s=>GO fun _ _ _ _=>BindsTo.of_eq rfl
  case cL=>decide
  case hnd=>decide
  case hdc=>decide
  case hk=>rfl
  case hco=>rfl
  case hgen=>rfl
  case hcc=>exact fun c h=>nomatch (show(none:Option Addr)=some c from h)
  case hbody=>exact(ah (aN rfl rfl aB)
    (ah (aN rfl rfl zy)
    (ah (aN rfl rfl aB)
    (ah (bU (kU (cj (az (eB rfl) mS (aE.call (aE.up (oN) (by decide))) (aa (ae rfl) aj)))) (ah (bU (aX kg (aG aU (ae rfl) aB) (az (cu rfl) bI bg (aa (ae rfl) aj))) (ah dc
    aD) aD)
    (ah (aN rfl rfl (az (oG rfl) mR (aE.call (aE.up (oM) (by decide))) (aa (ae rfl) (aa (ae rfl) aj))))
    (ah (aN rfl rfl (aG aU (ae rfl) aB))
    aD))) aD)
    (ah (bU (aX eV (ae rfl) (jp rfl)) (ah (gU (bG.cons ⟨rfl,.inl rfl⟩ (bG.cons ⟨rfl,.inl rfl⟩ bG.nil)) (az (fP rfl) eZ (aE.call (aE.up (fS) (by decide))) (aa (ae rfl) (aa (ae rfl) aj))))
    (ah (aP (bC (aa (az (Lq rfl) Gi (bz.up Gj (by decide)) (aa (ae rfl) (aa (az (rO rfl) oH (aE.call (aE.up (rW) (by decide))) (aa (ae rfl) aj)) (aa aB (aa cT (aa aB aj)))))) (aa (ae rfl) aj))))
    aD)) aD)
    (ah (gU (bG.cons ⟨rfl,.inl rfl⟩ (bG.cons ⟨rfl,.inl rfl⟩ bG.nil)) (az (fP rfl) eZ (aE.call (aE.up (fS) (by decide))) (aa (ae rfl) (aa (ae rfl) aj))))
    (ah (bU (aX eV (ae rfl) (kK rfl)) (ah (gU (bG.cons ⟨rfl,.inl rfl⟩ (bG.cons ⟨rfl,.inl rfl⟩ bG.nil)) (az (fP rfl) eZ (aE.call (aE.up (fS) (by decide))) (aa (ae rfl) (aa (ae rfl) aj))))
    (ah (aN rfl rfl (az (rO rfl) oH (aE.call (aE.up (rW) (by decide))) (aa (ae rfl) aj)))
    aD)) aD)
    (ah (aN rfl rfl (az (AB rfl) xV (aE.call (aE.up (AQ) (by decide))) (aa (ae rfl) (aa (ae rfl) (aa (ae rfl) aj)))))
    (ah (aN rfl rfl (az (df rfl) cF cA (aa (lW (ae rfl) (gm (ae rfl)) (gm (aG aU (ae rfl) (ae rfl)))) aj)))
    (ah (aN rfl rfl (aG aU (ae rfl) (ae rfl)))
    (ah (bU (aX fT (ae rfl) (ae rfl)) (ah (bU (aX kg (aG aU (ae rfl) aB) (az (cu rfl) bI bg (aa (ae rfl) aj))) (ah dc
    aD) aD)
    (ah (aN rfl rfl (az (oG rfl) mR (aE.call (aE.up (oM) (by decide))) (aa (ae rfl) (aa (ae rfl) aj))))
    (ah (aN rfl rfl (aG aU (ae rfl) aB))
    aD))) aD)
    (ah (bU (iP (aX kg (ae rfl) (az (cu rfl) bI bg (aa (ae rfl) aj))) (iP (aX fT (az (cu rfl) bI bg (aa (ae rfl) aj)) (ae rfl)) eK)) (ah dc
    aD) aD)
    (ah (aP (bC (aa (az (Lq rfl) Gi (bz.up Gj (by decide)) (aa (ae rfl) (aa (ae rfl) (aa (ae rfl) (aa (ae rfl) (aa (ae rfl) aj)))))) (aa (ae rfl) aj))))
    aD)))))))))))))
 refine hv (p := ∀{w:World}{cb:Bool},aE (CF heap_1_39 view_1_40 w) cb 1 227 dI) ?_ fun kN=>?_
 ·intro w cb
  refine' aJ (ps:=[Str.ofString "self"]) (ls:=[Str.ofString "kind"]) ?ho ?hcd ?hbind ?cL ?hnd ?hdc ?hbody ?hk ?hco ?hgen ?hcc
  case ho=>dsimp only [CF];k_dflt k_is
  case hcd=>dsimp only [CF];k_dflt k_is
  case hbind=>exact fun s=>hb1 fun _=>BindsTo.of_eq rfl
  case cL=>decide
  case hnd=>decide
  case hdc=>decide
  case hk=>rfl
  case hco=>rfl
  case hgen=>rfl
  case hcc=>exact fun c h=>nomatch (show(none:Option Addr)=some c from h)
  case hbody=>exact(ah (aN rfl rfl (br (be (k := .data) rfl dm (ae rfl)) (be (k := .base) rfl fR (ae rfl))))
    (ah (bU (Lr rfl (ae rfl)) (ah dc
    aD) aD)
    (ah (aP (ae rfl))
    aD)))
 refine hv (p := ∀{w:World}{cb:Bool},aE (CF heap_1_39 view_1_40 w) cb 2 234 bP) ?_ fun iq=>?_
 ·intro w cb
  refine' aJ (ps:=[Str.ofString "self"]) (ls:=[]) ?ho ?hcd ?hbind ?cL ?hnd ?hdc ?hbody ?hk ?hco ?hgen ?hcc
  case ho=>dsimp only [CF];k_dflt k_is
  case hcd=>dsimp only [CF];k_dflt k_is
  case hbind=>exact fun s=>hb1 fun _=>BindsTo.of_eq rfl
  case cL=>decide
  case hnd=>decide
  case hdc=>decide
  case hk=>rfl
  case hco=>rfl
  case hgen=>rfl
  case hcc=>exact fun c h=>nomatch (show(none:Option Addr)=some c from h)
  case hbody=>exact(ah (aP (az (eB rfl) mS (aE.call (aE.up (oN) (by decide))) (aa (bh (nm:=(some .kind)) jt uL jr (aE.call (aE.up (kN) (by decide))) (ae rfl) aj) aj)))
    aD)
 refine hv (p := ∀{w:World}{cb:Bool},aE (CF heap_1_39 view_1_40 w) cb 2 241 dB) ?_ fun n9=>?_
 ·intro w cb
  refine' aJ (ps:=[Str.ofString "self"]) (ls:=[]) ?ho ?hcd ?hbind ?cL ?hnd ?hdc ?hbody ?hk ?hco ?hgen ?hcc
  case ho=>dsimp only [CF];k_dflt k_is
  case hcd=>dsimp only [CF];k_dflt k_is
  case hbind=>exact fun s=>hb1 fun _=>BindsTo.of_eq rfl
  case cL=>decide
  case hnd=>decide
  case hdc=>decide
  case hk=>rfl
  case hco=>rfl
  case hgen=>rfl
  case hcc=>exact fun c h=>nomatch (show(none:Option Addr)=some c from h)
  case hbody=>exact(ah (aP (az (oW rfl) Eu (aE.call (aE.up (HD) (by decide))) (aa (bh (nm:=(some .kind)) jt uL jr (aE.call (aE.up (kN) (by decide))) (ae rfl) aj) aj)))
    aD)
 refine hv (p := ∀{w:World}{cb:Bool},aE (CF heap_1_39 view_1_40 w) cb 2 248 bu) ?_ fun ee=>?_
 ·intro w cb
  refine' aJ (ps:=[Str.ofString "self"]) (ls:=[]) ?ho ?hcd ?hbind ?cL ?hnd ?hdc ?hbody ?hk ?hco ?hgen ?hcc
  case ho=>dsimp only [CF];k_dflt k_is
  case hcd=>dsimp only [CF];k_dflt k_is
  case hbind=>exact fun s=>hb1 fun _=>BindsTo.of_eq rfl
  case cL=>decide
  case hnd=>decide
  case hdc=>decide
  case hk=>rfl
  case hco=>rfl
  case hgen=>rfl
  case hcc=>exact fun c h=>nomatch (show(none:Option Addr)=some c from h)
  case hbody=>exact(ah (aP (az (rP rfl) oJ (aE.call (aE.up (rX) (by decide))) (aa (be (k := .data) rfl dm (ae rfl)) (aa (aG aU (be (k := .base) rfl fR (ae rfl)) aB) aj))))
    aD)
 refine hv (p := ∀{w:World}{cb:Bool},aE (CF heap_1_39 view_1_40 w) cb 1 255 gn) ?_ fun uo=>?_
 ·intro w cb
  refine' aJ (ps:=[Str.ofString "self"]) (ls:=[]) ?ho ?hcd ?hbind ?cL ?hnd ?hdc ?hbody ?hk ?hco ?hgen ?hcc
  case ho=>dsimp only [CF];k_dflt k_is
  case hcd=>dsimp only [CF];k_dflt k_is
  case hbind=>exact fun s=>hb1 fun _=>BindsTo.of_eq rfl
  case cL=>decide
  case hnd=>decide
  case hdc=>decide
  case hk=>rfl
  case hco=>rfl
  case hgen=>rfl
  case hcc=>exact fun c h=>nomatch (show(none:Option Addr)=some c from h)
  case hbody=>exact(ah (bU (aX kg (br (be (k := .data) rfl dm (ae rfl)) (be (k := .base) rfl fR (ae rfl))) (jp rfl)) (ah (aP (aG aU (be (k := .base) rfl fR (ae rfl)) aB))
    aD) aD)
    (ah (aP (aG aU (be (k := .base) rfl fR (ae rfl)) aB))
    aD))
 refine hv (p := ∀{w:World}{cb:Bool},aE (CF heap_1_39 view_1_40 w) cb 3 276 jl) ?_ fun AR=>?_
 ·intro w cb
  refine' aJ (ps:=[Str.ofString "self"]) (ls:=[]) ?ho ?hcd ?hbind ?cL ?hnd ?hdc ?hbody ?hk ?hco ?hgen ?hcc
  case ho=>dsimp only [CF];k_dflt k_is
  case hcd=>dsimp only [CF];k_dflt k_is
  case hbind=>exact fun s=>hb1 fun _=>BindsTo.of_eq rfl
  case cL=>decide
  case hnd=>decide
  case hdc=>decide
  case hk=>rfl
  case hco=>rfl
  case hgen=>rfl
  case hcc=>exact fun c h=>nomatch (show(none:Option Addr)=some c from h)
  case hbody=>exact(ah (aP (az (oG rfl) mR (aE.call (aE.up (oM) (by decide))) (aa (be (k := .data) rfl dm (ae rfl)) (aa (aG aU (be (k := .base) rfl fR (ae rfl)) aB) aj))))
    aD)
 refine hv (p := ∀{w:World}{cb:Bool},aE (CF heap_1_39 view_1_40 w) cb 3 290 dZ) ?_ fun mW=>?_
 ·intro w cb
  refine' aJ (ps:=[Str.ofString "self",Str.ofString "i"]) (ls:=[Str.ofString "first",Str.ofString "at"]) ?ho ?hcd ?hbind ?cL ?hnd ?hdc ?hbody ?hk ?hco ?hgen ?hcc
  case ho=>dsimp only [CF];k_dflt k_is
  case hcd=>dsimp only [CF];k_dflt k_is
  case hbind=>exact fun s=>qf fun _ _=>BindsTo.of_eq rfl
  case cL=>decide
  case hnd=>decide
  case hdc=>decide
  case hk=>rfl
  case hco=>rfl
  case hgen=>rfl
  case hcc=>exact fun c h=>nomatch (show(none:Option Addr)=some c from h)
  case hbody=>exact(ah (bU (iP (aX fT (ae rfl) aB) (iP (aX Bb (ae rfl) (bh (nm:=none) dM i6 dK (aE.call (aE.up (ee) (by decide))) (ae rfl) aj)) eK)) (ah dc
    aD) aD)
    (ah (aN rfl rfl (bh (nm:=none) sU Cz sS (aE.call (aE.up (uo) (by decide))) (ae rfl) aj))
    (ah (aN rfl rfl (az (rP rfl) oJ (aE.call (aE.up (rX) (by decide))) (aa (be (k := .data) rfl dm (ae rfl)) (aa (aG aU (ae rfl) (aG jE aB (ae rfl))) aj))))
    (ah (bU (iP (aX fT (ae rfl) (aG aU (ae rfl) (aG jE aB (bh (nm:=none) dM i6 dK (aE.call (aE.up (ee) (by decide))) (ae rfl) aj)))) (iP (aX kg (aG aU (ae rfl) (mQ rfl)) (be (k := .eg) rfl nZ (ae rfl))) eK)) (ah dc
    aD) aD)
    (ah (aP (ae rfl))
    aD)))))
 refine hv (p := ∀{w:World}{cb:Bool},aE (CF heap_1_39 view_1_40 w) cb 4 297 i3) ?_ fun CS=>?_
 ·intro w cb
  refine' aJ (ps:=[Str.ofString "self",Str.ofString "i"]) (ls:=[Str.ofString "cell",Str.ofString "end"]) ?ho ?hcd ?hbind ?cL ?hnd ?hdc ?hbody ?hk ?hco ?hgen ?hcc
  case ho=>dsimp only [CF];k_dflt k_is
  case hcd=>dsimp only [CF];k_dflt k_is
  case hbind=>exact fun s=>qf fun _ _=>BindsTo.of_eq rfl
  case cL=>decide
  case hnd=>decide
  case hdc=>decide
  case hk=>rfl
  case hco=>rfl
  case hgen=>rfl
  case hcc=>exact fun c h=>nomatch (show(none:Option Addr)=some c from h)
  case hbody=>exact(ah (gU (bG.cons ⟨rfl,.inl rfl⟩ (bG.cons ⟨rfl,.inl rfl⟩ bG.nil)) (az (CG rfl) AG (aE.call (aE.up (CR) (by decide))) (aa (be (k := .data) rfl dm (ae rfl)) (aa (bh (nm:=none) lq wV lj (aE.call (aE.up (mW) (by decide))) (ae rfl) (aa (ae rfl) aj)) (aa (bh (nm:=(some .kind)) jt uL jr (aE.call (aE.up (kN) (by decide))) (ae rfl) aj) (aa (be (k := .eg) rfl nZ (ae rfl)) aj))))))
    (ah (aP (ae rfl))
    aD))
 refine hv (p := ∀{w:World}{cb:Bool},aE (CF heap_1_39 view_1_40 w) cb 4 316 di) ?_ fun mX=>?_
 ·intro w cb
  refine' aJ (ps:=[Str.ofString "self",Str.ofString "i"]) (ls:=[Str.ofString "at",Str.ofString "number",Str.ofString "size"]) ?ho ?hcd ?hbind ?cL ?hnd ?hdc ?hbody ?hk ?hco ?hgen ?hcc
  case ho=>dsimp only [CF];k_dflt k_is
  case hcd=>dsimp only [CF];k_dflt k_is
  case hbind=>exact fun s=>qf fun _ _=>BindsTo.of_eq rfl
  case cL=>decide
  case hnd=>decide
  case hdc=>decide
  case hk=>rfl
  case hco=>rfl
  case hgen=>rfl
  case hcc=>exact fun c h=>nomatch (show(none:Option Addr)=some c from h)
  case hbody=>exact(ah (aN rfl rfl (bh (nm:=none) lq wV lj (aE.call (aE.up (mW) (by decide))) (ae rfl) (aa (ae rfl) aj)))
    (ah (bU (aX eV (bh (nm:=(some .kind)) jt uL jr (aE.call (aE.up (kN) (by decide))) (ae rfl) aj) (jp rfl)) (ah (gU (bG.cons ⟨rfl,.inl rfl⟩ (bG.cons ⟨rfl,.inl rfl⟩ bG.nil)) (az (fP rfl) eZ (aE.call (aE.up (fS) (by decide))) (aa (be (k := .data) rfl dm (ae rfl)) (aa (aG aU (ae rfl) aB) aj))))
    (ah (aP (az (rO rfl) oH (aE.call (aE.up (rW) (by decide))) (aa (ae rfl) aj)))
    aD)) aD)
    (ah (gU (bG.cons ⟨rfl,.inl rfl⟩ (bG.cons ⟨rfl,.inl rfl⟩ bG.nil)) (az (fP rfl) eZ (aE.call (aE.up (fS) (by decide))) (aa (be (k := .data) rfl dm (ae rfl)) (aa (ae rfl) aj))))
    (ah (gU (bG.cons ⟨rfl,.inl rfl⟩ (bG.cons ⟨rfl,.inl rfl⟩ bG.nil)) (az (fP rfl) eZ (aE.call (aE.up (fS) (by decide))) (aa (be (k := .data) rfl dm (ae rfl)) (aa (ae rfl) aj))))
    (ah (aP (az (rO rfl) oH (aE.call (aE.up (rW) (by decide))) (aa (ae rfl) aj)))
    aD)))))
 refine hv (p := ∀{w:World}{cb:Bool},aE (CF heap_1_39 view_1_40 w) cb 4 323 bB) ?_ fun mY=>?_
 ·intro w cb
  refine' aJ (ps:=[Str.ofString "self",Str.ofString "i"]) (ls:=[]) ?ho ?hcd ?hbind ?cL ?hnd ?hdc ?hbody ?hk ?hco ?hgen ?hcc
  case ho=>dsimp only [CF];k_dflt k_is
  case hcd=>dsimp only [CF];k_dflt k_is
  case hbind=>exact fun s=>qf fun _ _=>BindsTo.of_eq rfl
  case cL=>decide
  case hnd=>decide
  case hdc=>decide
  case hk=>rfl
  case hco=>rfl
  case hgen=>rfl
  case hcc=>exact fun c h=>nomatch (show(none:Option Addr)=some c from h)
  case hbody=>exact(ah (bU (aX eV (ae rfl) (bh (nm:=none) dM i6 dK (aE.call (aE.up (ee) (by decide))) (ae rfl) aj)) (ah (aP (bh (nm:=(some .right)) xY Lk xX (aE.call (aE.up (AR) (by decide))) (ae rfl) aj))
    aD) aD)
    (ah (aP (az (oG rfl) mR (aE.call (aE.up (oM) (by decide))) (aa (be (k := .data) rfl dm (ae rfl)) (aa (bh (nm:=none) lq wV lj (aE.call (aE.up (mW) (by decide))) (ae rfl) (aa (ae rfl) aj)) aj))))
    aD))
 refine hv (p := ∀{w:World},aE (CF heap_1_39 view_1_40 w) true 1 220 i4) ?_ fun CT=>?_
 ·intro w
  refine' aJ (ps:=[Str.ofString "self",Str.ofString "octets",Str.ofString "page",Str.ofString "usable"]) (ls:=[]) ?ho ?hcd ?hbind ?cL ?hnd ?hdc ?hbody ?hk ?hco ?hgen ?hcc
  case ho=>dsimp only [CF];k_dflt k_is
  case hcd=>dsimp only [CF];k_dflt k_is
  case hbind=>exact fun s=>GO fun _ _ _ _=>BindsTo.of_eq rfl
  case cL=>decide
  case hnd=>decide
  case hdc=>decide
  case hk=>rfl
  case hco=>rfl
  case hgen=>rfl
  case hcc=>exact fun c h=>nomatch (show(none:Option Addr)=some c from h)
  case hbody=>exact(ah (cf (k := .data) rfl AM rfl (az (rM rfl) cF EW (aa (ae rfl) aj)))
    (ah (cf (k := .A8) rfl AN rfl (ae rfl))
    (ah (cf (k := .eg) rfl w9 rfl (ae rfl))
    (ah (cf (k := .base) rfl rV rfl aB)
    (ah (bU (aX eV (ae rfl) aB) (ah (cf (k := .base) rfl rV rfl (pB rfl))
    aD) aD)
    aD)))))
 refine hv (p := ∀{w:World}{cb:Bool},aE (CF heap_1_39 view_1_40 w) cb 1 697 eF) ?_ fun s6=>?_
 ·intro w cb
  refine' aJ (ps:=[Str.ofString "self",Str.ofString "page_size"]) (ls:=[]) ?ho ?hcd ?hbind ?cL ?hnd ?hdc ?hbody ?hk ?hco ?hgen ?hcc
  case ho=>dsimp only [CF];k_dflt k_is
  case hcd=>dsimp only [CF];k_dflt k_is
  case hbind=>exact fun s=>qf fun _ _=>BindsTo.of_eq rfl
  case cL=>decide
  case hnd=>decide
  case hdc=>decide
  case hk=>rfl
  case hco=>rfl
  case hgen=>rfl
  case hcc=>exact fun c h=>nomatch (show(none:Option Addr)=some c from h)
  case hbody=>exact(ah (cf (k := .bA) rfl mV rfl (ae rfl))
    (ah (cf (k := .ay) rfl qa rfl (aO aj))
    (ah (cf (k := .m9) rfl qb rfl (aO aj))
    aD)))
 refine hv (p := ∀{w:World}{cb:Bool},aE (CF heap_1_39 view_1_40 w) cb 1 704 dG) ?_ fun mZ=>?_
 ·intro w cb
  refine' aJ (ps:=[Str.ofString "self"]) (ls:=[]) ?ho ?hcd ?hbind ?cL ?hnd ?hdc ?hbody ?hk ?hco ?hgen ?hcc
  case ho=>dsimp only [CF];k_dflt k_is
  case hcd=>dsimp only [CF];k_dflt k_is
  case hbind=>exact fun s=>hb1 fun _=>BindsTo.of_eq rfl
  case cL=>decide
  case hnd=>decide
  case hdc=>decide
  case hk=>rfl
  case hco=>rfl
  case hgen=>rfl
  case hcc=>exact fun c h=>nomatch (show(none:Option Addr)=some c from h)
  case hbody=>exact(ah (aP (az (cu rfl) bI bg (aa (be (k := .ay) rfl bF (ae rfl)) aj)))
    aD)
 refine hv (p := ∀{w:World}{cb:Bool},aE (CF heap_1_39 view_1_40 w) cb 1 711 cM) ?_ fun iB=>?_
 ·intro w cb
  refine' aJ (ps:=[Str.ofString "self",Str.ofString "page"]) (ls:=[]) ?ho ?hcd ?hbind ?cL ?hnd ?hdc ?hbody ?hk ?hco ?hgen ?hcc
  case ho=>dsimp only [CF];k_dflt k_is
  case hcd=>dsimp only [CF];k_dflt k_is
  case hbind=>exact fun s=>qf fun _ _=>BindsTo.of_eq rfl
  case cL=>decide
  case hnd=>decide
  case hdc=>decide
  case hk=>rfl
  case hco=>rfl
  case hgen=>rfl
  case hcc=>exact fun c h=>nomatch (show(none:Option Addr)=some c from h)
  case hbody=>exact(ah (bU (iP (aX fT (ae rfl) aB) (iP (aX kg (ae rfl) (az (cu rfl) bI bg (aa (be (k := .ay) rfl bF (ae rfl)) aj))) eK)) (ah dc
    aD) aD)
    (ah (aP (br (be (k := .ay) rfl bF (ae rfl)) (aG fb (ae rfl) aB)))
    aD))
 refine hv (p := ∀{w:World}{cb:Bool},aE (CF heap_1_39 view_1_40 w) cb 1 718 dH) ?_ fun m3=>?_
 ·intro w cb
  refine' aJ (ps:=[Str.ofString "self",Str.ofString "page",Str.ofString "octets"]) (ls:=[]) ?ho ?hcd ?hbind ?cL ?hnd ?hdc ?hbody ?hk ?hco ?hgen ?hcc
  case ho=>dsimp only [CF];k_dflt k_is
  case hcd=>dsimp only [CF];k_dflt k_is
  case hbind=>exact fun s=>BB fun _ _ _=>BindsTo.of_eq rfl
  case cL=>decide
  case hnd=>decide
  case hdc=>decide
  case hk=>rfl
  case hco=>rfl
  case hgen=>rfl
  case hcc=>exact fun c h=>nomatch (show(none:Option Addr)=some c from h)
  case hbody=>exact(ah (bU (iP (aX qq (az (cu rfl) bI bg (aa (ae rfl) aj)) (be (k := .bA) rfl cX (ae rfl))) (iP (aX fT (ae rfl) aB) (iP (aX kg (ae rfl) (az (cu rfl) bI bg (aa (be (k := .ay) rfl bF (ae rfl)) aj))) eK))) (ah dc
    aD) aD)
    (ah (jI (be (k := .ay) rfl bF (ae rfl)) (aG fb (ae rfl) aB) (az (df rfl) cF cA (aa (ae rfl) aj)))
    aD))
 refine hv (p := ∀{w:World}{cb:Bool},aE (CF heap_1_39 view_1_40 w) cb 1 725 dQ) ?_ fun qc=>?_
 ·intro w cb
  refine' aJ (ps:=[Str.ofString "self"]) (ls:=[]) ?ho ?hcd ?hbind ?cL ?hnd ?hdc ?hbody ?hk ?hco ?hgen ?hcc
  case ho=>dsimp only [CF];k_dflt k_is
  case hcd=>dsimp only [CF];k_dflt k_is
  case hbind=>exact fun s=>hb1 fun _=>BindsTo.of_eq rfl
  case cL=>decide
  case hnd=>decide
  case hdc=>decide
  case hk=>rfl
  case hco=>rfl
  case hgen=>rfl
  case hcc=>exact fun c h=>nomatch (show(none:Option Addr)=some c from h)
  case hbody=>exact(ah (bY (cB cQ b9 (be (k := .ay) rfl bF (ae rfl)) (aa (az (df rfl) cF cA (aa (be (k := .bA) rfl cX (ae rfl)) aj)) aj)))
    (ah (aP (az (cu rfl) bI bg (aa (be (k := .ay) rfl bF (ae rfl)) aj)))
    aD))
 refine hv (p := ∀{w:World}{cb:Bool},aE (CF heap_1_39 view_1_40 w) cb 1 482 cU) ?_ fun AS=>?_
 ·intro w cb
  refine' aJ (ps:=[Str.ofString "self",Str.ofString "pager",Str.ofString "free"]) (ls:=[]) ?ho ?hcd ?hbind ?cL ?hnd ?hdc ?hbody ?hk ?hco ?hgen ?hcc
  case ho=>dsimp only [CF];k_dflt k_is
  case hcd=>dsimp only [CF];k_dflt k_is
  case hbind=>exact fun s=>BB fun _ _ _=>BindsTo.of_eq rfl
  case cL=>decide
  case hnd=>decide
  case hdc=>decide
  case hk=>rfl
  case hco=>rfl
  case hgen=>rfl
  case hcc=>exact fun c h=>nomatch (show(none:Option Addr)=some c from h)
  case hbody=>exact(ah (cf (k := .gQ) rfl xd rfl (ae rfl))
    (ah (cf (k := .free) rfl yd rfl (ae rfl))
    (ah (cf (k := .changes) rfl sZ rfl IF)
    aD)))
 refine hv (p := ∀{w:World}{cb:Bool},aE (CF heap_1_39 view_1_40 w) cb 1 489 gX) ?_ fun xe=>?_
 ·intro w cb
  refine' aJ (ps:=[Str.ofString "self"]) (ls:=[]) ?ho ?hcd ?hbind ?cL ?hnd ?hdc ?hbody ?hk ?hco ?hgen ?hcc
  case ho=>dsimp only [CF];k_dflt k_is
  case hcd=>dsimp only [CF];k_dflt k_is
  case hbind=>exact fun s=>hb1 fun _=>BindsTo.of_eq rfl
  case cL=>decide
  case hnd=>decide
  case hdc=>decide
  case hk=>rfl
  case hco=>rfl
  case hgen=>rfl
  case hcc=>exact fun c h=>nomatch (show(none:Option Addr)=some c from h)
  case hbody=>exact(ah (aP (be (k := .bA) rfl cX (be (k := .gQ) rfl jW (ae rfl))))
    aD)
 refine hv (p := ∀{w:World},bz (CF heap_1_39 view_1_40 w) true 2 (.ref 438) (dg 438 i4)) ?_ fun NO=>?_
 ·intro w
  exact lG (by dsimp only [CF];k_dflt k_is) (by dsimp only [CF];k_dflt k_is) (by dsimp only [CF];k_dflt k_is) CT
 refine hv (p := ∀{w:World},aE (CF heap_1_39 view_1_40 w) true 3 496 bV) ?_ fun iu=>?_
 ·intro w
  refine' aJ (ps:=[Str.ofString "self",Str.ofString "page"]) (ls:=[]) ?ho ?hcd ?hbind ?cL ?hnd ?hdc ?hbody ?hk ?hco ?hgen ?hcc
  case ho=>dsimp only [CF];k_dflt k_is
  case hcd=>dsimp only [CF];k_dflt k_is
  case hbind=>exact fun s=>qf fun _ _=>BindsTo.of_eq rfl
  case cL=>decide
  case hnd=>decide
  case hdc=>decide
  case hk=>rfl
  case hco=>rfl
  case hgen=>rfl
  case hcc=>exact fun c h=>nomatch (show(none:Option Addr)=some c from h)
  case hbody=>exact(ah (bU (iP (aX fT (ae rfl) aB) (iP (aX kg (ae rfl) (bh (nm:=none) lP xN lO (aE.call (aE.up (mZ) (by decide))) (be (k := .gQ) rfl jW (ae rfl)) aj)) eK)) (ah dc
    aD) aD)
    (ah (aP (az (Ra rfl) NN (bz.up NO (by decide)) (aa (bh (nm:=none) ip rL ii (aE.call (aE.up (iB) (by decide))) (be (k := .gQ) rfl jW (ae rfl)) (aa (ae rfl) aj)) (aa (ae rfl) (aa (bh (nm:=(some .eg)) uh HB ug (aE.call (aE.up (xe) (by decide))) (ae rfl) aj) aj)))))
    aD))
 refine hv (p := ∀{w:World}{cb:Bool},aE (CF heap_1_39 view_1_40 w) cb 1 524 ck) ?_ fun jX=>?_
 ·intro w cb
  refine' aJ (ps:=[Str.ofString "self",Str.ofString "path"]) (ls:=[]) ?ho ?hcd ?hbind ?cL ?hnd ?hdc ?hbody ?hk ?hco ?hgen ?hcc
  case ho=>dsimp only [CF];k_dflt k_is
  case hcd=>dsimp only [CF];k_dflt k_is
  case hbind=>exact fun s=>qf fun _ _=>BindsTo.of_eq rfl
  case cL=>decide
  case hnd=>decide
  case hdc=>decide
  case hk=>rfl
  case hco=>rfl
  case hgen=>rfl
  case hcc=>exact fun c h=>nomatch (show(none:Option Addr)=some c from h)
  case hbody=>exact(ah (bU (aX kg (az (cu rfl) bI bg (aa (ae rfl) aj)) (Ax rfl)) (ah dc
    aD) aD)
    aD)
 refine hv (p := ∀{w:World}{cb:Bool},aE (CF heap_1_39 view_1_40 w) cb 1 538 gY) ?_ fun AU=>?_
 ·intro w cb
  refine' aJ (ps:=[Str.ofString "trees",Str.ofString "cell"]) (ls:=[]) ?ho ?hcd ?hbind ?cL ?hnd ?hdc ?hbody ?hk ?hco ?hgen ?hcc
  case ho=>dsimp only [CF];k_dflt k_is
  case hcd=>dsimp only [CF];k_dflt k_is
  case hbind=>exact fun s=>qf fun _ _=>BindsTo.of_eq rfl
  case cL=>decide
  case hnd=>decide
  case hdc=>decide
  case hk=>rfl
  case hco=>rfl
  case hgen=>rfl
  case hcc=>exact fun c h=>nomatch (show(none:Option Addr)=some c from h)
  case hbody=>exact(ah (bU (aX eV (be (k := .overflow) rfl sV (ae rfl)) aB) (ah (aP (be (k := .jC) rfl xZ (ae rfl)))
    aD) aD)
    (ah dc
    aD))
 refine hv (p := ∀{w:World},aE (CF heap_1_39 view_1_40 w) true 5 545 fF) ?_ fun qd=>?_
 ·intro w
  refine' aJ (ps:=[Str.ofString "trees",Str.ofString "root",Str.ofString "is_last"]) (ls:=[Str.ofString "path",Str.ofString "page",Str.ofString "node",Str.ofString "index"]) ?ho ?hcd ?hbind ?cL ?hnd ?hdc ?hbody ?hk ?hco ?hgen ?hcc
  case ho=>dsimp only [CF];k_dflt k_is
  case hcd=>dsimp only [CF];k_dflt k_is
  case hbind=>exact fun s=>BB fun _ _ _=>BindsTo.of_eq rfl
  case cL=>decide
  case hnd=>decide
  case hdc=>decide
  case hk=>rfl
  case hco=>rfl
  case hgen=>rfl
  case hcc=>exact fun c h=>nomatch (show(none:Option Addr)=some c from h)
  case hbody=>exact(ah (aN rfl rfl (aO aj))
    (ah (aN rfl rfl (ae rfl))
    (ah (lE 4 (cj cO) (ah (aN rfl rfl (bh (nm:=none) gj rK gi (aE.call (aE.up (iu) (by decide))) (ae rfl) (aa (ae rfl) aj)))
    (ah (aN rfl rfl aB)
    (ah (bU (cj (ae rfl)) (ah (aN rfl rfl (aG fb (bh (nm:=none) dM i6 dK (aE.call (aE.up (ee) (by decide))) (ae rfl) aj) (az (jc rfl) cF eW (aa (bh (nm:=none) gw mP gu (aE.call (aE.up (iq) (by decide))) (ae rfl) aj) aj))))
    aD) aD)
    (ah (bY (cB cQ b9 (ae rfl) (aa (bC (aa (ae rfl) (aa (ae rfl) aj))) aj)))
    (ah (bY (bh (nm:=none) je sO jd (aE.call (aE.up (jX) (by decide))) (ae rfl) (aa (ae rfl) aj)))
    (ah (bU (cj (bh (nm:=none) gw mP gu (aE.call (aE.up (iq) (by decide))) (ae rfl) aj)) (ah (aP (ae rfl))
    aD) aD)
    (ah (aN rfl rfl (bh (nm:=(some .child)) li wR lg (aE.call (aE.up (mY) (by decide))) (ae rfl) (aa (ae rfl) aj)))
    aD))))))))
    aD)))
 refine hv (p := ∀{w:World}{cb:Bool},aE (CF heap_1_39 view_1_40 w) cb 1 587 d7) ?_ fun rZ=>?_
 ·intro w cb
  refine' aJ (ps:=[Str.ofString "self",Str.ofString "octets",Str.ofString "key"]) (ls:=[]) ?ho ?hcd ?hbind ?cL ?hnd ?hdc ?hbody ?hk ?hco ?hgen ?hcc
  case ho=>dsimp only [CF];k_dflt k_is
  case hcd=>dsimp only [CF];k_dflt k_is
  case hbind=>exact fun s=>BB fun _ _ _=>BindsTo.of_eq rfl
  case cL=>decide
  case hnd=>decide
  case hdc=>decide
  case hk=>rfl
  case hco=>rfl
  case hgen=>rfl
  case hcc=>exact fun c h=>nomatch (show(none:Option Addr)=some c from h)
  case hbody=>exact(ah (aP (aG fb (az (jc rfl) cF eW (aa (gB kg (ae rfl) (ae rfl)) aj)) (az (jc rfl) cF eW (aa (gB fT (ae rfl) (ae rfl)) aj))))
    aD)
 refine hv (p := ∀{w:World}{cb:Bool},aE (CF heap_1_39 view_1_40 w) cb 5 552 jN) ?_ fun Ey=>?_
 ·intro w cb
  refine' aJ (ps:=[Str.ofString "trees",Str.ofString "node",Str.ofString "key",Str.ofString "order"]) (ls:=[Str.ofString "low",Str.ofString "high",Str.ofString "is_equal",Str.ofString "middle",Str.ofString "sign"]) ?ho ?hcd ?hbind ?cL ?hnd ?hdc ?hbody ?hk ?hco ?hgen ?hcc
  case ho=>dsimp only [CF];k_dflt k_is
  case hcd=>dsimp only [CF];k_dflt k_is
  case hbind=>exact fun s=>GO fun _ _ _ _=>BindsTo.of_eq rfl
  case cL=>decide
  case hnd=>decide
  case hdc=>decide
  case hk=>rfl
  case hco=>rfl
  case hgen=>rfl
  case hcc=>exact fun c h=>nomatch (show(none:Option Addr)=some c from h)
  case hbody=>exact(ah (aN rfl rfl aB)
    (ah (aN rfl rfl (bh (nm:=none) dM i6 dK (aE.call (aE.up (ee) (by decide))) (ae rfl) aj))
    (ah (aN rfl rfl cO)
    (ah (lE 8 (aX fT (ae rfl) (ae rfl)) (ah (aN rfl rfl (aG kW (aG aU (ae rfl) (ae rfl)) aB))
    (ah (aN rfl rfl (bh (nm:=none) pZ NI pY (aE.call (aE.up (rZ) (by decide))) (ae rfl) (aa (az (AC rfl) xW (aE.call (aE.up (AU) (by decide))) (aa (ae rfl) (aa (bh (nm:=none) AK NH AJ (aE.call (aE.up (CS) (by decide))) (ae rfl) (aa (ae rfl) aj)) aj))) (aa (ae rfl) aj))))
    (ah (bU (aX fT (ae rfl) aB) (ah (aN rfl rfl (aG aU (ae rfl) aB))
    aD) (ah (aN rfl rfl (ae rfl))
    (ah (aN rfl rfl (gB eV (ae rfl) aB))
    aD)))
    aD))))
    (ah (aP (bC (aa (ae rfl) (aa (ae rfl) aj))))
    aD)))))
 refine hv (p := ∀{w:World},aE (CF heap_1_39 view_1_40 w) true 6 559 gZ) ?_ fun AV=>?_
 ·intro w
  refine' aJ (ps:=[Str.ofString "trees",Str.ofString "root",Str.ofString "key",Str.ofString "order",Str.ofString "is_leaf_wanted"]) (ls:=[Str.ofString "path",Str.ofString "page",Str.ofString "node",Str.ofString "place",Str.ofString "is_equal"]) ?ho ?hcd ?hbind ?cL ?hnd ?hdc ?hbody ?hk ?hco ?hgen ?hcc
  case ho=>dsimp only [CF];k_dflt k_is
  case hcd=>dsimp only [CF];k_dflt k_is
  case hbind=>exact fun s=>XG fun _ _ _ _ _=>BindsTo.of_eq rfl
  case cL=>decide
  case hnd=>decide
  case hdc=>decide
  case hk=>rfl
  case hco=>rfl
  case hgen=>rfl
  case hcc=>exact fun c h=>nomatch (show(none:Option Addr)=some c from h)
  case hbody=>exact(ah (aN rfl rfl (aO aj))
    (ah (aN rfl rfl (ae rfl))
    (ah (lE 4 (cj cO) (ah (aN rfl rfl (bh (nm:=none) gj rK gi (aE.call (aE.up (iu) (by decide))) (ae rfl) (aa (ae rfl) aj)))
    (ah (bU (cj (bh (nm:=none) nq wU nk (aE.call (aE.up (n9) (by decide))) (ae rfl) aj)) (ah (BC Ew (n5 rfl) (I0 rfl (by decide) (Ll (by decide +kernel) (by decide +kernel))))
    aD) aD)
    (ah (gU (bG.cons ⟨rfl,.inl rfl⟩ (bG.cons ⟨rfl,.inl rfl⟩ bG.nil)) (az (Es rfl) CL (aE.call (aE.up (Ey) (by decide))) (aa (ae rfl) (aa (ae rfl) (aa (ae rfl) (aa (ae rfl) aj))))))
    (ah (bY (cB cQ b9 (ae rfl) (aa (bC (aa (ae rfl) (aa (ae rfl) aj))) aj)))
    (ah (bY (bh (nm:=none) je sO jd (aE.call (aE.up (jX) (by decide))) (ae rfl) (aa (ae rfl) aj)))
    (ah (bU (iP (cj (bh (nm:=none) gw mP gu (aE.call (aE.up (iq) (by decide))) (ae rfl) aj)) (iP (Ib (cj (ae rfl)) (Ib (kU (cj (ae rfl))) eK)) eK)) (ah (aP (bC (aa (ae rfl) (aa (ae rfl) aj))))
    aD) aD)
    (ah (aN rfl rfl (bh (nm:=(some .child)) li wR lg (aE.call (aE.up (mY) (by decide))) (ae rfl) (aa (ae rfl) aj)))
    aD))))))))
    aD)))
 refine hv (p := ∀{w:World},aE (CF heap_1_39 view_1_40 w) true 7 566 dR) ?_ fun jY=>?_
 ·intro w
  refine' aJ (ps:=[Str.ofString "trees",Str.ofString "root",Str.ofString "key",Str.ofString "order"]) (ls:=[Str.ofString "path",Str.ofString "is_equal",Str.ofString "page",Str.ofString "place"]) ?ho ?hcd ?hbind ?cL ?hnd ?hdc ?hbody ?hk ?hco ?hgen ?hcc
  case ho=>dsimp only [CF];k_dflt k_is
  case hcd=>dsimp only [CF];k_dflt k_is
  case hbind=>exact fun s=>GO fun _ _ _ _=>BindsTo.of_eq rfl
  case cL=>decide
  case hnd=>decide
  case hdc=>decide
  case hk=>rfl
  case hco=>rfl
  case hgen=>rfl
  case hcc=>exact fun c h=>nomatch (show(none:Option Addr)=some c from h)
  case hbody=>exact(ah (gU (bG.cons ⟨rfl,.inl rfl⟩ (bG.cons ⟨rfl,.inl rfl⟩ bG.nil)) (az (Az rfl) xT (aE.call (aE.up (AV) (by decide))) (aa (ae rfl) (aa (ae rfl) (aa (ae rfl) (aa (ae rfl) (aa cO aj)))))))
    (ah (bU (cj (ae rfl)) (ah (aP (bC (aa (ae rfl) (aa aB aj))))
    aD) aD)
    (ah (gU (bG.cons ⟨rfl,.inl rfl⟩ (bG.cons ⟨rfl,.inl rfl⟩ bG.nil)) (br (ae rfl) (fE aB)))
    (ah (bU (aX fT (ae rfl) (bh (nm:=none) dM i6 dK (aE.call (aE.up (ee) (by decide))) (bh (nm:=none) gj rK gi (aE.call (aE.up (iu) (by decide))) (ae rfl) (aa (ae rfl) aj)) aj)) (ah (aP (bC (aa (ae rfl) (aa aB aj))))
    aD) aD)
    (ah (aP (bC (aa (ae rfl) (aa (fE aB) aj))))
    aD)))))
 refine hv (p := ∀{w:World}{cb:Bool},aE (CF heap_1_39 view_1_40 w) cb 1 601 vR) ?_ fun Rb=>?_
 ·intro w cb
  refine' aJ (ps:=[Str.ofString "raw"]) (ls:=[]) ?ho ?hcd ?hbind ?cL ?hnd ?hdc ?hbody ?hk ?hco ?hgen ?hcc
  case ho=>dsimp only [CF];k_dflt k_is
  case hcd=>dsimp only [CF];k_dflt k_is
  case hbind=>exact fun s=>hb1 fun _=>BindsTo.of_eq rfl
  case cL=>decide
  case hnd=>decide
  case hdc=>decide
  case hk=>rfl
  case hco=>rfl
  case hgen=>rfl
  case hcc=>exact fun c h=>nomatch (show(none:Option Addr)=some c from h)
  case hbody=>exact(ah (aP (aG aU (yZ rfl) (az (Ay rfl) bI qv (aa (mQ rfl) (aa (az (cu rfl) bI bg (aa (ae rfl) aj)) aj)))))
    aD)
 refine hv (p := ∀{w:World}{cb:Bool},aE (CF heap_1_39 view_1_40 w) cb 2 606 uz) ?_ fun f_total=>?_
 ·intro w cb
  refine' aJ (ps:=[Str.ofString "raws"]) (ls:=[]) ?ho ?hcd ?hbind ?cL ?hnd ?hdc ?hbody ?hk ?hco ?hgen ?hcc
  case ho=>dsimp only [CF];k_dflt k_is
  case hcd=>dsimp only [CF];k_dflt k_is
  case hbind=>exact fun s=>hb1 fun _=>BindsTo.of_eq rfl
  case cL=>decide
  case hnd=>decide
  case hdc=>decide
  case hk=>rfl
  case hco=>rfl
  case hgen=>rfl
  case hcc=>exact fun c h=>nomatch (show(none:Option Addr)=some c from h)
  case hbody=>exact(ah (aP (az (Lo rfl) bI Bl (aa (oA ⟨by decide,rfl,by decide,rfl,rfl,by decide⟩ (sd.none (by decide)) (src_list (ae rfl)) zK (az (Q8 rfl) NK (aE.call (aE.up (Rb) (by decide))) (aa (ae rfl) aj))) aj)))
    aD)
 refine hv (p := ∀{w:World}{cb:Bool},aE (CF heap_1_39 view_1_40 w) cb 1 613 jw) ?_ fun zd=>?_
 ·intro w cb
  refine' aJ (ps:=[Str.ofString "page"]) (ls:=[]) ?ho ?hcd ?hbind ?cL ?hnd ?hdc ?hbody ?hk ?hco ?hgen ?hcc
  case ho=>dsimp only [CF];k_dflt k_is
  case hcd=>dsimp only [CF];k_dflt k_is
  case hbind=>exact fun s=>hb1 fun _=>BindsTo.of_eq rfl
  case cL=>decide
  case hnd=>decide
  case hdc=>decide
  case hk=>rfl
  case hco=>rfl
  case hgen=>rfl
  case hcc=>exact fun c h=>nomatch (show(none:Option Addr)=some c from h)
  case hbody=>exact(ah (aP (gD (aX eV (ae rfl) aB) (pB rfl) aB))
    aD)
 refine hv (p := ∀{w:World}{cb:Bool},aE (CF heap_1_39 view_1_40 w) cb 3 620 pL) ?_ fun Ez=>?_
 ·intro w cb
  refine' aJ (ps:=[Str.ofString "page",Str.ofString "kind",Str.ofString "usable"]) (ls:=[]) ?ho ?hcd ?hbind ?cL ?hnd ?hdc ?hbody ?hk ?hco ?hgen ?hcc
  case ho=>dsimp only [CF];k_dflt k_is
  case hcd=>dsimp only [CF];k_dflt k_is
  case hbind=>exact fun s=>BB fun _ _ _=>BindsTo.of_eq rfl
  case cL=>decide
  case hnd=>decide
  case hdc=>decide
  case hk=>rfl
  case hco=>rfl
  case hgen=>rfl
  case hcc=>exact fun c h=>nomatch (show(none:Option Addr)=some c from h)
  case hbody=>exact(ah (aP (aG fb (aG fb (ae rfl) (az (y9 rfl) wZ (aE.call (aE.up (zd) (by decide))) (aa (ae rfl) aj))) (az (CD rfl) AE (aE.call (aE.up (CO) (by decide))) (aa (ae rfl) aj))))
    aD)
 refine hv (p := ∀{w:World}{cb:Bool},aE (CF heap_1_39 view_1_40 w) cb 1 634 cV) ?_ fun xf=>?_
 ·intro w cb
  refine' aJ (ps:=[Str.ofString "self",Str.ofString "kind",Str.ofString "raws",Str.ofString "right"]) (ls:=[]) ?ho ?hcd ?hbind ?cL ?hnd ?hdc ?hbody ?hk ?hco ?hgen ?hcc
  case ho=>dsimp only [CF];k_dflt k_is
  case hcd=>dsimp only [CF];k_dflt k_is
  case hbind=>exact fun s=>GO fun _ _ _ _=>BindsTo.of_eq rfl
  case cL=>decide
  case hnd=>decide
  case hdc=>decide
  case hk=>rfl
  case hco=>rfl
  case hgen=>rfl
  case hcc=>exact fun c h=>nomatch (show(none:Option Addr)=some c from h)
  case hbody=>exact(ah (cf (k := .kind) rfl ul rfl (ae rfl))
    (ah (cf (k := .raws) rfl um rfl (ae rfl))
    (ah (cf (k := .right) rfl sY rfl (ae rfl))
    aD)))
 refine hv (p := ∀{w:World}{cb:Bool},aE (CF heap_1_39 view_1_40 w) cb 4 655 zX) ?_ fun Rc=>?_
 ·intro w cb
  refine' aJ (ps:=[Str.ofString "pager",Str.ofString "page",Str.ofString "content"]) (ls:=[]) ?ho ?hcd ?hbind ?cL ?hnd ?hdc ?hbody ?hk ?hco ?hgen ?hcc
  case ho=>dsimp only [CF];k_dflt k_is
  case hcd=>dsimp only [CF];k_dflt k_is
  case hbind=>exact fun s=>BB fun _ _ _=>BindsTo.of_eq rfl
  case cL=>decide
  case hnd=>decide
  case hdc=>decide
  case hk=>rfl
  case hco=>rfl
  case hgen=>rfl
  case hcc=>exact fun c h=>nomatch (show(none:Option Addr)=some c from h)
  case hbody=>exact(ah (aP (gB NV (az (NJ rfl) Lp (aE.call (aE.up (f_total) (by decide))) (aa (be (k := .raws) rfl jg (ae rfl)) aj)) (az (Er rfl) CK (aE.call (aE.up (Ez) (by decide))) (aa (ae rfl) (aa (be (k := .kind) rfl jf (ae rfl)) (aa (be (k := .bA) rfl cX (ae rfl)) aj))))))
    aD)
 refine hv (p := ∀{w:World},aE (CF heap_1_39 view_1_40 w) true 5 662 cY) ?_ fun gx=>?_
 ·intro w
  refine' aJ (ps:=[Str.ofString "pager",Str.ofString "page",Str.ofString "content"]) (ls:=[Str.ofString "size",Str.ofString "base",Str.ofString "pointers",Str.ofString "cells",Str.ofString "at",Str.ofString "raw",Str.ofString "padded",Str.ofString "head",Str.ofString "front"]) ?ho ?hcd ?hbind ?cL ?hnd ?hdc ?hbody ?hk ?hco ?hgen ?hcc
  case ho=>dsimp only [CF];k_dflt k_is
  case hcd=>dsimp only [CF];k_dflt k_is
  case hbind=>exact fun s=>BB fun _ _ _=>BindsTo.of_eq rfl
  case cL=>decide
  case hnd=>decide
  case hdc=>decide
  case hk=>rfl
  case hco=>rfl
  case hgen=>rfl
  case hcc=>exact fun c h=>nomatch (show(none:Option Addr)=some c from h)
  case hbody=>exact(ah (bU (kU (cj (az (Q9 rfl) NL (aE.call (aE.up (Rc) (by decide))) (aa (ae rfl) (aa (ae rfl) (aa (ae rfl) aj)))))) (ah dc
    aD) aD)
    (ah (gV (bG.cons ⟨rfl,.inl rfl⟩ (bG.cons ⟨rfl,.inl rfl⟩ bG.nil)) (bC (aa (be (k := .bA) rfl cX (ae rfl)) (aa (az (y9 rfl) wZ (aE.call (aE.up (zd) (by decide))) (aa (ae rfl) aj)) aj))))
    (ah (gV (bG.cons ⟨rfl,.inl rfl⟩ (bG.cons ⟨rfl,.inl rfl⟩ (bG.cons ⟨rfl,.inl rfl⟩ bG.nil))) (bC (aa (aO aj) (aa (aO aj) (aa (ae rfl) aj)))))
    (ah (uv rfl rfl (be (k := .raws) rfl jg (ae rfl)) (ah (aN rfl rfl (aG aU (ae rfl) (az (df rfl) cF cA (aa (az (Ay rfl) bI qv (aa aB (aa (aG fb (mQ rfl) (az (cu rfl) bI bg (aa (ae rfl) aj))) aj))) aj))))
    (ah (aN rfl rfl (aG fb (ae rfl) (az (cu rfl) bI bg (aa (ae rfl) aj))))
    (ah (bY (cB cQ b9 (ae rfl) (aa (cB nH kY (ae rfl) (aa (yZ rfl) (aa C5 aj))) aj)))
    (ah (bY (cB cQ b9 (ae rfl) (aa (ae rfl) aj)))
    aD)))))
    (ah (aN rfl rfl (aG aU (aG aU (aG aU (az (df rfl) cF cA (aa (aO (aa (be (k := .kind) rfl jf (ae rfl)) (aa aB (aa aB aj)))) aj)) (cB nH kY (az (cu rfl) bI bg (aa (be (k := .raws) rfl jg (ae rfl)) aj)) (aa aB (aa C5 aj)))) (cB nH kY (ae rfl) (aa aB (aa C5 aj)))) (az (df rfl) cF cA (aa aB aj))))
    (ah (bU (kU (cj (az (eB rfl) mS (aE.call (aE.up (oN) (by decide))) (aa (be (k := .kind) rfl jf (ae rfl)) aj)))) (ah (aN rfl rfl (aG aU (ae rfl) (az (xS rfl) w6 (aE.call (aE.up (ye) (by decide))) (aa (be (k := .right) rfl sW (ae rfl)) aj))))
    aD) aD)
    (ah (aN rfl rfl (aG aU (aG aU (lW (bh (nm:=none) ip rL ii (aE.call (aE.up (iB) (by decide))) (ae rfl) (aa (ae rfl) aj)) oq (gm (ae rfl))) (ae rfl)) (Gg (aa (ae rfl) aj) rfl)))
    (ah (bY (cB vp qu (ae rfl) aj))
    (ah (bY (bh (nm:=none) lR xO lQ (aE.call (aE.up (m3) (by decide))) (ae rfl) (aa (ae rfl) (aa (aG aU (aG aU (ae rfl) (az (df rfl) cF cA (aa (aG fb (ae rfl) (az (cu rfl) bI bg (aa (ae rfl) aj))) aj))) (Gg (aa (ae rfl) aj) rfl)) aj))))
    aD)))))))))
 refine hv (p := ∀{w:World}{cb:Bool},aE (CF heap_1_39 view_1_40 w) cb 5 669 f9) ?_ fun yf=>?_
 ·intro w cb
  refine' aJ (ps:=[Str.ofString "node",Str.ofString "rowid"]) (ls:=[Str.ofString "low",Str.ofString "high",Str.ofString "middle"]) ?ho ?hcd ?hbind ?cL ?hnd ?hdc ?hbody ?hk ?hco ?hgen ?hcc
  case ho=>dsimp only [CF];k_dflt k_is
  case hcd=>dsimp only [CF];k_dflt k_is
  case hbind=>exact fun s=>qf fun _ _=>BindsTo.of_eq rfl
  case cL=>decide
  case hnd=>decide
  case hdc=>decide
  case hk=>rfl
  case hco=>rfl
  case hgen=>rfl
  case hcc=>exact fun c h=>nomatch (show(none:Option Addr)=some c from h)
  case hbody=>exact(ah (aN rfl rfl aB)
    (ah (aN rfl rfl (bh (nm:=none) dM i6 dK (aE.call (aE.up (ee) (by decide))) (ae rfl) aj))
    (ah (lE 8 (aX fT (ae rfl) (ae rfl)) (ah (aN rfl rfl (aG kW (aG aU (ae rfl) (ae rfl)) aB))
    (ah (bU (aX fT (bh (nm:=(some .rowid)) ly wW lu (aE.call (aE.up (mX) (by decide))) (ae rfl) (aa (ae rfl) aj)) (ae rfl)) (ah (aN rfl rfl (aG aU (ae rfl) aB))
    aD) (ah (aN rfl rfl (ae rfl))
    aD))
    aD)))
    (ah (aP (ae rfl))
    aD))))
 refine hv (p := ∀{w:World},aE (CF heap_1_39 view_1_40 w) true 6 676 dj) ?_ fun ju=>?_
 ·intro w
  refine' aJ (ps:=[Str.ofString "trees",Str.ofString "root",Str.ofString "rowid"]) (ls:=[Str.ofString "path",Str.ofString "page",Str.ofString "node",Str.ofString "place"]) ?ho ?hcd ?hbind ?cL ?hnd ?hdc ?hbody ?hk ?hco ?hgen ?hcc
  case ho=>dsimp only [CF];k_dflt k_is
  case hcd=>dsimp only [CF];k_dflt k_is
  case hbind=>exact fun s=>BB fun _ _ _=>BindsTo.of_eq rfl
  case cL=>decide
  case hnd=>decide
  case hdc=>decide
  case hk=>rfl
  case hco=>rfl
  case hgen=>rfl
  case hcc=>exact fun c h=>nomatch (show(none:Option Addr)=some c from h)
  case hbody=>exact(ah (aN rfl rfl (aO aj))
    (ah (aN rfl rfl (ae rfl))
    (ah (lE 4 (cj cO) (ah (aN rfl rfl (bh (nm:=none) gj rK gi (aE.call (aE.up (iu) (by decide))) (ae rfl) (aa (ae rfl) aj)))
    (ah (bU (kU (cj (bh (nm:=none) nq wU nk (aE.call (aE.up (n9) (by decide))) (ae rfl) aj))) (ah (BC Ew (n5 rfl) (I0 rfl (by decide) (Ll (by decide +kernel) (by decide +kernel))))
    aD) aD)
    (ah (aN rfl rfl (az (xR rfl) w5 (aE.call (aE.up (yf) (by decide))) (aa (ae rfl) (aa (ae rfl) aj))))
    (ah (bY (cB cQ b9 (ae rfl) (aa (bC (aa (ae rfl) (aa (ae rfl) aj))) aj)))
    (ah (bY (bh (nm:=none) je sO jd (aE.call (aE.up (jX) (by decide))) (ae rfl) (aa (ae rfl) aj)))
    (ah (bU (cj (bh (nm:=none) gw mP gu (aE.call (aE.up (iq) (by decide))) (ae rfl) aj)) (ah (aP (bC (aa (ae rfl) (aa (C6 (gB fT (ae rfl) (bh (nm:=none) dM i6 dK (aE.call (aE.up (ee) (by decide))) (ae rfl) aj)) (gB eV (bh (nm:=(some .rowid)) ly wW lu (aE.call (aE.up (mX) (by decide))) (ae rfl) (aa (ae rfl) aj)) (ae rfl))) aj))))
    aD) aD)
    (ah (aN rfl rfl (bh (nm:=(some .child)) li wR lg (aE.call (aE.up (mY) (by decide))) (ae rfl) (aa (ae rfl) aj)))
    aD))))))))
    aD)))
 refine hv (p := ∀{w:World},aE (CF heap_1_39 view_1_40 w) true 6 683 jm) ?_ fun AW=>?_
 ·intro w
  refine' aJ (ps:=[Str.ofString "trees",Str.ofString "root"]) (ls:=[Str.ofString "page",Str.ofString "index"]) ?ho ?hcd ?hbind ?cL ?hnd ?hdc ?hbody ?hk ?hco ?hgen ?hcc
  case ho=>dsimp only [CF];k_dflt k_is
  case hcd=>dsimp only [CF];k_dflt k_is
  case hbind=>exact fun s=>qf fun _ _=>BindsTo.of_eq rfl
  case cL=>decide
  case hnd=>decide
  case hdc=>decide
  case hk=>rfl
  case hco=>rfl
  case hgen=>rfl
  case hcc=>exact fun c h=>nomatch (show(none:Option Addr)=some c from h)
  case hbody=>exact(ah (gU (bG.cons ⟨rfl,.inl rfl⟩ (bG.cons ⟨rfl,.inl rfl⟩ bG.nil)) (br (az (pX rfl) nY (aE.call (aE.up (qd) (by decide))) (aa (ae rfl) (aa (ae rfl) (aa cO aj)))) (fE aB)))
    (ah (bU (aX fT (ae rfl) aB) (ah (aP zy)
    aD) aD)
    (ah (aP (bh (nm:=(some .rowid)) ly wW lu (aE.call (aE.up (mX) (by decide))) (bh (nm:=none) gj rK gi (aE.call (aE.up (iu) (by decide))) (ae rfl) (aa (ae rfl) aj)) (aa (ae rfl) aj)))
    aD)))
 refine hv (p := ∀{w:World}{cb:Bool},aE (CF heap_1_39 view_1_40 w) cb 1 753 mi) ?_ fun EA=>?_
 ·intro w cb
  refine' aJ (ps:=[Str.ofString "script",Str.ofString "k"]) (ls:=[Str.ofString "cell",Str.ofString "big",Str.ofString "mixed"]) ?ho ?hcd ?hbind ?cL ?hnd ?hdc ?hbody ?hk ?hco ?hgen ?hcc
  case ho=>dsimp only [CF];k_dflt k_is
  case hcd=>dsimp only [CF];k_dflt k_is
  case hbind=>exact fun s=>qf fun _ _=>BindsTo.of_eq rfl
  case cL=>decide
  case hnd=>decide
  case hdc=>decide
  case hk=>rfl
  case hco=>rfl
  case hgen=>rfl
  case hcc=>exact fun c h=>nomatch (show(none:Option Addr)=some c from h)
  case hbody=>exact(ah (aN rfl rfl aB)
    (ah (bU (aX fT (ae rfl) (az (cu rfl) bI bg (aa (ae rfl) aj))) (ah (aN rfl rfl (br (ae rfl) (ae rfl)))
    aD) aD)
    (ah (aN rfl rfl (az (Ay rfl) bI qv (aa (az (jc rfl) cF eW (aa (ae rfl) aj)) (aa (az (jc rfl) cF eW (aa (aG fb (fE aB) (ae rfl)) aj)) aj))))
    (ah (aN rfl rfl (aG jF (az (jc rfl) cF eW (aa (aG jE (aG aU (aG aU (aG aU (aG jF (az (jc rfl) cF eW (aa (ae rfl) aj)) aB) (aG jE (aG jE aB (ae rfl)) (ae rfl))) (aG jE aB (ae rfl))) aB) aB) aj)) aB))
    (ah (aP (aO (aa (aG jE (ae rfl) (az (jc rfl) cF eW (aa (gB Bb (ae rfl) (aG De aB aB)) aj))) (aa (ae rfl) aj))))
    aD)))))
 refine hv (p := ∀{w:World}{cb:Bool},aE (CF heap_1_39 view_1_40 w) cb 1 760 bE) ?_ fun eo=>?_
 ·intro w cb
  refine' aJ (ps:=[Str.ofString "source",Str.ofString "top"]) (ls:=[Str.ofString "digit"]) ?ho ?hcd ?hbind ?cL ?hnd ?hdc ?hbody ?hk ?hco ?hgen ?hcc
  case ho=>dsimp only [CF];k_dflt k_is
  case hcd=>dsimp only [CF];k_dflt k_is
  case hbind=>exact fun s=>qf fun _ _=>BindsTo.of_eq rfl
  case cL=>decide
  case hnd=>decide
  case hdc=>decide
  case hk=>rfl
  case hco=>rfl
  case hgen=>rfl
  case hcc=>exact fun c h=>nomatch (show(none:Option Addr)=some c from h)
  case hbody=>exact(ah (bU (aX kg (br (ae rfl) aB) aB) (ah (aN rfl rfl (aG jF (az (jc rfl) cF eW (aa (br (ae rfl) aB) aj)) (ae rfl)))
    (ah (jI (ae rfl) aB (aG kW (br (ae rfl) aB) (ae rfl)))
    (ah (aP (ae rfl))
    aD))) aD)
    (ah (jI (ae rfl) aB (aG jF (az (jc rfl) cF eW (aa (aG aU (aG jE (br (ae rfl) aB) aB) aB) aj)) aB))
    (ah (aP (aG jF (az (jc rfl) cF eW (aa (aG kW (aG jF (az (jc rfl) cF eW (aa (aG jE (br (ae rfl) aB) (br (ae rfl) aB)) aj)) aB) aB) aj)) (ae rfl)))
    aD)))
 refine hv (p := ∀{w:World}{cb:Bool},aE (CF heap_1_39 view_1_40 w) cb 2 767 dN) ?_ fun lT=>?_
 ·intro w cb
  refine' aJ (ps:=[Str.ofString "source",Str.ofString "things"]) (ls:=[]) ?ho ?hcd ?hbind ?cL ?hnd ?hdc ?hbody ?hk ?hco ?hgen ?hcc
  case ho=>dsimp only [CF];k_dflt k_is
  case hcd=>dsimp only [CF];k_dflt k_is
  case hbind=>exact fun s=>qf fun _ _=>BindsTo.of_eq rfl
  case cL=>decide
  case hnd=>decide
  case hdc=>decide
  case hk=>rfl
  case hco=>rfl
  case hgen=>rfl
  case hcc=>exact fun c h=>nomatch (show(none:Option Addr)=some c from h)
  case hbody=>exact(ah (aP (br (ae rfl) (az (ek rfl) dJ (aE.call (aE.up (eo) (by decide))) (aa (ae rfl) (aa (az (cu rfl) bI bg (aa (ae rfl) aj)) aj)))))
    aD)
 refine hv (p := ∀{w:World}{cb:Bool},aE (CF heap_1_39 view_1_40 w) cb 1 774 mj) ?_ fun EB=>?_
 ·intro w cb
  refine' aJ (ps:=[Str.ofString "number"]) (ls:=[]) ?ho ?hcd ?hbind ?cL ?hnd ?hdc ?hbody ?hk ?hco ?hgen ?hcc
  case ho=>dsimp only [CF];k_dflt k_is
  case hcd=>dsimp only [CF];k_dflt k_is
  case hbind=>exact fun s=>hb1 fun _=>BindsTo.of_eq rfl
  case cL=>decide
  case hnd=>decide
  case hdc=>decide
  case hk=>rfl
  case hco=>rfl
  case hgen=>rfl
  case hcc=>exact fun c h=>nomatch (show(none:Option Addr)=some c from h)
  case hbody=>exact(ah (aP (az (df rfl) cF cA (aa (aO (aa aB (aa aB (aa (aG kW (ae rfl) aB) (aa (aG jF (ae rfl) aB) aj))))) aj)))
    aD)
 refine hv (p := ∀{w:World}{cb:Bool},aE (CF heap_1_39 view_1_40 w) cb 3 779 gH) ?_ fun tX=>?_
 ·intro w cb
  refine' aJ (ps:=[Str.ofString "source"]) (ls:=[]) ?ho ?hcd ?hbind ?cL ?hnd ?hdc ?hbody ?hk ?hco ?hgen ?hcc
  case ho=>dsimp only [CF];k_dflt k_is
  case hcd=>dsimp only [CF];k_dflt k_is
  case hbind=>exact fun s=>hb1 fun _=>BindsTo.of_eq rfl
  case cL=>decide
  case hnd=>decide
  case hdc=>decide
  case hk=>rfl
  case hco=>rfl
  case hgen=>rfl
  case hcc=>exact fun c h=>nomatch (show(none:Option Addr)=some c from h)
  case hbody=>exact(ah (aP (oA ⟨by decide,rfl,by decide,rfl,rfl,by decide⟩ (sd.one rfl rfl rfl (by intro env c h;unfold closureFor;simp [cellOf,h]<;>rfl)) (src_range (ic rfl) (az (lN rfl) jU (aE.call (aE.up (lT) (by decide))) (aa (ae rfl) (aa (aO (aa aB (aa aB (aa aB (aa aB aj))))) aj)))) zK (az (ek rfl) dJ (aE.call (aE.up (eo) (by decide))) (aa (ae rfl) (aa aB aj)))))
    aD)
 refine hv (p := ∀{w:World}{cb:Bool},aE (CF heap_1_39 view_1_40 w) cb 2 786 gI) ?_ fun tY=>?_
 ·intro w cb
  refine' aJ (ps:=[Str.ofString "source",Str.ofString "many"]) (ls:=[Str.ofString "numbers",Str.ofString "at"]) ?ho ?hcd ?hbind ?cL ?hnd ?hdc ?hbody ?hk ?hco ?hgen ?hcc
  case ho=>dsimp only [CF];k_dflt k_is
  case hcd=>dsimp only [CF];k_dflt k_is
  case hbind=>exact fun s=>qf fun _ _=>BindsTo.of_eq rfl
  case cL=>decide
  case hnd=>decide
  case hdc=>decide
  case hk=>rfl
  case hco=>rfl
  case hgen=>rfl
  case hcc=>exact fun c h=>nomatch (show(none:Option Addr)=some c from h)
  case hbody=>exact(ah (aN rfl rfl (aO (aa aB (aa aB (aa aB (aa aB aj))))))
    (ah (aN rfl rfl (az (ek rfl) dJ (aE.call (aE.up (eo) (by decide))) (aa (ae rfl) (aa aB aj))))
    (ah (aN rfl rfl (aG aU (lW (ae rfl) (gm (ae rfl)) oq) (lW (ae rfl) oq (gm (ae rfl)))))
    (ah (aP (aG aU (lW (ae rfl) oq (gm (ae rfl))) (aO (aa (gD (aX eV (az (ek rfl) dJ (aE.call (aE.up (eo) (by decide))) (aa (ae rfl) (aa aB aj))) aB) aB (br (ae rfl) (ae rfl))) aj))))
    aD))))
 refine hv (p := ∀{w:World}{cb:Bool},bz (CF heap_1_39 view_1_40 w) cb 2 (.ref 742) (dg 742 eF)) ?_ fun AX=>?_
 ·intro w cb
  exact lG (by dsimp only [CF];k_dflt k_is) (by dsimp only [CF];k_dflt k_is) (by dsimp only [CF];k_dflt k_is) s6
 refine hv (p := ∀{w:World}{cb:Bool},aE (CF heap_1_39 view_1_40 w) cb 3 793 kB) ?_ fun CU=>?_
 ·intro w cb
  refine' aJ (ps:=[]) (ls:=[Str.ofString "store",Str.ofString "turn"]) ?ho ?hcd ?hbind ?cL ?hnd ?hdc ?hbody ?hk ?hco ?hgen ?hcc
  case ho=>dsimp only [CF];k_dflt k_is
  case hcd=>dsimp only [CF];k_dflt k_is
  case hbind=>exact fun s=>hb0 (BindsTo.of_eq rfl)
  case cL=>decide
  case hnd=>decide
  case hdc=>decide
  case hk=>rfl
  case hco=>rfl
  case hgen=>rfl
  case hcc=>exact fun c h=>nomatch (show(none:Option Addr)=some c from h)
  case hbody=>exact(ah (aN rfl rfl (az (CN rfl) AI (bz.up AX (by decide)) (aa aB aj)))
    (ah (kj rfl rfl (ic rfl) aB (ah (bY (bh (nm:=none) oY HA oX (aE.call (aE.up (qc) (by decide))) (ae rfl) aj))
    aD))
    (ah (aP (ae rfl))
    aD)))
 refine hv (p := ∀{w:World}{cb:Bool},bz (CF heap_1_39 view_1_40 w) cb 2 (.ref 644) (dg 644 cV)) ?_ fun m4=>?_
 ·intro w cb
  exact lG (by dsimp only [CF];k_dflt k_is) (by dsimp only [CF];k_dflt k_is) (by dsimp only [CF];k_dflt k_is) xf
 refine hv (p := ∀{w:World},aE (CF heap_1_39 view_1_40 w) true 6 798 eM) ?_ fun jZ=>?_
 ·intro w
  refine' aJ (ps:=[Str.ofString "leaves",Str.ofString "middles",Str.ofString "pages",Str.ofString "is_rows_here"]) (ls:=[Str.ofString "store",Str.ofString "root",Str.ofString "at",Str.ofString "raws",Str.ofString "page",Str.ofString "told"]) ?ho ?hcd ?hbind ?cL ?hnd ?hdc ?hbody ?hk ?hco ?hgen ?hcc
  case ho=>dsimp only [CF];k_dflt k_is
  case hcd=>dsimp only [CF];k_dflt k_is
  case hbind=>exact fun s=>GO fun _ _ _ _=>BindsTo.of_eq rfl
  case cL=>decide
  case hnd=>decide
  case hdc=>decide
  case hk=>rfl
  case hco=>rfl
  case hgen=>rfl
  case hcc=>exact fun c h=>nomatch (show(none:Option Addr)=some c from h)
  case hbody=>exact(ah (gV (bG.cons ⟨rfl,.inl rfl⟩ (bG.cons ⟨rfl,.inl rfl⟩ bG.nil)) (bC (aa (az (CC rfl) AD (aE.call (aE.up (CU) (by decide))) aj) (aa (br (ae rfl) (fE aB)) aj))))
    (ah (kj rfl rfl (ic rfl) (az (cu rfl) bI bg (aa (ae rfl) aj)) (ah (Dt rfl rfl ⟨by decide,rfl,by decide,rfl,rfl,by decide⟩ (sd.one rfl rfl rfl (by intro env c h;unfold closureFor;simp [cellOf,h]<;>rfl)) (src_list (br (ae rfl) (ae rfl))) zK (gD (cj (ae rfl)) (aG aU (aG aU (az (df rfl) cF cA (aa (aO (aa aB aj)) aj)) (az (rN rfl) pC (aE.call (aE.up (rY) (by decide))) (aa (ae rfl) aj))) cT) (aG aU (az (df rfl) cF cA (aa (aO (aa (az (cu rfl) bI bg (aa (ae rfl) aj)) aj)) aj)) (ae rfl))))
    (ah (aN rfl rfl (gD (aX eV (az (cu rfl) bI bg (aa (ae rfl) aj)) aB) (ae rfl) (br (ae rfl) (ae rfl))))
    (ah (bY (az (gr rfl) fQ (aE.call (aE.up (gx) (by decide))) (aa (ae rfl) (aa (ae rfl) (aa (az (oK rfl) mT (bz.up m4 (by decide)) (aa (gD (cj (ae rfl)) aB aB) (aa (ae rfl) (aa aB aj)))) aj)))))
    aD))))
    (ah (bU (aX kg (az (cu rfl) bI bg (aa (ae rfl) aj)) aB) (ah (aN rfl rfl (aO aj))
    (ah (kj rfl rfl (ic rfl) (az (cu rfl) bI bg (aa (ae rfl) aj)) (ah (aN rfl rfl (gD (cj (ae rfl)) (az (rN rfl) pC (aE.call (aE.up (rY) (by decide))) (aa (br (ae rfl) (ae rfl)) aj)) (aG aU (az (df rfl) cF cA (aa (aO (aa (az (cu rfl) bI bg (aa (br (ae rfl) (ae rfl)) aj)) aj)) aj)) (br (ae rfl) (ae rfl)))))
    (ah (bY (cB cQ b9 (ae rfl) (aa (aG aU (az (Eo rfl) CI (aE.call (aE.up (EB) (by decide))) (aa (br (ae rfl) (ae rfl)) aj)) (ae rfl)) aj)))
    aD)))
    (ah (bY (az (gr rfl) fQ (aE.call (aE.up (gx) (by decide))) (aa (ae rfl) (aa (ae rfl) (aa (az (oK rfl) mT (bz.up m4 (by decide)) (aa (gD (cj (ae rfl)) aB aB) (aa (ae rfl) (aa (br (ae rfl) (aG fb (az (cu rfl) bI bg (aa (ae rfl) aj)) aB)) aj)))) aj)))))
    aD))) aD)
    (ah (aP (ae rfl))
    aD))))
 refine hv (p := ∀{w:World}{cb:Bool},aE (CF heap_1_39 view_1_40 w) cb 1 803 iI) ?_ fun yg=>?_
 ·intro w cb
  refine' aJ (ps:=[Str.ofString "leaves",Str.ofString "middles",Str.ofString "pages",Str.ofString "key"]) (ls:=[Str.ofString "root",Str.ofString "path",Str.ofString "above",Str.ofString "leaf",Str.ofString "page",Str.ofString "place",Str.ofString "sign"]) ?ho ?hcd ?hbind ?cL ?hnd ?hdc ?hbody ?hk ?hco ?hgen ?hcc
  case ho=>dsimp only [CF];k_dflt k_is
  case hcd=>dsimp only [CF];k_dflt k_is
  case hbind=>exact fun s=>GO fun _ _ _ _=>BindsTo.of_eq rfl
  case cL=>decide
  case hnd=>decide
  case hdc=>decide
  case hk=>rfl
  case hco=>rfl
  case hgen=>rfl
  case hcc=>exact fun c h=>nomatch (show(none:Option Addr)=some c from h)
  case hbody=>exact(ah (gV (bG.cons ⟨rfl,.inl rfl⟩ (bG.cons ⟨rfl,.inl rfl⟩ bG.nil)) (bC (aa (br (ae rfl) (fE aB)) (aa (aO aj) aj))))
    (ah (bU (aX kg (az (cu rfl) bI bg (aa (ae rfl) aj)) aB) (ah (aN rfl rfl (az (cu rfl) bI bg (aa (oA ⟨by decide,rfl,by decide,rfl,rfl,by decide⟩ (sd.one rfl rfl rfl (by intro env c h;unfold closureFor;simp [cellOf,h]<;>rfl)) (src_list (ae rfl)) (uw (aX fT (ae rfl) (ae rfl))) (ae rfl)) aj)))
    (ah (bY (cB cQ b9 (ae rfl) (aa (bC (aa (ae rfl) (aa (ae rfl) aj))) aj)))
    (ah (bU (aX IB (ae rfl) (ae rfl)) (ah (aP (bC (aa (ae rfl) (aa aB aj))))
    aD) aD)
    (ah (gV (bG.cons ⟨rfl,.inl rfl⟩ (bG.cons ⟨rfl,.inl rfl⟩ bG.nil)) (bC (aa (br (ae rfl) (ae rfl)) (aa (br (ae rfl) (ae rfl)) aj))))
    aD)))) (ah (gV (bG.cons ⟨rfl,.inl rfl⟩ (bG.cons ⟨rfl,.inl rfl⟩ bG.nil)) (bC (aa (br (ae rfl) aB) (aa (ae rfl) aj))))
    aD))
    (ah (aN rfl rfl (az (cu rfl) bI bg (aa (oA ⟨by decide,rfl,by decide,rfl,rfl,by decide⟩ (sd.one rfl rfl rfl (by intro env c h;unfold closureFor;simp [cellOf,h]<;>rfl)) (src_list (ae rfl)) (uw (aX fT (ae rfl) (ae rfl))) (ae rfl)) aj)))
    (ah (aN rfl rfl (gD (aX IB (ae rfl) (ae rfl)) aB (gD (aX fT (ae rfl) (az (cu rfl) bI bg (aa (ae rfl) aj))) aB (fE aB))))
    (ah (aP (bC (aa (aG aU (ae rfl) (aO (aa (bC (aa (ae rfl) (aa (ae rfl) aj))) aj))) (aa (ae rfl) aj))))
    aD)))))
 refine hv (p := ∀{w:World}{cb:Bool},aE (CF heap_1_39 view_1_40 w) cb 1 808 iJ) ?_ fun yh=>?_
 ·intro w cb
  refine' aJ (ps:=[Str.ofString "leaves",Str.ofString "middles",Str.ofString "pages",Str.ofString "rowid"]) (ls:=[Str.ofString "root",Str.ofString "above",Str.ofString "leaf",Str.ofString "page",Str.ofString "path"]) ?ho ?hcd ?hbind ?cL ?hnd ?hdc ?hbody ?hk ?hco ?hgen ?hcc
  case ho=>dsimp only [CF];k_dflt k_is
  case hcd=>dsimp only [CF];k_dflt k_is
  case hbind=>exact fun s=>GO fun _ _ _ _=>BindsTo.of_eq rfl
  case cL=>decide
  case hnd=>decide
  case hdc=>decide
  case hk=>rfl
  case hco=>rfl
  case hgen=>rfl
  case hcc=>exact fun c h=>nomatch (show(none:Option Addr)=some c from h)
  case hbody=>exact(ah (aN rfl rfl (br (ae rfl) (fE aB)))
    (ah (aN rfl rfl (az (cu rfl) bI bg (aa (oA ⟨by decide,rfl,by decide,rfl,rfl,by decide⟩ (sd.one rfl rfl rfl (by intro env c h;unfold closureFor;simp [cellOf,h]<;>rfl)) (src_list (ae rfl)) (uw (aX fT (ae rfl) (ae rfl))) (ae rfl)) aj)))
    (ah (gV (bG.cons ⟨rfl,.inl rfl⟩ (bG.cons ⟨rfl,.inl rfl⟩ bG.nil)) (bC (aa (br (ae rfl) (ae rfl)) (aa (gD (aX eV (az (cu rfl) bI bg (aa (ae rfl) aj)) aB) (ae rfl) (br (ae rfl) (ae rfl))) aj))))
    (ah (aN rfl rfl (gD (aX eV (az (cu rfl) bI bg (aa (ae rfl) aj)) aB) (aO aj) (aO (aa (bC (aa (ae rfl) (aa (ae rfl) aj))) aj))))
    (ah (aP (bC (aa (aG aU (ae rfl) (aO (aa (bC (aa (ae rfl) (aa (az (cu rfl) bI bg (aa (oA ⟨by decide,rfl,by decide,rfl,rfl,by decide⟩ (sd.one rfl rfl rfl (by intro env c h;unfold closureFor;simp [cellOf,h]<;>rfl)) (src_list (ae rfl)) (uw (aX fT (ae rfl) (ae rfl))) (ae rfl)) aj)) aj))) aj))) (aa (gB IB (ae rfl) (ae rfl)) aj))))
    aD)))))
 refine hv (p := ∀{w:World},aE (CF heap_1_39 view_1_40 w) true 6 815 dO) ?_ fun lU=>?_
 ·intro w
  refine' aJ (ps:=[Str.ofString "trees",Str.ofString "leaves",Str.ofString "pages"]) (ls:=[Str.ofString "root",Str.ofString "last",Str.ofString "first",Str.ofString "far"]) ?ho ?hcd ?hbind ?cL ?hnd ?hdc ?hbody ?hk ?hco ?hgen ?hcc
  case ho=>dsimp only [CF];k_dflt k_is
  case hcd=>dsimp only [CF];k_dflt k_is
  case hbind=>exact fun s=>BB fun _ _ _=>BindsTo.of_eq rfl
  case cL=>decide
  case hnd=>decide
  case hdc=>decide
  case hk=>rfl
  case hco=>rfl
  case hgen=>rfl
  case hcc=>exact fun c h=>nomatch (show(none:Option Addr)=some c from h)
  case hbody=>exact(ah (gV (bG.cons ⟨rfl,.inl rfl⟩ (bG.cons ⟨rfl,.inl rfl⟩ bG.nil)) (bC (aa (br (ae rfl) (fE aB)) (aa (aG fb (az (cu rfl) bI bg (aa (ae rfl) aj)) aB) aj))))
    (ah (aN rfl rfl (gD (aX eV (ae rfl) aB) (aO (aa (bC (aa (ae rfl) (aa aB aj))) aj)) (aO (aa (bC (aa (ae rfl) (aa aB aj))) (aa (bC (aa (br (ae rfl) aB) (aa aB aj))) aj)))))
    (ah (bU (aX qq (az (pX rfl) nY (aE.call (aE.up (qd) (by decide))) (aa (ae rfl) (aa (ae rfl) (aa cO aj)))) (ae rfl)) (ah (aP cO)
    aD) aD)
    (ah (aN rfl rfl (aG fb (az (cu rfl) bI bg (aa (br (ae rfl) (ae rfl)) aj)) aB))
    (ah (aP (gB eV (az (pX rfl) nY (aE.call (aE.up (qd) (by decide))) (aa (ae rfl) (aa (ae rfl) (aa cO aj)))) (gD (aX eV (ae rfl) aB) (aO (aa (bC (aa (ae rfl) (aa (ae rfl) aj))) aj)) (aO (aa (bC (aa (ae rfl) (aa (ae rfl) aj))) (aa (bC (aa (br (ae rfl) (ae rfl)) (aa (ae rfl) aj))) aj))))))
    aD)))))
 refine hv (p := ∀{w:World}{cb:Bool},bz (CF heap_1_39 view_1_40 w) cb 2 (.ref 527) (dg 527 cU)) ?_ fun j0=>?_
 ·intro w cb
  exact lG (by dsimp only [CF];k_dflt k_is) (by dsimp only [CF];k_dflt k_is) (by dsimp only [CF];k_dflt k_is) AS
 refine hv (p := ∀{w:World},aE (CF heap_1_39 view_1_40 w) true 9 829 fM) ?_ fun s7=>?_
 ·intro w
  refine' aJ (ps:=[Str.ofString "source"]) (ls:=[Str.ofString "sizes",Str.ofString "number",Str.ofString "keys",Str.ofString "turn",Str.ofString "leaves",Str.ofString "middles",Str.ofString "at",Str.ofString "size",Str.ofString "pages",Str.ofString "store",Str.ofString "trees",Str.ofString "root",Str.ofString "before",Str.ofString "asked",Str.ofString "key"]) ?ho ?hcd ?hbind ?cL ?hnd ?hdc ?hbody ?hk ?hco ?hgen ?hcc
  case ho=>dsimp only [CF];k_dflt k_is
  case hcd=>dsimp only [CF];k_dflt k_is
  case hbind=>exact fun s=>hb1 fun _=>BindsTo.of_eq rfl
  case cL=>decide
  case hnd=>decide
  case hdc=>decide
  case hk=>rfl
  case hco=>rfl
  case hgen=>rfl
  case hcc=>exact fun c h=>by cases (show(some 828:Option Addr)=some c from h);rfl
  case hbody=>exact(ah (gV (bG.cons ⟨rfl,.inl rfl⟩ (bG.cons ⟨rfl,.inl rfl⟩ (bG.cons ⟨rfl,.inl rfl⟩ bG.nil))) (bC (aa (az (tW rfl) rT (aE.call (aE.up (tX) (by decide))) (aa (ae rfl) aj)) (aa aB (aa (aO aj) aj)))))
    (ah (kj rfl rfl (ic rfl) (aG fb (aG aU (az (Lo rfl) bI Bl (aa (ae rfl) aj)) (az (cu rfl) bI bg (aa (ae rfl) aj))) aB) (ah (aN rfl rfl (aG aU (aG aU (ae rfl) aB) (az (ek rfl) dJ (aE.call (aE.up (eo) (by decide))) (aa (ae rfl) (aa aB aj)))))
    (ah (bY (cB cQ b9 (ae rfl) (aa (aG aU (az (df rfl) cF cA (aa (aO (aa (aG kW (ae rfl) aB) (aa (aG jF (ae rfl) aB) aj))) aj)) (gD (aX eV (az (ek rfl) dJ (aE.call (aE.up (eo) (by decide))) (aa (ae rfl) (aa aB aj))) aB) cT cT)) aj)))
    aD)))
    (ah (gV (bG.cons ⟨rfl,.inl rfl⟩ (bG.cons ⟨rfl,.inl rfl⟩ (bG.cons ⟨rfl,.inl rfl⟩ bG.nil))) (bC (aa (aO aj) (aa (aO aj) (aa aB aj)))))
    (ah (uv rfl rfl (ae rfl) (ah (bY (cB cQ b9 (ae rfl) (aa (lW (ae rfl) (gm (ae rfl)) (gm (aG aU (ae rfl) (ae rfl)))) aj)))
    (ah (bY (cB Gz Bk (ae rfl) (aa (lW (ae rfl) (gm (aG aU (ae rfl) (ae rfl))) (gm (aG aU (aG aU (ae rfl) (ae rfl)) aB))) aj)))
    (ah (aN rfl rfl (aG aU (aG aU (ae rfl) (ae rfl)) aB))
    aD))))
    (ah (aN rfl rfl (az (tV rfl) rR (aE.call (aE.up (tY) (by decide))) (aa (ae rfl) (aa (az (cu rfl) bI bg (aa (ae rfl) aj)) aj))))
    (ah (aN rfl rfl (az (jS rfl) i7 (aE.call (aE.up (jZ) (by decide))) (aa (ae rfl) (aa (ae rfl) (aa (ae rfl) (aa cO aj))))))
    (ah (gU (bG.cons ⟨rfl,.inr rfl⟩ (bG.cons ⟨rfl,.inr rfl⟩ (bG.cons ⟨rfl,.inl rfl⟩ bG.nil))) (bC (aa (az (mU rfl) jV (bz.up j0 (by decide)) (aa (ae rfl) (aa (ae rfl) aj))) (aa (br (ae rfl) (fE aB)) (aa (az (Gh rfl) cF yv (aa (be (k := .ay) rfl bF (ae rfl)) aj)) aj)))))
    (ah (aN rfl rfl (aG aU (lW (ae rfl) oq (gm (az (ek rfl) dJ (aE.call (aE.up (eo) (by decide))) (aa (ae rfl) (aa aB aj))))) (aO (aa cT (aa (az (df rfl) cF cA (aa (aO (aa aB (aa (az (ek rfl) dJ (aE.call (aE.up (eo) (by decide))) (aa (ae rfl) (aa aB aj))) aj))) aj)) (aa (az (df rfl) cF cA (aa (aO (aa aB (aa aB (aa aB aj)))) aj)) aj))))))
    (ah (uv rfl rfl (aG aU (ae rfl) (aO (aa (aG aU (az (lN rfl) jU (aE.call (aE.up (lT) (by decide))) (aa (ae rfl) (aa (aG aU (ae rfl) (aO (aa cT aj))) aj))) cT) aj))) (ah (bU (aX qq (az (jT rfl) i8 (aE.call (aE.up (jY) (by decide))) (aa (ae rfl) (aa (ae rfl) (aa (ae rfl) (aa (az (ig rfl) gh gk aj) aj))))) (az (xP rfl) wX (aE.call (aE.up (yg) (by decide))) (aa (ae rfl) (aa (ae rfl) (aa (ae rfl) (aa (ae rfl) aj)))))) (ah (aP cO)
    aD) aD)
    aD))
    (ah (bU (iP (kU (cj (az (lM rfl) kM (aE.call (aE.up (lU) (by decide))) (aa (ae rfl) (aa (ae rfl) (aa (ae rfl) aj)))))) (iP (kU (cj (l6 (j:=2) (xs:=[Str.ofString "trees",Str.ofString "root"]) (is:=[11,12]) (d:=6) AP (fO rfl) (by rfl) (by decide) rfl ⟨rfl,by intro k x i h1 h2;revert h1 h2;rcases k with _ | _ | k<;>intro h1 h2<;>simp at h1 h2<;>(subst h1;subst h2;rfl),by decide,⟨[Str.ofString "trees",Str.ofString "root"],by decide,by decide,by intro env cs h;unfold closureFor;simp [cellOf,h (Str.ofString "trees") (by simp),h (Str.ofString "root") (by simp)]<;>rfl⟩⟩ (az (jq rfl) iM (aE.call (aE.up (ju) (by decide))) (aa (ae rfl) (aa (ae rfl) (aa aB aj)))) (fun _=>rfl) rfl rfl rfl (by decide) (by decide) (fun _ _ _ _ _=>rfl)))) eK)) (ah (aP cO)
    aD) aD)
    (ah (aP (gB eV (be (k := .ay) rfl bF (ae rfl)) (ae rfl)))
    aD)))))))))))
 refine hv (p := ∀{w:World},aE (CF heap_1_39 view_1_40 w) true 10 834 fN) ?_ fun s8=>?_
 ·intro w
  refine' aJ (ps:=[Str.ofString "source"]) (ls:=[Str.ofString "sizes",Str.ofString "rowid",Str.ofString "leaves",Str.ofString "middles",Str.ofString "size",Str.ofString "leaf",Str.ofString "turn",Str.ofString "pages",Str.ofString "store",Str.ofString "trees",Str.ofString "root",Str.ofString "before",Str.ofString "some",Str.ofString "one"]) ?ho ?hcd ?hbind ?cL ?hnd ?hdc ?hbody ?hk ?hco ?hgen ?hcc
  case ho=>dsimp only [CF];k_dflt k_is
  case hcd=>dsimp only [CF];k_dflt k_is
  case hbind=>exact fun s=>hb1 fun _=>BindsTo.of_eq rfl
  case cL=>decide
  case hnd=>decide
  case hdc=>decide
  case hk=>rfl
  case hco=>rfl
  case hgen=>rfl
  case hcc=>exact fun c h=>by cases (show(some 833:Option Addr)=some c from h);rfl
  case hbody=>exact(ah (gU (bG.cons ⟨rfl,.inl rfl⟩ (bG.cons ⟨rfl,.inl rfl⟩ (bG.cons ⟨rfl,.inl rfl⟩ (bG.cons ⟨rfl,.inl rfl⟩ bG.nil)))) (bC (aa (az (tW rfl) rT (aE.call (aE.up (tX) (by decide))) (aa (ae rfl) aj)) (aa (az (lN rfl) jU (aE.call (aE.up (lT) (by decide))) (aa (ae rfl) (aa (aO (aa (fE aB) (aa aB (aa (aG De aB aB) aj)))) aj))) (aa (aO aj) (aa (aO aj) aj))))))
    (ah (uv rfl rfl (ae rfl) (ah (aN rfl rfl (aO aj))
    (ah (kj rfl rfl (ic rfl) (ae rfl) (ah (aN rfl rfl (aG aU (aG aU (ae rfl) aB) (az (ek rfl) dJ (aE.call (aE.up (eo) (by decide))) (aa (ae rfl) (aa aB aj)))))
    (ah (bY (cB cQ b9 (ae rfl) (aa (ae rfl) aj)))
    aD)))
    (ah (bY (cB cQ b9 (ae rfl) (aa (ae rfl) aj)))
    (ah (aN rfl rfl (aG aU (ae rfl) (az (ek rfl) dJ (aE.call (aE.up (eo) (by decide))) (aa (ae rfl) (aa aB aj)))))
    (ah (bY (cB cQ b9 (ae rfl) (aa (ae rfl) aj)))
    aD))))))
    (ah (gV (bG.cons ⟨rfl,.inl rfl⟩ (bG.cons ⟨rfl,.inl rfl⟩ bG.nil)) (bC (aa (lW (ae rfl) oq (gm (fE aB))) (aa (az (tV rfl) rR (aE.call (aE.up (tY) (by decide))) (aa (ae rfl) (aa (az (cu rfl) bI bg (aa (ae rfl) aj)) aj))) aj))))
    (ah (aN rfl rfl (az (jS rfl) i7 (aE.call (aE.up (jZ) (by decide))) (aa (ae rfl) (aa (ae rfl) (aa (ae rfl) (aa cO aj))))))
    (ah (gU (bG.cons ⟨rfl,.inr rfl⟩ (bG.cons ⟨rfl,.inr rfl⟩ (bG.cons ⟨rfl,.inl rfl⟩ bG.nil))) (bC (aa (az (mU rfl) jV (bz.up j0 (by decide)) (aa (ae rfl) (aa (ae rfl) aj))) (aa (br (ae rfl) (fE aB)) (aa (az (Gh rfl) cF yv (aa (be (k := .ay) rfl bF (ae rfl)) aj)) aj)))))
    (ah (aN rfl rfl (aG aU (aG aU (IX ⟨by decide,rfl,by decide,rfl,rfl,by decide⟩ (by rfl) (by decide) (by decide) (by decide) (ae rfl)) (ae rfl)) (aO (aa aB aj))))
    (ah (kj rfl rfl (ic rfl) aB (ah (aN rfl rfl (aG aU (az (lN rfl) jU (aE.call (aE.up (lT) (by decide))) (aa (ae rfl) (aa (ae rfl) aj))) (az (lN rfl) jU (aE.call (aE.up (lT) (by decide))) (aa (ae rfl) (aa (aO (aa aB (aa aB (aa aB (aa (fE aB) aj))))) aj)))))
    (ah (bU (aX qq (az (jq rfl) iM (aE.call (aE.up (ju) (by decide))) (aa (ae rfl) (aa (ae rfl) (aa (ae rfl) aj)))) (az (xQ rfl) wY (aE.call (aE.up (yh) (by decide))) (aa (ae rfl) (aa (ae rfl) (aa (ae rfl) (aa (ae rfl) aj)))))) (ah (aP cO)
    aD) aD)
    aD)))
    (ah (bU (aX qq (az (AA rfl) xU (aE.call (aE.up (AW) (by decide))) (aa (ae rfl) (aa (ae rfl) aj))) (gD (aX qq (br (ae rfl) (fE aB)) (aO aj)) (br (br (ae rfl) (fE aB)) (fE aB)) zy)) (ah (aP cO)
    aD) aD)
    (ah (bU (kU (cj (az (lM rfl) kM (aE.call (aE.up (lU) (by decide))) (aa (ae rfl) (aa (ae rfl) (aa (ae rfl) aj)))))) (ah (aP cO)
    aD) aD)
    (ah (aP (C6 (l6 (j:=1) (xs:=[Str.ofString "trees",Str.ofString "root"]) (is:=[10,11]) (d:=7) AP (fO rfl) (by rfl) (by decide) rfl ⟨rfl,by intro k x i h1 h2;revert h1 h2;rcases k with _ | _ | k<;>intro h1 h2<;>simp at h1 h2<;>(subst h1;subst h2;rfl),by decide,⟨[Str.ofString "trees",Str.ofString "root"],by decide,by decide,by intro env cs h;unfold closureFor;simp [cellOf,h (Str.ofString "trees") (by simp),h (Str.ofString "root") (by simp)]<;>rfl⟩⟩ (az (jT rfl) i8 (aE.call (aE.up (jY) (by decide))) (aa (ae rfl) (aa (ae rfl) (aa cT (aa (az (ig rfl) gh gk aj) aj))))) (fun _=>rfl) rfl rfl rfl (by decide) (by decide) (fun _ _ _ _ _=>rfl)) (gB eV (be (k := .ay) rfl bF (ae rfl)) (ae rfl))))
    aD))))))))))
 refine hv (p := ∀{w:World},aE (CF heap_1_39 view_1_40 w) true 10 841 eG) ?_ fun tu=>?_
 ·intro w
  refine' aJ (ps:=[]) (ls:=[Str.ofString "told",Str.ofString "keys",Str.ofString "rows"]) ?ho ?hcd ?hbind ?cL ?hnd ?hdc ?hbody ?hk ?hco ?hgen ?hcc
  case ho=>dsimp only [CF];k_dflt k_is
  case hcd=>dsimp only [CF];k_dflt k_is
  case hbind=>exact fun s=>hb0 (BindsTo.of_eq rfl)
  case cL=>decide
  case hnd=>decide
  case hdc=>decide
  case hk=>rfl
  case hco=>rfl
  case hgen=>rfl
  case hcc=>exact fun c h=>by cases (show(some 840:Option Addr)=some c from h);rfl
  case hbody=>exact(ah (aN rfl rfl (az (jS rfl) i7 (aE.call (aE.up (jZ) (by decide))) (aa (aO (aa (aO (aa cT (aa cT aj))) aj)) (aa (aO aj) (aa (aO (aa aB (aa aB aj))) (aa cO aj))))))
    (ah (bU (aX qq (az (jT rfl) i8 (aE.call (aE.up (jY) (by decide))) (aa (az (mU rfl) jV (bz.up j0 (by decide)) (aa (ae rfl) (aa (ae rfl) aj))) (aa aB (aa cT (aa (az (ig rfl) gh gk aj) aj))))) (bC (aa (aO (aa (bC (aa aB (aa aB aj))) aj)) (aa aB aj)))) (ah (aP cO)
    aD) aD)
    (ah (EY ⟨rfl,.inr rfl⟩ (az (jS rfl) i7 (aE.call (aE.up (jZ) (by decide))) (aa (aO (aa (aO (aa cT aj)) (aa (aO (aa cT aj)) aj))) (aa (aO (aa cT aj)) (aa (aO (aa aB (aa aB (aa aB aj)))) (aa cO aj))))))
    (ah (bY (az (gr rfl) fQ (aE.call (aE.up (gx) (by decide))) (aa (ae rfl) (aa aB (aa (az (oK rfl) mT (bz.up m4 (by decide)) (aa aB (aa (aO (aa (aG aU (az (df rfl) cF cA (aa (aO (aa aB (aa aB aj))) aj)) cT) aj)) (aa aB aj)))) aj)))))
    (ah (EY ⟨rfl,.inr rfl⟩ (az (jS rfl) i7 (aE.call (aE.up (jZ) (by decide))) (aa (aO (aa (aO (aa aB aj)) (aa (aO (aa aB aj)) aj))) (aa (aO (aa aB aj)) (aa (aO (aa aB (aa aB (aa aB aj)))) (aa cO aj))))))
    (ah (bY (az (gr rfl) fQ (aE.call (aE.up (gx) (by decide))) (aa (ae rfl) (aa aB (aa (az (oK rfl) mT (bz.up m4 (by decide)) (aa aB (aa (aO (aa (aG aU (az (df rfl) cF cA (aa (aO (aa aB aj)) aj)) cT) aj)) (aa aB aj)))) aj)))))
    (ah (bU (aX qq (az (jT rfl) i8 (aE.call (aE.up (jY) (by decide))) (aa (az (mU rfl) jV (bz.up j0 (by decide)) (aa (ae rfl) (aa (ae rfl) aj))) (aa aB (aa cT (aa (az (ig rfl) gh gk aj) aj))))) (bC (aa (aO (aa (bC (aa aB (aa aB aj))) (aa (bC (aa aB (aa aB aj))) aj))) (aa aB aj)))) (ah (aP cO)
    aD) aD)
    (ah (bU (kU (cj (l6 (j:=0) (xs:=[Str.ofString "keys"]) (is:=[1]) (d:=7) AP (fO rfl) (by rfl) (by decide) rfl ⟨rfl,by intro k x i h1 h2;revert h1 h2;rcases k with _ | _ | k<;>intro h1 h2<;>simp at h1 h2<;>(subst h1;subst h2;rfl),by decide,⟨[Str.ofString "keys"],by decide,by decide,by intro env cs h;unfold closureFor;simp [cellOf,h (Str.ofString "keys") (by simp)]<;>rfl⟩⟩ (az (jT rfl) i8 (aE.call (aE.up (jY) (by decide))) (aa (az (mU rfl) jV (bz.up j0 (by decide)) (aa (ae rfl) (aa (ae rfl) aj))) (aa aB (aa cT (aa (az (ig rfl) gh gk aj) aj))))) (fun _=>rfl) rfl rfl rfl (by decide) (by decide) (fun _ _ _ _ _=>rfl)))) (ah (aP cO)
    aD) aD)
    (ah (bU (aX qq (az (jq rfl) iM (aE.call (aE.up (ju) (by decide))) (aa (az (mU rfl) jV (bz.up j0 (by decide)) (aa (ae rfl) (aa (ae rfl) aj))) (aa aB (aa aB aj)))) (bC (aa (aO (aa (bC (aa aB (aa aB aj))) (aa (bC (aa aB (aa aB aj))) aj))) (aa cO aj)))) (ah (aP cO)
    aD) aD)
    (ah (aP (l6 (j:=0) (xs:=[Str.ofString "rows"]) (is:=[2]) (d:=7) AP (fO rfl) (by rfl) (by decide) rfl ⟨rfl,by intro k x i h1 h2;revert h1 h2;rcases k with _ | _ | k<;>intro h1 h2<;>simp at h1 h2<;>(subst h1;subst h2;rfl),by decide,⟨[Str.ofString "rows"],by decide,by decide,by intro env cs h;unfold closureFor;simp [cellOf,h (Str.ofString "rows") (by simp)]<;>rfl⟩⟩ (az (jq rfl) iM (aE.call (aE.up (ju) (by decide))) (aa (az (mU rfl) jV (bz.up j0 (by decide)) (aa (ae rfl) (aa (ae rfl) aj))) (aa aB (aa aB aj)))) (fun _=>rfl) rfl rfl rfl (by decide) (by decide) (fun _ _ _ _ _=>rfl)))
    aD))))))))))
 refine hv (p := ∀{w:World},Oc (CF heap_1_39 view_1_40 w) 848 1 E6) ?_ fun UM=>?_
 ·intro w
  refine' GU (d:=10) (x:=Str.ofString "script") (ls:=[Str.ofString "source"]) ?ho ?hcd ?hbind ?cL ?hnd ?hnc ?hbody ?hk ?hco ?hgen ?hcc ?hr
  case ho=>dsimp only [CF];k_dflt k_is
  case hcd=>dsimp only [CF];k_dflt k_is
  case hbind=>intro s v;exact BindsTo.of_eq rfl
  case cL=>rfl
  case hnd=>decide
  case hnc=>decide
  case hk=>rfl
  case hco=>rfl
  case hgen=>rfl
  case hcc=>rfl
  case hr=>decide +kernel
  case hbody=>exact(ah (bU (kU (cj (az (sR rfl) rU (aE.call (aE.up (tu) (by decide))) aj))) (ah (aP cO)
    aD) aD)
    (ah (aN rfl rfl (az (Ep rfl) CJ (aE.call (aE.up (EA) (by decide))) (aa (ae rfl) (aa aB aj))))
    (ah (aP (C6 (az (sP rfl) rQ (aE.call (aE.up (s7) (by decide))) (aa (ae rfl) aj)) (az (sQ rfl) rS (aE.call (aE.up (s8) (by decide))) (aa (ae rfl) aj))))
    aD)))
 intro w s₀ s₁ mg mb G Y fa o pm cd doc dV kV ho hd hcd hD hmg hg args vals as hpre hlay hrd hwl hlo
 have KX:=km_in_of Y
 km_tabs Y
 have X:=(Ground.X G).1
 have V:=(Ground.X G).2
 refine Ground.open G ?_
 intro T B D TE TW
 try (refine guard_noD D (by decide +kernel) ?_;clear D)
 km_lay T hmg ho hd cd
 wrow_args hpre hlay hrd hwl hlo
 rename Well _ _ _ _=>wl
 rename IntsAre _ _=>hI
 rename List Int=>nums
 have hfa:fa=848:=by
  have e:nsIn (heap_1_39 w.params) mainGlobals (Str.ofString "law")=some (some (.ref 848)):=by k_dflt k_is
  have e2:=mg_of KX T.g e
  have e3:=Option.some.inj (hmg.symm.trans e2)
  exact Value.ref.inj e3
 subst hfa
 rename Heap.IsList _ _ _=>hL
 obtain⟨ol,ho1,ho2,nn,ho3⟩:=hL
 obtain⟨vs,hob⟩:=HC wl
 rw [hob]at ho1
 cases ho1
 cases ho3
 have good:∀(nums:List Int)(h:Heap)(tk:Nat),(∀b o,b∉fW->s₁.heap.get? b=some o->h.get? b=some o)->(∀P∈fW,∃ps,h.get? P=some (tabObj ps)) →
   GoodWG Challenge.rw_xw0241_01.row.claim (classAt s₀.heap) (ExcName.means s₀.heap) [ofPy (PyData.list (List.map PyData.int nums))] s₁ (.ok (.ret (.bool true))) {s₁ with heap:=h,toks:=tk}:=fun nums h tk kp tb=>by
  refine⟨.inl ⟨.bool true,.bool true,[],rfl,fun _=>rfl,ReadsW.bool true,?_,fun _=>⟨List.nodup_nil,fun a h=>nomatch h⟩⟩,Lm hT9 kp tb,rfl,AllBare.of_eq hg⟩
  wrow_post
 refine xg (LC (lC ?_)) (good _ s₁.heap s₁.toks (fun _ _ _ e=>e) fun P hP=>⟨#[],hT8 P hP⟩)
 obtain⟨H',k0,k1,k2,r,hrun,hH'⟩:=P.plain nums (by lia)
 refine UM (w:=w) _ _ _ _ _ s₁ _ _ _ _ H' k0 k1 k2 r rfl rfl KX hT9 T (by kernel_rfl) (by kernel_rfl) hob hI hrun hH' fun h tk kp tb=>?_
 exact good _ h tk kp tb
set_option Elab.async false
end
end Mine
theorem PySem.Challenge.cw_xw0241_01_holds : PySem.Challenge.rw_xw0241_01.Holds :=
Mine.fin
