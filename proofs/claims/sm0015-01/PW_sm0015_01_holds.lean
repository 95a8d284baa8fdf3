import PyProof.Rows.All
import Wide.All
import OpenK.AllK
import KE.KPar
import Wide.FinOn
import PySem.Challenge.RW_sm0015_01
set_option Elab.async false
set_option maxRecDepth 100000
set_option linter.all false
set_option genSizeOf false
set_option genInjectivity false
set_option genCtorIdx false
set_option bootstrap.genMatcherCode false
open PySem PySem.W PySem.Calls PyProof.Rows PySem.Challenge
namespace Mine.Internal
open _root_.Nat renaming beq→ag,eq_of_beq_eq_true→aZ,le_refl→bb,blt→bq,le_trans→cx,lt_of_lt_of_le→cV,zero_add→cZ,lt_irrefl→df,le_of_lt→dU,ble→dW,lt_or_ge→fq,zero_le→fu,add_assoc→gB,lt_succ_self→jV,ne_of_lt→jW,succ_le_succ→mv,beq_refl→mB,le_of_eq→mC,le_add_right→nS,le_succ→nU,le_of_ble_eq_true→pY,lt_of_le_of_lt→p5,add_sub_cancel_left→rR,lt_trans→rV,succ_pos→r6,ne_of_gt→vz,pow_succ→vA,sub_self→vB,sub→wH,add_right_comm→zd,le_of_lt_succ→zA,succ_lt_succ→zE,lt_one_iff→zK,mul_comm→zR,div_le_self→EM,add_comm→EV,ble_eq→E9,mod_lt→Fh,add→Hs,min→HW,div_div_eq_div_mul→N9,le_of_sub_eq_zero→Of,pow_le_pow_right→Ol,pos_of_ne_zero→Ow,lt_succ_of_le→Oz,div_eq_of_lt→OC,succ_ne_self→OH,succ_ne_zero→OI,strongRecOn→ON,mul_le_mul→OQ,pow_zero→Pa,toDigits→Pd,div_one→Pj,log2_lt→Pk,pow_pos→Pp,blt_eq→Pw,not_lt→PC
open _root_.Int renaming ofNat→aq,le_trans→fG,negSucc→gC,le_of_lt→g7,natCast_nonneg→iK,add→iQ,toNat_of_nonneg→jh,sub→jk,ofNat_lt→jX,toNat→ly,natAbs_of_nonneg→pZ,fmod_eq_emod_of_nonneg→rQ,ne_of_gt→rX,ofNat_le→rY,not_lt→se,fmod→sr,emod_nonneg→vq,lt_iff_le_and_ne→y9,emod_lt_of_pos→zh,toNat_natCast→zB,le_refl→zT,fdiv→Aq,fdiv_eq_ediv_of_nonneg→Ez,eq_ofNat_of_zero_le→EB,lt_of_lt_of_le→EH,ediv_le_self→EK,ediv_nonneg→EN,natCast_add→EP,natCast_mul→ER,ofNat_fdiv→ET,lt_trans→EX,neg→HY,emod_add_mul_ediv→Od,le_of_lt_add_one→Oi,negSucc_lt_zero→Oq,lt_of_le_of_lt→Ov,dvd_mul_right→Oy,add_nonneg→OO,mul_nonneg→OS,ofNat_fmod→OT,dvd_trans→OV,mul→Un,pow→UB
open _root_.List renaming mem_cons→aE,range→aI,all_eq_true→aM,not_mem_nil→aP,length_map→aT,mem_append→bj,mem_singleton→bx,mem_map→bz,getElem?_map→b0,mem_of_getElem?→cf,length_cons→cw,getElem?_eq_getElem→cA,length_append→cH,size_toArray→cW,getElem?_eq_some_iff→dM,mem_range→dN,length_range→dZ,replicate→eR,map_inj_left→fk,map_cons→fo,map→fH,getElem?_append_left→iJ,append_nil→iM,map_map→iN,getElem?_eq_none→jg,getElem?_append_right→jU,all→j2,getElem?_range→lq,getElem?_toArray→mh,pairwise_cons→ml,append_assoc→mr,reverse_cons→mu,nodup_cons→mA,getElem_mem→nR,map_congr_left→p4,length_reverse→rS,zip_cons_cons→rT,all_cons→rU,map_nil→rW,replicate_succ→vp,mem_filter→vw,any_cons→vy,getElem?_cons_succ→y6,length_replicate→y7,getElem?_of_mem→y8,filter_cons→zC,lookup_cons→zD,length_nil→zF,length_set→zG,map_append→zH,eq_nil_of_length_eq_zero→Ex,mem_zipIdx_iff_getElem?→Ey,getElem?_eq_none_iff→EA,length_singleton→EC,filterMap_cons→ED,getElem?_drop→EE,getElem_range→EG,ext_getElem?→EI,flatten_cons→EJ,mem_reverse→EL,range_succ→ES,getD_eq_getElem?_getD→N6,getElem?_zip_eq_some→N7,eq_of_mem_replicate→N8,getElem?_set_self→Oa,range_succ_eq_map→Ob,filterMap_append→Oe,getElem?_set_ne→Oh,append_toArray→Om,mem_map_of_mem→Oo,filterMap_map→Ot,filterMap_nil→Ou,zip_nil_right→Ox,zip_nil_left→OA,cons_append→OB,length_take→OD,map_reverse→OE,mem_toArray→OF,length_zip→OJ,nil_append→OL,of_mem_zip→OM,drop_take→OP,lookup→Pn,foldl→PA
open _root_.Bool renaming false_ne_true→eQ,not_eq_true'→nO,and_eq_true→nQ,or_eq_true_iff→vn,eq_iff_iff→vt,or_eq_true→zI,and_false→zJ,and_eq_false_iff→Oc,and_eq_true_iff→Og,or_eq_false_iff→Oj,false_or→OW
open _root_.Option renaming bind_some→iL,map_eq_some_iff→jf,map_some→OK
section
open PySem.SeqAt
variable{a:Addr}{p:Addr×Addr}{A:Around}{b:Bool}{e:Env}{g hh:Heap}{key:Int}{sc scC:List (Nat×NameKind)}{X X' D N:List Addr}{x:List Int}{ns ps π kp:List Nat}{ds elts ifs dJ:List PySem.Expr}{db body rest:List PySem.Stmt}{vs:List Value}{n t i f r j J r0 sp:Nat}{pos:Pos}{q P:Prop}{d dt di aH:PySem.Expr}{s s' fD:Shared}{m mm:Str→Option Value}{v u:Value}{E Q:Value→Shared→Prop}{w:World}
section
theorem bS{α:Type}{P:α→Prop}:∀x∈([]:List α),P x:=fun _ m=>absurd m aP
theorem in1{α:Type}{P:α→Prop}{a:α}{l:List α}(h:P a)(h2:∀x∈l,P x):∀x∈a::l,P x:=fun x m=>(aE.mp m).elim (fun e=>e▸h) (h2 x)
theorem ai{p:Prop}(h:p∧q)(H:p→q→P):P:=by obtain⟨h0,h1⟩:=h;exact H h0 h1
theorem dq{p:Prop}{r:Prop}(h:p∧q∧r)(H:p→q→r→P):P:=by obtain⟨h0,h1,h2⟩:=h;exact H h0 h1 h2
theorem pW{p:Prop}{r:Prop}{s:Prop}(h:p∧q∧r∧s)(H:p→q→r→s→P):P:=by obtain⟨h0,h1,h2,h3⟩:=h;exact H h0 h1 h2 h3
theorem vg{p:Prop}{r:Prop}{s:Prop}{t:Prop}(h:p∧q∧r∧s∧t)(H:p→q→r→s→t→P):P:=by obtain⟨h0,h1,h2,h3,h4⟩:=h;exact H h0 h1 h2 h3 h4
theorem x06{p:Prop}{r:Prop}{s:Prop}{t:Prop}{u:Prop}(h:p∧q∧r∧s∧t∧u)(H:p→q→r→s→t→u→P):P:=by obtain⟨h0,h1,h2,h3,h4,h5⟩:=h;exact H h0 h1 h2 h3 h4 h5
theorem x07{p:Prop}{r:Prop}{s:Prop}{t:Prop}{u:Prop}{v:Prop}(h:p∧q∧r∧s∧t∧u∧v)(H:p→q→r→s→t→u→v→P):P:=by obtain⟨h0,h1,h2,h3,h4,h5,h6⟩:=h;exact H h0 h1 h2 h3 h4 h5 h6
theorem x08{p:Prop}{r:Prop}{s:Prop}{t:Prop}{u:Prop}{v:Prop}{w:Prop}(h:p∧q∧r∧s∧t∧u∧v∧w)(H:p→q→r→s→t→u→v→w→P):P:=by obtain⟨h0,h1,h2,h3,h4,h5,h6,h7⟩:=h;exact H h0 h1 h2 h3 h4 h5 h6 h7
theorem av{α:Sort _}{p:α→Prop}(h:∃a,p a)(H:∀a,p a→P):P:=by obtain⟨a,h0⟩:=h;exact H a h0
theorem ak{α:Sort _}{p q:α→Prop}(h:∃a,p a∧q a)(H:∀a,p a→q a→P):P:=by obtain⟨a,h0,h1⟩:=h;exact H a h0 h1
theorem gz{α:Sort _}{p q r:α→Prop}(h:∃a,p a∧q a∧r a)(H:∀a,p a→q a→r a→P):P:=by obtain⟨a,h0,h1,h2⟩:=h;exact H a h0 h1 h2
theorem Eu{α:Sort _}{p q r s:α→Prop}(h:∃a,p a∧q a∧r a∧s a)(H:∀a,p a→q a→r a→s a→P):P:=by obtain⟨a,h0,h1,h2,h3⟩:=h;exact H a h0 h1 h2 h3
theorem x15{α:Sort _}{p q r s t:α→Prop}(h:∃a,p a∧q a∧r a∧s a∧t a)(H:∀a,p a→q a→r a→s a→t a→P):P:=by obtain⟨a,h0,h1,h2,h3,h4⟩:=h;exact H a h0 h1 h2 h3 h4
theorem Ew{α:Sort _}{p q r s t u:α→Prop}(h:∃a,p a∧q a∧r a∧s a∧t a∧u a)(H:∀a,p a→q a→r a→s a→t a→u a→P):P:=by obtain⟨a,h0,h1,h2,h3,h4,h5⟩:=h;exact H a h0 h1 h2 h3 h4 h5
theorem x17{α:Sort _}{p q r s t u v:α→Prop}(h:∃a,p a∧q a∧r a∧s a∧t a∧u a∧v a)(H:∀a,p a→q a→r a→s a→t a→u a→v a→P):P:=by obtain⟨a,h0,h1,h2,h3,h4,h5,h6⟩:=h;exact H a h0 h1 h2 h3 h4 h5 h6
theorem gA{α:Sort _}{β:Sort _}{p:α→β→Prop}(h:∃a b,p a b)(H:∀a b,p a b→P):P:=by obtain⟨a,b,h0⟩:=h;exact H a b h0
theorem eP{α:Sort _}{β:Sort _}{p q:α→β→Prop}(h:∃a b,p a b∧q a b)(H:∀a b,p a b→q a b→P):P:=by obtain⟨a,b,h0,h1⟩:=h;exact H a b h0 h1
theorem dK{α:Sort _}{β:Sort _}{p q r:α→β→Prop}(h:∃a b,p a b∧q a b∧r a b)(H:∀a b,p a b→q a b→r a b→P):P:=by obtain⟨a,b,h0,h1,h2⟩:=h;exact H a b h0 h1 h2
theorem ll{α:Sort _}{β:Sort _}{p q r s:α→β→Prop}(h:∃a b,p a b∧q a b∧r a b∧s a b)(H:∀a b,p a b→q a b→r a b→s a b→P):P:=by obtain⟨a,b,h0,h1,h2,h3⟩:=h;exact H a b h0 h1 h2 h3
theorem x25{α:Sort _}{β:Sort _}{p q r s t:α→β→Prop}(h:∃a b,p a b∧q a b∧r a b∧s a b∧t a b)(H:∀a b,p a b→q a b→r a b→s a b→t a b→P):P:=by obtain⟨a,b,h0,h1,h2,h3,h4⟩:=h;exact H a b h0 h1 h2 h3 h4
theorem N3{α:Sort _}{β:Sort _}{p q r s t u:α→β→Prop}(h:∃a b,p a b∧q a b∧r a b∧s a b∧t a b∧u a b)(H:∀a b,p a b→q a b→r a b→s a b→t a b→u a b→P):P:=by obtain⟨a,b,h0,h1,h2,h3,h4,h5⟩:=h;exact H a b h0 h1 h2 h3 h4 h5
theorem x31{α:Sort _}{β:Sort _}{γ:Sort _}{p:α→β→γ→Prop}(h:∃a b c,p a b c)(H:∀a b c,p a b c→P):P:=by obtain⟨a,b,c,h0⟩:=h;exact H a b c h0
theorem iI{α:Sort _}{β:Sort _}{γ:Sort _}{p q:α→β→γ→Prop}(h:∃a b c,p a b c∧q a b c)(H:∀a b c,p a b c→q a b c→P):P:=by obtain⟨a,b,c,h0,h1⟩:=h;exact H a b c h0 h1
theorem N5{α:Sort _}{β:Sort _}{γ:Sort _}{p q r:α→β→γ→Prop}(h:∃a b c,p a b c∧q a b c∧r a b c)(H:∀a b c,p a b c→q a b c→r a b c→P):P:=by obtain⟨a,b,c,h0,h1,h2⟩:=h;exact H a b c h0 h1 h2
theorem vh{α:Sort _}{β:Sort _}{γ:Sort _}{p q r s:α→β→γ→Prop}(h:∃a b c,p a b c∧q a b c∧r a b c∧s a b c)(H:∀a b c,p a b c→q a b c→r a b c→s a b c→P):P:=by obtain⟨a,b,c,h0,h1,h2,h3⟩:=h;exact H a b c h0 h1 h2 h3
theorem vj{α:Sort _}{β:Sort _}{γ:Sort _}{p q r s t:α→β→γ→Prop}(h:∃a b c,p a b c∧q a b c∧r a b c∧s a b c∧t a b c)(H:∀a b c,p a b c→q a b c→r a b c→s a b c→t a b c→P):P:=by obtain⟨a,b,c,h0,h1,h2,h3,h4⟩:=h;exact H a b c h0 h1 h2 h3 h4
theorem x41{α:Sort _}{β:Sort _}{γ:Sort _}{δ:Sort _}{p:α→β→γ→δ→Prop}(h:∃a b c d,p a b c d)(H:∀a b c d,p a b c d→P):P:=by obtain⟨a,b,c,d,h0⟩:=h;exact H a b c d h0
theorem x42{α:Sort _}{β:Sort _}{γ:Sort _}{δ:Sort _}{p q:α→β→γ→δ→Prop}(h:∃a b c d,p a b c d∧q a b c d)(H:∀a b c d,p a b c d→q a b c d→P):P:=by obtain⟨a,b,c,d,h0,h1⟩:=h;exact H a b c d h0 h1
theorem x43{α:Sort _}{β:Sort _}{γ:Sort _}{δ:Sort _}{p q r:α→β→γ→δ→Prop}(h:∃a b c d,p a b c d∧q a b c d∧r a b c d)(H:∀a b c d,p a b c d→q a b c d→r a b c d→P):P:=by obtain⟨a,b,c,d,h0,h1,h2⟩:=h;exact H a b c d h0 h1 h2
theorem x44{α:Sort _}{β:Sort _}{γ:Sort _}{δ:Sort _}{p q r s:α→β→γ→δ→Prop}(h:∃a b c d,p a b c d∧q a b c d∧r a b c d∧s a b c d)(H:∀a b c d,p a b c d→q a b c d→r a b c d→s a b c d→P):P:=by obtain⟨a,b,c,d,h0,h1,h2,h3⟩:=h;exact H a b c d h0 h1 h2 h3
theorem x51{α:Sort _}{β:Sort _}{γ:Sort _}{δ:Sort _}{ε:Sort _}{p:α→β→γ→δ→ε→Prop}(h:∃a b c d e,p a b c d e)(H:∀a b c d e,p a b c d e→P):P:=by obtain⟨a,b,c,d,e,h0⟩:=h;exact H a b c d e h0
theorem x52{α:Sort _}{β:Sort _}{γ:Sort _}{δ:Sort _}{ε:Sort _}{p q:α→β→γ→δ→ε→Prop}(h:∃a b c d e,p a b c d e∧q a b c d e)(H:∀a b c d e,p a b c d e→q a b c d e→P):P:=by obtain⟨a,b,c,d,e,h0,h1⟩:=h;exact H a b c d e h0 h1
theorem x53{α:Sort _}{β:Sort _}{γ:Sort _}{δ:Sort _}{ε:Sort _}{p q r:α→β→γ→δ→ε→Prop}(h:∃a b c d e,p a b c d e∧q a b c d e∧r a b c d e)(H:∀a b c d e,p a b c d e→q a b c d e→r a b c d e→P):P:=by obtain⟨a,b,c,d,e,h0,h1,h2⟩:=h;exact H a b c d e h0 h1 h2
theorem x61{α:Sort _}{β:Sort _}{γ:Sort _}{δ:Sort _}{ε:Sort _}{ζ:Sort _}{p:α→β→γ→δ→ε→ζ→Prop}(h:∃a b c d e f,p a b c d e f)(H:∀a b c d e f,p a b c d e f→P):P:=by obtain⟨a,b,c,d,e,f,h0⟩:=h;exact H a b c d e f h0
theorem x62{α:Sort _}{β:Sort _}{γ:Sort _}{δ:Sort _}{ε:Sort _}{ζ:Sort _}{p q:α→β→γ→δ→ε→ζ→Prop}(h:∃a b c d e f,p a b c d e f∧q a b c d e f)(H:∀a b c d e f,p a b c d e f→q a b c d e f→P):P:=by obtain⟨a,b,c,d,e,f,h0,h1⟩:=h;exact H a b c d e f h0 h1
theorem vP{M:Model}{Γ:Ctx}{p:Pos}{t:Sem Fin}{fs:List Frame}{e:End}(h:Runs M Γ p t fs s e s'):s.heap.objs.size≤s'.heap.objs.size:=by
 induction h<;>(try simp only[Shared.setGen,Heap.size_push,Heap.size_update] at*)<;>omega
theorem PU{M:Model}{Γ:Ctx}{p:Pos}{g:Nat}{r:Resume}{res:GenResult}(h:Wakes M Γ p g r s res s'):s.heap.objs.size≤s'.heap.objs.size:=by
 unfold Wakes at h
 split at h
 ·exact h.elim
 ·split at h
  ·obtain⟨_,_,hr,_,_,rfl⟩:=h;exact(vP hr:_≤_)
  ·rw[h.2];exact bb _
  ·rw[h.2];exact bb _
 ·obtain⟨_,_,hr,_,_,rfl⟩:=h;exact(vP hr:_≤_)
 ·rw[h.2];exact bb _
 ·rw[h.2];exact bb _
theorem Vr{α:Type}(M:Model)(Γ:Ctx)(n:Nat)(t:Sem α):∀(Q:α→Pos→Shared→Prop)(E:Value→Pos→Shared→Prop)(p:Pos)(s:Shared),n≤s.heap.objs.size→Sem.wp M Γ t Q E p s→
  Sem.wp M Γ t (fun a p' s'=>n≤s'.heap.objs.size∧Q a p' s') (fun e p' s'=>n≤s'.heap.objs.size∧E e p' s') p s:=by
 induction t with
 |pure a=>exact fun Q E p s hn h=>⟨hn,h⟩
 |raise e=>exact fun Q E p s hn h=>⟨hn,h⟩
 |unsupported _=>exact fun Q E p s _ h=>h
 |finish _=>exact fun Q E p s _ h=>h
 |rule _ k ih=>exact fun Q E p s hn h=>ih () Q E p s hn h
 |«at» p' k ih=>exact fun Q E p s hn h=>ih () Q E p' s hn h
 |load a _ k ih=>exact fun Q E p s hn h=>let⟨o,ho,h⟩:=h;⟨o,ho,ih o Q E p s hn h⟩
 |update a _ f k ih=>exact fun Q E p s hn h=>⟨h.1,ih () Q E p _ (by rw[Heap.size_update];exact hn) h.2⟩
 |loadIfAlive a k ih=>exact fun Q E p s hn h=>ih _ Q E p s hn h
 |point _ k ih=>exact fun Q E p s hn h=>ih () Q E p s hn h
 |register _ _=>exact fun Q E p s _ h=>h
 |alloc o k ih=>exact fun Q E p s hn h=>ih _ Q E p _ (by show n≤(s.heap.push o).objs.size;rw[Heap.size_push];lia) h
 |fresh k ih=>exact fun Q E p s hn h=>ih _ Q E p _ hn h
 |ask k ih=>exact fun Q E p s hn h=>ih _ Q E p s hn h
 |choose src m k ih=>exact fun Q E p s hn h=>⟨h.1,ih _ Q E p _ hn h.2⟩
 |os q _ k ih=>exact fun Q E p s hn h=>ih _ Q E p _ hn h
 |call c hd _ _ k ih=>exact fun Q E p s hn h=>let⟨r,s',hr,h⟩:=h;⟨r,s',hr,ih r Q E p s' (cx hn (vP hr)) h⟩
 |handled own k ih=>exact fun Q E p s hn h=>ih _ Q E p s hn h
 |genState g k ih=>exact fun Q E p s hn h=>let⟨st,hs,h⟩:=h;⟨st,hs,ih _ Q E p s hn h⟩
 |newGen c k ih=>exact fun Q E p s hn h=>ih _ Q E p _ hn h
 |resume g r _ k ih=>exact fun Q E p s hn h=>let⟨res,s',hw,h⟩:=h;⟨res,s',hw,ih res Q E p s' (cx hn (PU hw)) h⟩
 |yield _ _ _ _=>exact fun Q E p s _ h=>h
 |stack k ih=>exact fun Q E p s hn h=>ih _ Q E p s hn h
 |fork _ _=>exact fun Q E p s _ h=>h
 |thread k ih=>exact fun Q E p s hn h=>ih _ Q E p s hn h
 |await _ _ _ _ _=>exact fun Q E p s _ h=>h
theorem gD{α:Type}{M:Model}{t:Sem α}{Q:α→Shared→Prop}
  (h:wpAny M A t (fun a s'=>s.heap.objs.size≤s'.heap.objs.size→Q a s') E s):wpAny M A t Q E s:=
 fun Γ p hΓ=>Sem.wp_mono M Γ _ (fun a _ s' x=>x.2 x.1) (fun _ _ _ x=>x.2) _ _ (Vr M Γ _ t _ _ p s (bb _) (h Γ p hΓ))
theorem aaa{M:Model}{c:Code}{R:Result→Shared→Prop}(h:codeAny M A c (fun r s'=>s.heap.objs.size≤s'.heap.objs.size→R r s') s):codeAny M A c R s:=
 fun Γ p hc hΓ=>let⟨r,s',hr,hR⟩:=h Γ p hc hΓ;⟨r,s',hr,hR (vP hr)⟩
end
section
inductive IX where
 |lit (n:Int)|var (i:Nat)
 |add (a b:IX)|sub (a b:IX)|mul (a b:IX)|neg (a:IX)|abs (a:IX)
 |fdiv (a b:IX)|fmod (a b:IX)|pow (a b:IX)
 |f1 (f:Nat) (a:IX)|f2 (f:Nat) (a b:IX)
inductive LX where
 |mk (f:Nat) (l:List IX)
inductive CX where
 |lt (a b:IX) (t:Bool)
 |eq (a b:IX) (t:Bool)
 |mc (a b:LX) (t:Bool)
 |room (g:Nat)
inductive SV where
 |none|bool (b:Bool)|lit (n:Int)|sym (e:IX) (n:Int)
 |str (i:Nat)|tup (l:List SV)|ar (l:List SV)|bu (l:List (Nat×SV))
 |fn (i:Nat)|cls (i:Nat)|bi (i:Nat)|c9
 |ref (i:Nat)|dy (i f:Nat)|tree (e:IX) (n:Int)|iu (e:IX) (n:Int)|lx (x:LX) (n:List Int)
 |au
inductive SO where
 |lst (l:List SV)|fb (g:Nat) (l:List SV)|iF (l:List (IX×Int×SV))
 |cb (l:List (Nat×SV))|cz (ex:Bool) (l:List (IX×Int×SV))
 |ins (c:Nat) (l:List (Nat×SV))
inductive ME where
 |none (k:Nat) (p:Pos)|bool (b:Bool) (k:Nat) (p:Pos)|int (n:Int) (k:Nat) (p:Pos)|str (i k:Nat) (p:Pos)
 |loc (x:Nat) (p:Pos)|eG (x g:Nat) (p:Pos)
 |o4 (a:Bool) (es:List ME) (p:Pos)|bin (op:Operator) (m:Bool) (l r:ME) (p:Pos)
 |not (e:ME) (p:Pos)|neg (e:ME) (p:Pos)|pF (t b o:ME) (p:Pos)
 |tup (es:List ME) (k:Nat) (p:Pos)|lst (m:Bool) (es:List ME) (p:Pos)|f3 (s:Bool) (p:Pos)
 |comp (elt aH it:ME) (ifs:List ME) (sc:List (Nat×NameKind)) (p:Pos)
 |cmp (l:ME) (ops:List CmpOp) (rs:List ME) (p:Pos)
 |call (f:ME) (as:List ME) (p:Pos)|oO (o:ME) (x:Nat) (ap:Pos) (as:List ME) (p:Pos)
 |fZ (o:ME) (x:Nat) (p:Pos)|sub (o i:ME) (p:Pos)
 |fj (m:Bool) (o l u s:ME) (sp p:Pos)|absent
 |rep (t m:Bool) (es:List ME) (k:Nat) (lp:Pos) (r:ME) (p:Pos)
 |iter (b x g:Nat) (as:List ME) (q p:Pos)
 |raw (e:PySem.Expr)
inductive MS where
 |asg (t v:ME) (p:Pos)|aug (x:Nat) (np:Pos) (op:Operator) (v:ME) (p:Pos)
 |ret (v:ME) (p:Pos)|iff (t:ME) (b o:List MS) (p:Pos)|cj (t:ME) (b:List MS) (p:Pos)
 |for (t it:ME) (b:List MS) (p:Pos)|exp (e:ME) (p:Pos)|raw (s:PySem.Stmt)
noncomputable section
noncomputable def IX.ctorIdx(v:IX):Nat:=IX.casesOn (motive:=fun _=>Nat) v (fun _=>0) (fun _=>1) (fun _ _=>2) (fun _ _=>3) (fun _ _=>4) (fun _=>5) (fun _=>6) (fun _ _=>7) (fun _ _=>8) (fun _ _=>9) (fun _ _=>10) (fun _ _ _=>11)
noncomputable def SV.ctorIdx(v:SV):Nat:=SV.casesOn (motive_1:=fun _=>Nat) v 0 (fun _=>1) (fun _=>2) (fun _ _=>3) (fun _=>4) (fun _=>5) (fun _=>6) (fun _=>7) (fun _=>8) (fun _=>9) (fun _=>10) 11 (fun _=>12) (fun _ _=>13) (fun _ _=>14) (fun _ _=>15) (fun _ _=>16) 17
noncomputable def ME.ctorIdx(v:ME):Nat:=ME.casesOn (motive_1:=fun _=>Nat) v (fun _ _=>0) (fun _ _ _=>1) (fun _ _ _=>2) (fun _ _ _=>3) (fun _ _=>4) (fun _ _ _=>5) (fun _ _ _=>6) (fun _ _ _ _ _=>7) (fun _ _=>8) (fun _ _=>9) (fun _ _ _ _=>10) (fun _ _ _=>11) (fun _ _ _=>12) (fun _ _=>13) (fun _ _ _ _ _ _=>14) (fun _ _ _ _=>15) (fun _ _ _=>16) (fun _ _ _ _ _=>17) (fun _ _ _=>18) (fun _ _ _=>19) (fun _ _ _ _ _ _ _=>20) 21 (fun _ _ _ _ _ _ _=>22) (fun _ _ _ _ _ _=>23) (fun _=>24)
end
noncomputable abbrev En:=List (Nat×SV)
noncomputable abbrev Hp:=List SO
noncomputable abbrev Cs:=List CX
inductive Res where
 |bad (n:Nat)
 |ok (c:Cs) (f:Nat) (v:SV) (e:En) (h:Hp)
noncomputable abbrev K:=SV→Hp→Res
noncomputable abbrev KL:=List SV→Hp→Res
noncomputable abbrev KB:=Bool→Hp→Res
structure Prog where
 eG:Nat→SV
 init:Nat→Option Nat
 f6:Nat→Nat→Option Nat
 cps:Nat→List Nat
 chr:Nat→Option Nat
 sw:Nat
 sn:Nat
noncomputable abbrev aX:=Nat→List SV→Hp→K→Res
noncomputable abbrev C:=Prog→aX→Nat→En→Hp→K→Res
noncomputable abbrev CL:=Prog→aX→Nat→En→Hp→KL→Res
noncomputable abbrev CB:=Prog→aX→Nat→En→Hp→KB→Res
noncomputable abbrev CS:=Prog→aX→Nat→En→Hp→(En→Hp→Res)→K→Res
inductive IT where
 |items (l:List SV)|ref (i k:Nat)|enum (j:Nat) (l:List SV)|gG (i k:Nat)
noncomputable def IT.ctorIdx(v:IT):Nat:=IT.casesOn (motive:=fun _=>Nat) v (fun _=>0) (fun _ _=>1) (fun _ _=>2) (fun _ _=>3)
noncomputable abbrev CI:=Prog→aX→Nat→En→Hp→(IT→Hp→Res)→Res
noncomputable abbrev CT:=Prog→SV→En→(En→Res)→Res
noncomputable def bad(n:Nat):Res:= .bad n
noncomputable def fM(c:CX)(r:Res):Res:=Res.rec (fun n=> .bad n) (fun cs f v e h=> .ok (c::cs) f v e h) r
noncomputable def bH(a b:Int):Bool:=match a with
 | .ofNat m=>(match b with| .ofNat n=>bq m n| .negSucc _=>false)
 | .negSucc m=>(match b with| .ofNat _=>true| .negSucc n=>bq n m)
noncomputable def bV(a b:Int):Bool:=match a with
 | .ofNat m=>(match b with| .ofNat n=>ag m n| .negSucc _=>false)
 | .negSucc m=>(match b with| .ofNat _=>false| .negSucc n=>ag m n)
noncomputable section
noncomputable def cond{α:Type}(b:Bool)(x y:α):α:=Bool.rec y x b
noncomputable def look(l:En)(x:Nat):Option SV:=List.rec none (fun p _ ih=>cond (ag p.1 x) (some p.2) ih) l
noncomputable def ie(l:En)(x:Nat)(no:Res)(k:SV→Res):Res:=List.rec no (fun p _ ih=>cond (ag p.1 x) (k p.2) ih) l
noncomputable def putK(l:En)(x:Nat)(v:SV)(k:En→Res):Res:=
 List.rec (motive:=fun _=>(En→Res)→Res) (fun k=>k [(x,v)]) (fun p r ih k=>cond (ag p.1 x) (k ((x,v)::r)) (ih fun r'=>k (p::r'))) l k
noncomputable def dG{α:Type}(l:List α)(i:Nat)(no:Res)(k:α→Res):Res:=
 List.rec (motive:=fun _=>Nat→Res) (fun _=>no) (fun a _ ih i=>Nat.rec (k a) (fun j _=>ih j) i) l i
noncomputable def aS{α:Type}(l:List α)(i:Nat):Option α:=
 List.rec (motive:=fun _=>Nat→Option α) (fun _=>none) (fun a _ ih i=>Nat.rec (some a) (fun j _=>ih j) i) l i
noncomputable def er{α:Type}(l:List α)(i:Nat)(o:α)(k:List α→Res):Res:=
 List.rec (motive:=fun _=>Nat→(List α→Res)→Res) (fun _ k=>k []) (fun a r ih i k=>Nat.rec (k (o::r)) (fun j _=>ih j fun r'=>k (a::r')) i) l i k
noncomputable def len{α:Type}(l:List α):Nat:=List.rec Nat.zero (fun _ _ n=>Nat.succ n) l
noncomputable def app{α:Type}(l m:List α):List α:=List.rec m (fun a _ ih=>a::ih) l
noncomputable def jz{α:Type}(l m:List α)(k:List α→Res):Res:=List.rec (motive:=fun _=>(List α→Res)→Res) (fun k=>k m) (fun a _ ih k=>ih fun r=>k (a::r)) l k
noncomputable def oQ{α:Type}(l:List α)(n:Nat):List α:=Nat.rec [] (fun _ ih=>app l ih) n
noncomputable def jJ{α:Type}(l:List α):List α:=List.rec (motive:=fun _=>List α→List α) (fun acc=>acc) (fun a _ ih acc=>ih (a::acc)) l []
noncomputable def aL(v:SV)(n:Nat):Bool:=ag v.ctorIdx n
noncomputable def vd{α:Type}(d:α)(b:Bool→α)(z:Int→α)(n:Nat→α)(l:List SV→α)(f:List (Nat×SV)→α)(v:SV):α:=
 @SV.casesOn (fun _=>α) v d b z (fun _ _=>d) n l l f n n n d n (fun _ _=>d) (fun _ _=>d) (fun _ _=>d) (fun _ _=>d) d
noncomputable def rn(v:SV):Bool:=vd false (fun b=>b) (fun _=>false) (fun _=>false) (fun _=>false) (fun _=>false) v
noncomputable def pX(v:SV):Int:=vd 0 (fun _=>0) (fun z=>z) (fun _=>0) (fun _=>0) (fun _=>0) v
noncomputable def ct(v:SV):Nat:=vd 0 (fun _=>0) (fun _=>0) (fun n=>n) (fun _=>0) (fun _=>0) v
noncomputable def bU(v:SV):List SV:=vd [] (fun _=>[]) (fun _=>[]) (fun _=>[]) (fun l=>l) (fun _=>[]) v
noncomputable def iA(v:SV):List (Nat×SV):=vd [] (fun _=>[]) (fun _=>[]) (fun _=>[]) (fun _=>[]) (fun f=>f) v
noncomputable def gg(v:SV)(k:Int→Res):Res:=cond (aL v 2) (k (pX v)) (bad 29)
noncomputable def stK(v:SV)(k:Nat→Res):Res:=cond (aL v 4) (k (ct v)) (bad 20)
noncomputable def yE(v:SV)(k:Bool→Res):Res:=cond (aL v 1) (k (rn v)) (bad 11)
noncomputable def gh(v:SV)(k:Nat→Res):Res:=cond (aL v 12) (k (ct v)) (bad 9)
noncomputable def tupK(v:SV)(k:List SV→Res):Res:=cond (aL v 5) (k (bU v)) (bad 9)
noncomputable def eE(v:SV)(k:List SV→Res):Res:=cond (aL v 6) (k (bU v)) (bad 285)
noncomputable def yD(v:SV)(k:Nat→Res):Res:=cond (aL v 10) (k (ct v)) (bad 284)
noncomputable def mL(o:SO)(k:List SV→Res):Res:=match o with| .lst l=>k l|_=>bad 32
noncomputable def L7(o:SO)(k:List (Nat×SV)→Res):Res:=match o with| .cb l=>k l|_=>bad 286
noncomputable def mf(a b:Bool):Bool:=cond a true b
noncomputable def bQ(v:SV):Bool:=mf (ag v.ctorIdx 2) (ag v.ctorIdx 3)
noncomputable def aC(v:SV):IX:=match v with
 | .lit n=> .lit n| .sym e _=>e|_=> .lit 0
noncomputable def aW(v:SV):Int:=match v with
 | .lit n=>n| .sym _ n=>n|_=>0
noncomputable def isLit(v:SV):Bool:=ag v.ctorIdx 2
noncomputable def ah(a b:Bool):Bool:=cond a b false
noncomputable def neg(b:Bool):Bool:=cond b false true
noncomputable def Ik(a b:IX):Bool:=match a with
 | .var i=>(match b with| .var j=>ag i j|_=>false)
 |_=>false
noncomputable def t4(c:CX)(t:Bool)(k:Bool→Res):Res:=fM c (cond t (k true) (k false))
noncomputable def ltI(a b:SV)(k:Bool→Res):Res:=cond (ah (isLit a) (isLit b))
 (cond (bH (aW a) (aW b)) (k true) (k false))
 (t4 (.lt (aC a) (aC b) (bH (aW a) (aW b))) (bH (aW a) (aW b)) k)
noncomputable def pa(a b:SV)(k:Bool→Res):Res:=cond (ah (isLit a) (isLit b))
 (cond (bV (aW a) (aW b)) (k true) (k false))
 (cond (Ik (aC a) (aC b)) (k true) (t4 (.eq (aC a) (aC b) (bV (aW a) (aW b))) (bV (aW a) (aW b)) k))
noncomputable def oI:Int:=aq (Nat.pow 2 64)
noncomputable def oh(a:SV)(k:Res):Res:=cond (isLit a)
 (cond (ah (bH (aW a) oI) (bH (HY oI) (aW a))) k (bad 6))
 (fM (.lt (aC a) (.lit oI) true) (fM (.lt (.lit (HY oI)) (aC a) true) k))
noncomputable def vI(e:IX)(n:Int)(l:Bool):SV:=cond l (.lit n) (.sym e n)
noncomputable def sW(op:Operator)(a b:SV)(k:SV→Res):Res:=match op with
 | .Add=>k (vI (.add (aC a) (aC b)) (iQ (aW a) (aW b)) (ah (isLit a) (isLit b)))
 | .Sub=>k (vI (.sub (aC a) (aC b)) (jk (aW a) (aW b)) (ah (isLit a) (isLit b)))
 | .Mult=>oh a (oh b (k (vI (.mul (aC a) (aC b)) (Un (aW a) (aW b)) (ah (isLit a) (isLit b)))))
 | .FloorDiv=>oh b (pa b (.lit (aq 0)) fun t=>cond t (bad 7) (k (vI (.fdiv (aC a) (aC b)) (Aq (aW a) (aW b)) (ah (isLit a) (isLit b)))))
 | .Mod=>pa b (.lit (aq 0)) fun t=>cond t (bad 7) (k (vI (.fmod (aC a) (aC b)) (sr (aW a) (aW b)) (ah (isLit a) (isLit b))))
 | .Pow=>ltI b (.lit (aq 0)) fun t=>cond t (bad 7) (ltI b (.lit (aq 64)) fun t=>cond t
   (oh a (k (vI (.pow (aC a) (aC b)) (UB (aW a) (ly (aW b))) (ah (isLit a) (isLit b))))) (bad 7))
 | .LShift=>cond (ah (isLit a) (isLit b)) (cond (ah (ah (bH (aW a) (aq 64)) (bH (aW b) (aq 64))) (ah (neg (bH (aW a) (aq 0))) (neg (bH (aW b) (aq 0)))))
   (k (.lit (Un (aW a) (UB (aq 2) (ly (aW b)))))) (bad 8)) (bad 8)
 |_=>bad 8
noncomputable def pJ(m:Bool)(l:List SV)(h:Hp)(k:K):Res:=cond m (jz h [.lst l] fun h'=>k (.ref (len h)) h') (k (.ar l) h)
noncomputable def big(n:Nat):Bool:=bq n 100000
noncomputable def lstK(a:SV)(h:Hp)(k:List SV→Res):Res:=cond (aL a 12)
 (gh a fun i=>dG h i (bad 9) fun o=>mL o fun l=>cond (big (len l)) (k l) (bad 9))
 (eE a fun l=>cond (big (len l)) (k l) (bad 9))
noncomputable def Ld(m:Bool)(a b:SV)(h:Hp)(k:K):Res:=lstK a h fun l=>eE b fun l'=>cond (big (len l')) (jz l l' fun r=>pJ m r h k) (bad 9)
noncomputable def small(n:Nat):Bool:=bq n 1000
noncomputable def b2i(b:Bool):Int:=cond b (aq 1) (aq 0)
noncomputable def KR(a b:SV)(h:Hp)(k:K):Res:=yE a fun x=>yE b fun y=>k (.lit (jk (b2i x) (b2i y))) h
noncomputable def isAdd(op:Operator):Bool:=ag op.ctorIdx 0
noncomputable def Bt(op:Operator):Bool:=ag op.ctorIdx 2
noncomputable def Xh(op:Operator):Bool:=ag op.ctorIdx 1
noncomputable def K4(op:Operator)(m:Bool)(a b:SV)(h:Hp)(k:K):Res:=cond (ah (bQ a) (bQ b))
 (cond m (bad 11) (sW op a b fun v=>k v h))
 (cond (isAdd op) (Ld m a b h k) (cond (Xh op) (KR a b h k) (bad 11)))
noncomputable def qk(x y:Bool):Bool:=cond x y (neg y)
noncomputable def Cr(l m:List Int):Bool:=List.rec (motive:=fun _=>List Int→Bool) (fun m=>match m with| []=>true|_::_=>false)
 (fun a _ ih m=>match m with| []=>false|b::m=>cond (bV a b) (ih m) false) l m
noncomputable def xS(ev:SV→SV→(Bool→Res)→Res)(l m:List SV)(k:Bool→Res):Res:=
 List.rec (motive:=fun _=>List SV→Res) (fun m=>match m with| []=>k true|_::_=>k false)
  (fun a _ ih m=>match m with| []=>k false|b::m=>ev a b fun t=>cond t (ih m) (k false)) l m
noncomputable def Bp(ev:SV→SV→(Bool→Res)→Res)(a b:SV)(k:Bool→Res):Res:=match a with
 | .none=>(match b with| .none=>k true| .bool _=>k false| .lit _=>k false| .str _=>k false|_=>bad 12)
 | .bool x=>(match b with| .bool y=>cond (qk x y) (k true) (k false)| .none=>k false| .str _=>k false|_=>bad 12)
 | .lit _=>(match b with| .lit _=>pa a b k| .sym _ _=>pa a b k| .str _=>k false| .none=>k false|_=>bad 12)
 | .sym _ _=>(match b with| .lit _=>pa a b k| .sym _ _=>pa a b k| .str _=>k false| .none=>k false|_=>bad 12)
 | .str i=>(match b with| .str j=>cond (ag i j) (k true) (k false)| .lit _=>k false| .sym _ _=>k false| .none=>k false|_=>bad 12)
 | .tup l=>(match b with| .tup m=>xS ev l m k|_=>bad 12)
 | .ar l=>(match b with| .ar m=>cond (ag (len l) (len m)) (xS ev l m k) (k false)|_=>bad 12)
 | .lx x s=>(match b with| .lx y t=>t4 (.mc x y (Cr s t)) (Cr s t) k|_=>bad 12)
 |_=>bad 12
noncomputable def MY(n:Nat):SV→SV→(Bool→Res)→Res:=Nat.rec (fun _ _ _=>bad 12) (fun _ ih=>Bp ih) n
noncomputable def fw(v:SV):Bool:=bq v.ctorIdx 5
noncomputable def dF(n:Nat):SV→Bool:=Nat.rec (fun _=>false) (fun _ ih v=>match v with
 | .none=>true| .bool _=>true| .lit _=>true| .sym _ _=>true| .str _=>true
 | .tup l=>List.rec true (fun a _ r=>cond (ih a) r false) l
 | .ar l=>List.rec true (fun a _ r=>cond (ih a) r false) l
 | .lx _ _=>true
 |_=>false) n
noncomputable def nu(a b:SV)(k:Bool→Res):Res:=cond (fw a) (cond (fw b) (Bp (fun _ _ _=>bad 12) a b k) (bad 12))
 (cond (ah (dF 8 a) (dF 8 b)) (MY 20 a b k) (bad 12))
noncomputable def AX(a:SV)(k:Bool→Res):Res:=match a with
 | .none=>k true| .au=>bad 14|_=>k false
noncomputable def wK(l:List SV):Bool:=List.rec true (fun a _ ih=>cond (fw a) ih false) l
noncomputable def B4(a:SV)(l:List SV)(k:Bool→Res):Res:=List.rec (k false) (fun b _ ih=>nu b a fun t=>cond t (k true) ih) l
noncomputable def LI(a:SV)(l:List SV)(k:Bool→Res):Res:=cond (ah (fw a) (wK l)) (B4 a l k) (bad 12)
noncomputable def A8(e:IX)(a:SV):Bool:=match e with
 | .lit _=>isLit a
 | .var i=>(match a with| .sym e' _=>(match e' with| .var j=>ag i j|_=>false)|_=>false)
 |_=>false
noncomputable def ta(a:SV)(l:List (IX×Int×SV))(no:Res)(k:SV→Res):Res:=
 List.rec no (fun p _ ih=>cond (bV p.2.1 (aW a)) (cond (A8 p.1 a) (k p.2.2) (fM (.eq p.1 (aC a) true) (k p.2.2))) ih) l
noncomputable def tc(e:IX):Bool:=ag e.ctorIdx 0
noncomputable def sU(l:List (IX×Int×SV)):Bool:=List.rec true (fun p _ ih=>cond (tc p.1) ih false) l
noncomputable def known(v:SV)(yes:Res)(no:Res):Res:=cond (ag v.ctorIdx 17) no yes
noncomputable def Kl(a:SV)(o:SO)(k:Bool→Res):Res:=match o with
 | .cb l=>stK a fun x=>ie l x (k false) fun v=>known v (k true) (bad 15)
 | .cz ex l=>cond (bQ a) (ta a l (cond (ah ex (ah (isLit a) (sU l))) (k false) (bad 15)) fun _=>k true) (bad 15)
 |_=>bad 15
noncomputable def D5(a b:SV)(h:Hp)(k:Bool→Res):Res:=cond (aL b 12) (gh b fun i=>dG h i (bad 15) fun o=>Kl a o k) (tupK b fun l=>LI a l k)
noncomputable def n7(a:SV)(h:Hp)(k:SV→Res):Res:=cond (aL a 12) (gh a fun i=>dG h i (bad 9) fun o=>mL o fun l=>k (.ar l)) (k a)
noncomputable def two(a b:SV)(k:Res):Res:=cond (ah (bQ a) (bQ b)) k (bad 13)
noncomputable def mG(v:SV):Bool:=ag v.ctorIdx 0
noncomputable def xK(op:CmpOp)(a b:SV)(h:Hp)(k:Bool→Res):Res:=match op with
 | .Eq=>n7 a h fun a=>n7 b h fun b=>nu a b k
 | .NotEq=>n7 a h fun a=>n7 b h fun b=>nu a b fun t=>k (neg t)
 | .Lt=>two a b (ltI a b k)
 | .Gt=>two a b (ltI b a k)
 | .LtE=>two a b (ltI b a fun t=>k (neg t))
 | .GtE=>two a b (ltI a b fun t=>k (neg t))
 | .Is=>cond (mG b) (AX a k) (bad 14)
 | .IsNot=>cond (mG b) (AX a fun t=>k (neg t)) (bad 14)
 | .In=>D5 a b h k
 | .NotIn=>D5 a b h fun t=>k (neg t)
noncomputable def ti(i:Int)(n:Nat)(k:Nat→Res):Res:=match i with
 | .ofNat j=>cond (ah (bq j n) (small j)) (k j) (bad 16)
 | .negSucc j=>cond (ah (bq j n) (small j)) (k (wH n (Nat.succ j))) (bad 16)
noncomputable def mU(l:List SV)(i:SV)(k:SV→Res):Res:=gg i fun n=>ti n (len l) fun j=>dG l j (bad 16) k
noncomputable def xw(P:Prog)(e:IX)(n:Int)(k:List SV→Res):Res:=t4 (.lt e (.lit (aq 0)) (bH n (aq 0))) (bH n (aq 0)) fun t=>
 cond t (k [.str P.sn,.tup [.str P.sw,.sym (.sub (.lit (aq 0)) e) (jk (aq 0) n)]]) (k [.str P.sw,.sym e n])
noncomputable def pR(n:Nat)(l:List SV):List SV:=Nat.rec (motive:=fun _=>List SV→List SV) (fun _=>[]) (fun _ ih l=>match l with| []=>[]|x::r=>x::ih r) n l
noncomputable def o9(n:Nat)(l:List SV):List SV:=Nat.rec (motive:=fun _=>List SV→List SV) (fun l=>l) (fun _ ih l=>match l with| []=>[]|_::r=>ih r) n l
noncomputable def clamp(i:Int)(n:Nat):Nat:=match i with
 | .ofNat k=>cond (bq k n) k n
 | .negSucc k=>cond (bq k n) (wH n (Nat.succ k)) 0
noncomputable def Bf(o:SV)(d n:Nat)(k:Nat→Res):Res:=cond (aL o 0) (k d) (gg o fun i=>k (clamp i n))
noncomputable def JE(m:Bool)(o l u s:SV)(h:Hp)(k:K):Res:=lstK o h fun xs=>cond (aL s 0)
 (Bf l 0 (len xs) fun a=>Bf u (len xs) (len xs) fun b=>pJ m (o9 a (pR b xs)) h k)
 (gg s fun i=>cond (ah (bV i (.negSucc 0)) (ah (mG l) (mG u))) (pJ m (jJ xs) h k) (bad 18))
noncomputable def Md(o:Option Nat)(h:Hp)(k:K):Res:=match o with
 |some i=>k (.str i) h
 |none=>bad 19
noncomputable def Br(l:En)(i:SV)(k:SV→Res):Res:=stK i fun x=>ie l x (bad 19) fun v=>known v (k v) (bad 19)
noncomputable def JH(i:SV)(o:SO)(k:SV→Res):Res:=match o with
 | .lst l=>mU l i k
 | .iF l=>cond (bQ i) (ta i l (bad 20) k) (bad 20)
 | .cz _ l=>cond (bQ i) (ta i l (bad 20) k) (bad 20)
 | .cb l=>Br l i k
 |_=>bad 20
noncomputable def isNil{α:Type}(l:List α):Bool:=List.rec true (fun _ _ _=>false) l
noncomputable def Kt(l:List Int):Int:=List.rec (aq 0) (fun a r ih=>cond (isNil r) a ih) l
noncomputable def By(x:LX)(s:List Int)(i:SV)(k:SV→Res):Res:=match x with
 | .mk f l=>(match f with
  | .zero=>(match l with
   |a::r=>(match r with
    |b::_=>gg i fun m=>cond (bV m (.negSucc 0)) (k (.sym (.f2 1 a b) (Kt s))) (bad 19)
    | []=>bad 19)
   | []=>bad 19)
  | .succ _=>bad 19)
noncomputable def strSub(P:Prog)(s:Nat)(i:SV)(h:Hp)(k:K):Res:=gg i fun n=>ti n (len (P.cps s)) fun j=>dG (P.cps s) j (bad 19) fun c=>Md (P.chr c) h k
noncomputable def ZF(P:Prog)(o i:SV)(h:Hp)(k:K):Res:=match o with
 | .lx x s=>By x s i fun v=>k v h
 | .tree e n=>xw P e n fun l=>mU l i fun v=>k v h
 |_=>bad 20
noncomputable def Me(P:Prog)(o i:SV)(h:Hp)(k:K):Res:=cond (aL o 5) (mU (bU o) i fun v=>k v h) (cond (aL o 6) (mU (bU o) i fun v=>k v h)
 (cond (aL o 12) (gh o fun r=>dG h r (bad 20) fun o=>JH i o fun v=>k v h) (cond (aL o 4) (strSub P (ct o) i h k) (cond (aL o 7) (Br (iA o) i fun v=>k v h) (ZF P o i h k)))))
noncomputable def oP(o:Option Nat)(no:Res)(k:Nat→Res):Res:=match o with
 |some f=>k f
 |none=>no
noncomputable def Cz(o:SO)(k:Nat→En→Res):Res:=match o with| .ins c l=>k c l|_=>bad 21
noncomputable def K3(P:Prog)(o:SV)(x:Nat)(h:Hp)(k:K):Res:=gh o fun r=>dG h r (bad 21) fun o=>Cz o fun c l=>ie l x (oP (P.f6 c x) (bad 21) fun f=>k (.dy r f) h) fun v=>known v (k v h) (bad 21)
noncomputable def JB(o:SV)(x:Nat)(v:SV)(h:Hp)(k:Hp→Res):Res:=gh o fun r=>dG h r (bad 22) fun o=>Cz o fun c l=>cond (small (len l)) (putK l x v fun l'=>er h r (.ins c l') k) (bad 22)
noncomputable def xU(n:Int)(v:SV)(l:List (IX×Int×SV)):List (IX×Int×SV):=
 (.lit n,n,v)::List.rec [] (fun p _ ih=>cond (bV p.2.1 n) ih (p::ih)) l
noncomputable def setRef(i v:SV)(h:Hp)(r:Nat)(o:SO)(k:Hp→Res):Res:=match o with
 | .lst l=>gg i fun n=>cond (bH n (aq 0)) (bad 23) (ti n (len l) fun j=>er l j v fun l'=>er h r (.lst l') k)
 | .cb l=>stK i fun x=>cond (small (len l)) (putK l x v fun l'=>er h r (.cb l') k) (bad 23)
 | .cz ex l=>gg i fun n=>cond (ah ex (ah (sU l) (small (len l)))) (er h r (.cz true (xU n v l)) k) (bad 23)
 |_=>bad 23
noncomputable def JC(o i v:SV)(h:Hp)(k:Hp→Res):Res:=gh o fun r=>dG h r (bad 23) fun o=>setRef i v h r o k
noncomputable def dX(as:List SV)(k:SV→Res):Res:=match as with
 |a::r=>(match r with| []=>k a|_::_=>bad 24)
 | []=>bad 24
noncomputable def ux(as:List SV)(k:SV→SV→Res):Res:=match as with
 |a::r=>dX r fun b=>k a b
 | []=>bad 24
noncomputable def CQ(t m:Bool)(l:List SV)(b:SV)(h:Hp)(k:K):Res:=gg b fun n=>cond (ah (neg (bH n (aq 0))) (ah (small (ly n)) (small (len l)))) (cond t
   (cond (bV n (aq 2)) (dX l fun a=>k (.tup [a,a]) h) (bad 10)) (pJ m (oQ l (ly n)) h k)) (bad 10)
noncomputable def xp(l:List SV)(no:Res)(k:SV→List SV→Res):Res:=
 List.rec (motive:=fun _=>(SV→List SV→Res)→Res) (fun _=>no) (fun a r ih k=>match r with| []=>k a []|_::_=>ih fun z r'=>k z (a::r')) l k
noncomputable def wU(a:SV)(l:List SV)(k:Nat→Res):Res:=
 List.rec (motive:=fun _=>(Nat→Res)→Res) (fun k=>k 0) (fun b _ ih k=>nu b a fun t=>cond t (ih fun n=>k (Nat.succ n)) (ih k)) l k
noncomputable def Wg(x:Nat)(r:Nat)(l:List SV)(as:List SV)(h:Hp)(k:K):Res:=
 cond (ag x 1) (dX as fun v=>cond (big (len l)) (jz l [v] fun l'=>er h r (.lst l') fun h=>k .none h) (bad 26))
 (cond (ag x 2) (cond (isNil as) (cond (big (len l)) (xp l (bad 26) fun v l'=>er h r (.lst l') fun h=>k v h) (bad 26)) (bad 26))
 (cond (ag x 3) (dX as fun v=>eE v fun m=>cond (ah (big (len l)) (big (len m))) (jz l m fun l'=>er h r (.lst l') fun h=>k .none h) (bad 26))
 (bad 26)))
noncomputable def tC(as:List SV)(k:SV→List SV→Res):Res:=match as with|a::d=>k a d| []=>bad 27
noncomputable def LN(as:List SV)(no:Res)(k:SV→Res):Res:=cond (isNil as) no (dX as k)
noncomputable def Kb(l:List (Nat×SV))(as:List SV)(k:SV→Res):Res:=tC as fun a d=>stK a fun y=>ie l y (LN d (k .none) k) fun v=>known v (LN d (k v) fun _=>k v) (bad 27)
noncomputable def R0(x r:Nat)(o:SO)(as:List SV)(h:Hp)(k:K):Res:=match o with
 | .lst l=>Wg x r l as h k
 | .fb g l=>cond (ag x 1) (dX as fun v=>fM (.room g) (cond (small (len l)) (jz l [v] fun l'=>er h r (.fb g l') fun h=>k .none h) (bad 27))) (bad 27)
 | .cb l=>cond (ag x 5) (Kb l as fun v=>k v h) (bad 27)
 |_=>bad 27
noncomputable def Js(x:Nat)(o:SV)(as:List SV)(h:Hp)(k:K):Res:=cond (aL o 12) (gh o fun r=>dG h r (bad 27) fun o=>R0 x r o as h k)
 (eE o fun l=>cond (ag x 4) (dX as fun v=>cond (ah (fw v) (wK l)) (wU v l fun n=>k (.lit (aq n)) h) (bad 27)) (bad 27))
noncomputable def Bu(v:SV):Bool:=mf (ag v.ctorIdx 4) (ag v.ctorIdx 15)
noncomputable def Bv(v:SV):Bool:=mf (ag v.ctorIdx 5) (ag v.ctorIdx 14)
noncomputable def BR(v:SV):Bool:=mf (bQ v) (mf (bq v.ctorIdx 2) (ag v.ctorIdx 6))
noncomputable def YS(v:SV)(k:Bool→Res):Res:=cond (Bu v) (k true) (cond (mf (BR v) (Bv v)) (k false) (bad 283))
noncomputable def YT(v:SV)(k:Bool→Res):Res:=cond (Bv v) (k true) (cond (mf (BR v) (Bu v)) (k false) (bad 283))
noncomputable def CC(t:Nat)(v:SV)(k:Bool→Res):Res:=cond (ag t 11) (YS v k) (cond (ag t 12) (YT v k) (bad 283))
noncomputable def Yz(n:Nat):Nat:=Nat.rec (motive:=fun _=>Nat→Nat) (fun _=>1) (fun _ ih n=>cond (bq n 10) 1 (Nat.succ (ih (Nat.div n 10)))) 30 n
noncomputable def insI(a:Int)(l:List Int):List Int:=List.rec [a] (fun b r ih=>cond (bH b a) (b::ih) (a::b::r)) l
noncomputable def sortI(l:List Int):List Int:=List.rec [] (fun a _ ih=>insI a ih) l
noncomputable def allI(l:List SV):Bool:=List.rec true (fun a _ ih=>cond (bQ a) ih false) l
noncomputable def uV(l:List SV):List IX:=List.rec [] (fun a _ ih=>aC a::ih) l
noncomputable def Mb(l:List SV):List Int:=List.rec [] (fun a _ ih=>aW a::ih) l
noncomputable def cX(v:SV):Bool:=ag v.ctorIdx 17
noncomputable def xY(l:List SV)(h:Hp)(k:K):Res:=cond (big (len l)) (k (.lit (aq (len l))) h) (bad 281)
noncomputable def YW(v:SV)(h:Hp)(k:K):Res:=match v with
 | .iu e n=>fM (.lt e (.lit (aq 0)) false) (fM (.lt e (.lit oI) true) (k (.sym (.f1 0 e) (aq (Yz (ly n)))) h))
 |_=>bad 281
noncomputable def LG(P:Prog)(v:SV)(h:Hp)(k:K):Res:=cond (aL v 6) (xY (bU v) h k) (cond (aL v 5) (xY (bU v) h k)
 (cond (aL v 4) (cond (big (len (P.cps (ct v)))) (k (.lit (aq (len (P.cps (ct v))))) h) (bad 281))
 (cond (aL v 12) (gh v fun i=>dG h i (bad 281) fun o=>mL o fun l=>xY l h k) (YW v h k))))
noncomputable def K0(v:SV)(k:SV→Res):Res:=cond (bQ v) (k (vI (.abs (aC v)) (aq (Int.natAbs (aW v))) (isLit v))) (bad 282)
noncomputable def CZ(v:SV)(h:Hp)(k:List (Nat×SV)→Res):Res:=gh v fun r=>dG h r (bad 286) fun o=>L7 o k
noncomputable def JG(v:SV)(k:SV→Res):Res:=cond (bQ v) (oh v (k (.iu (aC v) (aW v)))) (bad 287)
noncomputable def Bh(P:Prog)(b:Nat)(as:List SV)(h:Hp)(k:K):Res:=
 cond (ag b 1) (dX as fun v=>LG P v h k)
 (cond (ag b 3) (ux as fun v t=>yD t fun t=>CC t v fun b=>cond b (k (.bool true) h) (k (.bool false) h))
 (cond (ag b 2) (dX as fun v=>K0 v fun v=>k v h)
 (cond (ag b 8) (ux as fun v w=>two v w (ltI v w fun t=>cond t (k w h) (k v h)))
 (cond (ag b 10) (dX as fun v=>eE v fun l=>cond (ah (bq (len l) 64) (allI l)) (k (.lx (.mk 1 (uV l)) (sortI (Mb l))) h) (bad 285))
 (cond (ag b 11) (dX as fun v=>JG v fun v=>k v h)
 (cond (ag b 12) (dX as fun v=>eE v fun l=>cond (big (len l)) (k (.tup l) h) (bad 285))
 (cond (ag b 13) (dX as fun v=>eE v fun l=>cond (big (len l)) (k (.ar l) h) (bad 285))
 (cond (ag b 14) (dX as fun v=>CZ v h fun l=>cond (small (len l)) (k (.bu l) h) (bad 285))
 (bad 288)))))))))
noncomputable def pO(n:Nat)(a s:Int):List SV:=Nat.rec (motive:=fun _=>Int→List SV) (fun _=>[]) (fun _ ih a=> .lit a::ih (iQ a s)) n a
noncomputable def vc(a:Int):Bool:=ah (bH a (aq 1000000)) (bH (gC 1000000) a)
noncomputable def A7(a b:Int)(k:List SV→Res):Res:=cond (ah (ah (vc a) (vc b)) (small (ly (jk b a)))) (k (pO (ly (jk b a)) a (aq 1))) (bad 29)
noncomputable def Ib(a b:Int)(k:List SV→Res):Res:=cond (ah (ah (vc a) (vc b)) (small (ly (jk a b)))) (k (pO (ly (jk a b)) a (gC 0))) (bad 29)
noncomputable def Wz(a b:Int)(r:List SV)(k:List SV→Res):Res:=dX r fun s=>gg s fun s=>cond (bV s (.negSucc 0)) (Ib a b k) (bad 29)
noncomputable def Wy(a:Int)(r:List SV)(k:List SV→Res):Res:=tC r fun b r=>gg b fun b=>cond (isNil r) (A7 a b k) (Wz a b r k)
noncomputable def Jv(as:List SV)(k:List SV→Res):Res:=tC as fun a r=>gg a fun a=>cond (isNil r) (A7 0 a k) (Wy a r k)
noncomputable def Mi(v:SV)(h:Hp)(k:IT→Res):Res:=cond (aL v 12) (gh v fun r=>dG h r (bad 30) fun o=>mL o fun _=>k (.ref r 0))
 (cond (aL v 6) (cond (big (len (bU v))) (k (.items (bU v))) (bad 30)) (tupK v fun l=>cond (big (len l)) (k (.items l)) (bad 30)))
noncomputable def J0(v:SV)(h:Hp)(k:IT→Res):Res:=cond (aL v 12) (gh v fun r=>dG h r (bad 31) fun o=>mL o fun _=>k (.gG r 0)) (eE v fun l=>cond (big (len l)) (k (.enum 0 l)) (bad 31))
noncomputable def mZ(l m:List SV):List SV:=List.rec (motive:=fun _=>List SV→List SV) (fun _=>[]) (fun a _ ih m=>match m with| []=>[]|b::m=> .tup [a,b]::ih m) l m
noncomputable def IZ(b:Nat)(as:List SV)(h:Hp)(k:IT→Res):Res:=
 cond (ag b 4) (Jv as fun l=>k (.items l))
 (cond (ag b 5) (dX as fun v=>J0 v h k)
 (cond (ag b 6) (ux as fun v w=>eE v fun l=>eE w fun m=>cond (ah (big (len l)) (big (len m))) (k (.items (mZ l m))) (bad 31))
 (cond (ag b 7) (dX as fun v=>eE v fun l=>cond (big (len l)) (k (.items (jJ l))) (bad 31))
 (bad 31))))
noncomputable def nextK(it:IT)(h:Hp)(done:Res)(k:SV→IT→Res):Res:=match it with
 | .items l=>(match l with| []=>done|a::r=>k a (.items r))
 | .enum j l=>(match l with| []=>done|a::r=>k (.tup [.lit (aq j),a]) (.enum (Nat.succ j) r))
 | .ref i j=>dG h i (bad 32) fun o=>mL o fun l=>dG l j done fun a=>k a (.ref i (Nat.succ j))
 | .gG i j=>dG h i (bad 32) fun o=>mL o fun l=>dG l j done fun a=>k (.tup [.lit (aq j),a]) (.gG i (Nat.succ j))
noncomputable def Di(P:Prog)(v:SV)(k:List SV→Res):Res:=match v with
 | .tup l=>k l
 | .tree e n=>xw P e n k
 |_=>bad 33
noncomputable def jM(x:Nat):CT:=fun _ v env k=>putK env x v k
noncomputable def x7(P:Prog)(vs:List SV)(env:En)(k:En→Res):Res:=match vs with| []=>k env|_::_=>bad 34
noncomputable def qA(t:CT)(r:Prog→List SV→En→(En→Res)→Res)(P:Prog)(vs:List SV)(env:En)(k:En→Res):Res:=match vs with
 | []=>bad 34
 |v::vs=>t P v env fun env=>r P vs env k
noncomputable def qT(r:Prog→List SV→En→(En→Res)→Res):CT:=fun P v env k=>Di P v fun l=>r P l env k
noncomputable def ZG:CT:=fun _ _ _ _=>bad 34
noncomputable def fx(v:SV):C:=fun _ _ _ _ h k=>k v h
noncomputable def mQ:C:=fun _ _ _ _ _ _=>bad 41
noncomputable def dD(x:Nat):C:=fun _ _ _ env h k=>ie env x (bad 38) fun v=>known v (k v h) (bad 38)
noncomputable def t6(g:Nat):C:=fun P _ _ _ h k=>known (P.eG g) (k (P.eG g) h) (bad 39)
noncomputable def xI(op:Operator)(m:Bool)(l r:C):C:=fun P cl n env h k=>l P cl n env h fun a h=>r P cl n env h fun b h=>K4 op m a b h k
noncomputable def Lb(t m:Bool)(es:CL)(r:C):C:=fun P cl n env h k=>es P cl n env h fun l h=>r P cl n env h fun b h=>CQ t m l b h k
noncomputable def La(t:CB):C:=fun P cl n env h k=>t P cl n env h fun b h=>cond b (k (.bool false) h) (k (.bool true) h)
noncomputable def LJ(v:SV)(h:Hp)(k:K):Res:=cond (bQ v) (k (vI (.neg (aC v)) (HY (aW v)) (isLit v)) h) (bad 40)
noncomputable def K9(e:C):C:=fun P cl n env h k=>e P cl n env h fun v h=>LJ v h k
noncomputable def xJ(t:CB)(b o:C):C:=fun P cl n env h k=>t P cl n env h fun v h=>cond v (b P cl n env h k) (o P cl n env h k)
noncomputable def Ck(es:CL):C:=fun P cl n env h k=>es P cl n env h fun l h=>k (.tup l) h
noncomputable def K8(m:Bool)(es:CL):C:=fun P cl n env h k=>es P cl n env h fun l h=>pJ m l h k
noncomputable def K7(s:Bool):C:=fun _ _ _ _ h k=>jz h [cond s (.cb []) (.cz true [])] fun h'=>k (.ref (len h)) h'
noncomputable def tq(t:Bool)(h:Hp)(k:K):Res:=cond t (k (.bool true) h) (k (.bool false) h)
noncomputable def K6(l:C)(rs:SV→CB):C:=fun P cl n env h k=>l P cl n env h fun a h=>rs a P cl n env h fun t h=>tq t h k
noncomputable def Cb(P:Prog)(cl:aX)(f:SV)(as:List SV)(h:Hp)(k:K):Res:=match f with
 | .fn i=>cl i as h k
 | .dy r i=>cl i (.ref r::as) h k
 | .cls c=>oP (P.init c) (bad 51) fun i=>jz h [.ins c []] fun h'=>cl i (.ref (len h)::as) h' fun v l8=>cond (mG v) (k (.ref (len h)) l8) (bad 51)
 | .bi b=>Bh P b as h k
 |_=>bad 52
noncomputable def xf(f:C)(as:CL):C:=fun P cl n env h k=>f P cl n env h fun fv h=>as P cl n env h fun vs h=>Cb P cl fv vs h k
noncomputable def Uk(P:Prog)(x r:Nat)(o:SO)(own:Nat→Nat→Res)(no:Res):Res:=match o with
 | .ins c l=>ie l x (oP (P.f6 c x) (bad 53) fun f=>own r f) fun _=>bad 53
 | .lst _=>cond (ag x 1) no (cond (ag x 2) no (cond (ag x 3) no (bad 53)))
 | .fb _ _=>cond (ag x 1) no (bad 53)
 | .cb _=>cond (ag x 5) no (bad 53)
 |_=>bad 53
noncomputable def Kz(P:Prog)(o:SV)(x:Nat)(h:Hp)(own:Nat→Nat→Res)(no:Res):Res:=cond (aL o 12) (gh o fun r=>dG h r (bad 53) fun o=>Uk P x r o own no)
 (cond (aL o 6) (cond (ag x 4) no (bad 53)) (bad 53))
noncomputable def JV(o:C)(x:Nat)(as:CL):C:=fun P cl n env h k=>o P cl n env h fun ov h=>
 Kz P ov x h (fun r f=>as P cl n env h fun vs h=>cl f (.ref r::vs) h k) (as P cl n env h fun vs h=>Js x ov vs h k)
noncomputable def K5(o:C)(x:Nat):C:=fun P cl n env h k=>o P cl n env h fun ov h=>K3 P ov x h k
noncomputable def Cj(o i:C):C:=fun P cl n env h k=>o P cl n env h fun ov h=>i P cl n env h fun iv h=>Me P ov iv h k
noncomputable def Lc(m:Bool)(o l u s:C):C:=fun P cl n env h k=>o P cl n env h fun ov h=>l P cl n env h fun lv h=>u P cl n env h fun uv h=>s P cl n env h fun sv h=>JE m ov lv uv sv h k
noncomputable def qM:CL:=fun _ _ _ _ h k=>k [] h
noncomputable def ou(e:C)(r:CL):CL:=fun P cl n env h k=>e P cl n env h fun v h=>r P cl n env h fun l h=>k (v::l) h
noncomputable def Dy(v:SV)(k:Bool→Res):Res:=yE v fun b=>cond b (k true) (k false)
noncomputable def bLast(e:C):C:=e
noncomputable def JU(a:Bool)(e r:C):C:=fun P cl n env h k=>e P cl n env h fun v h=>Dy v fun b=>cond (qk a b) (r P cl n env h k) (tq b h k)
noncomputable def x8(e:C):CB:=fun P cl n env h k=>e P cl n env h fun v h=>Dy v fun b=>k b h
noncomputable def Mg(t:CB):CB:=fun P cl n env h k=>t P cl n env h fun b h=>cond b (k false h) (k true h)
noncomputable def ZH(t b o:CB):CB:=fun P cl n env h k=>t P cl n env h fun v h=>cond v (b P cl n env h k) (o P cl n env h k)
noncomputable def uu(a:Bool):CB:=fun _ _ _ _ h k=>k a h
noncomputable def xv(a:Bool)(e r:CB):CB:=fun P cl n env h k=>e P cl n env h fun b h=>cond (qk a b) (r P cl n env h k) (cond b (k true h) (k false h))
noncomputable def ur(l:C)(rs:SV→CB):CB:=fun P cl n env h k=>l P cl n env h fun a h=>rs a P cl n env h k
noncomputable def CO(_:SV):CB:=fun _ _ _ _ _ _=>bad 43
noncomputable def tP(op:CmpOp)(r:C)(a:SV):CB:=fun P cl n env h k=>r P cl n env h fun b h=>xK op a b h fun t=>cond t (k true h) (k false h)
noncomputable def KO(op:CmpOp)(r:C)(more:SV→CB)(a:SV):CB:=fun P cl n env h k=>r P cl n env h fun b h=>xK op a b h fun t=>cond t (more b P cl n env h k) (k false h)
noncomputable def qL(e:C):CI:=fun P cl n env h k=>e P cl n env h fun v h=>Mi v h fun it=>k it h
noncomputable def xn(b:Nat)(as:CL):CI:=fun P cl n env h k=>as P cl n env h fun vs h=>IZ b vs h fun it=>k it h
noncomputable def d0(t:CT)(body:C)(test:CB)(P:Prog)(cl:aX)(n:Nat)(env:En)(k:K)(m:Nat):IT→List SV→Hp→Res:=
 Nat.rec (fun _ _ _=>bad 48) (fun _ ih it acc h=>nextK it h (k (.ar (jJ acc)) h) fun v it=>t P v env fun aD=>
  test P cl n aD h fun b h=>cond b (body P cl n aD h fun v h=>ih it (v::acc) h) (ih it acc h)) m
noncomputable def e7(x:Nat)(l:List Nat):Bool:=List.rec false (fun a _ ih=>cond (ag a x) true ih) l
noncomputable def kg(ls:List Nat)(env:En)(k:En→Res):Res:=List.rec (motive:=fun _=>(En→Res)→Res) (fun k=>k []) (fun p _ ih k=>cond (e7 p.1 ls) (ih k) (ih fun r=>k (p::r))) env k
noncomputable def lK(ls:List Nat)(it:CI)(t:CT)(body:C)(test:CB):C:=fun P cl n env h k=>it P cl n env h fun it h=>kg ls env fun env=>d0 t body test P cl n env k n it [] h
noncomputable def w4(k:NameKind):Bool:=match k with| .local=>true|_=>false
noncomputable def bL(sc:List (Nat×NameKind)):List Nat:=List.rec [] (fun p _ ih=>cond (w4 p.2) (p.1::ih) ih) sc
noncomputable def qQ:CS:=fun _ _ _ env h k _=>k env h
noncomputable def um(s r:CS):CS:=fun P cl n env h k kr=>s P cl n env h (fun env h=>r P cl n env h k kr) kr
noncomputable def uk:CS:=fun _ _ _ _ _ _ _=>bad 47
noncomputable def km(t:CT)(v:C):CS:=fun P cl n env h k _=>v P cl n env h fun v h=>t P v env fun env=>k env h
noncomputable def CW(o:C)(x:Nat)(v:C):CS:=fun P cl n env h k _=>v P cl n env h fun v h=>o P cl n env h fun ov h=>JB ov x v h fun h=>k env h
noncomputable def CY(o i v:C):CS:=fun P cl n env h k _=>v P cl n env h fun v h=>o P cl n env h fun ov h=>i P cl n env h fun iv h=>JC ov iv v h fun h=>k env h
noncomputable def LZ(x:Nat)(op:Operator)(e:C):CS:=fun P cl n env h k _=>ie env x (bad 45) fun a=>cond (ah (bQ a) (cond (isAdd op) true (Bt op)))
 (e P cl n env h fun b h=>cond (bQ b) (sW op a b fun v=>putK env x v fun env=>k env h) (bad 45)) (bad 45)
noncomputable def oR(e:C):CS:=fun P cl n env h _ kr=>e P cl n env h kr
noncomputable def NU(t:CB)(b o:CS):CS:=fun P cl n env h k kr=>t P cl n env h fun v h=>cond v (b P cl n env h k kr) (o P cl n env h k kr)
noncomputable def KW(t:CB)(b:CS)(P:Prog)(cl:aX)(n:Nat)(k:En→Hp→Res)(kr:K)(m:Nat):En→Hp→Res:=
 Nat.rec (fun _ _=>bad 49) (fun _ ih env h=>t P cl n env h fun v h=>cond v (b P cl n env h (fun env h=>ih env h) kr) (k env h)) m
noncomputable def L3(t:CB)(b:CS):CS:=fun P cl n env h k kr=>KW t b P cl n k kr n env h
noncomputable def BS(t:CT)(b:CS)(P:Prog)(cl:aX)(n:Nat)(k:En→Hp→Res)(kr:K)(m:Nat):IT→En→Hp→Res:=
 Nat.rec (fun _ _ _=>bad 50) (fun _ ih it env h=>nextK it h (k env h) fun v it=>t P v env fun env=>b P cl n env h (fun env h=>ih it env h) kr) m
noncomputable def L2(t:CT)(it:CI)(b:CS):CS:=fun P cl n env h k kr=>it P cl n env h fun it h=>BS t b P cl n k kr n it env h
noncomputable def VU(v:SV):Bool:=mf (mG v) (bQ v)
noncomputable def L1(e:C):CS:=fun P cl n env h k _=>e P cl n env h fun v h=>cond (VU v) (k env h) (bad 46)
mutual
noncomputable def cT:ME→CT
 | .loc x _=>jM x
 | .tup ts _ _=>qT (nr ts)
 |_=>ZG
noncomputable def nr:List ME→Prog→List SV→En→(En→Res)→Res
 | []=>x7
 |t::r=>qA (cT t) (nr r)
end
structure CM where
 e:C
 t:CB
 i:CI
structure ZT where
 nil:Bool
 l:CL
 o:Bool→C
 t:Bool→CB
 all:CB
 q:List CmpOp→SV→CB
noncomputable def d9(e:C):CM:=⟨e,x8 e,qL e⟩
noncomputable def LR(r:C)(nil:Bool)(more:List CmpOp→SV→CB)(ops:List CmpOp):SV→CB:=match ops with
 | []=>CO
 |op::ops=>match ops with
  | []=>cond nil (tP op r) CO
  |_::_=>KO op r (more ops)
mutual
noncomputable def cM:ME→CM
 | .none _ _=>d9 (fx .none)
 | .bool b _ _=>d9 (fx (.bool b))
 | .int n _ _=>d9 (fx (.lit n))
 | .str i _ _=>d9 (fx (.str i))
 | .loc x _=>d9 (dD x)
 | .eG _ g _=>d9 (t6 g)
 | .o4 a es _=>⟨(cQ es).o a,(cQ es).t a,qL mQ⟩
 | .bin op m l r _=>d9 (xI op m (cM l).e (cM r).e)
 | .not e _=>⟨La (cM e).t,Mg (cM e).t,qL mQ⟩
 | .neg e _=>d9 (K9 (cM e).e)
 | .pF t b o _=>⟨xJ (cM t).t (cM b).e (cM o).e,ZH (cM t).t (cM b).t (cM o).t,qL (xJ (cM t).t (cM b).e (cM o).e)⟩
 | .tup es _ _=>d9 (Ck (cQ es).l)
 | .lst m es _=>d9 (K8 m (cQ es).l)
 | .f3 s _=>d9 (K7 s)
 | .comp elt t it ifs sc _=>d9 (lK (bL sc) (cM it).i (cT t) (cM elt).e (cQ ifs).all)
 | .cmp l ops rs _=>⟨K6 (cM l).e ((cQ rs).q ops),ur (cM l).e ((cQ rs).q ops),qL mQ⟩
 | .call f as _=>d9 (xf (cM f).e (cQ as).l)
 | .oO o x _ as _=>d9 (JV (cM o).e x (cQ as).l)
 | .fZ o x _=>d9 (K5 (cM o).e x)
 | .sub o i _=>d9 (Cj (cM o).e (cM i).e)
 | .fj m o l u s _ _=>d9 (Lc m (cM o).e (cM l).e (cM u).e (cM s).e)
 | .rep t m es _ _ r _=>d9 (Lb t m (cQ es).l (cM r).e)
 | .absent=>d9 (fx .none)
 | .iter b _ _ as _ _=>⟨mQ,x8 mQ,xn b (cQ as).l⟩
 | .raw _=>d9 mQ
noncomputable def cQ:List ME→ZT
 | []=>⟨true,qM,fun _=>mQ,fun a=>uu a,uu true,fun _=>CO⟩
 |e::r=>⟨false,ou (cM e).e (cQ r).l,fun a=>cond (cQ r).nil (cM e).e (JU a (cM e).e ((cQ r).o a)),fun a=>xv a (cM e).t ((cQ r).t a),
   cond (cQ r).nil (cM e).t (fun _ _ _ _ _ _=>bad 48),LR (cM e).e (cQ r).nil (cQ r).q⟩
end
noncomputable def cE(e:ME):C:=(cM e).e
noncomputable def tE(e:ME):CB:=(cM e).t
noncomputable def cI(e:ME):CI:=(cM e).i
noncomputable def oJ(t:ME)(v:ME):CS:=match t with
 | .loc _ _=>km (cT t) (cE v)
 | .tup _ _ _=>km (cT t) (cE v)
 | .fZ o x _=>CW (cE o) x (cE v)
 | .sub o i _=>CY (cE o) (cE i) (cE v)
 |_=>uk
mutual
noncomputable def cS:MS→CS
 | .asg t v _=>oJ t v
 | .aug x _ op e _=>LZ x op (cE e)
 | .ret e _=>oR (cE e)
 | .iff t b o _=>NU (tE t) (e9 b) (e9 o)
 | .cj t b _=>L3 (tE t) (e9 b)
 | .for t it b _=>L2 (cT t) (cI it) (e9 b)
 | .exp e _=>L1 (cE e)
 | .raw _=>uk
noncomputable def e9:List MS→CS
 | []=>qQ
 |s::r=>um (cS s) (e9 r)
end
noncomputable def IY(ps:List Nat)(as:List SV)(k:En→Res):Res:=
 List.rec (motive:=fun _=>List SV→(En→Res)→Res) (fun as k=>match as with| []=>k []|_::_=>bad 54)
  (fun x _ ih as k=>match as with| []=>bad 54|v::r=>ih r fun e=>k ((x,v)::e)) ps as k
structure Fn where
 ps:List Nat
 body:CS
noncomputable def lX(P:Prog)(n:Nat)(cl:aX)(d:Option Fn)(as:List SV)(h:Hp)(k:K):Res:=match d with
 |some d=>IY d.ps as fun env=>d.body P cl n env h (fun _ h=>k .none h) k
 |none=>bad 55
noncomputable def run(P:Prog)(fn:Nat→Option Fn)(hook:aX→aX)(n m:Nat):aX:=
 Nat.rec (fun _ _ _ _=>bad 56) (fun _ ih=>hook fun f as h k=>lX P n ih (fn f) as h k) m
end
end
variable{k:Bool→Res}{cl:aX}{cs:Cs}{env aD:En}{h:Hp}{names kn:List (Nat×SV)}{l as L0:List SV}{F F':Nat→SV→En→Hp→Prop}{done:Res}{V:SV}{R R':Value→SV→Prop}
section
noncomputable section
noncomputable def pz:Pos:=⟨0,0,0,0⟩
noncomputable def pe(v:ME):Pos:=ME.casesOn (motive_1:=fun _=>Pos) v (fun _ p=>p) (fun _ _ p=>p) (fun _ _ p=>p) (fun _ _ p=>p) (fun _ p=>p) (fun _ _ p=>p) (fun _ _ p=>p) (fun _ _ _ _ p=>p) (fun _ p=>p) (fun _ p=>p) (fun _ _ _ p=>p) (fun _ _ p=>p) (fun _ _ p=>p) (fun _ p=>p) (fun _ _ _ _ _ p=>p) (fun _ _ _ p=>p) (fun _ _ p=>p) (fun _ _ _ _ p=>p) (fun _ _ p=>p) (fun _ _ p=>p) (fun _ _ _ _ _ _ p=>p) pz (fun _ _ _ _ _ _ p=>p) (fun _ _ _ _ _ p=>p) (fun _=>pz)
noncomputable def pf(es:List ME):Pos:=List.casesOn es pz fun e _=>pe e
noncomputable def pl(es:List ME):Pos:=List.rec pz (fun e r i=>List.casesOn r (pe e) fun _ _=>i) es
noncomputable def px(p q:Pos)(i j:Nat):Pos:=⟨p.1,p.2-i,q.3,q.4+j⟩
noncomputable def nl(x:Nat):Nat:=Nat.mod (Nat.shiftRight 147163897545772616990675522557369186580396730614127200549942101972340484148981709714930184210398094786544704825216726441512735303981939189841557022029588324968477755372396055199729636366919478262063437116720363297831517383747002102194187078786930201328848045412679949675766203369861173255120085135440893274572528678399439712816885085427673278124427962434751668285736453598490178208173027206797454484133523719507327857170735327685003816595331200890814172701692193139993040313673531765871143872718551616088727432615431498565242495018627327747236082758589262795100492094813776244600214183662718651241087479021016897926790562864181632 (6*x)) 64
noncomputable def pw(x l a d:Nat):Pos:=⟨l,a,l,a+(nl x+d)⟩
noncomputable def zq(l a b:Nat):Pos:=⟨l,a,l,b⟩
noncomputable abbrev zl(x l a b:Nat):ME:=.loc x (zq l a b)
noncomputable abbrev zg(x g l a b:Nat):ME:=.eG x g (zq l a b)
noncomputable abbrev zi(n k l a b:Nat):ME:=.int (aq n) k (zq l a b)
noncomputable abbrev zs(i k l a b:Nat):ME:=.str i k (zq l a b)
noncomputable abbrev zc(f:ME)(as:List ME)(l a b:Nat):ME:=.call f as (zq l a b)
noncomputable abbrev zu(o i:ME)(l a b:Nat):ME:=.sub o i (zq l a b)
noncomputable abbrev zm(o:ME)(c:CmpOp)(i:ME)(l a b:Nat):ME:=.cmp o [c] [i] (zq l a b)
noncomputable abbrev za(t v:ME)(l a b:Nat):MS:=.asg t v (zq l a b)
noncomputable abbrev zt(o:ME)(x l a b:Nat):ME:=.fZ o x (zq l a b)
noncomputable abbrev zp(es:List ME)(k l a b:Nat):ME:=.tup es k (zq l a b)
noncomputable abbrev zr(v:ME)(l a b:Nat):MS:=.ret v (zq l a b)
noncomputable abbrev zb(o:Operator)(m:Bool)(x y:ME)(l a b:Nat):ME:=.bin o m x y (zq l a b)
noncomputable abbrev zk(m:Bool)(es:List ME)(l a b:Nat):ME:=.lst m es (zq l a b)
noncomputable abbrev ze(e:ME)(l a b:Nat):MS:=.exp e (zq l a b)
noncomputable abbrev zx(t b o:ME)(l a c:Nat):ME:=.pF t b o (zq l a c)
noncomputable abbrev zj(o:ME)(l a b:Nat):ME:=.neg o (zq l a b)
noncomputable abbrev zo(o:ME)(l a b:Nat):ME:=.not o (zq l a b)
noncomputable abbrev zv(o:Bool)(es:List ME)(l a b:Nat):ME:=.o4 o es (zq l a b)
noncomputable abbrev zy(n:String)(l a b:Nat):PySem.Expr:=.Name (Str.ofString n) (zq l a b)
noncomputable abbrev zf(f:PySem.Expr)(as:List PySem.Expr)(l a b:Nat):PySem.Expr:=.Call f as [] (zq l a b)
noncomputable abbrev zn(c:PySem.Const)(k:Nat)(l a b:Nat):PySem.Expr:=.Constant c k (zq l a b)
noncomputable abbrev zw(o:PySem.Expr)(n:String)(l a b:Nat):PySem.Expr:=.Attribute o (Str.ofString n) (zq l a b)
noncomputable abbrev yl(x l a:Nat):ME:=.loc x (pw x l a 0)
noncomputable abbrev yg(x g l a:Nat):ME:=.eG x g (pw x l a 0)
noncomputable abbrev ys(x l a:Nat):ME:=.str x 0 (pw x l a 2)
noncomputable abbrev yi(n l a:Nat):ME:=.int (aq n) 0 (zq l a (a+1))
noncomputable abbrev yu(o i:ME):ME:=.sub o i (px (pe o) (pe i) 0 1)
noncomputable abbrev ym(o:ME)(c:CmpOp)(i:ME):ME:=.cmp o [c] [i] (px (pe o) (pe i) 0 0)
noncomputable abbrev ya(t v:ME):MS:=.asg t v (px (pe t) (pe v) 0 0)
noncomputable abbrev yb(o:Operator)(m:Bool)(x y:ME):ME:=.bin o m x y (px (pe x) (pe y) 0 0)
noncomputable abbrev yx(t b o:ME):ME:=.pF t b o (px (pe b) (pe o) 0 0)
noncomputable abbrev yr(v:ME):MS:=.ret v (px (pe v) (pe v) 7 0)
noncomputable abbrev ye(e:ME):MS:=.exp e (px (pe e) (pe e) 0 0)
noncomputable abbrev yo(e:ME):ME:=.not e (px (pe e) (pe e) 4 0)
noncomputable abbrev yn(e:ME):ME:=.neg e (px (pe e) (pe e) 1 0)
noncomputable abbrev yt(o:ME)(x:Nat):ME:=.fZ o x (px (pe o) (pe o) 0 (1+nl x))
noncomputable abbrev yc(f:ME)(as:List ME):ME:=.call f as (px (pe f) (pl as) 0 1)
noncomputable abbrev yd(f:ME):ME:=.call f [] (px (pe f) (pe f) 0 2)
noncomputable abbrev yh(o:ME)(x:Nat)(as:List ME):ME:=.oO o x (px (pe o) (pe o) 0 (1+nl x)) as (px (pe o) (pl as) 0 1)
noncomputable abbrev yj(o:ME)(x:Nat):ME:=.oO o x (px (pe o) (pe o) 0 (1+nl x)) [] (px (pe o) (pe o) 0 (3+nl x))
noncomputable abbrev yk(m:Bool)(es:List ME):ME:=.lst m es (px (pf es) (pl es) 1 1)
noncomputable abbrev yp(es:List ME):ME:=.tup es 0 (px (pf es) (pl es) 1 1)
noncomputable abbrev yq(es:List ME):ME:=.tup es 0 (px (pf es) (pl es) 0 0)
noncomputable abbrev yv(o:Bool)(es:List ME):ME:=.o4 o es (px (pf es) (pl es) 0 0)
noncomputable def bA:List (List MS):=[
 [(.iff (yc (yg 74 0 28 7) [(yl 73 28 18),(yg 75 1 28 25)]) [(yr (ys 33 29 15))] [] ⟨28,4,29,21⟩),(yr (yx (yc (yg 74 0 30 24) [(yl 73 30 35),(yg 76 2 30 42)]) (ys 34 30 11) (ys 25 30 54)))],
 [(ya (yl 78 32 4) (yu (yl 28 32 11) (yb .Sub false (yc (yg 79 3 32 16) [(yl 28 32 20)]) (yi 1 32 28)))),(.iff (ym (yl 78 33 7) .Eq (ys 22 33 15)) [(yr (ys 33 34 15))] [] ⟨33,4,34,21⟩),(.iff (ym (yl 78 35 7) .Eq (ys 21 35 15)) [(yr (ys 25 36 15))] [] ⟨35,4,36,22⟩),(yr (yx (ym (yl 78 37 24) .Eq (ys 23 37 32)) (ys 34 37 11) (yh (yl 77 37 41) 5 [(yu (yl 28 37 51) (yi 0 37 56)),(ys 34 37 60)])))],
 [(.iff (ym (yl 80 39 7) .Eq (ys 33 39 15)) [(yr (ys 0 40 15))] [] ⟨39,4,40,17⟩),(yr (yx (ym (yl 80 41 16) .Eq (ys 25 41 24)) (yi 0 41 11) (yp [(yi 0 41 38),(yi 0 41 41)])))],
 [(ya (yq [(yl 82 43 4),(yl 83 43 10)]) (yp [(yi 1 43 19),(zi 10 0 43 22 24)])),(.cj (ym (yl 83 44 10) .LtE (yl 81 44 19)) [(.aug 83 ⟨45,8,45,13⟩ .Mult (zi 10 0 45 17 19) ⟨45,8,45,19⟩),(.aug 82 ⟨46,8,46,12⟩ .Add (yi 1 46 16) ⟨46,8,46,17⟩)] ⟨44,4,46,17⟩),(yr (yl 82 47 11))],
 [(ya (yl 87 59 4) (yc (yg 90 4 59 11) [(yl 84 59 15)])),(ya (yl 88 60 4) (yb .Sub false (yc (yg 91 5 60 11) [(yl 87 60 22)]) (yl 86 60 30))),(.iff (ym (yl 88 61 7) .Gt (yi 0 61 14)) [(ya (yq [(yl 87 62 8),(yl 85 62 14)]) (yp [(yc (yg 92 6 62 26) [(yl 87 62 37),(yl 88 62 43)]),(yb .Add false (yl 85 62 50) (yl 88 62 61))]))] [] ⟨61,4,62,66⟩),(.iff (ym (yl 87 63 7) .Eq (yi 0 63 15)) [(yr (yp [(yi 0 64 16),(yi 0 64 19)]))] [] ⟨63,4,64,21⟩),(.cj (ym (yb .Mod false (yl 87 65 10) (zi 10 0 65 17 19)) .Eq (yi 0 65 23)) [(ya (yq [(yl 87 66 8),(yl 85 66 14)]) (yp [(yb .FloorDiv false (yl 87 66 26) (zi 10 0 66 34 36)),(yb .Add false (yl 85 66 38) (yi 1 66 49))]))] ⟨65,4,66,51⟩),(ya (yl 89 67 4) (yb .Sub false (yb .Add false (yl 85 67 12) (yc (yg 91 5 67 23) [(yl 87 67 34)])) (yi 1 67 42))),(.iff (ym (yl 89 68 7) .Gt (yg 93 7 68 15)) [(.raw (PySem.Stmt.Raise (some (zf (zy "BasicError" 69 14 24) [(zn (PySem.Const.str (Str.ofString "OV")) 0 69 25 29)] 69 14 30)) none ⟨69,8,69,30⟩))] [] ⟨68,4,69,30⟩),(.iff (ym (yl 89 70 7) .Lt (yn (yg 93 7 70 16))) [(yr (yp [(yi 0 71 16),(yi 0 71 19)]))] [] ⟨70,4,71,21⟩),(yr (yp [(yx (ym (yl 84 72 21) .Lt (yi 0 72 35)) (yn (yl 87 72 13)) (yl 87 72 42)),(yl 85 72 48)]))],
 [(yr (.cmp (zj (yb .LShift false (yi 1 80 13) (yb .Sub false (yl 95 80 18) (yi 1 80 25))) 80 11 27) [.LtE,.Lt] [(yl 81 80 31),(yb .LShift false (yi 1 80 40) (yb .Sub false (yl 95 80 45) (yi 1 80 52)))] ⟨80,11,80,53⟩))],
 [(.iff (yc (yg 74 0 82 7) [(yl 73 82 18),(yg 75 1 82 25)]) [(.raw (PySem.Stmt.Raise (some (zf (zy "BasicError" 83 14 24) [(zn (PySem.Const.str (Str.ofString "TM")) 0 83 25 29)] 83 14 30)) none ⟨83,8,83,30⟩))] [] ⟨82,4,83,30⟩),(ya (yl 81 84 4) (yx (yc (yg 74 0 84 34) [(yl 73 84 45),(yg 76 2 84 52)]) (yc (yg 96 8 84 13) [(yl 73 84 24)]) (yl 73 84 64))),(.iff (yo (yc (yg 97 9 85 11) [(yl 81 85 16),(yl 95 85 24)])) [(.raw (PySem.Stmt.Raise (some (zf (zy "BasicError" 86 14 24) [(zn (PySem.Const.str (Str.ofString "OV")) 0 86 25 29)] 86 14 30)) none ⟨86,8,86,30⟩))] [] ⟨85,4,86,30⟩),(yr (yl 81 87 11))],
 [(.iff (yc (yg 74 0 89 7) [(yl 73 89 18),(yg 75 1 89 25)]) [(.raw (PySem.Stmt.Raise (some (zf (zy "BasicError" 90 14 24) [(zn (PySem.Const.str (Str.ofString "TM")) 0 90 25 29)] 90 14 30)) none ⟨90,8,90,30⟩))] [] ⟨89,4,90,30⟩),(yr (yx (yc (yg 74 0 91 47) [(yl 73 91 58),(yg 76 2 91 65)]) (yc (yg 98 10 91 11) [(yu (yl 73 91 16) (yi 0 91 22)),(yu (yl 73 91 26) (yi 1 91 32)),(yl 86 91 36)]) (yc (yg 98 10 91 77) [(yl 73 91 82),(yi 0 91 89),(yl 86 91 92)])))],
 [(.iff (ym (yl 80 101 7) .Eq (ys 33 101 15)) [(yr (yc (yg 99 11 102 15) [(yc (yg 100 12 102 28) [(yl 73 102 36)])]))] [] ⟨101,4,102,43⟩),(yr (yx (ym (yl 80 103 36) .Eq (ys 25 103 44)) (yc (yg 101 13 103 11) [(yl 73 103 20),(yl 95 103 27)]) (yc (yg 102 14 103 57) [(yl 73 103 68),(yl 86 103 75)])))],
 [(.iff (yc (yg 74 0 105 7) [(yl 73 105 18),(yg 75 1 105 25)]) [(.raw (PySem.Stmt.Raise (some (zf (zy "BasicError" 106 14 24) [(zn (PySem.Const.str (Str.ofString "TM")) 0 106 25 29)] 106 14 30)) none ⟨106,8,106,30⟩))] [] ⟨105,4,106,30⟩),(yr (yx (yc (yg 74 0 107 28) [(yl 73 107 39),(yg 76 2 107 46)]) (ym (yu (yl 73 107 11) (yi 0 107 17)) .Eq (yi 0 107 23)) (ym (yl 73 107 58) .Eq (yi 0 107 67))))],
 [(yr (yo (yc (yg 103 15 109 15) [(yl 73 109 25)])))],
 [(yr (yx (yl 104 111 17) (yn (yi 1 111 12)) (yi 0 111 28)))],
 [(.iff (yc (yg 74 0 113 7) [(yl 73 113 18),(yg 75 1 113 25)]) [(.raw (PySem.Stmt.Raise (some (zf (zy "BasicError" 114 14 24) [(zn (PySem.Const.str (Str.ofString "TM")) 0 114 25 29)] 114 14 30)) none ⟨114,8,114,30⟩))] [] ⟨113,4,114,30⟩),(ya (yl 87 115 4) (yx (yc (yg 74 0 115 23) [(yl 73 115 34),(yg 76 2 115 41)]) (yu (yl 73 115 11) (yi 0 115 17)) (yl 73 115 53))),(yr (zb .Sub false (ym (yl 87 116 12) .Gt (yi 0 116 19)) (ym (yl 87 116 25) .Lt (yi 0 116 32)) 116 11 34))],
 [(yr (yc (yg 98 10 131 11) [(yb .Mult false (yu (yl 105 131 16) (yi 0 131 18)) (yu (yl 106 131 23) (yi 0 131 25))),(yb .Add false (yu (yl 105 131 29) (yi 1 131 31)) (yu (yl 106 131 36) (yi 1 131 38))),(yl 86 131 42)]))],
 [(.iff (yc (yg 74 0 163 7) [(yl 73 163 18),(yg 75 1 163 25)]) [(.raw (PySem.Stmt.Raise (some (zf (zy "BasicError" 164 14 24) [(zn (PySem.Const.str (Str.ofString "TM")) 0 164 25 29)] 164 14 30)) none ⟨164,8,164,30⟩))] [] ⟨163,4,164,30⟩),(yr (yo (yc (yg 74 0 165 15) [(yl 73 165 26),(yg 76 2 165 33)])))],
 [(yr (yx (yc (yg 97 9 167 21) [(yl 81 167 26),(yl 95 167 34)]) (yl 81 167 11) (yc (yg 98 10 167 45) [(yl 81 167 50),(yi 0 167 58),(yl 86 167 61)])))],
 [(.iff (ym (yl 107 169 7) .Eq (ys 35 169 13)) [(yr (yc (yg 108 16 170 15) [(yb .Add false (yl 105 170 23) (yl 106 170 27)),(yl 95 170 30),(yl 86 170 36)]))] [] ⟨169,4,170,43⟩),(yr (yc (yg 108 16 171 11) [(yx (ym (yl 107 171 28) .Eq (ys 36 171 34)) (yb .Sub false (yl 105 171 19) (yl 106 171 23)) (yb .Mult false (yl 105 171 43) (yl 106 171 47))),(yl 95 171 50),(yl 86 171 56)]))],
 [(.iff (ym (yl 106 173 7) .Eq (yi 0 173 12)) [(.raw (PySem.Stmt.Raise (some (zf (zy "BasicError" 174 14 24) [(zn (PySem.Const.str (Str.ofString "DZ")) 0 174 25 29)] 174 14 30)) none ⟨174,8,174,30⟩))] [] ⟨173,4,174,30⟩),(ya (yl 109 175 4) (yb .FloorDiv false (yc (yg 90 4 175 12) [(yl 105 175 16)]) (yc (yg 90 4 175 22) [(yl 106 175 26)]))),(yr (yx (zm (ym (yl 105 176 21) .Lt (yi 0 176 25)) .Eq (ym (yl 106 176 32) .Lt (yi 0 176 36)) 176 20 38) (yl 109 176 11) (yb .Sub false (yi 0 176 44) (yl 109 176 48))))],
 [(yr (yb .Sub false (yl 105 178 11) (yb .Mult false (yl 106 178 15) (yc (yg 110 17 178 19) [(yl 105 178 32),(yl 106 178 35)]))))],
 [(ya (yq [(yl 111 197 4),(yl 112 197 14)]) (yp [(yc (yg 116 18 197 27) [(yl 105 197 36)]),(yc (yg 116 18 197 40) [(yl 106 197 49)])])),(.iff (ym (yl 107 198 7) .Eq (ys 41 198 13)) [(yr (yc (yg 117 19 199 15) [(yl 105 199 22),(yl 106 199 25),(yl 95 199 28),(yl 86 199 34)]))] [] ⟨198,4,199,41⟩),(.iff (yv false [(ym (yl 107 200 7) .Eq (zs 39 0 200 13 17)),(ym (yl 107 200 21) .Eq (ys 40 200 27))]) [(ya (yl 113 201 8) (yx (ym (yl 107 201 31) .Eq (zs 39 0 201 37 41)) (yg 110 17 201 15) (yg 118 20 201 47))),(yr (yc (yg 108 16 202 15) [(yc (yl 113 202 23) [(yc (yg 101 13 202 28) [(yl 105 202 37),(yl 95 202 40)]),(yc (yg 101 13 202 47) [(yl 106 202 56),(yl 95 202 59)])]),(yl 95 202 67),(yl 86 202 73)]))] [] ⟨200,4,202,80⟩),(.iff (yv true [(ym (yl 107 203 7) .NotEq (ys 38 203 13)),(yl 111 203 21),(yl 112 203 34)]) [(yr (yc (yg 119 21 204 15) [(yl 107 204 30),(yl 105 204 34),(yl 106 204 37),(yl 95 204 40),(yl 86 204 46)]))] [] ⟨203,4,204,53⟩),(ya (yq [(yl 114 205 4),(yl 115 205 9)]) (yp [(yc (yg 102 14 205 18) [(yl 105 205 29),(yl 86 205 32)]),(yc (yg 102 14 205 41) [(yl 106 205 52),(yl 86 205 55)])])),(.iff (ym (yl 107 206 7) .Eq (ys 35 206 13)) [(yr (yc (yg 120 22 207 15) [(yl 114 207 21),(yl 115 207 26),(yl 86 207 33)]))] [] ⟨206,4,207,40⟩),(.iff (ym (yl 107 208 7) .Eq (ys 36 208 13)) [(yr (yc (yg 121 23 209 15) [(yl 114 209 21),(yl 115 209 26),(yl 86 209 33)]))] [] ⟨208,4,209,40⟩),(yr (yx (ym (yl 107 210 40) .Eq (ys 37 210 46)) (yc (yg 122 24 210 11) [(yl 114 210 17),(yl 115 210 22),(yl 86 210 29)]) (yc (yg 123 25 210 55) [(yl 114 210 61),(yl 115 210 66),(yl 86 210 73)])))],
 [(yr (yx (yc (yg 116 18 212 43) [(yl 105 212 52)]) (yc (yg 108 16 212 11) [(yb .Sub false (yi 0 212 19) (yl 105 212 23)),(yl 95 212 26),(yl 86 212 32)]) (yp [(yb .Sub false (yi 0 212 61) (yu (yl 105 212 65) (yi 0 212 67))),(yu (yl 105 212 71) (yi 1 212 73))])))],
 [(.iff (ym (yc (yg 74 0 214 7) [(yl 105 214 18),(yg 75 1 214 21)]) .NotEq (yc (yg 74 0 214 29) [(yl 106 214 40),(yg 75 1 214 43)])) [(.raw (PySem.Stmt.Raise (some (zf (zy "BasicError" 215 14 24) [(zn (PySem.Const.str (Str.ofString "TM")) 0 215 25 29)] 215 14 30)) none ⟨215,8,215,30⟩))] [] ⟨214,4,215,30⟩),(.iff (zv false [(yc (yg 74 0 216 7) [(yl 105 216 18),(yg 75 1 216 21)]),(yv true [(yc (yg 116 18 216 30) [(yl 105 216 39)]),(yc (yg 116 18 216 46) [(yl 106 216 55)])])] 216 7 58) [(yr (zb .Sub false (ym (yl 105 217 16) .Gt (yl 106 217 20)) (ym (yl 105 217 26) .Lt (yl 106 217 30)) 217 15 32))] [] ⟨216,4,217,32⟩),(yr (yc (yg 124 26 218 11) [(yx (yc (yg 74 0 218 26) [(yl 105 218 37),(yg 76 2 218 40)]) (yl 105 218 21) (yp [(yl 105 218 53),(yi 0 218 56)])),(yx (yc (yg 74 0 218 65) [(yl 106 218 76),(yg 76 2 218 79)]) (yl 106 218 60) (yp [(yl 106 218 92),(yi 0 218 95)]))]))],
 [(ya (yt (yl 125 235 8) 129) (zk true [] 235 20 22)),(ya (yt (yl 125 236 8) 126) (yl 126 236 20)),(ya (yt (yl 125 237 8) 312) (yn (yi 1 237 26)))],
 [(.iff (ym (yc (yg 79 3 239 7) [(yt (yl 127 239 11) 129)]) .GtE (yt (yl 127 239 28) 126)) [(.raw (PySem.Stmt.Raise (some (zf (zy "BasicError" 240 14 24) [(zn (PySem.Const.str (Str.ofString "OM")) 0 240 25 29)] 240 14 30)) none ⟨240,8,240,30⟩))] [] ⟨239,4,240,30⟩),(ye (yh (yt (yl 127 241 4) 129) 1 [(yl 128 241 24)]))],
 [(.for (yl 130 243 8) (.iter 4 131 27 [(yc (yg 79 3 243 20) [(yl 129 243 24)]),(yi 0 243 31),(yn (yi 1 243 35))] ⟨243,14,243,19⟩ ⟨243,14,243,37⟩) [(.iff (ym (yu (yu (yl 129 244 11) (yb .Sub false (yl 130 244 16) (yi 1 244 21))) (yi 0 244 24)) .Eq (ys 57 244 30)) [(yr (yl 130 245 19))] [] ⟨244,8,245,21⟩)] ⟨243,4,245,21⟩),(yr (yi 0 246 11))],
 [(.for (yl 130 248 8) (.iter 4 131 27 [(yb .Sub false (yc (yg 79 3 248 20) [(yl 129 248 24)]) (yi 1 248 32)),(yb .Sub false (yc (yg 132 28 248 35) [(yl 129 248 44)]) (yi 1 248 52)),(yn (yi 1 248 56))] ⟨248,14,248,19⟩ ⟨248,14,248,58⟩) [(.iff (yv true [(ym (yu (yu (yl 129 249 11) (yl 130 249 16)) (yi 0 249 20)) .Eq (yl 80 249 26)),(ym (yl 28 249 35) .In (yp [(ys 0 249 44),(yu (yu (yl 129 249 48) (yl 130 249 53)) (yi 1 249 57))]))]) [(yr (yl 130 250 19))] [] ⟨249,8,250,21⟩)] ⟨248,4,250,21⟩),(yr (yn (yi 1 251 12)))],
 [(ya (yt (yl 127 253 4) 129) (.fj true (yt (yl 127 253 19) 129) .absent (yl 82 253 33) .absent ⟨253,32,253,37⟩ ⟨253,19,253,38⟩))],
 [(yr (yx (ym (yc (yg 136 29 255 38) [(yl 134 255 46)]) .GtE (yi 0 255 55)) (ym (yc (yl 135 255 11) [(yl 133 255 17),(yl 73 255 24)]) .Lt (yi 0 255 33)) (ym (yc (yl 135 255 62) [(yl 73 255 68),(yl 133 255 75)]) .Lt (yi 0 255 84))))],
 [(ya (yl 130 257 4) (yc (yg 138 30 257 9) [(yt (yl 127 257 18) 129),(ys 55 257 32),(yl 28 257 39)])),(.iff (ym (yl 130 258 7) .GtE (yi 0 258 13)) [(ye (yc (yg 139 31 259 8) [(yl 127 259 15),(yl 130 259 24)]))] [] ⟨258,4,259,27⟩),(ye (yc (yg 140 32 260 4) [(yl 127 260 13),(yp [(ys 55 260 23),(yl 28 260 30),(yl 137 260 36),(yl 133 260 43),(yl 134 260 50)])]))],
 [(ya (yl 130 262 4) (yc (yg 138 30 262 9) [(yt (yl 127 262 18) 129),(ys 55 262 32),(yl 28 262 39)])),(.iff (ym (yl 130 263 7) .Lt (yi 0 263 12)) [(.raw (PySem.Stmt.Raise (some (zf (zy "BasicError" 264 14 24) [(zn (PySem.Const.str (Str.ofString "NF")) 0 264 25 29)] 264 14 30)) none ⟨264,8,264,30⟩))] [] ⟨263,4,264,30⟩),(yr (yu (yu (yt (yl 127 265 11) 129) (yl 130 265 24)) (yi 1 265 28)))],
 [(ya (yl 130 267 4) (yc (yg 138 30 267 9) [(yt (yl 127 267 18) 129),(ys 55 267 32),(yl 28 267 39)])),(.iff (ym (yl 130 268 7) .Lt (yi 0 268 12)) [(.raw (PySem.Stmt.Raise (some (zf (zy "BasicError" 269 14 24) [(zn (PySem.Const.str (Str.ofString "NF")) 0 269 25 29)] 269 14 30)) none ⟨269,8,269,30⟩))] [] ⟨268,4,269,30⟩),(ya (yq [(yl 80 270 4),(yl 142 270 10),(yl 137 270 16),(yl 133 270 23),(yl 134 270 30)]) (yu (yt (yl 127 270 37) 129) (yl 130 270 50))),(ya (yl 73 271 4) (yc (yl 141 271 12) [(yl 73 271 16),(yl 134 271 23)])),(.iff (yc (yg 143 33 272 7) [(yl 73 272 15),(yl 133 272 22),(yl 134 272 29),(yl 135 272 35)]) [(ye (yc (yg 139 31 273 8) [(yl 127 273 15),(yl 130 273 24)])),(yr (yp [(yl 73 274 16),(.none 0 ⟨274,23,274,27⟩)]))] [] ⟨272,4,274,28⟩),(ye (yc (yg 139 31 275 4) [(yl 127 275 11),(yb .Add false (yl 130 275 20) (yi 1 275 25))])),(yr (yp [(yl 73 276 12),(yl 137 276 19)]))],
 [(ya (yl 129 278 4) (yt (yl 127 278 11) 129)),(ya (yl 144 279 4) (.comp (yl 130 279 13) (yl 130 279 20) (.iter 4 131 27 [(yc (yg 132 28 279 32) [(yl 129 279 41)]),(yc (yg 79 3 279 48) [(yl 129 279 52)])] ⟨279,26,279,31⟩ ⟨279,26,279,58⟩) [(ym (yu (yl 129 279 62) (yl 130 279 67)) .Eq (yp [(ys 50 279 75),(yl 137 279 84)]))] [(313,.local),(130,.local),(129,.free),(137,.free)] ⟨279,12,279,91⟩)),(.iff (ym (yl 144 280 7) .NotEq (zk false [] 280 16 18)) [(ye (yc (yg 139 31 281 8) [(yl 127 281 15),(yb .Add false (yu (yl 144 281 24) (yi 0 281 30)) (yi 1 281 35))]))] [(ye (yc (yg 140 32 283 8) [(yl 127 283 17),(yp [(ys 50 283 27),(yl 137 283 36)])]))] ⟨280,4,283,43⟩)],
 [(ya (yl 129 285 4) (yt (yl 127 285 11) 129)),(ya (yl 144 286 4) (.comp (yl 130 286 13) (yl 130 286 20) (.iter 4 131 27 [(yc (yg 132 28 286 32) [(yl 129 286 41)]),(yc (yg 79 3 286 48) [(yl 129 286 52)])] ⟨286,26,286,31⟩ ⟨286,26,286,58⟩) [(ym (yu (yl 129 286 62) (yl 130 286 67)) .Eq (yp [(ys 50 286 75),(yl 137 286 84)]))] [(313,.local),(130,.local),(129,.free),(137,.free)] ⟨286,12,286,91⟩)),(.iff (ym (yl 144 287 7) .NotEq (zk false [] 287 16 18)) [(ye (yc (yg 139 31 288 8) [(yl 127 288 15),(yu (yl 144 288 24) (yi 0 288 30))]))] [] ⟨287,4,288,33⟩)],
 [(ya (yl 130 290 4) (yc (yg 138 30 290 9) [(yt (yl 127 290 18) 129),(ys 50 290 32),(yl 137 290 41)])),(.iff (ym (yl 130 291 7) .Lt (yi 0 291 12)) [(.raw (PySem.Stmt.Raise (some (zf (zy "BasicError" 292 14 24) [(zn (PySem.Const.str (Str.ofString "WE")) 0 292 25 29)] 292 14 30)) none ⟨292,8,292,30⟩))] [] ⟨291,4,292,30⟩),(ye (yc (yg 139 31 293 4) [(yl 127 293 11),(yb .Add false (yl 130 293 20) (yi 1 293 25))])),(yr (yu (yu (yt (yl 127 294 11) 129) (yl 130 294 24)) (yi 1 294 28)))],
 [(ye (yc (yg 140 32 296 4) [(yl 127 296 13),(yp [(ys 57 296 23),(yl 137 296 32)])]))],
 [(ya (yl 82 298 4) (yc (yg 132 28 298 11) [(yt (yl 127 298 20) 129)])),(.iff (ym (yl 82 299 7) .Eq (yi 0 299 15)) [(.raw (PySem.Stmt.Raise (some (zf (zy "BasicError" 300 14 24) [(zn (PySem.Const.str (Str.ofString "RG")) 0 300 25 29)] 300 14 30)) none ⟨300,8,300,30⟩))] [] ⟨299,4,300,30⟩),(ya (yl 137 301 4) (yu (yu (yt (yl 127 301 12) 129) (yb .Sub false (yl 82 301 25) (yi 1 301 32))) (yi 1 301 35))),(ye (yc (yg 139 31 302 4) [(yl 127 302 11),(yb .Sub false (yl 82 302 20) (yi 1 302 27))])),(yr (yl 137 303 11))],
 [(.iff (yo (.cmp (yi 0 305 11) [.LtE,.LtE] [(yl 81 305 16),(yg 145 34 305 26)] ⟨305,11,305,37⟩)) [(.raw (PySem.Stmt.Raise (some (zf (zy "BasicError" 306 14 24) [(zn (PySem.Const.str (Str.ofString "FC")) 0 306 25 29)] 306 14 30)) none ⟨306,8,306,30⟩))] [] ⟨305,4,306,30⟩),(yr (yx (.cmp (yi 1 307 25) [.LtE,.LtE] [(yl 81 307 30),(yl 82 307 40)] ⟨307,25,307,44⟩) (yb .Sub false (yl 81 307 11) (yi 1 307 20)) (.none 0 ⟨307,50,307,54⟩)))],
 [(ya (yt (yl 125 314 8) 277) (zk true [] 314 20 22)),(ya (yt (yl 125 315 8) 260) (.f3 false ⟨315,22,315,24⟩)),(ya (yt (yl 125 316 8) 314) (zk true [] 316 20 22)),(ya (yt (yl 125 317 8) 291) (.f3 false ⟨317,21,317,23⟩)),(ya (yt (yl 125 318 8) 315) (.f3 false ⟨318,21,318,23⟩)),(ya (yt (yl 125 319 8) 316) (.f3 true ⟨319,19,319,21⟩))],
 [(ye (yh (yt (yl 146 321 4) 277) 1 [(yp [(yl 147 321 22),(yl 148 321 28)])])),(yr (yb .Sub false (yc (yg 79 3 322 11) [(yt (yl 146 322 15) 277)]) (yi 1 322 28)))],
 [(ya (yl 149 324 4) (yc (yg 151 35 324 11) [(yl 146 324 22),(yl 147 324 28),(yl 148 324 34)])),(ye (yc (yg 152 36 325 4) [(yl 146 325 12),(yl 147 325 18),(yu (yl 148 325 24) (yi 2 325 34))])),(.iff (ym (yc (yg 79 3 326 7) [(yu (yl 148 326 11) (yi 3 326 21))]) .Eq (yi 0 326 28)) [(ya (yu (yt (yl 146 327 8) 277) (yl 149 327 18)) (yp [(yl 147 327 27),(yp [(ys 53 327 34),(yu (yl 148 327 43) (yi 1 327 53)),(yc (yg 79 3 327 57) [(yt (yl 146 327 61) 277)])])])),(zr .absent 328 8 14)] [] ⟨326,4,328,14⟩),(ya (yl 150 329 4) (yc (yg 151 35 329 11) [(yl 146 329 22),(yl 147 329 28),(yl 148 329 34)])),(ya (yu (yt (yl 146 330 4) 277) (yl 149 330 14)) (yp [(yl 147 330 23),(yp [(ys 53 330 30),(yu (yl 148 330 39) (yi 1 330 49)),(yc (yg 79 3 330 53) [(yt (yl 146 330 57) 277)])])])),(ye (yc (yg 152 36 331 4) [(yl 146 331 12),(yl 147 331 18),(yu (yl 148 331 24) (yi 3 331 34))])),(ya (yu (yt (yl 146 332 4) 277) (yl 150 332 14)) (yp [(yl 147 332 23),(yp [(ys 54 332 30),(yc (yg 79 3 332 38) [(yt (yl 146 332 42) 277)])])]))],
 [(.for (yl 148 334 8) (yl 153 334 21) [(.iff (ym (yu (yl 148 335 11) (yi 0 335 21)) .Eq (ys 52 335 27)) [(ye (yc (yg 154 37 336 12) [(yl 146 336 19),(yl 147 336 25),(yl 148 336 31)]))] [(ye (yc (yg 151 35 338 12) [(yl 146 338 23),(yl 147 338 29),(yl 148 338 35)]))] ⟨335,8,338,45⟩)] ⟨334,4,338,45⟩)],
 [(ya (yq [(yl 155 340 4),(yl 156 340 12),(yl 157 340 18)]) (yp [(zk true [] 340 27 29),(zk true [] 340 31 33),(zk true [] 340 35 37)])),(.for (yq [(yl 130 341 8),(yl 158 341 12)]) (.iter 5 159 38 [(yt (yl 146 341 30) 277)] ⟨341,20,341,29⟩ ⟨341,20,341,40⟩) [(ya (yq [(yl 147 342 8),(yl 148 342 14)]) (yl 158 342 26)),(ya (yl 142 343 8) (yu (yl 148 343 15) (yi 0 343 25))),(.iff (ym (yl 142 344 11) .Eq (ys 317 344 19)) [(.for (yl 33 345 16) (yu (yl 148 345 24) (yi 1 345 34)) [(ye (yh (yt (yl 146 346 16) 314) 1 [(yp [(yl 147 346 34),(yl 33 346 40)])]))] ⟨345,12,346,46⟩)] [(.iff (ym (yl 142 347 13) .Eq (ys 50 347 21)) [(ye (yh (yl 155 348 12) 1 [(yl 130 348 26)]))] [(.iff (ym (yl 142 349 13) .Eq (ys 51 349 21)) [(ye (yc (yg 160 39 350 12) [(yl 146 350 22),(yl 155 350 28),(yl 130 350 36)]))] [(.iff (ym (yl 142 351 13) .Eq (ys 318 351 21)) [(ye (yh (yl 157 352 12) 1 [(yl 130 352 25)])),(.iff (ym (yu (yl 148 353 15) (yi 1 353 25)) .NotIn (yt (yl 146 353 35) 316)) [(ya (yu (yt (yl 146 354 16) 316) (yu (yl 148 354 25) (yi 1 354 35))) (yl 130 354 41))] [] ⟨353,12,354,43⟩)] [(.iff (ym (yl 142 355 13) .Eq (ys 319 355 21)) [(ye (yc (yg 160 39 356 12) [(yl 146 356 22),(yl 157 356 28),(yl 130 356 35)]))] [(.iff (ym (yl 142 357 13) .Eq (ys 55 357 21)) [(ye (yh (yl 156 358 12) 1 [(yl 130 358 24)]))] [(.iff (ym (yl 142 359 13) .Eq (ys 56 359 21)) [(ye (yc (yg 161 40 360 12) [(yl 146 360 22),(yl 156 360 28),(yl 130 360 34),(yc (yg 162 41 360 38) [(yi 1 360 42),(yc (yg 79 3 360 45) [(yu (yl 148 360 49) (yi 1 360 59))])])]))] [] ⟨359,8,360,64⟩)] ⟨357,8,360,64⟩)] ⟨355,8,360,64⟩)] ⟨351,8,360,64⟩)] ⟨349,8,360,64⟩)] ⟨347,8,360,64⟩)] ⟨344,8,360,64⟩)] ⟨341,4,360,64⟩)],
 [(.iff (ym (yc (yg 79 3 362 7) [(yl 163 362 11)]) .Gt (yi 0 362 24)) [(ya (yl 164 363 8) (yj (yl 163 363 16) 2)),(ya (yu (yt (yl 146 364 8) 291) (yl 164 364 19)) (yl 130 364 28)),(ya (yu (yt (yl 146 365 8) 291) (yl 130 365 19)) (yl 164 365 25))] [] ⟨362,4,365,30⟩)],
 [(.for (yl 165 367 8) (.iter 4 131 27 [(yl 82 367 23)] ⟨367,17,367,22⟩ ⟨367,17,367,28⟩) [(.iff (ym (yc (yg 79 3 368 11) [(yl 156 368 15)]) .Gt (yi 0 368 23)) [(ya (yu (yt (yl 146 369 12) 315) (yj (yl 156 369 23) 2)) (yp [(yl 130 369 38),(yl 165 369 42)]))] [] ⟨368,8,369,48⟩)] ⟨367,4,369,48⟩)],
 [(ya (yl 146 371 4) (yd (yg 167 42 371 11))),(.for (yq [(yl 147 372 8),(yl 153 372 14)]) (yl 166 372 28) [(ya (yu (yt (yl 146 373 8) 260) (yl 147 373 20)) (yc (yg 79 3 373 28) [(yt (yl 146 373 32) 277)])),(ye (yc (yg 152 36 374 8) [(yl 146 374 16),(yl 147 374 22),(yl 153 374 28)])),(.iff (ym (yu (yt (yl 146 375 11) 260) (yl 147 375 23)) .Eq (yc (yg 79 3 375 32) [(yt (yl 146 375 36) 277)])) [(ye (yc (yg 151 35 376 12) [(yl 146 376 23),(yl 147 376 29),(yp [(ys 49 376 36),(ys 0 376 43)])]))] [] ⟨375,8,376,47⟩)] ⟨372,4,376,47⟩),(ye (yc (yg 168 43 377 4) [(yl 146 377 11)])),(yr (yl 146 378 11))],
 [(.iff (ym (yl 147 380 7) .NotIn (yt (yl 146 380 19) 260)) [(.raw (PySem.Stmt.Raise (some (zf (zy "BasicError" 381 14 24) [(zn (PySem.Const.str (Str.ofString "UL")) 0 381 25 29),(zy "line" 381 31 35)] 381 14 36)) none ⟨381,8,381,36⟩))] [] ⟨380,4,381,36⟩),(yr (yu (yt (yl 146 382 11) 260) (yl 147 382 23)))],
 [(.iff (ym (yl 169 387 7) .NotIn (yt (yl 146 387 18) 291)) [(.raw (PySem.Stmt.Raise (some (zf (zy "BasicError" 388 14 24) [(zn (PySem.Const.str (Str.ofString "WE")) 0 388 25 29),(zf (zy "line_of" 388 31 38) [(zy "flat" 388 39 43),(zy "row" 388 45 48)] 388 31 49)] 388 14 50)) none ⟨388,8,388,50⟩))] [] ⟨387,4,388,50⟩),(yr (yu (yt (yl 146 389 11) 291) (yl 169 389 22)))],
 [(.iff (ym (yl 169 391 7) .NotIn (yt (yl 146 391 18) 315)) [(.raw (PySem.Stmt.Raise (some (zf (zy "BasicError" 392 14 24) [(zn (PySem.Const.str (Str.ofString "NF")) 0 392 25 29),(zf (zy "line_of" 392 31 38) [(zy "flat" 392 39 43),(zy "row" 392 45 48)] 392 31 49)] 392 14 50)) none ⟨392,8,392,50⟩))] [] ⟨391,4,392,50⟩),(yr (yu (yt (yl 146 393 11) 315) (yl 169 393 22)))],
 [(yr (yx (ym (yu (yl 148 397 42) (yi 0 397 52)) .In (yg 172 44 397 58)) (yc (yg 173 45 397 11) [(yl 171 397 19),(yl 130 397 24),(yl 148 397 28)]) (yc (yg 174 46 397 69) [(yl 171 397 77),(yl 130 397 82),(yl 148 397 86)])))],
 [(ya (yl 142 399 4) (yu (yl 148 399 11) (yi 0 399 21))),(.iff (ym (yl 142 400 7) .Eq (ys 53 400 15)) [(yr (yx (yc (yg 176 47 401 25) [(yh (yl 171 401 33) 320 [(yu (yl 148 401 43) (yi 1 401 53))])]) (yb .Add false (yl 130 401 15) (yi 1 401 20)) (yu (yl 148 401 63) (yi 2 401 73))))] [] ⟨400,4,401,75⟩),(.iff (ym (yl 142 402 7) .Eq (ys 54 402 15)) [(yr (yu (yl 148 403 15) (yi 1 403 25)))] [] ⟨402,4,403,27⟩),(.iff (ym (yl 142 404 7) .Eq (ys 58 404 15)) [(ya (yl 137 405 8) (yc (yg 177 48 405 16) [(yt (yl 171 405 29) 127)])),(yr (yx (ym (yu (yl 148 406 24) (yi 1 406 34)) .Is (.none 0 ⟨406,40,406,44⟩)) (yl 137 406 15) (yc (yg 178 49 406 50) [(yt (yl 171 406 67) 146),(yu (yl 148 406 77) (yi 1 406 87))])))] [] ⟨404,4,406,90⟩),(ya (yl 147 407 4) (yu (yl 148 407 11) (yi 1 407 21))),(.iff (ym (yl 142 408 7) .Eq (ys 59 408 15)) [(ya (yl 165 409 8) (yc (yg 179 50 409 16) [(yh (yl 171 409 23) 25 [(yu (yl 148 409 33) (yi 2 409 43))]),(yc (yg 79 3 409 48) [(yu (yl 148 409 52) (yi 3 409 62))])])),(.iff (ym (yl 165 410 11) .Is (.none 0 ⟨410,20,410,24⟩)) [(yr (yb .Add false (yl 130 411 19) (yi 1 411 24)))] [] ⟨410,8,411,25⟩),(ya (yq [(yl 142 412 8),(yl 147 412 14)]) (yp [(yu (yl 148 412 22) (yi 1 412 32)),(yu (yu (yl 148 412 36) (yi 3 412 46)) (yl 165 412 49))]))] [] ⟨408,4,412,56⟩),(ya (yl 175 413 4) (yc (yg 178 49 413 11) [(yt (yl 171 413 28) 146),(yl 147 413 38)])),(.iff (ym (yl 142 414 7) .Eq (ys 57 414 15)) [(ye (yc (yg 180 51 415 8) [(yt (yl 171 415 14) 127),(yb .Add false (yl 130 415 27) (yi 1 415 32))]))] [] ⟨414,4,415,34⟩),(yr (yl 175 416 11))],
 [(ya (yl 142 418 4) (yu (yl 148 418 11) (yi 0 418 21))),(.iff (ym (yl 142 419 7) .Eq (ys 55 419 15)) [(yr (yc (yg 181 52 420 15) [(yl 171 420 22),(yl 130 420 27),(yl 148 420 31)]))] [] ⟨419,4,420,41⟩),(.iff (ym (yl 142 421 7) .Eq (ys 56 421 15)) [(yr (yc (yg 182 53 422 15) [(yl 171 422 25),(yl 130 422 30),(yx (ym (yc (yg 79 3 422 50) [(yu (yl 148 422 54) (yi 1 422 64))]) .Gt (yi 0 422 70)) (yu (yl 148 422 34) (yi 1 422 44)) (yk false [(ys 0 422 78)]))]))] [] ⟨421,4,422,82⟩),(.iff (ym (yl 142 423 7) .Eq (ys 51 423 15)) [(yr (yc (yg 183 54 424 15) [(yt (yl 171 424 26) 127),(yc (yg 184 55 424 39) [(yt (yl 171 424 52) 146),(yl 130 424 62)])]))] [] ⟨423,4,424,66⟩),(.iff (yc (yg 176 47 425 7) [(yh (yl 171 425 15) 320 [(yu (yl 148 425 25) (yi 1 425 35))])]) [(ye (yc (yg 185 56 426 8) [(yt (yl 171 426 20) 127),(yl 130 426 33)])),(yr (yb .Add false (yl 130 427 15) (yi 1 427 20)))] [] ⟨425,4,427,21⟩),(ye (yc (yg 186 57 428 4) [(yt (yl 171 428 14) 127),(yl 130 428 27)])),(yr (yb .Add false (yc (yg 184 55 429 11) [(yt (yl 171 429 24) 146),(yl 130 429 34)]) (yi 1 429 40)))],
 [(ya (yq [(yl 142 431 4),(yl 28 431 10),(yl 89 431 16),(yl 78 431 23),(yl 187 431 29)]) (yl 148 431 38)),(ya (yq [(yl 164 432 4),(yl 133 432 11)]) (yp [(yh (yl 171 432 20) 320 [(yl 89 432 30)]),(yh (yl 171 432 38) 320 [(yl 78 432 48)])])),(ya (yl 134 433 4) (yx (ym (yl 187 433 16) .Is (.none 0 ⟨433,26,433,30⟩)) (yi 1 433 11) (yh (yl 171 433 36) 320 [(yl 187 433 46)]))),(.for (yl 73 434 8) (yp [(yl 164 434 18),(yl 133 434 25),(yl 134 434 32)]) [(.iff (yc (yg 74 0 435 11) [(yl 73 435 22),(yg 75 1 435 29)]) [(.raw (PySem.Stmt.Raise (some (zf (zy "BasicError" 436 18 28) [(zn (PySem.Const.str (Str.ofString "TM")) 0 436 29 33)] 436 18 34)) none ⟨436,12,436,34⟩))] [] ⟨435,8,436,34⟩)] ⟨434,4,436,34⟩),(ye (yh (yl 171 437 4) 321 [(yl 28 437 14),(yl 164 437 20)])),(.iff (yo (yc (yg 143 33 438 11) [(yh (yl 171 438 19) 322 [(yl 28 438 37)]),(yl 133 438 44),(yl 134 438 51),(yg 189 58 438 57)])) [(ye (yc (yg 190 59 439 8) [(yt (yl 171 439 18) 127),(yl 28 439 31),(yb .Add false (yl 130 439 37) (yi 1 439 42)),(yl 133 439 45),(yl 134 439 52)])),(yr (yb .Add false (yl 130 440 15) (yi 1 440 20)))] [] ⟨438,4,440,21⟩),(ya (yq [(yl 169 441 4),(yl 165 441 9)]) (yc (yg 191 60 441 17) [(yt (yl 171 441 29) 146),(yl 130 441 39)])),(ya (yl 188 442 4) (yu (yu (yu (yt (yt (yl 171 442 12) 146) 277) (yl 169 442 26)) (yi 1 442 31)) (yi 1 442 34))),(yr (yc (yg 182 53 443 11) [(yl 171 443 21),(yl 169 443 26),(.fj false (yl 188 443 31) (yb .Add false (yl 165 443 37) (yi 1 443 45)) .absent .absent ⟨443,37,443,47⟩ ⟨443,31,443,48⟩)]))],
 [(.for (yl 192 445 8) (yl 188 445 16) [(ya (yl 28 446 8) (yc (yg 193 61 446 15) [(yt (yl 171 446 24) 127),(yl 192 446 37)])),(ya (yq [(yl 73 447 8),(yl 137 447 15)]) (yc (yg 194 62 447 23) [(yt (yl 171 447 32) 127),(yl 28 447 45),(yh (yl 171 447 51) 322 [(yl 28 447 69)]),(yt (yl 171 447 76) 323),(yg 189 58 447 86)])),(ye (yh (yl 171 448 8) 321 [(yl 28 448 18),(yl 73 448 24)])),(.iff (ym (yl 137 449 11) .IsNot (.none 0 ⟨449,24,449,28⟩)) [(yr (yl 137 450 19))] [] ⟨449,8,450,24⟩)] ⟨445,4,450,24⟩),(yr (yb .Add false (yl 130 451 11) (yi 1 451 16)))],
 [(ya (yt (yl 125 457 8) 80) (yl 80 457 20)),(ya (yt (yl 125 458 8) 195) (yc (yg 197 63 458 21) [(yl 195 458 26)])),(ya (yt (yl 125 459 8) 196) (yl 196 459 20)),(ya (yt (yl 125 460 8) 283) (.rep false true [(yc (yg 198 64 460 22) [(yl 80 460 34)])] 0 ⟨460,21,460,40⟩ (yc (yg 199 65 460 43) [(yl 195 460 52),(yl 196 460 59)]) ⟨460,21,460,64⟩)),(ya (yt (yl 125 461 8) 217) (yc (yg 79 3 461 20) [(yt (yl 125 461 24) 283)]))],
 [(ya (yl 109 463 4) (yi 1 463 12)),(.for (yl 200 464 8) (yl 195 464 16) [(ya (yl 109 465 8) (zb .Mult false (yl 109 465 16) (yb .Add false (yb .Sub false (yl 200 465 25) (yl 196 465 32)) (yi 1 465 39)) 465 16 41))] ⟨464,4,465,41⟩),(yr (yl 109 466 11))],
 [(yr (yc (yg 202 66 468 11) [(yl 142 468 24),(yt (yl 201 468 30) 77)]))],
 [(.iff (ym (yc (yg 79 3 470 7) [(yl 195 470 11)]) .Eq (yi 0 470 21)) [(.raw (PySem.Stmt.Raise (some (zf (zy "BasicError" 471 14 24) [(zn (PySem.Const.str (Str.ofString "SN")) 0 471 25 29),(zn (PySem.Const.str (Str.ofString "DIM")) 0 471 31 36)] 471 14 37)) none ⟨471,8,471,37⟩))] [] ⟨470,4,471,37⟩),(.for (yl 200 472 8) (yl 195 472 16) [(.iff (ym (yl 200 473 11) .Lt (yt (yl 201 473 18) 196)) [(.raw (PySem.Stmt.Raise (some (zf (zy "BasicError" 474 18 28) [(zn (PySem.Const.str (Str.ofString "FC")) 0 474 29 33),(zy "high" 474 35 39)] 474 18 40)) none ⟨474,12,474,40⟩))] [] ⟨473,8,474,40⟩)] ⟨472,4,474,40⟩),(.iff (ym (yc (yg 199 65 475 7) [(yl 195 475 16),(yt (yl 201 475 23) 196)]) .Gt (yt (yl 201 475 37) 217)) [(.raw (PySem.Stmt.Raise (some (zf (zy "BasicError" 476 14 24) [(zn (PySem.Const.str (Str.ofString "OM")) 0 476 25 29),(zf (zy "count_of" 476 31 39) [(zy "highs" 476 40 45),(zw (zy "world" 476 47 52) "base" 476 47 57)] 476 31 58)] 476 14 59)) none ⟨476,8,476,59⟩))] [] ⟨475,4,476,59⟩)],
 [(.iff (ym (yl 142 478 7) .In (yt (yl 201 478 15) 324)) [(.raw (PySem.Stmt.Raise (some (zf (zy "BasicError" 479 14 24) [(zn (PySem.Const.str (Str.ofString "DD")) 0 479 25 29),(zy "word" 479 31 35)] 479 14 36)) none ⟨479,8,479,36⟩))] [] ⟨478,4,479,36⟩),(ye (yc (yg 203 67 480 4) [(yl 201 480 16),(yl 195 480 23)])),(ya (yu (yt (yl 201 481 4) 324) (yl 142 481 17)) (yc (yg 204 68 481 25) [(yc (yg 205 69 481 30) [(yl 201 481 38),(yl 142 481 45)]),(yl 195 481 52),(yt (yl 201 481 59) 196)]))],
 [(.iff (ym (yl 142 483 7) .NotIn (yt (yl 201 483 19) 324)) [(ye (yc (yg 206 70 484 8) [(yl 201 484 12),(yl 142 484 19),(.rep false false [(yg 207 71 484 26)] 0 ⟨484,25,484,37⟩ (yl 82 484 40) ⟨484,25,484,44⟩)]))] [] ⟨483,4,484,45⟩),(yr (yu (yt (yl 201 485 11) 324) (yl 142 485 24)))],
 [(.iff (ym (yc (yg 79 3 487 7) [(yl 209 487 11)]) .NotEq (yc (yg 79 3 487 20) [(yt (yl 208 487 24) 195)])) [(.raw (PySem.Stmt.Raise (some (zf (zy "BasicError" 488 14 24) [(zn (PySem.Const.str (Str.ofString "BS")) 0 488 25 29),(zf (zy "len" 488 31 34) [(zy "subs" 488 35 39)] 488 31 40)] 488 14 41)) none ⟨488,8,488,41⟩))] [] ⟨487,4,488,41⟩),(ya (yl 109 489 4) (yi 0 489 12)),(.for (yq [(yl 210 490 8),(yl 200 490 13)]) (.iter 6 211 72 [(yl 209 490 25),(yt (yl 208 490 31) 195)] ⟨490,21,490,24⟩ ⟨490,21,490,42⟩) [(.iff (yo (.cmp (yt (yl 208 491 15) 196) [.LtE,.LtE] [(yl 210 491 28),(yl 200 491 35)] ⟨491,15,491,39⟩)) [(.raw (PySem.Stmt.Raise (some (zf (zy "BasicError" 492 18 28) [(zn (PySem.Const.str (Str.ofString "BS")) 0 492 29 33),(zy "sub" 492 35 38)] 492 18 39)) none ⟨492,12,492,39⟩))] [] ⟨491,8,492,39⟩),(ya (yl 109 493 8) (yb .Sub false (yb .Add false (zb .Mult false (yl 109 493 16) (yb .Add false (yb .Sub false (yl 200 493 25) (yt (yl 208 493 32) 196)) (yi 1 493 44)) 493 16 46) (yl 210 493 49)) (yt (yl 208 493 55) 196)))] ⟨490,4,493,64⟩),(yr (yl 109 494 11))],
 [(ya (yl 208 497 4) (yc (yg 212 73 497 11) [(yl 201 497 19),(yl 142 497 26),(yc (yg 79 3 497 32) [(yl 209 497 36)])])),(yr (yu (yt (yl 208 498 11) 283) (yc (yg 213 74 498 22) [(yl 208 498 38),(yl 209 498 44)])))],
 [(ya (yl 208 500 4) (yc (yg 212 73 500 11) [(yl 201 500 19),(yl 142 500 26),(yc (yg 79 3 500 32) [(yl 209 500 36)])])),(ya (yl 137 501 4) (yc (yg 213 74 501 12) [(yl 208 501 28),(yl 209 501 34)])),(ya (yu (yt (yl 208 502 4) 283) (yl 137 502 15)) (yc (yg 214 75 502 24) [(yl 73 502 31),(yt (yl 208 502 38) 80),(yt (yl 201 502 49) 95),(yt (yl 201 502 61) 86)]))],
 [(ya (yt (yl 125 507 8) 95) (yl 95 507 20)),(ya (yt (yl 125 508 8) 86) (yl 86 508 22)),(ya (yt (yl 125 509 8) 215) (yl 215 509 26)),(ya (yt (yl 125 510 8) 216) (yl 216 510 26)),(ya (yt (yl 125 511 8) 217) (yl 217 511 20)),(ya (yt (yl 125 512 8) 188) (.f3 true ⟨512,21,512,23⟩)),(ya (yt (yl 125 513 8) 324) (.f3 true ⟨513,22,513,24⟩)),(ya (yt (yl 125 514 8) 77) (.f3 true ⟨514,21,514,23⟩)),(ya (yt (yl 125 515 8) 316) (.f3 true ⟨515,19,515,21⟩)),(ya (yt (yl 125 516 8) 325) (zk false [] 516 19 21)),(ya (yt (yl 125 517 8) 169) (ys 0 517 19)),(ya (yt (yl 125 518 8) 326) (zk false [] 518 22 24)),(ya (yt (yl 125 519 8) 327) (.f3 true ⟨519,21,519,23⟩)),(ya (yt (yl 125 520 8) 328) (.f3 true ⟨520,20,520,22⟩)),(ya (yt (yl 125 521 8) 329) (.f3 true ⟨521,22,521,24⟩)),(ya (yt (yl 125 522 8) 314) (zk false [] 522 20 22)),(ya (yt (yl 125 523 8) 265) (yi 0 523 20)),(ya (yt (yl 125 524 8) 196) (yi 0 524 20)),(ya (yt (yl 125 525 8) 330) (yi 1 525 20)),(ya (yt (yl 125 526 8) 331) (yi 0 526 21)),(ya (yt (yl 125 527 8) 332) (yi 0 527 21)),(ya (yt (yl 125 528 8) 333) (yi 0 528 23)),(ya (yt (yl 125 529 8) 334) (.bool false 0 ⟨529,27,529,32⟩)),(ya (yt (yl 125 530 8) 335) (yi 0 530 26)),(ya (yt (yl 125 531 8) 336) (ys 0 531 26)),(ya (yt (yl 125 532 8) 337) (.bool false 0 ⟨532,25,532,30⟩)),(ya (yt (yl 125 533 8) 338) (zk false [] 533 22 24)),(ya (yt (yl 125 534 8) 339) (zk false [] 534 22 24))],
 [(yr (yc (yg 202 66 536 11) [(yl 28 536 24),(yt (yl 201 536 30) 77)]))],
 [(yr (yx (ym (yl 28 538 32) .In (yt (yl 201 538 40) 188)) (yu (yt (yl 201 538 11) 188) (yl 28 538 23)) (yc (yg 198 64 538 57) [(yc (yg 218 76 538 69) [(yl 201 538 79),(yl 28 538 86)])])))],
 [(ya (yu (yt (yl 201 540 4) 188) (yl 28 540 16)) (yc (yg 214 75 540 24) [(yl 73 540 31),(yc (yg 218 76 540 38) [(yl 201 540 48),(yl 28 540 55)]),(yt (yl 201 540 62) 95),(yt (yl 201 540 74) 86)]))],
 [(ya (yl 219 543 4) (yu (yl 148 543 13) (yi 1 543 23))),(.iff (ym (yu (yl 219 544 7) (yi 0 544 14)) .Eq (ys 28 544 20)) [(ye (yh (yl 171 545 8) 321 [(yu (yl 219 545 18) (yi 1 545 25)),(yh (yl 171 545 29) 320 [(yu (yl 148 545 39) (yi 2 545 49))])]))] [(ya (yl 209 547 8) (.comp (yh (yl 171 547 16) 320 [(yl 210 547 26)]) (yl 210 547 35) (yu (yl 219 547 42) (yi 2 547 49)) [] [(313,.local),(210,.local),(171,.free)] ⟨547,15,547,52⟩)),(ye (yh (yl 171 548 8) 340 [(yu (yl 219 548 16) (yi 1 548 23)),(yl 209 548 27),(yh (yl 171 548 33) 320 [(yu (yl 148 548 43) (yi 2 548 53))])]))] ⟨544,4,548,57⟩),(yr (yb .Add false (yl 130 549 11) (yi 1 549 16)))],
 [(ya (yl 208 551 4) (yx (ym (yu (yl 219 551 46) (yi 0 551 53)) .Eq (ys 29 551 59)) (yh (yt (yt (yl 171 551 11) 201) 324) 5 [(yu (yl 219 551 32) (yi 1 551 39))]) (.none 0 ⟨551,71,551,75⟩))),(yr (yx (ym (yl 208 552 46) .Is (.none 0 ⟨552,54,552,58⟩)) (yc (yg 218 76 552 11) [(yt (yl 171 552 21) 201),(yu (yl 219 552 32) (yi 1 552 39))]) (yt (yl 208 552 64) 80)))],
 [(.iff (ym (yu (yl 219 554 7) (yi 0 554 14)) .Eq (ys 28 554 20)) [(yr (yl 219 555 15))] [] ⟨554,4,555,21⟩),(ya (yl 209 556 4) (.comp (yh (yl 171 556 12) 320 [(yl 210 556 22)]) (yl 210 556 31) (yu (yl 219 556 38) (yi 2 556 45)) [] [(313,.local),(210,.local),(171,.free)] ⟨556,11,556,48⟩)),(ye (yh (yl 171 557 4) 341 [(yu (yl 219 557 16) (yi 1 557 23)),(yl 209 557 27)])),(yr (yp [(ys 29 558 12),(yu (yl 219 558 20) (yi 1 558 27)),(yl 209 558 31)]))],
 [(yr (yx (ym (yu (yl 137 560 42) (yi 0 560 48)) .Eq (ys 28 560 54)) (yh (yl 171 560 11) 322 [(yu (yl 137 560 29) (yi 1 560 35))]) (yh (yl 171 560 66) 341 [(yu (yl 137 560 78) (yi 1 560 84)),(yu (yl 137 560 88) (yi 2 560 94))])))],
 [(.iff (ym (yu (yl 137 562 7) (yi 0 562 13)) .Eq (ys 28 562 19)) [(ye (yh (yl 171 563 8) 321 [(yu (yl 137 563 18) (yi 1 563 24)),(yl 73 563 28)]))] [(ye (yh (yl 171 565 8) 340 [(yu (yl 137 565 16) (yi 1 565 22)),(yu (yl 137 565 26) (yi 2 565 32)),(yl 73 565 36)]))] ⟨562,4,565,42⟩)],
 [(ya (yq [(yl 114 567 4),(yl 115 567 9),(yl 201 567 16)]) (yp [(yu (yl 148 567 25) (yi 1 567 35)),(yu (yl 148 567 39) (yi 2 567 49)),(yt (yl 171 567 53) 201)])),(ya (yl 80 568 4) (yc (yg 222 77 568 11) [(yl 171 568 26),(yl 114 568 31)])),(.iff (ym (yl 80 569 7) .NotEq (yc (yg 222 77 569 15) [(yl 171 569 30),(yl 115 569 35)])) [(.raw (PySem.Stmt.Raise (some (zf (zy "BasicError" 570 14 24) [(zn (PySem.Const.str (Str.ofString "TM")) 0 570 25 29)] 570 14 30)) none ⟨570,8,570,30⟩))] [] ⟨569,4,570,30⟩),(ya (yq [(yl 114 571 4),(yl 115 571 9)]) (yp [(yc (yg 223 78 571 18) [(yl 171 571 29),(yl 114 571 34)]),(yc (yg 223 78 571 40) [(yl 171 571 51),(yl 115 571 56)])])),(ya (yq [(yl 220 572 4),(yl 221 572 10)]) (yp [(yc (yg 224 79 572 19) [(yl 171 572 28),(yl 114 572 33)]),(yc (yg 224 79 572 39) [(yl 171 572 48),(yl 115 572 53)])])),(ye (yc (yg 214 75 573 4) [(yl 221 573 11),(yl 80 573 18),(yt (yl 201 573 24) 95),(yt (yl 201 573 36) 86)])),(ye (yc (yg 214 75 574 4) [(yl 220 574 11),(yl 80 574 17),(yt (yl 201 574 23) 95),(yt (yl 201 574 35) 86)])),(ye (yc (yg 225 80 575 4) [(yl 171 575 11),(yl 114 575 16),(yl 221 575 21)])),(ye (yc (yg 225 80 576 4) [(yl 171 576 11),(yl 115 576 16),(yl 220 576 23)]))],
 [(.iff (ym (yl 28 579 7) .NotIn (yt (yl 201 579 19) 329)) [(yr (.none 0 ⟨580,15,580,19⟩))] [] ⟨579,4,580,19⟩),(ya (yq [(yl 226 581 4),(yl 130 581 13),(yl 82 581 17)]) (yu (yt (yl 201 581 24) 329) (yl 28 581 37))),(yr (.fj false (yu (yu (yt (yl 201 582 11) 328) (yl 226 582 22)) (ys 342 582 31)) (yl 130 582 41) (yb .Add false (yl 130 582 44) (yl 82 582 49)) .absent ⟨582,41,582,53⟩ ⟨582,11,582,54⟩))],
 [(.iff (ym (yl 28 584 7) .In (yt (yl 201 584 15) 329)) [(ye (yh (yt (yl 201 585 8) 329) 2 [(yl 28 585 25)]))] [] ⟨584,4,585,30⟩)],
 [(.iff (ym (yl 142 598 7) .Eq (ys 343 598 15)) [(yr (yc (yg 227 81 599 15) [(yl 201 599 28)]))] [] ⟨598,4,599,34⟩),(.iff (ym (yl 142 600 7) .Eq (ys 344 600 15)) [(yr (yt (yl 201 601 15) 335))] [] ⟨600,4,601,31⟩),(ya (yl 192 602 4) (yc (yg 228 82 602 11) [(yl 201 602 22),(yl 142 602 29)])),(yr (yx (ym (yl 192 603 36) .Is (.none 0 ⟨603,44,603,48⟩)) (yc (yg 229 83 603 11) [(yl 201 603 20),(yl 142 603 27)]) (yl 192 603 54)))],
 [(ye (yc (yg 230 84 605 4) [(yl 201 605 13),(yl 142 605 20),(yl 73 605 26)])),(ye (yc (yg 231 85 606 4) [(yl 201 606 13),(yl 142 606 20)]))],
 [(.iff (ym (yu (yl 232 634 7) (yi 0 634 12)) .In (yp [(ys 29 634 19),(ys 31 634 27),(ys 32 634 35)])) [(yr (yu (yl 232 635 15) (yi 2 635 20)))] [] ⟨634,4,635,22⟩),(.iff (ym (yu (yl 232 636 7) (yi 0 636 12)) .Eq (ys 27 636 18)) [(yr (yk false [(yu (yl 232 637 16) (yi 2 637 21)),(yu (yl 232 637 25) (yi 3 637 30))]))] [] ⟨636,4,637,33⟩),(yr (yx (ym (yu (yl 232 638 24) (yi 0 638 29)) .In (yp [(ys 26 638 36),(ys 30 638 43)])) (yk false [(yu (yl 232 638 12) (yi 1 638 17))]) (zk false [] 638 55 57)))],
 [(.iff (yv false [(ym (yl 107 645 7) .Eq (ys 42 645 13)),(ym (yl 107 645 20) .Eq (ys 43 645 26))]) [(yr (yc (yg 233 86 646 15) [(zm (ym (yl 135 646 22) .Eq (yi 0 646 31)) .Eq (ym (yl 107 646 38) .Eq (ys 42 646 44)) 646 21 48)]))] [] ⟨645,4,646,49⟩),(.iff (yv false [(ym (yl 107 647 7) .Eq (ys 44 647 13)),(ym (yl 107 647 20) .Eq (ys 47 647 26))]) [(yr (yc (yg 233 86 648 15) [(zm (ym (yl 135 648 22) .Lt (yi 0 648 30)) .Eq (ym (yl 107 648 37) .Eq (ys 44 648 43)) 648 21 47)]))] [] ⟨647,4,648,48⟩),(yr (yc (yg 233 86 649 11) [(zm (ym (yl 135 649 18) .Gt (yi 0 649 26)) .Eq (ym (yl 107 649 33) .Eq (ys 45 649 39)) 649 17 43)]))],
 [(ya (yl 234 657 4) (.comp (ym (yc (yg 241 87 657 17) [(yl 73 657 25)]) .Eq (ys 33 657 35)) (yl 73 657 46) (yp [(yl 114 657 56),(yl 115 657 61)]) [] [(313,.local),(73,.local),(241,.globalImplicit)] ⟨657,16,657,68⟩)),(.iff (ym (yu (yl 234 658 7) (yi 0 658 17)) .NotEq (yu (yl 234 658 23) (yi 1 658 33))) [(.raw (PySem.Stmt.Raise (some (zf (zy "BasicError" 659 14 24) [(zn (PySem.Const.str (Str.ofString "TM")) 0 659 25 29),(zy "op" 659 31 33)] 659 14 34)) none ⟨659,8,659,34⟩))] [] ⟨658,4,659,34⟩),(.iff (yu (yl 234 660 7) (yi 0 660 17)) [(yr (yc (yg 235 88 661 15) [(yl 107 661 30),(yl 114 661 34),(yl 115 661 39)]))] [] ⟨660,4,661,45⟩),(.iff (ym (yl 107 662 7) .In (yg 236 89 662 13)) [(yr (yc (yg 237 90 663 15) [(yl 107 663 24),(yc (yg 189 58 663 28) [(yl 114 663 37),(yl 115 663 42)])]))] [] ⟨662,4,663,49⟩),(.iff (ym (yl 107 664 7) .In (yg 238 91 664 13)) [(yr (yc (yg 239 92 665 15) [(yl 107 665 21),(yl 114 665 25),(yl 115 665 30),(yl 95 665 37)]))] [] ⟨664,4,665,42⟩),(yr (yc (yg 240 93 666 11) [(yl 107 666 20),(yl 114 666 24),(yl 115 666 29),(yl 95 666 36),(yl 86 666 42)]))],
 [(.iff (ym (yc (yg 241 87 668 7) [(yl 73 668 15)]) .Eq (ys 33 668 25)) [(.raw (PySem.Stmt.Raise (some (zf (zy "BasicError" 669 14 24) [(zn (PySem.Const.str (Str.ofString "TM")) 0 669 25 29),(zy "op" 669 31 33)] 669 14 34)) none ⟨669,8,669,34⟩))] [] ⟨668,4,669,34⟩),(yr (yx (ym (yl 107 670 43) .Eq (ys 26 670 49)) (yc (yg 242 94 670 11) [(yl 73 670 19),(yl 95 670 26),(yl 86 670 32)]) (yc (yg 243 95 670 60) [(yl 73 670 69),(yl 95 670 76)])))],
 [(ya (yq [(yl 80 672 4),(yl 73 672 10)]) (yl 232 672 18)),(.iff (ym (yl 80 673 7) .Eq (ys 33 673 15)) [(yr (yl 73 674 15))] [] ⟨673,4,674,20⟩),(yr (yx (yv true [(ym (yl 80 675 20) .Eq (ys 25 675 28)),(yc (yg 97 9 675 40) [(yl 73 675 45),(yl 95 675 52)])]) (yl 73 675 11) (yc (yg 102 14 675 63) [(yl 73 675 74),(yl 86 675 81)])))],
 [(ya (yl 80 677 4) (yu (yl 232 677 11) (yi 0 677 16))),(.iff (ym (yl 80 678 7) .Eq (ys 27 678 15)) [(yr (yc (yg 246 96 679 15) [(yu (yl 232 679 28) (yi 1 679 33)),(yu (yl 244 679 37) (yi 0 679 43)),(yu (yl 244 679 47) (yi 1 679 53)),(yt (yl 245 679 57) 95),(yt (yl 245 679 69) 86)]))] [] ⟨678,4,679,82⟩),(.iff (yv false [(ym (yl 80 680 7) .Eq (ys 26 680 15)),(ym (yl 80 680 24) .Eq (ys 30 680 32))]) [(yr (yc (yg 247 97 681 15) [(yl 80 681 28),(yu (yl 244 681 34) (yi 0 681 40)),(yt (yl 245 681 44) 95),(yt (yl 245 681 56) 86)]))] [] ⟨680,4,681,69⟩),(.iff (ym (yl 80 682 7) .Eq (ys 28 682 15)) [(yr (yh (yl 245 683 15) 322 [(yu (yl 232 683 35) (yi 1 683 40))]))] [] ⟨682,4,683,43⟩),(.iff (ym (yl 80 684 7) .Eq (ys 29 684 15)) [(yr (yh (yl 245 685 15) 341 [(yu (yl 232 685 29) (yi 1 685 34)),(yl 244 685 38)]))] [] ⟨684,4,685,44⟩),(.iff (ym (yl 80 686 7) .Eq (ys 31 686 15)) [(yr (yh (yl 245 687 15) 31 [(yu (yl 232 687 26) (yi 1 687 31)),(yl 244 687 35)]))] [] ⟨686,4,687,41⟩),(yr (yx (ym (yl 80 688 39) .Eq (ys 32 688 47)) (yh (yl 245 688 11) 32 [(yu (yl 232 688 20) (yi 1 688 25)),(yl 244 688 29)]) (yc (yg 248 98 688 57) [(yl 232 688 71),(yt (yl 245 688 77) 95),(yt (yl 245 688 89) 86)])))],
 [(ya (yq [(yl 249 690 4),(yl 250 690 13)]) (yp [(yk true [(yp [(yl 232 690 25),(.bool false 0 ⟨690,31,690,36⟩)])]),(zk false [] 690 40 42)])),(.cj (ym (yc (yg 79 3 691 10) [(yl 249 691 14)]) .Gt (yi 0 691 25)) [(ya (yq [(yl 220 692 8),(yl 251 692 14)]) (yj (yl 249 692 25) 2)),(ya (yl 244 693 8) (yc (yg 252 99 693 16) [(yl 220 693 30)])),(.iff (yv false [(yl 251 694 11),(ym (yc (yg 79 3 694 23) [(yl 244 694 27)]) .Eq (yi 0 694 37))]) [(ya (yl 164 695 12) (yb .Sub false (yc (yg 79 3 695 20) [(yl 250 695 24)]) (yc (yg 79 3 695 34) [(yl 244 695 38)]))),(ya (yl 109 696 12) (yc (yg 253 100 696 20) [(yl 220 696 34),(.fj false (yl 250 696 40) (yl 164 696 47) .absent .absent ⟨696,47,696,53⟩ ⟨696,40,696,54⟩),(yl 245 696 56)])),(ya (yl 250 697 12) (yb .Add false (.fj false (yl 250 697 21) .absent (yl 164 697 29) .absent ⟨697,28,697,34⟩ ⟨697,21,697,35⟩) (yk false [(yl 109 697 39)])))] [(ye (yh (yl 249 699 12) 1 [(yp [(yl 220 699 28),(.bool true 0 ⟨699,34,699,38⟩)])])),(ye (yh (yl 249 700 12) 3 [(.comp (yp [(yl 266 700 29),(.bool false 0 ⟨700,35,700,40⟩)]) (yl 266 700 46) (.iter 7 254 101 [(yl 244 700 63)] ⟨700,54,700,62⟩ ⟨700,54,700,69⟩) [] [(313,.local),(266,.local)] ⟨700,27,700,70⟩)]))] ⟨694,8,700,71⟩)] ⟨691,4,700,71⟩),(yr (yu (yl 250 701 11) (yi 0 701 18)))],
 [(ya (yt (yl 125 708 8) 201) (yl 201 708 21)),(ya (yt (yl 125 709 8) 146) (yl 146 709 20)),(ya (yt (yl 125 710 8) 255) (yl 255 710 23)),(ya (yt (yl 125 711 8) 95) (yt (yl 201 711 20) 95)),(ya (yt (yl 125 712 8) 86) (yt (yl 201 712 22) 86)),(ya (yt (yl 125 713 8) 127) (yc (yg 256 102 713 23) [(yg 257 103 713 31)])),(ya (yt (yl 125 714 8) 345) (zk true [] 714 21 23))],
 [(yr (yc (yg 258 104 717 15) [(yl 232 717 27),(yl 125 717 33)]))],
 [(yr (yc (yg 101 13 720 15) [(yc (yg 258 104 720 24) [(yl 232 720 36),(yl 125 720 42)]),(yt (yl 125 720 49) 95)]))],
 [(ye (yh (yt (yl 125 723 8) 345) 1 [(yl 142 723 26)])),(yr (yc (yg 259 105 724 15) [(yt (yl 125 724 30) 201),(yl 142 724 42)]))],
 [(ya (yl 260 727 8) (.comp (yc (yg 101 13 727 18) [(yl 210 727 27),(yt (yl 125 727 32) 95)]) (yl 210 727 47) (yl 209 727 54) [] [(313,.local),(210,.local),(101,.globalImplicit),(125,.free)] ⟨727,17,727,59⟩)),(ye (yh (yt (yl 125 728 8) 345) 1 [(yp [(yl 142 728 27),(yl 260 728 33)])])),(yr (yc (yg 261 106 729 15) [(yt (yl 125 729 24) 201),(yl 142 729 36),(yl 260 729 42)]))],
 [(ye (yc (yg 262 107 752 8) [(yt (yl 125 752 22) 201),(yl 142 752 34),(yl 73 752 40)]))],
 [(ye (yc (yg 263 108 755 8) [(yt (yl 125 755 17) 201),(yl 142 755 29),(.comp (yc (yg 101 13 755 36) [(yl 210 755 45),(yt (yl 125 755 50) 95)]) (yl 210 755 65) (yl 209 755 72) [] [(313,.local),(210,.local),(101,.globalImplicit),(125,.free)] ⟨755,35,755,77⟩),(yl 73 755 79)]))],
 [(yr (yc (yg 240 93 764 15) [(ys 35 764 24),(yl 73 764 29),(yl 88 764 36),(yt (yl 125 764 42) 95),(yt (yl 125 764 53) 86)]))],
 [(ya (yl 265 767 4) (yu (yl 264 767 11) (yi 1 767 17))),(ya (yu (yl 264 768 4) (yi 1 768 10)) (yb .Add false (yl 265 768 15) (yi 1 768 22))),(yr (yx (ym (yl 265 769 41) .Lt (yc (yg 79 3 769 48) [(yu (yl 264 769 52) (yi 0 769 58))])) (yb .Mod false (yc (yg 90 4 769 11) [(yu (yu (yl 264 769 15) (yi 0 769 21)) (yl 265 769 24))]) (yl 82 769 33)) (zb .Mod false (yb .Add false (yb .Add false (yb .Mult false (zi 17 0 769 68 70) (yl 265 769 73)) (yb .FloorDiv false (yl 265 769 80) (yi 2 769 88))) (yi 3 769 92)) (yl 82 769 97) 769 67 101)))],
 [(.iff (yc (yg 74 0 771 7) [(yl 266 771 18),(yg 75 1 771 24)]) [(yr (yp [(ys 28 772 16),(yl 266 772 24)]))] [] ⟨771,4,772,29⟩),(.iff (yc (yg 74 0 773 7) [(yl 266 773 18),(yg 76 2 773 24)]) [(yr (yl 266 774 15))] [] ⟨773,4,774,19⟩),(yr (yx (ym (yl 266 775 30) .GtE (yi 0 775 38)) (yp [(ys 25 775 12),(yl 266 775 21)]) (yp [(ys 26 775 46),(yp [(ys 25 775 54),(yb .Sub false (yi 0 775 63) (yl 266 775 67))])])))],
 [(yr (yp [(ys 27 777 12),(yl 107 777 19),(yc (yg 267 109 777 23) [(yl 114 777 33)]),(yc (yg 267 109 777 39) [(yl 115 777 49)])]))],
 [(yr (yp [(ys 48 779 12),(yp [(ys 28 779 20),(yl 142 779 28)]),(yc (yg 267 109 779 35) [(yl 266 779 45)])]))],
 [(yr (yp [(ys 29 781 12),(ys 13 781 20),(yk false [(yc (yg 267 109 781 27) [(yl 266 781 37)])])]))],
 [(ya (yl 268 783 4) (yc (yg 272 110 783 13) [(yc (yg 272 110 783 22) [(ys 10 783 31),(ys 37 783 37),(zi 10 0 783 42 44)]),(ys 35 783 47),(yc (yg 272 110 783 52) [(ys 9 783 61),(ys 40 783 67),(zi 10 0 783 74 76)])])),(ya (yl 269 784 4) (yc (yg 273 111 784 11) [(yc (yg 272 110 784 21) [(ys 15 784 30),(ys 35 784 36),(yi 1 784 41)])])),(ya (yl 270 785 4) (yk false [(yp [(ys 61 785 15),(yc (yg 273 111 785 23) [(ys 15 785 33)]),(yl 269 785 40)]),(yp [(ys 49 785 48),(ys 61 785 55)])])),(ya (yl 271 786 4) (yc (yg 272 110 786 13) [(yc (yg 272 110 786 22) [(ys 17 786 31),(ys 35 786 37),(ys 18 786 42)]),(zs 39 0 786 49 53),(yi 2 786 55)])),(yr (yk false [(yp [(zi 100 0 787 13 16),(yk false [(yp [(ys 50 787 20),(yc (yg 272 110 787 29) [(ys 7 787 38),(ys 43 787 44),(yi 0 787 50)])]),(yp [(ys 49 787 56),(ys 64 787 63)]),(yc (yg 274 112 787 74) [(ys 8 787 83),(yc (yg 272 110 787 89) [(ys 6 787 98),(ys 40 787 104),(ys 7 787 111)])])])]),(yp [(zi 110 0 787 122 125),(yk false [(yc (yg 274 112 787 128) [(ys 6 787 137),(ys 7 787 143)]),(yc (yg 274 112 787 150) [(ys 7 787 159),(ys 8 787 165)]),(zp [(ys 51 787 173)] 0 787 172 181),(yp [(ys 49 787 184),(ys 64 787 191)]),(yp [(ys 58 787 203),(.none 0 ⟨787,213,787,217⟩)])])]),(yp [(zi 200 0 787 223 226),(yk false [(yp [(ys 50 787 230),(yc (yg 272 110 787 239) [(ys 9 787 248),(ys 45 787 254),(yi 0 787 259)])]),(yp [(ys 49 787 265),(ys 65 787 272)])])]),(yp [(zi 210 0 787 285 288),(yk false [(yp [(ys 52 787 292),(yc (yg 272 110 787 298) [(yc (yg 272 110 787 307) [(ys 9 787 316),(ys 40 787 322),(yi 2 787 329)]),(ys 42 787 333),(yi 1 787 338)]),(yk false [(yc (yg 274 112 787 343) [(ys 12 787 352),(yc (yg 272 110 787 357) [(ys 12 787 366),(ys 37 787 371),(ys 11 787 376)])])]),(zk false [] 787 384 386)])])]),(yp [(zi 220 0 787 392 395),(yk false [(yc (yg 274 112 787 398) [(ys 11 787 407),(yc (yg 272 110 787 412) [(ys 11 787 421),(ys 37 787 426),(ys 11 787 431)])]),(yc (yg 274 112 787 438) [(ys 9 787 447),(yc (yg 272 110 787 453) [(ys 9 787 462),(zs 39 0 787 468 472),(yi 2 787 474)])]),(zp [(ys 51 787 480)] 0 787 479 488)])]),(yp [(zi 230 0 787 493 496),(yk false [(yp [(ys 49 787 500),(ys 65 787 507)]),(yp [(ys 58 787 518),(.none 0 ⟨787,528,787,532⟩)])])]),(yp [(zi 300 0 787 538 541),(yk false [(yp [(ys 50 787 545),(yc (yg 272 110 787 554) [(ys 9 787 563),(ys 45 787 569),(yi 0 787 574)])]),(yp [(ys 49 787 580),(ys 66 787 587)]),(yc (yg 274 112 787 596) [(ys 10 787 605),(yl 268 787 611)])])]),(yp [(zi 310 0 787 623 626),(yk false [(yc (yg 274 112 787 629) [(ys 9 787 638),(yc (yg 272 110 787 644) [(ys 9 787 653),(zs 39 0 787 659 663),(zi 10 0 787 665 667)])]),(zp [(ys 51 787 672)] 0 787 671 680),(yp [(ys 49 787 683),(ys 66 787 690)]),(yp [(ys 58 787 700),(.none 0 ⟨787,710,787,714⟩)])])]),(yp [(zi 400 0 787 720 723),(yk false [(yp [(ys 55 787 727),(ys 14 787 734),(yp [(ys 25 787 741),(yi 1 787 750)]),(yc (yg 272 110 787 754) [(ys 16 787 763),(ys 36 787 769),(yi 1 787 774)]),(.none 0 ⟨787,778,787,782⟩)])])]),(yp [(zi 410 0 787 788 791),(yk false [(yp [(ys 55 787 795),(ys 15 787 802),(yp [(ys 25 787 809),(yi 0 787 818)]),(yc (yg 272 110 787 822) [(yc (yg 272 110 787 831) [(ys 16 787 840),(ys 36 787 846),(yi 1 787 851)]),(ys 36 787 855),(ys 14 787 860)]),(.none 0 ⟨787,867,787,871⟩)])])]),(yp [(zi 420 0 787 877 880),(yk false [(yp [(ys 52 787 884),(yc (yg 272 110 787 890) [(yc (yg 273 111 787 899) [(ys 15 787 909)]),(ys 45 787 916),(yl 269 787 921)]),(yl 270 787 928),(zk false [] 787 936 938)])])]),(yp [(zi 430 0 787 944 947),(yk false [(yp [(ys 56 787 951),(yk false [(ys 15 787 960),(ys 14 787 966)])]),(yp [(ys 57 787 975),(zi 500 0 787 984 987)]),(yp [(ys 58 787 991),(.none 0 ⟨787,1001,787,1005⟩)])])]),(yp [(zi 500 0 787 1011 1014),(yk false [(yc (yg 274 112 787 1017) [(ys 17 787 1026),(yi 0 787 1032)]),(yc (yg 274 112 787 1036) [(ys 18 787 1045),(ys 16 787 1051)]),(yp [(ys 50 787 1059),(yc (yg 272 110 787 1068) [(ys 17 787 1077),(ys 44 787 1083),(ys 18 787 1088)])]),(yp [(ys 49 787 1097),(ys 67 787 1104)])])]),(yp [(zi 510 0 787 1116 1119),(yk false [(yc (yg 274 112 787 1122) [(ys 19 787 1131),(yl 271 787 1137)])])]),(yp [(zi 520 0 787 1149 1152),(yk false [(yp [(ys 52 787 1156),(yc (yg 272 110 787 1162) [(yc (yg 273 111 787 1171) [(ys 19 787 1181)]),(ys 44 787 1188),(ys 20 787 1193)]),(yk false [(yc (yg 274 112 787 1201) [(ys 17 787 1210),(yc (yg 272 110 787 1216) [(ys 19 787 1225),(ys 35 787 1231),(yi 1 787 1236)])])]),(yk false [(yc (yg 274 112 787 1243) [(ys 18 787 1252),(ys 19 787 1258)])])])])]),(yp [(zi 530 0 787 1270 1273),(yk false [(zp [(ys 51 787 1277)] 0 787 1276 1285),(yp [(ys 49 787 1288),(ys 67 787 1295)]),(yp [(ys 58 787 1305),(.none 0 ⟨787,1315,787,1319⟩)])])])]))],
 [(.iff (ym (yl 275 789 7) .Eq (yi 0 789 15)) [(ya (yl 276 790 8) (yk false [(yc (yg 279 113 790 17) [(yl 264 790 27),(zi 61 0 790 34 36)]),(yc (yg 279 113 790 39) [(yl 264 790 49),(zi 61 0 790 56 58)])])),(yr (yp [(yl 276 791 16),(yk false [(yc (yg 274 112 791 24) [(ys 6 791 33),(yu (yl 276 791 39) (yi 0 791 45))]),(yc (yg 274 112 791 50) [(ys 7 791 59),(yu (yl 276 791 65) (yi 1 791 71))])])]))] [] ⟨789,4,791,76⟩),(.iff (ym (yl 275 792 7) .Eq (yi 1 792 15)) [(ya (yl 276 793 8) (yk false [(yc (yg 279 113 793 17) [(yl 264 793 27),(zi 10 0 793 34 36)]),(yc (yg 279 113 793 39) [(yl 264 793 49),(yi 8 793 56)])])),(yr (yp [(yl 276 794 16),(yk false [(yc (yg 274 112 794 24) [(ys 11 794 33),(yu (yl 276 794 38) (yi 0 794 44))]),(yc (yg 274 112 794 49) [(ys 9 794 58),(yu (yl 276 794 64) (yi 1 794 70))]),(yc (yg 274 112 794 75) [(ys 12 794 84),(yi 1 794 89)])])]))] [] ⟨792,4,794,93⟩),(.iff (ym (yl 275 795 7) .Eq (yi 2 795 15)) [(ya (yl 276 796 8) (yk false [(yc (yg 279 113 796 17) [(yl 264 796 27),(zi 10000 0 796 34 39)])])),(yr (yp [(yl 276 797 16),(yk false [(yc (yg 274 112 797 24) [(ys 9 797 33),(yu (yl 276 797 39) (yi 0 797 45))]),(yc (yg 274 112 797 50) [(ys 10 797 59),(yi 0 797 65)])])]))] [] ⟨795,4,797,69⟩),(ya (yl 276 798 4) (.comp (yb .Sub false (yc (yg 279 113 798 13) [(yl 264 798 23),(zi 30 0 798 30 32)]) (zi 10 0 798 36 38)) (yl 130 798 43) (.iter 4 131 27 [(yb .Add false (yi 1 798 55) (yc (yg 279 113 798 59) [(yl 264 798 69),(yi 4 798 76)]))] ⟨798,49,798,54⟩ ⟨798,49,798,79⟩) [] [(313,.local),(130,.local),(279,.globalImplicit),(264,.free)] ⟨798,12,798,80⟩)),(ya (yl 277 799 4) (.comp (yp [(ys 48 799 13),(yc (yg 273 111 799 20) [(yl 130 799 30)]),(yc (yg 267 109 799 35) [(yl 81 799 45)])]) (yq [(yl 130 799 58),(yl 81 799 62)]) (.iter 5 159 38 [(yl 276 799 82)] ⟨799,72,799,81⟩ ⟨799,72,799,88⟩) [] [(313,.local),(130,.local),(81,.local),(273,.globalImplicit),(267,.globalImplicit)] ⟨799,11,799,89⟩)),(ya (yl 278 800 4) (yb .Sub false (yc (yg 279 113 800 10) [(yl 264 800 20),(zi 34 0 800 27 29)]) (zi 12 0 800 33 35))),(yr (yp [(yb .Add false (yl 276 801 12) (yk false [(yl 278 801 21)])),(yb .Add false (yl 277 801 27) (yk false [(yc (yg 274 112 801 35) [(ys 16 801 44),(yc (yg 79 3 801 50) [(yl 276 801 54)])]),(yc (yg 274 112 801 63) [(ys 20 801 72),(yl 278 801 78)])]))]))],
 [(ya (yq [(yl 146 803 4),(yl 201 803 10)]) (yp [(yc (yg 284 114 803 19) [(yl 280 803 27)]),(yc (yg 285 115 803 35) [(zi 16 0 803 41 43),(yi 9 803 45),(zi 500 0 803 48 51),(zi 20 0 803 53 55),(zi 100 0 803 57 60)])])),(ya (yq [(yl 171 804 4),(yl 281 804 9),(yl 130 804 16)]) (yp [(yc (yg 286 116 804 22) [(yl 201 804 30),(yl 146 804 37),(.f3 true ⟨804,43,804,45⟩)]),(zk true [] 804 48 50),(yi 0 804 52)])),(.for (yl 282 805 8) (.iter 4 131 27 [(zi 400 0 805 22 25)] ⟨805,16,805,21⟩ ⟨805,16,805,26⟩) [(ya (yl 148 806 8) (yu (yu (yt (yl 146 806 20) 277) (yl 130 806 30)) (yi 1 806 34))),(.iff (ym (yu (yl 148 807 11) (yi 0 807 21)) .Eq (ys 62 807 27)) [(yr (yp [(yl 281 808 20),(yt (yt (yl 171 808 27) 127) 129)]))] [] ⟨807,8,808,44⟩),(.iff (ym (yu (yl 148 809 11) (yi 0 809 21)) .Eq (ys 49 809 27)) [(ya (yl 283 810 12) (.comp (yc (yg 261 106 810 21) [(yl 201 810 30),(ys 13 810 37),(yk false [(yl 265 810 44)])]) (yl 265 810 55) (.iter 4 131 27 [(yl 87 810 69)] ⟨810,63,810,68⟩ ⟨810,63,810,74⟩) [] [(313,.local),(265,.local),(261,.globalImplicit),(201,.free)] ⟨810,20,810,75⟩)),(ye (yh (yl 281 811 12) 1 [(yp [(yu (yl 148 811 26) (yi 1 811 36)),(yc (yg 287 117 811 40) [(yt (yl 201 811 45) 188)]),(yl 283 811 59)])])),(ya (yl 130 812 12) (yb .Add false (yl 130 812 17) (yi 1 812 22)))] [(.iff (ym (yu (yl 148 813 13) (yi 0 813 23)) .Eq (ys 48 813 29)) [(ya (yl 130 814 12) (yc (yg 288 118 814 17) [(yl 171 814 24),(yl 130 814 29),(yl 148 814 33)]))] [(.iff (ym (yu (yl 148 815 13) (yi 0 815 23)) .Eq (ys 61 815 29)) [(ye (yc (yg 289 119 816 12) [(yl 171 816 20),(yl 148 816 25)])),(ya (yl 130 817 12) (yb .Add false (yl 130 817 17) (yi 1 817 22)))] [(ya (yl 130 819 12) (yc (yg 290 120 819 17) [(yl 171 819 25),(yl 130 819 30),(yl 148 819 34)]))] ⟨815,8,819,44⟩)] ⟨813,8,819,44⟩)] ⟨809,8,819,44⟩)] ⟨805,4,819,44⟩),(yr (yp [(zk false [] 820 12 14),(yk false [(ys 346 820 17)])]))],
 [(yr (.comp (yl 81 822 12) (yl 81 822 23) (.iter 4 131 27 [(yi 1 822 39),(zi 61 0 822 42 44)] ⟨822,33,822,38⟩ ⟨822,33,822,45⟩) [(yv true [(ym (yb .Mod false (yl 105 822 49) (yl 81 822 53)) .Eq (yi 0 822 63)),(ym (yb .Mod false (yl 106 822 69) (yl 81 822 73)) .Eq (yi 0 822 83))])] [(313,.local),(81,.local),(105,.free),(106,.free)] ⟨822,11,822,85⟩))],
 [(ya (yl 291 824 4) (.comp (yp [(yu (yl 188 824 14) (ys 6 824 20)),(yu (yl 188 824 27) (ys 7 824 33))]) (yq [(yl 142 824 44),(yl 188 824 50),(yl 283 824 57)]) (yl 281 824 66) [] [(313,.local),(142,.local),(188,.local),(283,.local)] ⟨824,12,824,72⟩)),(.iff (yv false [(ym (yl 291 825 7) .Eq (zk false [] 825 16 18)),(ym (yu (yl 291 825 22) (yi 0 825 28)) .NotEq (yc (yg 76 2 825 34) [(yl 276 825 40)])),(ym (yu (yu (yl 291 825 50) (yn (yi 1 825 57))) (yi 1 825 60)) .NotEq (yi 0 825 66))]) [(yr (.bool false 0 ⟨826,15,826,20⟩))] [] ⟨825,4,826,20⟩),(ya (yl 292 827 4) (yc (yg 295 121 827 10) [(yu (yl 276 827 24) (yi 0 827 30)),(yu (yl 276 827 34) (yi 1 827 40))])),(ya (yl 293 828 4) (.comp (yl 158 828 12) (yl 158 828 21) (yl 291 828 29) [(ym (yc (yg 295 121 828 38) [(yu (yl 158 828 52) (yi 0 828 57)),(yu (yl 158 828 61) (yi 1 828 66))]) .NotEq (yl 292 828 73))] [(313,.local),(158,.local),(295,.globalImplicit),(292,.free)] ⟨828,11,828,77⟩)),(ya (yl 294 829 4) (.comp (yl 130 829 13) (yl 130 829 20) (.iter 4 131 27 [(yi 1 829 32),(yc (yg 79 3 829 35) [(yl 291 829 39)])] ⟨829,26,829,31⟩ ⟨829,26,829,46⟩) [(yo (.cmp (yi 0 829 54) [.LtE,.Lt,.Eq] [(yu (yu (yl 291 829 59) (yl 130 829 65)) (yi 1 829 69)),(yu (yu (yl 291 829 74) (yb .Sub false (yl 130 829 80) (yi 1 829 85))) (yi 1 829 88)),(yu (yu (yl 291 829 94) (yl 130 829 100)) (yi 0 829 104))] ⟨829,54,829,106⟩))] [(313,.local),(130,.local),(291,.free)] ⟨829,12,829,107⟩)),(yr (zv true [(ym (yl 293 830 11) .Eq (zk false [] 830 19 21)),(ym (yl 294 830 26) .Eq (zk false [] 830 35 37)),(zm (yu (yu (yl 291 830 43) (yn (yi 1 830 50))) (yi 0 830 53)) .Eq (yx (ym (yl 276 830 65) .Eq (yk false [(yi 0 830 75),(yi 0 830 78)])) (yi 0 830 60) (yu (yl 292 830 86) (yn (yi 1 830 91)))) 830 43 94)] 830 11 95))],
 [(ya (yl 109 832 4) (.comp (yb .Add false (.comp (yb .Mult false (yu (yl 28 832 14) (yi 0 832 19)) (yb .Pow false (zi 10 0 832 24 26) (yu (yl 28 832 30) (yi 1 832 35)))) (yl 28 832 42) (yp [(yu (yl 188 832 51) (ys 12 832 57)),(yu (yl 188 832 63) (ys 11 832 69))]) [] [(313,.local),(28,.local)] ⟨832,13,832,75⟩) (yk false [(yu (yl 188 832 79) (ys 9 832 85))])) (yq [(yl 142 832 96),(yl 188 832 102),(yl 283 832 109)]) (yl 281 832 118) [] [(313,.local),(142,.local),(188,.local),(283,.local)] ⟨832,12,832,124⟩)),(.iff (ym (.comp (yl 192 833 8) (yl 192 833 17) (yl 109 833 25) [(ym (yb .Mult false (yu (yl 192 833 34) (yi 0 833 39)) (yb .Pow false (yu (yl 192 833 44) (yi 1 833 49)) (yu (yl 192 833 55) (yi 2 833 60)))) .NotEq (yb .Pow false (yu (yl 276 833 66) (yi 0 833 72)) (yu (yl 276 833 78) (yi 1 833 84))))] [(313,.local),(192,.local),(276,.free)] ⟨833,7,833,87⟩) .NotEq (zk false [] 833 91 93)) [(yr (.bool false 0 ⟨834,15,834,20⟩))] [] ⟨833,4,834,20⟩),(ya (yl 296 835 4) (.comp (yu (yl 192 835 12) (yi 2 835 17)) (yl 192 835 24) (yl 109 835 32) [] [(313,.local),(192,.local)] ⟨835,11,835,38⟩)),(yr (zv true [(ym (yl 296 836 11) .Eq (.comp (yb .FloorDiv false (yu (yl 276 836 20) (yi 1 836 26)) (yb .Pow false (yi 2 836 32) (yl 130 836 37))) (yl 130 836 44) (.iter 4 131 27 [(yc (yg 79 3 836 56) [(yl 296 836 60)])] ⟨836,50,836,55⟩ ⟨836,50,836,66⟩) [] [(313,.local),(130,.local),(276,.free)] ⟨836,19,836,67⟩)),(ym (yu (yl 296 836 72) (yn (yi 1 836 78))) .Eq (yi 0 836 84)),(ym (yh (yl 296 836 91) 4 [(yi 0 836 102)]) .Eq (yi 1 836 108))] 836 11 110))],
 [(yr (.comp (yb .Mod false (yb .FloorDiv false (yl 81 838 12) (yb .Pow false (zi 10 0 838 22 24) (yl 130 838 28))) (zi 10 0 838 33 35)) (yl 130 838 40) (.iter 4 131 27 [(yl 82 838 52)] ⟨838,46,838,51⟩ ⟨838,46,838,57⟩) [] [(313,.local),(130,.local),(81,.free)] ⟨838,11,838,58⟩))],
 [(.for (yq [(yl 130 840 8),(yp [(yl 142 840 13),(yl 188 840 19),(yl 283 840 26)])]) (.iter 5 159 38 [(yl 281 840 46)] ⟨840,36,840,45⟩ ⟨840,36,840,52⟩) [(.iff (yv false [(ym (yu (yl 188 841 11) (ys 9 841 17)) .NotEq (yb .FloorDiv false (yu (yl 276 841 26) (yi 0 841 32)) (yb .Pow false (zi 10 0 841 38 40) (yl 130 841 44)))),(yo (.cmp (yi 0 841 54) [.LtE,.Lt] [(yu (yl 188 841 59) (ys 10 841 65)),(yb .Pow false (zi 10 0 841 73 75) (yl 130 841 79))] ⟨841,54,841,81⟩))]) [(yr (.bool false 0 ⟨842,19,842,24⟩))] [] ⟨841,8,842,24⟩),(.iff (ym (yc (yg 297 122 843 11) [(yu (yl 276 843 24) (yi 0 843 30)),(yl 130 843 34)]) .NotEq (.fj false (yc (yg 297 122 843 41) [(yu (yl 188 843 54) (ys 10 843 60)),(yl 130 843 67)]) .absent .absent (yn (yi 1 843 74)) ⟨843,71,843,75⟩ ⟨843,41,843,76⟩)) [(yr (.bool false 0 ⟨844,19,844,24⟩))] [] ⟨843,8,844,24⟩)] ⟨840,4,844,24⟩),(yr (ym (yc (yg 79 3 845 11) [(yl 281 845 15)]) .Eq (zb .Add false (yi 1 845 25) (yx (ym (yu (yl 276 845 52) (yi 0 845 58)) .Gt (yi 0 845 63)) (yc (yg 79 3 845 30) [(yc (yg 75 1 845 34) [(yu (yl 276 845 38) (yi 0 845 44))])]) (yi 0 845 70)) 845 25 72)))],
 [(.raw (PySem.Stmt.Return (some (zf (zy "len" 847 11 14) [(PySem.Expr.ListComp (zn (PySem.Const.int 1) 0 847 16 17) [⟨(zy "at" 847 22 24),(zf (zy "range" 847 28 33) [(zf (zy "len" 847 34 37) [(zy "row" 847 38 41)] 847 34 42)] 847 28 43),[],0⟩,⟨(zy "spot" 847 48 52),(zf (zy "range" 847 56 61) [(zy "at" 847 62 64)] 847 56 65),[(PySem.Expr.Compare (PySem.Expr.Subscript (zy "row" 847 69 72) (zy "spot" 847 73 77) ⟨847,69,847,78⟩) [.Gt] [(PySem.Expr.Subscript (zy "row" 847 81 84) (zy "at" 847 85 87) ⟨847,81,847,88⟩)] ⟨847,69,847,88⟩)],0⟩] {kind:= .function,names:= [((Str.ofString ".0"),.local),((Str.ofString "at"),.local),((Str.ofString "spot"),.local),((Str.ofString "range"),.globalImplicit),((Str.ofString "row"),.free)],isGenerator:=false,isCoroutine:=false} ⟨847,15,847,89⟩)] 847 11 90)) ⟨847,4,847,90⟩))],
 [(ya (yq [(yl 278 849 4),(yl 277 849 9)]) (yp [(yu (yl 276 849 17) (yn (yi 1 849 24))),(yb .Add false (yk false [(.fj false (yl 276 849 29) .absent (yn (yi 1 849 37)) .absent ⟨849,35,849,38⟩ ⟨849,29,849,39⟩)]) (.comp (.fj false (yl 283 849 44) .absent (yb .Sub false (yc (yg 79 3 849 51) [(yl 276 849 55)]) (yi 1 849 64)) .absent ⟨849,50,849,65⟩ ⟨849,44,849,66⟩) (yq [(yl 142 849 71),(yl 188 849 77),(yl 283 849 84)]) (yl 281 849 93) [(ym (yl 142 849 102) .Eq (ys 61 849 110))] [(313,.local),(142,.local),(188,.local),(283,.local),(79,.globalImplicit),(276,.free)] ⟨849,43,849,117⟩))])),(.for (yl 130 850 8) (.iter 4 131 27 [(yi 1 850 20),(yc (yg 79 3 850 23) [(yl 277 850 27)])] ⟨850,14,850,19⟩ ⟨850,14,850,33⟩) [(.iff (yv false [(ym (yc (yg 300 123 851 11) [(yu (yl 277 851 18) (yl 130 851 23))]) .NotEq (yc (yg 300 123 851 31) [(yu (yl 277 851 38) (yi 0 851 43))])),(ym (yc (yg 301 124 851 50) [(yu (yl 277 851 61) (yl 130 851 66))]) .NotEq (yb .Sub false (yc (yg 301 124 851 74) [(yu (yl 277 851 85) (yi 0 851 90))]) (yl 130 851 96)))]) [(yr (.bool false 0 ⟨852,19,852,24⟩))] [] ⟨851,8,852,24⟩)] ⟨850,4,852,24⟩),(ya (yl 169 853 4) (yu (yl 277 853 10) (yn (yi 1 853 16)))),(.iff (yv false [(ym (yc (yg 301 124 854 7) [(yl 169 854 18)]) .NotEq (yi 0 854 26)),(ym (.comp (yl 142 854 32) (yq [(yl 142 854 41),(yl 188 854 47),(yl 283 854 54)]) (yl 281 854 63) [] [(313,.local),(142,.local),(188,.local),(283,.local)] ⟨854,31,854,69⟩) .NotEq (yb .Add false (.rep false false [(ys 61 854 74)] 0 ⟨854,73,854,81⟩ (yb .Sub false (yc (yg 79 3 854 85) [(yl 277 854 89)]) (yi 1 854 97)) ⟨854,73,854,99⟩) (.rep false false [(ys 67 854 103)] 0 ⟨854,102,854,110⟩ (yb .Sub false (yb .Add false (yc (yg 79 3 854 114) [(yl 281 854 118)]) (yi 1 854 127)) (yc (yg 79 3 854 131) [(yl 277 854 135)])) ⟨854,102,854,141⟩)))]) [(yr (.bool false 0 ⟨855,15,855,20⟩))] [] ⟨854,4,855,20⟩),(ya (yl 298 856 4) (.comp (yp [(yu (yl 188 856 15) (ys 17 856 21)),(yu (yl 188 856 28) (ys 18 856 34))]) (yq [(yl 142 856 45),(yl 188 856 51),(yl 283 856 58)]) (yl 281 856 67) [(ym (yl 142 856 76) .Eq (ys 67 856 84))] [(313,.local),(142,.local),(188,.local),(283,.local)] ⟨856,13,856,91⟩)),(.iff (yv false [(ym (yl 298 857 7) .Eq (zk false [] 857 17 19)),(ym (yu (yl 298 857 23) (yi 0 857 30)) .NotEq (yp [(yi 0 857 37),(yc (yg 79 3 857 40) [(yl 169 857 44)])])),(ym (yu (yl 298 857 53) (yn (yi 1 857 61))) .NotEq (.rep true false [(yc (yg 79 3 857 68) [(.comp (yl 114 857 73) (yl 114 857 81) (yl 169 857 88) [(ym (yl 114 857 95) .Lt (yl 278 857 101))] [(313,.local),(114,.local),(278,.free)] ⟨857,72,857,105⟩)])] 0 ⟨857,67,857,108⟩ (yi 2 857 111) ⟨857,67,857,112⟩))]) [(yr (.bool false 0 ⟨858,15,858,20⟩))] [] ⟨857,4,858,20⟩),(.for (yq [(yl 130 859 8),(yp [(yl 299 859 13),(yl 200 859 18)])]) (.iter 5 159 38 [(yl 298 859 37)] ⟨859,27,859,36⟩ ⟨859,27,859,44⟩) [(.iff (ym (yb .Add false (.comp (yl 114 860 12) (yl 114 860 20) (.fj false (yl 169 860 27) .absent (yl 299 860 32) .absent ⟨860,31,860,35⟩ ⟨860,27,860,36⟩) [(ym (yl 114 860 40) .GtE (yl 278 860 47))] [(313,.local),(114,.local),(278,.free)] ⟨860,11,860,51⟩) (.comp (yl 114 860 55) (yl 114 860 63) (.fj false (yl 169 860 70) (yl 200 860 74) .absent .absent ⟨860,74,860,79⟩ ⟨860,70,860,80⟩) [(ym (yl 114 860 84) .Lt (yl 278 860 90))] [(313,.local),(114,.local),(278,.free)] ⟨860,54,860,94⟩)) .NotEq (zk false [] 860 98 100)) [(yr (.bool false 0 ⟨861,19,861,24⟩))] [] ⟨860,8,861,24⟩),(.iff (zv false [(yv true [(ym (yl 130 862 11) .Gt (yi 0 862 16)),(ym (zb .Mult false (yi 2 862 22) (yb .Sub false (yl 200 862 27) (yl 299 862 34)) 862 22 38) .Gt (yb .Sub false (yu (yu (yl 298 862 41) (yb .Sub false (yl 130 862 48) (yi 1 862 53))) (yi 1 862 56)) (yu (yu (yl 298 862 61) (yb .Sub false (yl 130 862 68) (yi 1 862 73))) (yi 0 862 76))))]),(yv true [(ym (yl 299 862 83) .Eq (yl 200 862 90)),(ym (yl 130 862 99) .Lt (yb .Sub false (yc (yg 79 3 862 104) [(yl 298 862 108)]) (yi 1 862 118)))])] 862 11 120) [(yr (.bool false 0 ⟨863,19,863,24⟩))] [] ⟨862,8,863,24⟩)] ⟨859,4,863,24⟩),(yr (ym (.comp (yl 283 864 12) (yq [(yl 142 864 22),(yl 188 864 28),(yl 283 864 35)]) (yl 281 864 44) [(yv true [(ym (yl 142 864 53) .Eq (ys 67 864 61)),(ym (.fj false (yl 283 864 72) .absent (yc (yg 79 3 864 79) [(yl 169 864 83)]) .absent ⟨864,78,864,87⟩ ⟨864,72,864,88⟩) .NotEq (yl 169 864 92))])] [(313,.local),(142,.local),(188,.local),(283,.local),(79,.globalImplicit),(169,.free)] ⟨864,11,864,96⟩) .Eq (zk false [] 864 100 102)))],
 [(ya (yl 264 866 4) (yk true [(.fj false (yl 302 866 13) .absent (zi 24 0 866 21 23) .absent ⟨866,20,866,23⟩ ⟨866,13,866,24⟩),(yi 0 866 26)])),(ya (yl 165 867 4) (yk true [(yc (yg 279 113 867 13) [(yl 264 867 23),(yi 4 867 30)])])),(ye (yh (yl 165 868 4) 1 [(yc (yg 279 113 868 17) [(yl 264 868 27),(yx (ym (yu (yl 165 868 39) (yi 0 868 45)) .Eq (yi 3 868 51)) (yi 3 868 34) (yi 4 868 58))])])),(ya (yl 192 869 4) (.comp (yc (yg 347 125 869 12) [(yl 264 869 22),(yl 275 869 29)]) (yl 275 869 39) (yl 165 869 47) [] [(313,.local),(275,.local),(347,.globalImplicit),(264,.free)] ⟨869,11,869,53⟩)),(ya (yl 280 870 4) (zk true [] 870 12 14)),(.for (yq [(yl 130 871 8),(yl 275 871 12)]) (.iter 5 159 38 [(yl 165 871 30)] ⟨871,20,871,29⟩ ⟨871,20,871,36⟩) [(ya (yl 31 872 8) (yp [(ys 59 872 16),(ys 57 872 24),(yp [(ys 25 872 34),(yb .Add false (yl 275 872 43) (yi 1 872 50))]),(yk false [(zi 100 0 872 55 58),(zi 200 0 872 60 63),(zi 300 0 872 65 68),(zi 400 0 872 70 73)])])),(ye (yh (yl 280 873 8) 1 [(yp [(yb .Add false (zi 10 0 873 22 24) (yb .Mult false (zi 20 0 873 27 29) (yl 130 873 32))),(yb .Add false (yu (yu (yl 192 873 36) (yl 130 873 41)) (yi 1 873 45)) (yk false [(yp [(ys 49 873 52),(ys 63 873 59)]),(yl 31 873 69)]))])]))] ⟨871,4,873,76⟩),(ya (yq [(yl 281 874 4),(yl 129 874 11)]) (yc (yg 306 126 874 18) [(yb .Add false (yb .Add false (yl 280 874 28) (yk false [(yp [(zi 90 0 874 38 40),(yk false [(zp [(ys 62 874 44)] 0 874 43 51)])])])) (yd (yg 307 127 874 57))),(yi 4 874 71)])),(ya (yl 303 875 4) (.comp (yl 130 875 14) (yq [(yl 130 875 21),(yl 348 875 25)]) (.iter 5 159 38 [(yl 281 875 43)] ⟨875,33,875,42⟩ ⟨875,33,875,49⟩) [(ym (yu (yl 348 875 53) (yi 0 875 58)) .Eq (ys 63 875 64))] [(313,.local),(130,.local),(348,.local)] ⟨875,13,875,72⟩)),(.iff (yv false [(ym (yc (yg 79 3 876 7) [(yl 303 876 11)]) .NotEq (yi 2 876 22)),(ym (yu (yl 303 876 27) (yi 0 876 34)) .NotEq (yi 0 876 40)),(ym (yl 129 876 45) .NotEq (zk false [] 876 53 55))]) [(yr (.bool false 0 ⟨877,15,877,20⟩))] [] ⟨876,4,877,20⟩),(ya (yl 304 878 4) (yk false [(.fj false (yl 281 878 12) (yi 1 878 18) (yu (yl 303 878 20) (yi 1 878 27)) .absent ⟨878,18,878,29⟩ ⟨878,12,878,30⟩),(.fj false (yl 281 878 32) (yb .Add false (yu (yl 303 878 38) (yi 1 878 45)) (yi 1 878 50)) .absent .absent ⟨878,38,878,52⟩ ⟨878,32,878,53⟩)])),(ya (yl 305 879 4) (yk false [(yg 308 128 879 14),(yg 309 129 879 27),(yg 310 130 879 39),(yg 311 131 879 52)])),(yr (ym (.comp (yl 130 880 12) (yq [(yl 130 880 19),(yl 275 880 23)]) (.iter 5 159 38 [(yl 165 880 41)] ⟨880,31,880,40⟩ ⟨880,31,880,47⟩) [(yo (yc (yu (yl 305 880 55) (yl 275 880 62)) [(yu (yu (yl 192 880 68) (yl 130 880 73)) (yi 0 880 77)),(yu (yl 304 880 81) (yl 130 880 86))]))] [(313,.local),(130,.local),(275,.local),(305,.free),(304,.free),(192,.free)] ⟨880,11,880,91⟩) .Eq (zk false [] 880 95 97)))]]
noncomputable def bN(i:Nat):List MS:=match aS bA i with|some b=>b|none=>[]
noncomputable def rk:List MS:=bN 98
noncomputable def b99:List MS:=bN 99
noncomputable def xF:List MS:=bN 104
noncomputable def qF:List MS:=bN 106
noncomputable def kk(b:List (List MS))(k:List CS)(_:b.map e9=k):List CS:=k
noncomputable def kA:List CS:=kk bA _ (by dsimp only[bA,fH,e9,cS,cM,cQ,cE,tE,cI,cT,nr,oJ,d9,LR,cond])
noncomputable def kN(i:Nat):CS:=match aS kA i with|some k=>k|none=>qQ
noncomputable def Ny:CS:=kN 99
noncomputable def iB:List Fn:=[⟨[73],kN 0⟩,⟨[28,77],kN 1⟩,⟨[80],kN 2⟩,⟨[81],kN 3⟩,⟨[84,85,86],kN 4⟩,⟨[81,95],kN 5⟩,⟨[73,95],kN 6⟩,⟨[73,86],kN 7⟩,⟨[73,80,95,86],kN 8⟩,⟨[73],kN 9⟩,⟨[73],kN 10⟩,⟨[104],kN 11⟩,⟨[73],kN 12⟩,⟨[105,106,86],kN 13⟩,⟨[73],kN 14⟩,⟨[81,95,86],kN 15⟩,⟨[107,105,106,95,86],kN 16⟩,⟨[105,106],kN 17⟩,⟨[105,106],kN 18⟩,⟨[107,105,106,95,86],kN 19⟩,⟨[105,95,86],kN 20⟩,⟨[105,106],kN 21⟩,⟨[125,126],kN 22⟩,⟨[127,128],kN 23⟩,⟨[129],kN 24⟩,⟨[129,80,28],kN 25⟩,⟨[127,82],kN 26⟩,⟨[73,133,134,135],kN 27⟩,⟨[127,28,137,133,134],kN 28⟩,⟨[127,28],kN 29⟩,⟨[127,28,73,141,135],kN 30⟩,⟨[127,137],kN 31⟩,⟨[127,137],kN 32⟩,⟨[127,137],kN 33⟩,⟨[127,137],kN 34⟩,⟨[127],kN 35⟩,⟨[81,82],kN 36⟩,⟨[125],kN 37⟩,⟨[146,147,148],kN 38⟩,⟨[146,147,148],kN 39⟩,⟨[146,147,153],kN 40⟩,⟨[146],kN 41⟩,⟨[146,163,130],kN 42⟩,⟨[146,156,130,82],kN 43⟩,⟨[166],kN 44⟩,⟨[146,147],kN 45⟩,⟨[146,169],kN 46⟩,⟨[146,169],kN 47⟩,⟨[171,130,148],kN 48⟩,⟨[171,130,148],kN 49⟩,⟨[171,130,148],kN 50⟩,⟨[171,130,148],kN 51⟩,⟨[171,130,188],kN 52⟩,⟨[125,80,195,196],kN 53⟩,⟨[195,196],kN 54⟩,⟨[201,142],kN 55⟩,⟨[201,195],kN 56⟩,⟨[201,142,195],kN 57⟩,⟨[201,142,82],kN 58⟩,⟨[208,209],kN 59⟩,⟨[201,142,209],kN 60⟩,⟨[201,142,209,73],kN 61⟩,⟨[125,95,86,215,216,217],kN 62⟩,⟨[201,28],kN 63⟩,⟨[201,28],kN 64⟩,⟨[201,28,73],kN 65⟩,⟨[171,130,148],kN 66⟩,⟨[171,219],kN 67⟩,⟨[171,219],kN 68⟩,⟨[171,137],kN 69⟩,⟨[171,137,73],kN 70⟩,⟨[171,148],kN 71⟩,⟨[201,28],kN 72⟩,⟨[201,28],kN 73⟩,⟨[201,142],kN 74⟩,⟨[201,142,73],kN 75⟩,⟨[232],kN 76⟩,⟨[107,135],kN 77⟩,⟨[107,114,115,95,86],kN 78⟩,⟨[107,73,95,86],kN 79⟩,⟨[232,95,86],kN 80⟩,⟨[232,244,245],kN 81⟩,⟨[232,245],kN 82⟩,⟨[125,201,146,255],kN 83⟩,⟨[125,232],kN 84⟩,⟨[125,232],kN 85⟩,⟨[125,142],kN 86⟩,⟨[125,142,209],kN 87⟩,⟨[125,142,73],kN 88⟩,⟨[125,142,209,73],kN 89⟩,⟨[125,73,88],kN 90⟩,⟨[264,82],kN 91⟩,⟨[266],kN 92⟩,⟨[114,107,115],kN 93⟩,⟨[142,266],kN 94⟩,⟨[266],kN 95⟩,⟨[],kN 96⟩,⟨[264,275],kN 97⟩,⟨[280,87],kN 98⟩,⟨[105,106],kN 99⟩,⟨[276,281],kN 100⟩,⟨[276,281],kN 101⟩,⟨[81,82],kN 102⟩,⟨[276,281],kN 103⟩,⟨[169],kN 104⟩,⟨[276,281],kN 105⟩,⟨[302],kN 106⟩]
noncomputable def glL:List SV:=[.bi 3,.bi 11,.bi 12,.bi 1,.bi 2,.fn 3,.au,.lit (aq 99),.au,.fn 5,.fn 4,.au,.au,.fn 6,.fn 7,.fn 9,.fn 15,.fn 17,.fn 14,.au,.fn 18,.fn 16,.au,.au,.fn 13,.au,.au,.bi 4,.fn 24,.fn 12,.fn 25,.fn 26,.fn 23,.fn 27,.lit (aq 255),.fn 38,.fn 40,.fn 39,.bi 5,.fn 42,.fn 43,.bi 8,.cls 1,.fn 41,.tup [.str 53,.str 54,.str 60,.str 57,.str 59,.str 58],.fn 49,.fn 50,.fn 10,.fn 35,.fn 45,.fn 36,.fn 34,.fn 51,.fn 52,.fn 33,.fn 46,.fn 31,.fn 32,.fn 21,.fn 28,.fn 47,.fn 29,.fn 30,.bi 13,.fn 2,.fn 54,.fn 1,.fn 56,.cls 2,.fn 55,.fn 57,.lit (aq 10),.bi 6,.fn 58,.fn 59,.fn 8,.fn 63,.fn 67,.fn 68,.fn 69,.fn 70,.au,.fn 72,.fn 64,.fn 65,.fn 73,.fn 11,.fn 0,.au,.tup [.str 42,.str 43,.str 44,.str 45,.str 46,.str 47],.fn 77,.tup [.str 68,.str 69,.str 70,.str 71,.str 72],.au,.fn 19,.fn 20,.au,.fn 78,.fn 79,.fn 80,.fn 76,.fn 81,.bi 7,.cls 0,.lit (aq 20),.fn 82,.fn 74,.fn 60,.fn 75,.fn 61,.fn 92,.fn 93,.fn 95,.fn 94,.fn 91,.fn 44,.cls 3,.cls 4,.bi 14,.fn 66,.fn 71,.fn 48,.fn 99,.fn 102,.bi 10,.fn 104,.fn 97,.fn 98,.fn 96,.fn 100,.fn 101,.fn 103,.fn 105]
noncomputable def Ze:List (Nat×Nat×Nat):=[(4,320,84),(4,25,85),(4,322,86),(4,341,87),(4,321,88),(4,340,89),(4,323,90),(4,31,107),(4,32,108)]
noncomputable def Km:List Nat:=[22,37,53,62,83]
noncomputable def mR:List (List Nat):=[[],[97,112,112,101,110,100],[112,111,112],[101,120,116,101,110,100],[99,111,117,110,116],[103,101,116],[65,37],[66,37],[67,37],[78,37],[82,37],[65],[82],[83,37],[73,37],[74,37],[90,37],[76,37],[72,37],[77,37],[75,37],[37],[36],[33],[83],[119,104,111,108,101],[110,101,103],[116,119,111],[110,97,109,101],[105,116,101,109],[110,111,116],[99,97,108,108],[102,110],[116,101,120,116],[100,101,99,105,109,97,108],[43],[45],[42],[47],[92],[77,79,68],[94],[61],[60,62],[60],[62],[60,61],[62,61],[76,69,84],[82,69,77],[87,72,73,76,69],[87,69,78,68],[73,70],[73,70,78,79,84],[74,85,77,80],[70,79,82],[78,69,88,84],[71,79,83,85,66],[82,69,84,85,82,78],[79,78,71,79],[71,79,84,79],[83,87,65,80],[69,78,68],[66,69,71,73,78],[69,85,67,76,73,68],[80,79,87,69,82],[84,85,82,78],[83,69,69,75],[65,78,68],[79,82],[88,79,82],[69,81,86],[73,77,80],[118,97,108,117,101],[105,115,105,110,115,116,97,110,99,101],[115,116,114],[116,117,112,108,101],[107,105,110,100,115],[108,97,115,116],[108,101,110],[107,105,110,100],[110,117,109,98,101,114],[109,97,110,121],[98,111,117,110,100],[99,111,101,102,102,105,99,105,101,110,116],[101,120,112,111,110,101,110,116],[100,105,103,105,116,115],[115,105,122,101],[109,111,114,101],[102,105,114,115,116],[97,98,115],[102,105,103,117,114,101,115,95,111,102],[114,111,117,110,100,101,100,95,98,121],[77,79,83,84,95,69,88,80,79,78,69,78,84],[66,97,115,105,99,69,114,114,111,114],[98,105,116,115],[119,104,111,108,101,95,110,101,97,114],[102,105,116,115],[109,97,100,101],[99,104,101,99,107,101,100,95,116,101,120,116],[116,101,120,116,95,111,102],[119,104,111,108,101,95,111,102],[100,101,99,105,109,97,108,95,111,102],[105,115,95,110,111,117,103,104,116],[105,115,95,115,111],[97],[98],[111,112],[115,101,116,116,108,101,100],[102,111,117,110,100],[99,117,116,95,113,117,111,116,105,101,110,116],[105,115,95,102,105,114,115,116],[105,115,95,115,101,99,111,110,100],[119,111,114,107],[111,110,101],[111,116,104,101,114],[105,115,95,119,104,111,108,101],[114,97,105,115,101,100],[99,117,116,95,114,101,115,116],[119,104,111,108,101,95,114,101,99,107,111,110,101,100],[100,95,97,100,100],[100,95,115,117,98],[100,95,109,117,108],[100,95,100,105,118],[100,95,99,111,109,112,97,114,101],[115,101,108,102],[109,111,115,116],[99,111,110,116,114,111,108],[101,110,116,114,121],[112,105,108,101],[97,116],[114,97,110,103,101],[102,108,111,111,114,95,111,102],[108,105,109,105,116],[115,116,101,112],[111,114,100,101,114],[115,105,103,110,95,111,102],[112,108,97,99,101],[102,111,117,110,100,95,97,116],[99,117,116,95,116,111],[112,117,116,95,117,112,111,110],[97,100,100],[119,111,114,100],[105,115,95,112,97,115,116],[115,112,111,116,115],[77,79,83,84,95,78,85,77,66,69,82],[102,108,97,116],[108,105,110,101],[115,116,97,116,101,109,101,110,116],[116,101,115,116],[115,107,105,112],[112,117,116,95,114,111,119,95,111,102],[112,117,116,95,97,108,108],[115,116,97,116,101,109,101,110,116,115],[112,117,116,95,105,102],[119,104,105,108,101,115],[102,111,114,115],[104,101,97,100,115],[112,97,105,114],[101,110,117,109,101,114,97,116,101],[106,111,105,110,95,114,111,119,115],[101,110,100,95,108,111,111,112,115],[109,97,120],[111,112,101,110,95,114,111,119,115],[98,101,103,105,110],[119,104,105,99,104],[112,97,114,115,101,100],[70,108,97,116],[103,97,116,104,101,114],[114,111,119],[108,105,110,101,95,111,102],[114,117,110],[74,85,77,80,83],[100,111,95,106,117,109,112],[100,111,95,108,111,111,112],[103,111,97,108],[105,115,95,116,114,117,101],[114,101,116,117,114,110,95,112,108,97,99,101],[112,108,97,99,101,95,111,102,95,102,108,97,116,116,101,110],[99,104,111,115,101,110],[103,111,115,117,98],[100,111,95,102,111,114],[110,101,120,116,95,102,114,111,109],[119,101,110,100,95,112,108,97,99,101],[101,110,100,95,111,102,95,119,104,105,108,101],[119,104,105,108,101,95,98,101,103,105,110],[119,104,105,108,101,95,101,110,100],[115,116,114,105,100,101],[110,97,109,101,115],[111,114,100,101,114,95,111,102],[102,111,114,95,98,101,103,105,110],[110,101,120,116,95,111,102,95,102,111,114],[116,111,108,100],[102,111,114,95,110,97,109,101],[102,111,114,95,110,101,120,116],[104,105,103,104,115],[98,97,115,101],[108,105,115,116],[102,105,114,115,116,95,118,97,108,117,101],[99,111,117,110,116,95,111,102],[104,105,103,104],[119,111,114,108,100],[107,105,110,100,95,111,102,95,110,97,109,101],[99,104,101,99,107,95,104,105,103,104,115],[71,114,105,100],[107,105,110,100,95,105,110],[100,105,109],[85,83,85,65,76,95,72,73,71,72],[103,114,105,100],[115,117,98,115],[115,117,98],[122,105,112],[103,114,105,100,95,111,102],[112,108,97,99,101,95,111,102,95,97,114,114,97,121,115],[115,117,105,116,101,100],[109,111,115,116,95,115,116,101,112,115],[109,111,115,116,95,100,101,112,116,104],[114,111,111,109],[107,105,110,100,95,104,101,114,101],[116,97,114,103,101,116],[104,101,114,101],[116,104,101,114,101],[107,105,110,100,95,111,102,95,116,97,114,103,101,116],[112,108,97,99,101,95,116,111,108,100],[118,97,108,117,101,95,97,116],[112,117,116,95,97,116],[99,104,97,110,110,101,108],[101,114,114,111,114,95,110,117,109,98,101,114],[102,105,101,108,100,95,116,101,120,116],[103,101,116,95,110,97,109,101],[115,101,116,95,110,97,109,101],[110,111,95,102,105,101,108,100],[116,114,101,101],[116,114,117,116,104],[97,114,101,95,116,101,120,116,115],[119,111,114,116,104,95,111,102,95,116,101,120,116,115],[67,79,77,80,65,82,73,83,79,78,83],[99,111,109,112,97,114,101,100],[76,79,71,73,67],[108,111,103,105,99],[114,101,99,107,111,110,101,100],[107,105,110,100,95,111,102],[110,101,103,97,116,101,100],[105,110,118,101,114,116,101,100],[112,97,114,116,115],[104,111,111,107,115],[119,111,114,116,104,95,111,102,95,116,119,111],[119,111,114,116,104,95,111,102,95,111,110,101],[119,111,114,116,104,95,111,102,95,108,101,97,102],[119,97,105,116,105,110,103],[118,97,108,117,101,115],[105,115,95,114,101,97,100,121],[112,97,114,116,115,95,111,102,95,116,114,101,101],[119,111,114,116,104,95,111,102,95,116,114,101,101],[114,101,118,101,114,115,101,100],[97,110,115,119,101,114,115],[67,111,110,116,114,111,108],[77,79,83,84,95,80,73,76,69],[119,111,114,116,104,95,119,111,114,116,104],[118,97,114,105,97,98,108,101,95,118,97,108,117,101],[112,108,97,99,101,115],[103,101,116,95,105,116,101,109],[103,105,118,101,95,118,97,114,105,97,98,108,101],[115,101,116,95,105,116,101,109],[102,105,101,108,100],[115,112,111,116],[112,97,114,116],[95,108,97,119,95,116,114,101,101],[116,117,114,110,101,100],[110,101,97,114],[99,104,97,110,103,101],[109,105,100,100,108,101],[95,108,97,119,95,116,119,111],[95,108,97,119,95,105,116,101,109],[95,108,97,119,95,108,101,116],[102,111,114,109],[103,105,118,101,110],[114,111,119,115],[107,101,121],[95,108,97,119,95,115,111,119,110],[108,105,110,101,115],[110,111,116,101,115],[116,117,114,110],[105,116,101,109,115],[102,108,97,116,116,101,110],[87,111,114,108,100],[87,111,114,107,82,117,110],[100,105,99,116],[100,111,95,108,101,116],[100,111,95,115,119,97,112],[100,111,95,102,108,111,119],[112,97,105,114,115],[100,117,101],[115,97,109,101],[102,97,108,108,115],[95,108,97,119,95,100,105,118,105,115,111,114,115],[108,101,102,116],[95,108,97,119,95,102,105,103,117,114,101,115],[98,111,117,110,100,115],[108,111,119],[115,111,114,116,101,100],[95,108,97,119,95,119,114,111,110,103],[115,99,114,105,112,116],[98,101,103,105,110,115],[115,111,109,101],[99,104,101,99,107,115],[95,108,97,119,95,103,111,110,101],[95,108,97,119,95,112,97,114,116,115],[95,108,97,119,95,101,117,99,108,105,100],[95,108,97,119,95,112,111,119,101,114],[95,108,97,119,95,116,117,114,110,101,100],[95,108,97,119,95,115,111,114,116,101,100],[102,97,105,108,101,100,95,97,116],[46,48],[100,97,116,97],[108,111,111,112,115],[102,110,115],[68,65,84,65],[68,69,70,76,73,78,69,83],[70,78,69,78,68],[119,111,114,116,104],[115,116,111,114,101],[118,97,108,117,101,95,111,102,95,110,97,109,101],[112,108,117,115],[97,114,114,97,121,115],[111,117,116],[105,110,112,117,116,115],[102,105,108,101,115],[111,112,101,110],[102,105,101,108,100,115],[115,101,101,100],[115,116,101,112,115],[100,101,112,116,104],[104,97,110,100,108,101,114],[105,115,95,104,97,110,100,108,105,110,103],[101,114,114,111,114,95,108,105,110,101],[101,114,114,111,114,95,99,111,100,101],[105,115,95,116,114,97,99,101,100],[116,114,97,99,101,115],[99,111,109,109,111,110],[112,117,116],[105,116,101,109,95,111,102],[98,117,102,102,101,114],[69,82,82],[69,82,76],[97,115,107,101,100],[108,111,110,103],[95,108,97,119,95,100,97,116,97],[110,111,116,101]]
noncomputable def Le:List (Nat×Nat):=[(33,23),(36,22),(37,21),(42,37),(43,35),(45,36),(47,38),(60,44),(61,42),(62,45),(65,11),(82,12),(83,24),(92,39),(94,41),(97,105),(98,106)]
noncomputable def Xo(c x:Nat)(l:List (Nat×Nat×Nat)):Option Nat:=List.rec none (fun p _ ih=>cond (ag p.1 c) (cond (ag p.2.1 x) (some p.2.2) ih) ih) l
noncomputable def B3(c:Nat)(l:List (Nat×Nat)):Option Nat:=List.rec none (fun p _ ih=>cond (ag p.1 c) (some p.2) ih) l
noncomputable def getD{α:Type}(o:Option α)(d:α):α:=match o with|some a=>a|none=>d
noncomputable def aG:Prog where
 eG i:=getD (aS glL i) .au
 init i:=aS Km i
 f6 c x:=Xo c x Ze
 cps i:=getD (aS mR i) (eR (Hs i 1000) 126)
 chr c:=B3 c Le
 sw:=25
 sn:=26
noncomputable def rI:List String:=["","append","pop","extend","count","get","A%","B%","C%","N%","R%","A","R","S%","I%","J%","Z%","L%","H%","M%","K%","%","$","!","S","whole","neg","two","name","item","not","call","fn","text","decimal","+","-","*","/","\\","MOD","^","=","<>","<",">","<=",">=","LET","REM","WHILE","WEND","IF","IFNOT","JUMP","FOR","NEXT","GOSUB","RETURN","ONGO","GOTO","SWAP","END","BEGIN","EUCLID","POWER","TURN","SEEK","AND","OR","XOR","EQV","IMP","value","isinstance","str","tuple","kinds","last","len","kind","number","many","bound","coefficient","exponent","digits","size","more","first","abs","figures_of","rounded_by","MOST_EXPONENT","BasicError","bits","whole_near","fits","made","checked_text","text_of","whole_of","decimal_of","is_nought","is_so","a","b","op","settled","found","cut_quotient","is_first","is_second","work","one","other","is_whole","raised","cut_rest","whole_reckoned","d_add","d_sub","d_mul","d_div","d_compare","self","most","control","entry","pile","at","range","floor_of","limit","step","order","sign_of","place","found_at","cut_to","put_upon","add","word","is_past","spots","MOST_NUMBER","flat","line","statement","test","skip","put_row_of","put_all","statements","put_if","whiles","fors","heads","pair","enumerate","join_rows","end_loops","max","open_rows","begin","which","parsed","Flat","gather","row","line_of","run","JUMPS","do_jump","do_loop","goal","is_true","return_place","place_of_flatten","chosen","gosub","do_for","next_from","wend_place","end_of_while","while_begin","while_end","stride","names","order_of","for_begin","next_of_for","told","for_name","for_next","highs","base","list","first_value","count_of","high","world","kind_of_name","check_highs","Grid","kind_in","dim","USUAL_HIGH","grid","subs","sub","zip","grid_of","place_of_arrays","suited","most_steps","most_depth","room","kind_here","target","here","there","kind_of_target","place_told","value_at","put_at","channel","error_number","field_text","get_name","set_name","no_field","tree","truth","are_texts","worth_of_texts","COMPARISONS","compared","LOGIC","logic","reckoned","kind_of","negated","inverted","parts","hooks","worth_of_two","worth_of_one","worth_of_leaf","waiting","values","is_ready","parts_of_tree","worth_of_tree","reversed","answers","Control","MOST_PILE","worth_worth","variable_value","places","get_item","give_variable","set_item","field","spot","part","_law_tree","turned","near","change","middle","_law_two","_law_item","_law_let","form","given","rows","key","_law_sown","lines","notes","turn","items","flatten","World","WorkRun","dict","do_let","do_swap","do_flow","pairs","due","same","falls","_law_divisors","left","_law_figures","bounds","low","sorted","_law_wrong","script","begins","some","checks","_law_gone","_law_parts","_law_euclid","_law_power","_law_turned","_law_sorted","failed_at",".0","data","loops","fns","DATA","DEFLINES","FNEND","worth","store","value_of_name","plus","arrays","out","inputs","files","open","fields","seed","steps","depth","handler","is_handling","error_line","error_code","is_traced","traces","common","put","item_of","buffer","ERR","ERL","asked","long","_law_data","note"]
noncomputable def qe:Nat:=4
noncomputable def lu:Nat:=91
noncomputable def mD:Nat:=92
noncomputable def ji:Nat:=99
noncomputable def OX:Nat:=100
noncomputable def O7:Nat:=101
noncomputable def OZ:Nat:=103
noncomputable def zQ:Nat:=104
noncomputable def OY:Nat:=105
noncomputable def dS(i:Nat):Option Fn:=aS iB i
end
end
section
theorem nf(h:false=true):P:=(eQ h).elim
noncomputable def il(n:Nat):Nat:=if h:n<10 then 1 else il (n/10)+1
termination_by n
decreasing_by lia
noncomputable def strip(n:Nat):Nat:=if h:n=0∨n%10≠0 then n else strip (n/10)
termination_by n
decreasing_by lia
noncomputable def HZ(n:Nat):Nat:=if h:n=0∨n%10≠0 then 0 else HZ (n/10)+1
termination_by n
decreasing_by lia
noncomputable def dv(a b:Int):List Int:=((aI 60).map fun i:Nat=>((i:Int)+1)).filter fun d=>a.fmod d==0&&b.fmod d==0
noncomputable def fz(a:Int):List Int→List Int
 | []=>[a]
 |b::r=>if b<a then b::fz a r else a::b::r
noncomputable def lN:List Int→List Int
 | []=>[]
 |a::r=>fz a (lN r)
noncomputable def WW:List Int→Nat
 | []=>0
 |a::r=>(r.filter fun b=>b<a).length+WW r
structure Val where
 i:Nat→Int
 d:Int→Int→Int
 g:Nat→List SV
 r:List (IX×Int×SV)
noncomputable def F1(f:Nat)(a:Int):Int:=match f with
 |0=>(il a.toNat:Int)
 |1=>(strip a.toNat:Int)
 |2=>(HZ a.toNat:Int)
 |_=>0
noncomputable def IX.eval(ρ:Val):IX→Int
 | .lit n=>n
 | .var i=>ρ.i i
 | .add a b=>a.eval ρ+b.eval ρ
 | .sub a b=>a.eval ρ-b.eval ρ
 | .mul a b=>a.eval ρ*b.eval ρ
 | .neg a=> -a.eval ρ
 | .abs a=>((a.eval ρ).natAbs:Int)
 | .fdiv a b=>(a.eval ρ).fdiv (b.eval ρ)
 | .fmod a b=>(a.eval ρ).fmod (b.eval ρ)
 | .pow a b=>(a.eval ρ)^(b.eval ρ).toNat
 | .f1 f a=>F1 f (a.eval ρ)
 | .f2 0 a b=>ρ.d (a.eval ρ) (b.eval ρ)
 | .f2 1 a b=>(dv (a.eval ρ) (b.eval ρ)).getLastD 0
 | .f2 _ a b=>0
noncomputable def LX.eval(ρ:Val):LX→List Int
 | .mk 0 (a::b::_)=>dv (a.eval ρ) (b.eval ρ)
 | .mk 1 l=>lN (l.map (IX.eval ρ))
 | .mk _ _=>[]
noncomputable def CX.holds(ρ:Val):CX→Prop
 | .lt a b t=>decide (a.eval ρ<b.eval ρ)=t
 | .eq a b t=>decide (a.eval ρ=b.eval ρ)=t
 | .mc a b t=>decide (a.eval ρ=b.eval ρ)=t
 | .room g=>(ρ.g g).length<1000000
noncomputable def cY(ρ:Val):List CX→Prop
 | []=>True
 |c::r=>c.holds ρ∧cY ρ r
noncomputable def Ok(ρ:Val)(F:Nat→SV→En→Hp→Prop):Res→Prop
 | .bad _=>False
 | .ok c f v e h=>cY ρ c∧F f v e h
section
variable{ρ:Val}
theorem a0(h:Ok ρ F (bad n)):False:=h
theorem iR{c:CX}{r:Res}(h:Ok ρ F (fM c r)):c.holds ρ∧Ok ρ F r:=by
 induction r with
 |bad n=>exact h.elim
 |ok cs f v e hp=>exact⟨h.1.1,h.1.2,h.2⟩
theorem bp{x y:Res}(h:Ok ρ F (cond b x y))(h1:b=true→Ok ρ F x→P)(h2:b=false→Ok ρ F y→P):P:=by
 induction b with
 |true=>exact h1 rfl h
 |false=>exact h2 rfl h
theorem aJ{x:Res}(h:Ok ρ F (cond b x (bad n))):b=true∧Ok ρ F x:=by
 induction b with
 |true=>exact⟨rfl,h⟩
 |false=>exact h.elim
theorem sF{x:Res}(h:Ok ρ F (cond b (bad n) x)):b=false∧Ok ρ F x:=by
 induction b with
 |true=>exact h.elim
 |false=>exact⟨rfl,h⟩
theorem yes{x:Res}(h:Ok ρ F (cond b x (bad n)))(f:b=true→Ok ρ F x→P):P:=f (aJ h).1 (aJ h).2
theorem lz{x y:Res}(f:b=true→Ok ρ F x→P)(g:Ok ρ F y→P)(h:Ok ρ F (cond b x y)):P:=bp h f fun _=>g
theorem nV(h:Ok ρ F (cond b (k true) (k false))):Ok ρ F (k b):=by induction b<;>exact h
theorem sQ{c:CX}{t:Bool}(h:Ok ρ F (t4 c t k)):c.holds ρ∧Ok ρ F (k t):=⟨(iR h).1,nV (iR h).2⟩
noncomputable def Ct(v:SV):List SV:=[.none,.bool (rn v),.lit (pX v),v,.str (ct v),.tup (bU v),.ar (bU v),.bu (iA v),.fn (ct v),.cls (ct v),.bi (ct v),.c9,.ref (ct v),v,v,v,v,.au]
noncomputable def bB(l:List SV)(i:Nat):SV:=List.rec (motive:=fun _=>Nat→SV) (fun _=> .au) (fun a _ ih i=>Nat.rec a (fun j _=>ih j) i) l i
theorem eta(v:SV):v=bB (Ct v) v.ctorIdx:=by induction v using SV.casesOn<;>exact rfl
theorem bh{v:SV}{k:Nat}(e:aL v k=true):v=bB (Ct v) k:=(eta v).trans (congrArg (bB (Ct v)) (aZ e))
theorem litE{v:SV}{k:Int→Res}(q:Ok ρ F (gg v k))(H:∀n,v= .lit n→Ok ρ F (k n)→P):P:=H (pX v) (bh (aJ q).1) (aJ q).2
theorem yX{v:SV}{k:Nat→Res}(q:Ok ρ F (stK v k))(H:∀n,v= .str n→Ok ρ F (k n)→P):P:=H (ct v) (bh (aJ q).1) (aJ q).2
theorem MQ{v:SV}(q:Ok ρ F (yE v k))(H:∀n,v= .bool n→Ok ρ F (k n)→P):P:=H (rn v) (bh (aJ q).1) (aJ q).2
theorem Zq{v:SV}{k:Nat→Res}(q:Ok ρ F (gh v k))(H:∀n,v= .ref n→Ok ρ F (k n)→P):P:=H (ct v) (bh (aJ q).1) (aJ q).2
theorem KU{v:SV}{k:List SV→Res}(q:Ok ρ F (tupK v k))(H:∀n,v= .tup n→Ok ρ F (k n)→P):P:=H (bU v) (bh (aJ q).1) (aJ q).2
theorem lT{v:SV}{k:List SV→Res}(q:Ok ρ F (eE v k))(H:∀n,v= .ar n→Ok ρ F (k n)→P):P:=H (bU v) (bh (aJ q).1) (aJ q).2
theorem biE{v:SV}{k:Nat→Res}(q:Ok ρ F (yD v k))(H:∀n,v= .bi n→Ok ρ F (k n)→P):P:=H (ct v) (bh (aJ q).1) (aJ q).2
theorem td{v:SO}{k:List SV→Res}(q:Ok ρ F (mL v k)):(∀n,v= .lst n→Ok ρ F (k n)→P)→P:=by induction v using SO.casesOn with|lst n=>exact fun H=>H n rfl q|_=>exact q.elim
theorem Zw{v:SO}{k:List (Nat×SV)→Res}(q:Ok ρ F (L7 v k)):(∀n,v= .cb n→Ok ρ F (k n)→P)→P:=by induction v using SO.casesOn with|cb n=>exact fun H=>H n rfl q|_=>exact q.elim
theorem Lx{v:SO}{k:Nat→En→Res}(q:Ok ρ F (Cz v k)):(∀n l,v= .ins n l→Ok ρ F (k n l)→P)→P:=by induction v using SO.casesOn with|ins n l=>exact fun H=>H n l rfl q|_=>exact q.elim
theorem YR{v:SV}(e:bQ v=true):(∀n,v= .lit n→P)→(∀x n,v= .sym x n→P)→P:=by induction v using SV.casesOn with|lit n=>exact fun a _=>a n rfl|sym x n=>exact fun _ a=>a x n rfl|_=>exact nomatch e
end
structure oX where
 nm:Nat→Str
 fa:Nat→Addr
 ca:Nat→Addr
 bi:Nat→Value
 sw:Nat
 sn:Nat
 ic:Nat→Bool
 ia:Nat→Bool
 gp:Nat→Nat→Bool
section
variable(prog:Program) (w:World) (S:oX) (ρ:Val)
inductive VR (X:List Addr) (ad:List (Addr×Addr)) (h:Heap):Value→SV→Prop
 |none:VR X ad h .none .none
 |bool (b:Bool):VR X ad h (.bool b) (.bool b)
 |lit (n:Int) (t:Tok):VR X ad h (.int n t) (.lit n)
 |sym (e:IX) (n:Int) (t:Tok):VR X ad h (.int (e.eval ρ) t) (.sym e n)
 |str (i:Nat) (t:Tok):VR X ad h (.str (S.nm i) t) (.str i)
 |fn (i:Nat):VR X ad h (.ref (S.fa i)) (.fn i)
 |cls (i:Nat):VR X ad h (.ref (S.ca i)) (.cls i)
 |bi (i:Nat):VR X ad h (S.bi i) (.bi i)
 |au (v:Value):VR X ad h v .au
 |iu (e:IX) (n:Int) (t:Tok):VR X ad h (.str (Str.ofString (toString (e.eval ρ))) t) (.iu e n)
 |ref {i:Nat} {p:Addr×Addr}:ad[i]? =some p→VR X ad h (.ref p.1) (.ref i)
 |tup {a:Addr} {o:Obj} {f:Nat→Value} {l:List SV} {ep:Nat}:h.get? a=some o→o.cls= .type "tuple"→o.data= .seq ((aI l.length).map f).toArray ep→a∉X→
   (∀i V,l[i]? =some V→VR X ad h (f i) V)→VR X ad h (.ref a) (.tup l)
 |ar {a:Addr} {f:Nat→Value} {l:List SV} {ep:Nat}:h.get? a=some {cls:= .type "list",data:= .seq ((aI l.length).map f).toArray ep}→a∉X→
   (∀i V,l[i]? =some V→VR X ad h (f i) V)→VR X ad h (.ref a) (.ar l)
 |bu {a:Addr} {o:Obj} {f:Nat→Value} {m:Str→Option Value} {l:List (Nat×SV)}:h.get? a=some o→h.MapOf (strKind prog w) a m→a∉X→
   (∀x V,look l x=some V→cX V=false→m (S.nm x)=some (f x))→(∀x V,look l x=some V→VR X ad h (f x) V)→VR X ad h (.ref a) (.bu l)
 |lx {a:Addr} {o:Obj} {vs:List Value} {ep:Nat} (x:LX) (n:List Int):h.get? a=some o→o.cls= .type "list"→o.data= .seq vs.toArray ep→a∉X→IntsAre vs (x.eval ρ)→VR X ad h (.ref a) (.lx x n)
 |dy {a:Addr} {i f:Nat} {p:Addr×Addr}:h.get? a=some (methodObj (.ref (S.fa f)) (.ref p.1))→a∉X→ad[i]? =some p→VR X ad h (.ref a) (.dy i f)
 |oE {v:Value} {e:IX} {n:Int}:0≤e.eval ρ→VR X ad h v (.tup [.str S.sw,.sym e n])→VR X ad h v (.tree e n)
 |oC {v:Value} {e:IX} {n m:Int}:e.eval ρ<0→VR X ad h v (.tup [.str S.sn,.tup [.str S.sw,.sym (.sub (.lit (aq 0)) e) m]])→VR X ad h v (.tree e n)
 |c9 {a:Addr} {vs:List Value} {ns:List Int} {ep:Nat}:h.get? a=some {cls:= .type "list",data:= .seq vs.toArray ep}→a∉X→IntsAre vs ns→ns.length≤24→
   (∀i m:Nat,ρ.d (i:Int) (m:Int)=if h:i<ns.length then((ns[i]).natAbs:Int).fmod (m:Int) else((17*i+i/2+3:Nat):Int).fmod (m:Int))→VR X ad h (.ref a) .c9
variable{prog w S ρ}
variable(prog w S ρ) in
noncomputable def VI(X:List Addr)(ad:List (Addr×Addr))(h:Heap)(v:Value):SV→Prop
 | .none=>v= .none
 | .bool b=>v= .bool b
 | .lit n=>∃t,v= .int n t
 | .sym e _=>∃t,v= .int (e.eval ρ) t
 | .str i=>∃t,v= .str (S.nm i) t
 | .fn i=>v= .ref (S.fa i)
 | .cls i=>v= .ref (S.ca i)
 | .bi i=>v=S.bi i
 | .iu e _=>∃t,v= .str (Str.ofString (toString (e.eval ρ))) t
 | .ref i=>∃p:Addr×Addr,ad[i]? =some p∧v= .ref p.1
 | .tup l=>∃(a:Addr)(o:Obj)(f:Nat→Value)(ep:Nat),h.get? a=some o∧o.cls= .type "tuple"∧o.data= .seq ((aI l.length).map f).toArray ep∧a∉X∧(∀i V,l[i]? =some V→VR prog w S ρ X ad h (f i) V)∧v= .ref a
 | .ar l=>∃(a:Addr)(f:Nat→Value)(ep:Nat),h.get? a=some {cls:= .type "list",data:= .seq ((aI l.length).map f).toArray ep}∧a∉X∧(∀i V,l[i]? =some V→VR prog w S ρ X ad h (f i) V)∧v= .ref a
 | .bu l=>∃(a:Addr)(o:Obj)(f:Nat→Value)(m:Str→Option Value),h.get? a=some o∧h.MapOf (strKind prog w) a m∧a∉X∧(∀x V,look l x=some V→cX V=false→m (S.nm x)=some (f x))∧(∀x V,look l x=some V→VR prog w S ρ X ad h (f x) V)∧v= .ref a
 | .lx x _=>∃(a:Addr)(o:Obj)(vs:List Value)(ep:Nat),h.get? a=some o∧o.cls= .type "list"∧o.data= .seq vs.toArray ep∧a∉X∧IntsAre vs (x.eval ρ)∧v= .ref a
 | .dy i f=>∃(a:Addr)(p:Addr×Addr),h.get? a=some (methodObj (.ref (S.fa f)) (.ref p.1))∧a∉X∧ad[i]? =some p∧v= .ref a
 | .tree e n=>(0≤e.eval ρ∧VR prog w S ρ X ad h v (.tup [.str S.sw,.sym e n]))∨(e.eval ρ<0∧∃m,VR prog w S ρ X ad h v (.tup [.str S.sn,.tup [.str S.sw,.sym (.sub (.lit (aq 0)) e) m]]))
 | .c9=>∃(a:Addr)(vs:List Value)(ns:List Int)(ep:Nat),h.get? a=some {cls:= .type "list",data:= .seq vs.toArray ep}∧a∉X∧IntsAre vs ns∧ns.length≤24∧
  (∀i m:Nat,ρ.d (i:Int) (m:Int)=if h:i<ns.length then((ns[i]).natAbs:Int).fmod (m:Int) else((17*i+i/2+3:Nat):Int).fmod (m:Int))∧v= .ref a
 | .au=>True
section
variable{ad:List (Addr×Addr)} {h:Heap}
theorem VR.inv(r:VR prog w S ρ X ad h v V):VI prog w S ρ X ad h v V:=by
 induction r using VR.casesOn with
 |none=>exact rfl
 |bool b=>exact rfl
 |lit n t=>exact⟨t,rfl⟩
 |sym e n t=>exact⟨t,rfl⟩
 |str i t=>exact⟨t,rfl⟩
 |fn i=>exact rfl
 |cls i=>exact rfl
 |bi i=>exact rfl
 |au v=>exact trivial
 |iu e n t=>exact⟨t,rfl⟩
 |ref hp=>exact⟨_,hp,rfl⟩
 |tup a b c d e=>exact⟨_,_,_,_,a,b,c,d,e,rfl⟩
 |ar a b c=>exact⟨_,_,_,a,b,c,rfl⟩
 |bu a b c d e=>exact⟨_,_,_,_,a,b,c,d,e,rfl⟩
 |lx _ _ a b c d e=>exact⟨_,_,_,_,a,b,c,d,e,rfl⟩
 |dy a b c=>exact⟨_,_,a,b,c,rfl⟩
 |oE h0 r=>exact .inl ⟨h0,r⟩
 |oC h0 r=>exact .inr ⟨h0,_,r⟩
 |c9 a b c d e=>exact⟨_,_,_,_,a,b,c,d,e,rfl⟩
theorem VR.kl(r:VR prog w S ρ X ad h v .none):v= .none:=r.inv
theorem VR.lM(r:VR prog w S ρ X ad h v (.bool b)):v= .bool b:=r.inv
theorem VR.dj{n:Int}(r:VR prog w S ρ X ad h v (.lit n)):∃t,v= .int n t:=r.inv
theorem VR.fS{e:IX}{n:Int}(r:VR prog w S ρ X ad h v (.sym e n)):∃t,v= .int (e.eval ρ) t:=r.inv
theorem VR.i7(r:VR prog w S ρ X ad h v (.str i)):∃t,v= .str (S.nm i) t:=r.inv
theorem VR.D3(r:VR prog w S ρ X ad h v (.fn i)):v= .ref (S.fa i):=r.inv
theorem VR.Lw(r:VR prog w S ρ X ad h v (.cls i)):v= .ref (S.ca i):=r.inv
theorem VR.D2(r:VR prog w S ρ X ad h v (.bi i)):v=S.bi i:=r.inv
theorem VR.Kj{e:IX}{n:Int}(r:VR prog w S ρ X ad h v (.iu e n)):∃t,v= .str (Str.ofString (toString (e.eval ρ))) t:=r.inv
theorem VR.uc(r:VR prog w S ρ X ad h v (.ref i)):∃p:Addr×Addr,ad[i]? =some p∧v= .ref p.1:=r.inv
theorem VR.jG(r:VR prog w S ρ X ad h v (.tup l)):VI prog w S ρ X ad h v (.tup l):=r.inv
theorem VR.mT(r:VR prog w S ρ X ad h v (.ar l)):VI prog w S ρ X ad h v (.ar l):=r.inv
theorem VR.qK{l:List (Nat×SV)}(r:VR prog w S ρ X ad h v (.bu l)):VI prog w S ρ X ad h v (.bu l):=r.inv
theorem VR.Nq{x:LX}{n:List Int}(r:VR prog w S ρ X ad h v (.lx x n)):VI prog w S ρ X ad h v (.lx x n):=r.inv
theorem VR.YO(r:VR prog w S ρ X ad h v (.dy i f)):VI prog w S ρ X ad h v (.dy i f):=r.inv
theorem VR.aar(r:VR prog w S ρ X ad h v .c9):VI prog w S ρ X ad h v .c9:=r.inv
end
theorem VR.mono{ad ae:List (Addr×Addr)}{h h':Heap}(hk:∀b o,h.get? b=some o→b∉X→h'.get? b=some o∧b∉X')
  (yJ:∀(i:Nat)(p:Addr×Addr),ad[i]? =some p→ae[i]? =some p)(r:VR prog w S ρ X ad h v V):VR prog w S ρ X' ae h' v V:=by
 induction r with
 |none=>exact .none
 |bool b=>exact .bool b
 |lit n t=>exact .lit n t
 |sym e n t=>exact .sym e n t
 |str i t=>exact .str i t
 |fn i=>exact .fn i
 |cls i=>exact .cls i
 |bi i=>exact .bi i
 |au v=>exact .au v
 |iu e n t=>exact .iu e n t
 |ref hp=>exact .ref (yJ _ _ hp)
 |tup ho hc hd hx _ ih=>exact .tup (hk _ _ ho hx).1 hc hd (hk _ _ ho hx).2 ih
 |ar ho hx _ ih=>exact .ar (hk _ _ ho hx).1 (hk _ _ ho hx).2 ih
 |bu ho hm hx hf _ ih=>
  refine iI hm fun o' es ep kR r=> ?_
  exact .bu (hk _ _ ho hx).1 ⟨o',es,ep,(hk _ _ kR hx).1,r⟩ (hk _ _ ho hx).2 hf ih
 |lx x n ho hc hd hx hi=>exact .lx x n (hk _ _ ho hx).1 hc hd (hk _ _ ho hx).2 hi
 |dy ho hx hp=>exact .dy (hk _ _ ho hx).1 (hk _ _ ho hx).2 (yJ _ _ hp)
 |oE h0 _ ih=>exact .oE h0 ih
 |oC h0 _ ih=>exact .oC h0 ih
 |c9 ho hx hi hl hr=>exact .c9 (hk _ _ ho hx).1 (hk _ _ ho hx).2 hi hl hr
end
theorem rZ{f:Nat→Value}(h:∀(i:Nat)V,l[i]? =some V→R (f i) V):Paired R ((aI l.length).map f) l:=by
 induction l generalizing f with
 |nil=>exact .nil
 |cons a l ih=>
  rw[cw,Ob,fo,iN]
  exact .cons (h 0 a rfl) (ih fun i V e=>h (i+1) V e)
@[elab_as_elim] theorem p0(P:Paired R vs []){G:List Value→Prop}(h:G []):G vs:=by cases P;exact h
@[elab_as_elim] theorem p1(P:Paired R vs (V::l)){G:List Value→Prop}(h:∀v us,R v V→Paired R us l→G (v::us)):G vs:=by
 cases P with|cons a b=>exact h _ _ a b
theorem Eg{a:SV}(P:Paired R vs (a::l)):∃v r,vs=v::r∧R v a∧Paired R r l:=by cases P with|cons h r=>exact⟨_,_,rfl,h,r⟩
theorem NQ(P:Paired R vs []):vs= []:=by cases P;rfl
theorem zP(P:Paired R vs l):∃f:Nat→Value,vs=(aI l.length).map f∧∀(i:Nat)V,l[i]? =some V→R (f i) V:=by
 induction P with
 |nil=>exact⟨fun _=> .none,rfl,fun i V e=>nomatch e⟩
 | @cons v a vs l h r ih=>
  refine ak ih fun f e k=> ?_
  refine⟨fun i=>i.rec v fun i _=>f i,?_,fun i V e=> ?_⟩
  ·rw[cw,Ob,fo,iN,e]
   rfl
  ·induction i using Nat.casesAuxOn with
   |zero=>exact Option.some.inj e▸h
   |succ i=>exact k i V e
theorem Paired.get(P:Paired R vs l)(e:l[i]? =some V):∃v,vs[i]? =some v∧R v V:=by
 induction P generalizing i with
 |nil=>exact nomatch e
 |cons h r ih=>
  induction i using Nat.casesAuxOn with
  |zero=>exact⟨_,rfl,Option.some.inj e▸h⟩
  |succ i=>exact ih e
theorem Paired.imp(k:∀v V,R v V→R' v V)(P:Paired R vs l):Paired R' vs l:=by
 induction P with
 |nil=>exact .nil
 |cons h r ih=>exact .cons (k _ _ h) ih
theorem Paired.append{rP:List Value}{l':List SV}(P:Paired R vs l)(q:Paired R rP l'):Paired R (vs++rP) (l++l'):=by
 induction P with
 |nil=>exact q
 |cons h r ih=>exact .cons h ih
section
variable(prog:Program) (w:World) (S:oX) (ρ:Val)
noncomputable abbrev VL(X:List Addr)(ad:List (Addr×Addr))(h:Heap)(vs:List Value)(l:List SV):Prop:=Paired (VR prog w S ρ X ad h) vs l
noncomputable def OR(X:List Addr)(ad:List (Addr×Addr))(h:Heap)(p:Addr×Addr):SO→Prop
 | .lst l=>p.2=p.1∧∃vs:List Value,h.PlainList p.1 vs.toArray∧VL prog w S ρ X ad h vs l
 | .fb g l=>p.2=p.1∧∃vs:List Value,h.PlainList p.1 vs.toArray∧VL prog w S ρ X ad h vs (ρ.g g++l)
 | .iF l=>p.2=p.1∧∃vs:List Value,h.PlainList p.1 vs.toArray∧∀q∈l++ρ.r,(∀n,q.1=IX.lit n→q.2.1=n)∧(0≤q.1.eval ρ∧q.1.eval ρ<2^63)∧∃v,vs[(q.1.eval ρ).toNat]? =some v∧VR prog w S ρ X ad h v q.2.2
 | .cb l=>p.2=p.1∧∃aU:List (Str×Value),h.DictOf (strKind prog w) p.1 aU∧(∀x V,look l x=some V→cX V=false→∃v,valueAt aU (S.nm x)=some v∧VR prog w S ρ X ad h v V)∧
   (∀s,(∀x V,look l x=some V→s≠S.nm x)→valueAt aU s=none)
 | .cz ex l=>p.2=p.1∧∃aU:List (Int×Value),h.DictOf (intKind prog w) p.1 aU∧(∀q∈l,(∀n,q.1=IX.lit n→q.2.1=n)∧∃v,valueAt aU (q.1.eval ρ)=some v∧VR prog w S ρ X ad h v q.2.2)∧
   (ex=true→∀n:Int,(∀q∈l,n≠q.1.eval ρ)→valueAt aU n=none)
 | .ins c l=>∃(sl:Array (Option Value))(m:Str→Option Value)(od:Obj),h.get? p.1=some ⟨.ref (S.ca c),some p.2,.plain,sl⟩∧h.get? p.2=some od∧h.Ns1 p.2 m∧S.ic c=true∧
   (∀x V,look l x=some V→cX V=false→∃v,m (S.nm x)=some v∧VR prog w S ρ X ad h v V)∧(∀s,(∀x V,look l x=some V→s≠S.nm x)→m s=none)
end
end
variable{ρ ρ':Val}
section
theorem z9{h h':Heap}{vs:Array Value}(e:h'.get? a=h.get? a)(p:h.PlainList a vs):h'.PlainList a vs:=av p fun n ho=>⟨n,e.trans ho⟩
theorem Fy{prog:Program}{Kk:Type} [DecidableEq Kk]{knd:PySem.KeyKind prog w Kk}{h h':Heap}{aU:List (Kk×Value)}(e:h'.get? a=h.get? a)(p:Heap.DictOf knd h a aU):Heap.DictOf knd h' a aU:=by
 unfold Heap.DictOf
 rw[e];exact p
theorem Ur{h h':Heap}(e:h'.get? a=h.get? a)(p:h.Ns1 a m):h'.Ns1 a m:=by
 unfold Heap.Ns1
 rw[e];exact p
theorem OR.mono{prog:Program}{S:oX}{ad ae:List (Addr×Addr)}{h h':Heap}{o:SO}
  (hk:∀b o,h.get? b=some o→b∉X→h'.get? b=some o∧b∉X')(yJ:∀(i:Nat)(p:Addr×Addr),ad[i]? =some p→ae[i]? =some p)
  (h1:h'.get? p.1=h.get? p.1)(h2:h'.get? p.2=h.get? p.2)(r:OR prog w S ρ X ad h p o):OR prog w S ρ X' ae h' p o:=by
 have vm:∀v V,VR prog w S ρ X ad h v V→VR prog w S ρ X' ae h' v V:=fun v V q=>q.mono hk yJ
 have em:∀{Q:Value→Prop}{V:SV},(∃v,Q v∧VR prog w S ρ X ad h v V)→∃v,Q v∧VR prog w S ρ X' ae h' v V:=fun q=>ak q fun v a b=>⟨v,a,vm _ _ b⟩
 induction o using SO.casesOn with
 |lst l=>exact⟨r.1,ak r.2 fun vs a b=>⟨vs,z9 h1 a,Paired.imp vm b⟩⟩
 |fb g l=>exact⟨r.1,ak r.2 fun vs a b=>⟨vs,z9 h1 a,Paired.imp vm b⟩⟩
 |iF l=>exact⟨r.1,ak r.2 fun vs a b=>⟨vs,z9 h1 a,fun q hq=>dq (b q hq) fun y1 y2 y3=>⟨y1,y2,em y3⟩⟩⟩
 |cb l=>exact⟨r.1,gz r.2 fun m a b d=>⟨m,Fy h1 a,fun x V e u=>em (b x V e u),d⟩⟩
 |cz ex l=>exact⟨r.1,gz r.2 fun m a b d=>⟨m,Fy h1 a,fun q hq=>ai (b q hq) fun y1 y2=>⟨y1,em y2⟩,d⟩⟩
 |ins c l=>
  obtain⟨sl,m,od,a,b,dd,d,e,f⟩:=r
  exact⟨sl,m,od,h1.trans a,h2.trans b,Ur h2 dd,d,fun x V e' u=>em (e x V e' u),f⟩
theorem g8{prog:Program}{S:oX}{ad:List (Addr×Addr)}{h:Heap}{o:SO}(r:OR prog w S ρ X ad h p o):(∃o,h.get? p.1=some o)∧∃o,h.get? p.2=some o:=by
 have k:p.2=p.1→(∃o,h.get? p.1=some o)→(∃o,h.get? p.1=some o)∧∃o,h.get? p.2=some o:=fun e x=>⟨x,e▸x⟩
 induction o with
 |lst l=>exact k r.1 (r.2.elim fun _ q=>q.1.elim fun _ ho=>⟨_,ho⟩)
 |fb g l=>exact k r.1 (r.2.elim fun _ q=>q.1.elim fun _ ho=>⟨_,ho⟩)
 |iF l=>exact k r.1 (r.2.elim fun _ q=>q.1.elim fun _ ho=>⟨_,ho⟩)
 |cb l=>exact k r.1 (r.2.elim fun _ q=>q.1.elim fun o q=>q.elim fun _ q=>q.elim fun _ q=>⟨o,q.1⟩)
 |cz x l=>exact k r.1 (r.2.elim fun _ q=>q.1.elim fun o q=>q.elim fun _ q=>q.elim fun _ q=>⟨o,q.1⟩)
 |ins cc l=>obtain⟨sl,m,od,ho,uN,_⟩:=r;exact⟨⟨_,ho⟩,_,uN⟩
structure Cx where
 prog:Program
 w:World
 S:oX
 ρ:Val
 P:Prog
 K:Frag
 H:Heap
 s₀:Shared
 F:Nat→SV→En→Hp→Prop
namespace Cx
variable(c:Cx)
noncomputable abbrev VR(X:List Addr)(ad:List (Addr×Addr))(h:Heap)(v:Value)(V:SV):Prop:=Internal.VR c.prog c.w c.S c.ρ X ad h v V
noncomputable abbrev VL(X:List Addr)(ad:List (Addr×Addr))(h:Heap)(vs:List Value)(l:List SV):Prop:=Paired (c.VR X ad h) vs l
noncomputable abbrev OR(X:List Addr)(ad:List (Addr×Addr))(h:Heap)(p:Addr×Addr)(o:SO):Prop:=Internal.OR c.prog c.w c.S c.ρ X ad h p o
noncomputable abbrev Ok(r:Res):Prop:=Internal.Ok c.ρ c.F r
noncomputable abbrev M:Model:=model c.prog c.w
end Cx
noncomputable abbrev Ad:=List (Addr×Addr)
noncomputable def Mt(ad:Ad)(b:Addr):Prop:=∃p∈ad,b=p.1∨b=p.2
structure Inv(c:Cx)(X:List Addr)(ad:Ad)(h:Hp)(s:Shared):Prop where
 base:∀b o,c.H.get? b=some o→s.heap.get? b=some o
 len:ad.length=h.length
 fit:∀(i:Nat)o,aS h i=some o→∃p,ad[i]? =some p∧c.OR X ad s.heap p o
 sep:∀(i j:Nat)p q,ad[i]? =some p→ad[j]? =some q→i≠j→p.1≠q.1∧p.1≠q.2∧p.2≠q.1∧p.2≠q.2
 bc:∀b,Mt ad b→b∈X
 live:∀a∈X,∃o,s.heap.get? a=some o
 own:∀a∈X,c.H.get? a=none
 rest:∃hp tk,s={c.s₀ with heap:=hp,toks:=tk}
structure Step(D X:List Addr)(ad:Ad)(s:Shared)(X':List Addr)(ae:Ad)(s':Shared):Prop where
 keep:∀b o,s.heap.get? b=some o→b∉D→¬Mt ad b→s'.heap.get? b=some o
 size:s.heap.objs.size≤s'.heap.objs.size
 kL:∀(i:Nat)p,ad[i]? =some p→ae[i]? =some p
 dI:∀b,Mt ae b→Mt ad b∨s.heap.objs.size≤b
 XK:∀a∈X,a∈X'
 XN:∀a∈X',a∈X∨s.heap.objs.size≤a
theorem Step.refl(D X:List Addr)(ad:Ad)(s:Shared):Step D X ad s X ad s:=
 ⟨fun _ _ e _ _=>e,bb _,fun _ _ e=>e,fun _ m=> .inl m,fun _ m=>m,fun _ m=> .inl m⟩
theorem Step.toks{ad:Ad}(t:Nat):Step D X ad s X ad {s with toks:=t}:=⟨fun _ _ e _ _=>e,bb _,fun _ _ e=>e,fun _ m=> .inl m,fun _ m=>m,fun _ m=> .inl m⟩
theorem Step.trans{ni:List Addr}{ad ae mP:Ad}(a:Step D X ad s X' ae s')(b:Step D X' ae s' ni mP fD):Step D X ad s ni mP fD where
 keep:=fun x o e hd hm=>b.keep x o (a.keep x o e hd hm) hd fun m=>(a.dI x m).elim hm fun q=>df _ (cV (Heap.lt_size e) q)
 size:=cx a.size b.size
 kL:=fun i p e=>b.kL i p (a.kL i p e)
 dI:=fun x m=>(b.dI x m).elim (a.dI x) fun q=> .inr (cx a.size q)
 XK:=fun x m=>b.XK x (a.XK x m)
 XN:=fun x m=>(b.XN x m).elim (a.XN x) fun q=> .inr (cx a.size q)
theorem Step.mono{D':List Addr}{ad ae:Ad}(a:Step D X ad s X' ae s')(h:∀x∈D,x∈D'):Step D' X ad s X' ae s':=
 {a with keep:=fun x o e hd hm=>a.keep x o e (fun q=>hd (h x q)) hm}
section
variable{c:Cx} {ad ae:Ad}
theorem Step.vr(t:Step D X ad s X' ae s')(hD:∀a∈D,a∈X)(hM:∀b,Mt ad b→b∈X)(r:c.VR X ad s.heap v V):c.VR X' ae s'.heap v V:=
 r.mono (fun b o e hx=>⟨t.keep b o e (fun m=>hx (hD b m)) fun m=>hx (hM b m),fun m=>(t.XN b m).elim hx fun q=>df _ (cV (Heap.lt_size e) q)⟩) t.kL
theorem Inv.vr(I:Inv c X ad h s)(t:Step D X ad s X' ae s')(hD:∀a∈D,a∈X)(r:c.VR X ad s.heap v V):c.VR X' ae s'.heap v V:=t.vr hD I.bc r
theorem Inv.cu(I:Inv c X ad h s)(t:Step [] X ad s X' ae s')(r:c.VR X ad s.heap v V):c.VR X' ae s'.heap v V:=t.vr (fun _ m=>nomatch m) I.bc r
theorem Inv.g6(I:Inv c X ad h s)(t:Step [] X ad s X' ae s')(r:c.VL X ad s.heap vs l):c.VL X' ae s'.heap vs l:=Paired.imp (fun _ _ q=>I.cu t q) r
theorem Inv.low(I:Inv c X ad h s):∀a∈X,a<s.heap.objs.size:=fun a m=>let⟨_,e⟩:=I.live a m;Heap.lt_size e
theorem Inv.toks(I:Inv c X ad h s)(t:Nat):Inv c X ad h {s with toks:=t}:=by
 refine gA I.rest fun a b e=> ?_
 exact⟨I.base,I.len,I.fit,I.sep,I.bc,I.live,I.own,a,t,by rw[e]⟩
theorem Inv.heap(I:Inv c X ad h s)(hk:∀b o,s.heap.get? b=some o→b∉D→g.get? b=some o)(hs:s.heap.objs.size≤g.objs.size)
  (hD:∀a∈D,a∈X∧¬Mt ad a)(hL:∀a∈D,∃o,g.get? a=some o):Inv c X ad h {s with heap:=g,toks:=t}∧Step D X ad s X ad {s with heap:=g,toks:=t}:=by
 have fit:∀(i:Nat)o,aS h i=some o→∃p,ad[i]? =some p∧c.OR X ad g p o:=by
  intro i o e
  refine ak (I.fit i o e) fun p hp r=> ?_
  have mem:p∈ad:=cf hp
  have ex:∀a,(∃o,s.heap.get? a=some o)→(a=p.1∨a=p.2)→g.get? a=s.heap.get? a:=fun a⟨o,e⟩q=>(hk a o e fun m=>(hD a m).2 ⟨p,mem,q⟩).trans e.symm
  have e1:=ex p.1 (g8 r).1 (.inl rfl)
  have e2:=ex p.2 (g8 r).2 (.inr rfl)
  exact⟨p,hp,r.mono (fun b o e hx=>⟨hk b o e fun m=>hx (hD b m).1,hx⟩) (fun _ _ e=>e) e1 e2⟩
 refine⟨⟨fun b o e=>hk b o (I.base b o e) fun m=> ?_,I.len,fit,I.sep,I.bc,fun a m=>(if q:a∈D then hL a q else let⟨o,e⟩:=I.live a m;⟨o,hk a o e q⟩),I.own,?_⟩,
  ⟨fun b o e hd _=>hk b o e hd,hs,fun _ _ e=>e,fun _ m=> .inl m,fun _ m=>m,fun _ m=> .inl m⟩⟩
 ·have:=I.own b (hD b m).1;rw[e] at this;(exfalso;injection this)
 ·refine gA I.rest fun a b e=> ?_
  exact⟨g,t,by rw[e]⟩
theorem Inv.push(I:Inv c X ad h s)(hk:∀b o,s.heap.get? b=some o→g.get? b=some o)(hs:s.heap.objs.size≤g.objs.size):
  Inv c X ad h {s with heap:=g,toks:=t}∧Step [] X ad s X ad {s with heap:=g,toks:=t}:=I.heap (fun b o e _=>hk b o e) hs (fun _ m=>nomatch m) fun _ m=>nomatch m
end
end
variable{ad:Ad}{c:Cx}
section
theorem wO{m:Nat}(h:m≠n):ag m n=false:=by
 induction q:ag m n using Bool.casesOn with
 |false=>rfl
 |true=>exact absurd (aZ q) h
theorem dc{α:Type}:∀(l:List α)(i:Nat),aS l i=l[i]?
 | [],i=>by induction i using Nat.casesAuxOn<;>rfl
 |a::l,0=>rfl
 |a::l,i+1=>by rw[y6];exact dc l i
noncomputable def CH{α:Type}(o:Option α)(no:Res)(k:α→Res):Res:=match o with|some a=>k a|none=>no
theorem wz{α:Type}(no:Res)(k:α→Res):∀(l:List α)(i:Nat),dG l i no k=CH l[i]? no k
 | [],i=>by induction i using Nat.casesAuxOn<;>rfl
 |a::l,0=>rfl
 |a::l,i+1=>by rw[y6];exact wz no k l i
theorem aac(x:Nat):look [] x=none:=rfl
theorem eB(y x:Nat)(v:SV)(r:En):look ((y,v)::r) x=if y=x then some v else look r x:=by
 show cond (ag y x) (some v) (look r x)=_
 by_cases h:y=x
 ·subst h;rw[if_pos rfl,mB];rfl
 ·rw[if_neg h,wO h];rfl
theorem sA(x:Nat)(no:Res)(k:SV→Res):∀l:En,ie l x no k=CH (look l x) no k
 | []=>rfl
 |(y,v)::r=>by
  rw[eB]
  show cond (ag y x) (k v) (ie r x no k)=_
  by_cases h:y=x
  ·subst h;rw[if_pos rfl,mB];rfl
  ·rw[if_neg h,wO h];exact sA x no k r
noncomputable def put:En→Nat→SV→En
 | [],x,v=>[(x,v)]
 |(y,w)::r,x,v=>if y=x then(x,v)::r else(y,w)::put r x v
theorem Ia(x:Nat)(v:SV):∀(l:En)(k:En→Res),putK l x v k=k (put l x v)
 | [],k=>rfl
 |(y,w)::r,k=>by
  show cond (ag y x) (k ((x,v)::r)) (putK r x v fun r'=>k ((y,w)::r'))=_
  unfold put
  by_cases h:y=x
  ·subst h;rw[if_pos rfl,mB];rfl
  ·rw[if_neg h,wO h];exact Ia x v r _
theorem lA(x y:Nat)(v:SV):∀l:En,look (put l x v) y=if x=y then some v else look l y
 | []=>by rw[put,eB]
 |(z,w)::r=>by
  unfold put
  by_cases h:z=x
  ·subst h;rw[if_pos rfl,eB,eB]
   by_cases q:z=y<;>simp[q]
  ·rw[if_neg h,eB,eB,lA x y v r]
   by_cases q:z=y
   ·subst q;rw[if_pos rfl,if_pos rfl,if_neg (Ne.symm h)]
   ·rw[if_neg q,if_neg q]
theorem PE(x:Nat)(v:SV):∀l:En,(put l x v).length=if(look l x).isSome then l.length else l.length+1
 | []=>rfl
 |(z,w)::r=>by
  unfold put
  rw[eB]
  by_cases h:z=x
  ·simp[h]
  ·rw[if_neg h,if_neg h,cw,PE x v r]
   split<;>simp
theorem Io{α:Type}(o:α):∀(l:List α)(i:Nat)(k:List α→Res),er l i o k=k (l.set i o)
 | [],i,k=>by induction i using Nat.casesAuxOn<;>rfl
 |a::l,0,k=>rfl
 |a::l,i+1,k=>by
  show er l i o (fun r'=>k (a::r'))=_
  rw[Io o l i];rfl
theorem len_eq{α:Type}:∀l:List α,len l=l.length
 | []=>rfl
 |a::l=>by show Nat.succ (len l)=_;rw[len_eq l];rfl
theorem dC{α:Type}:∀l m:List α,app l m=l++m
 | [],m=>rfl
 |a::l,m=>by show a::app l m=_;rw[dC l m];rfl
theorem Ht{α:Type}:∀(l m:List α)(k:List α→Res),jz l m k=k (l++m)
 | [],m,k=>rfl
 |a::l,m,k=>by
  show jz l m (fun r=>k (a::r))=_
  rw[Ht l m];rfl
theorem Ig{α:Type}(l:List α):∀n:Nat,oQ l n=(eR n l).flatten
 |0=>rfl
 |n+1=>by
  show app l (oQ l n)=_
  rw[dC,Ig l n];rfl
theorem Ih{α:Type}:∀l acc:List α,(List.rec (motive:=fun _=>List α→List α) (fun acc=>acc) (fun a _ ih acc=>ih (a::acc)) l acc)=l.reverse++acc
 | [],acc=>rfl
 |a::l,acc=>by
  have e:=Ih l (a::acc)
  rw[mu,mr]
  exact e
theorem wC{α:Type}(l:List α):jJ l=l.reverse:=(Ih l []).trans (iM _)
theorem w8:∀(n:Nat)(l:List SV),pR n l=l.take n
 |0,l=>by induction l using List.casesOn<;>rfl
 |n+1,[]=>rfl
 |n+1,a::l=>by show a::pR n l=_;rw[w8 n l];rfl
theorem wX:∀(n:Nat)(l:List SV),o9 n l=l.drop n
 |0,l=>by induction l using List.casesOn<;>rfl
 |n+1,[]=>rfl
 |n+1,a::l=>by show o9 n l=_;rw[wX n l];rfl
theorem j5(a b:Int):bH a b=decide (a<b):=by
 induction a with
 |ofNat m=>induction b with
  |ofNat n=>
   show bq m n=_
   rw[vt,decide_eq_true_iff]
   show dW (m+1) n=true↔_
   rw[E9]
   show _↔(m:Int)<(n:Int)
   lia
  |negSucc n=>show false=_;rw[eq_comm,decide_eq_false_iff_not];show¬((m:Int)<gC n);lia
 |negSucc m=>induction b with
  |ofNat n=>show true=_;rw[eq_comm,decide_eq_true_iff];show gC m<(n:Int);lia
  |negSucc n=>
   show bq n m=_
   rw[vt,decide_eq_true_iff]
   show dW (n+1) m=true↔_
   rw[E9]
   lia
theorem AI(m n:Nat):ag m n=decide (m=n):=by
 by_cases h:m=n
 ·subst h;rw[mB];simp
 ·rw[wO h];simp[h]
theorem iT(a b:Int):bV a b=decide (a=b):=by
 induction a with
 |ofNat m=>induction b with
  |ofNat n=>
   show ag m n=_
   rw[AI,vt,decide_eq_true_iff,decide_eq_true_iff]
   show _↔(m:Int)=(n:Int)
   lia
  |negSucc n=>show false=_;rw[eq_comm,decide_eq_false_iff_not];show¬((m:Int)=gC n);lia
 |negSucc m=>induction b with
  |ofNat n=>show false=_;rw[eq_comm,decide_eq_false_iff_not];show¬(gC m=(n:Int));lia
  |negSucc n=>
   show ag m n=_
   rw[AI,vt,decide_eq_true_iff,decide_eq_true_iff]
   lia
theorem bJ{a:Bool}:ah a b=true↔a=true∧b=true:=by induction a<;>induction b<;>simp[ah,cond]
theorem d1{a:Bool}(q:(ah a b)=true)(H:a=true→b=true→P):P:=H (bJ.mp q).1 (bJ.mp q).2
theorem o7{a b c:Bool}(q:(ah (ah a b) c)=true)(H:a=true→b=true→c=true→P):P:=d1 (bJ.mp q).1 fun xa xb=>H xa xb (bJ.mp q).2
theorem gj{a b c:Bool}(q:(ah a (ah b c))=true)(H:a=true→b=true→c=true→P):P:=d1 (bJ.mp q).2 (H (bJ.mp q).1)
theorem jR{a b c d:Bool}(q:(ah a (ah b (ah c d)))=true)(H:a=true→b=true→c=true→d=true→P):P:=gj (bJ.mp q).2 (H (bJ.mp q).1)
theorem dR4{a b c d e:Bool}(q:(ah a (ah b (ah c (ah d e))))=true)(H:a=true→b=true→c=true→d=true→e=true→P):P:=jR (bJ.mp q).2 (H (bJ.mp q).1)
theorem nn{α:Type}{a:α}(h:none=some a):P:=nomatch h
theorem ib{a b:Int}(h:bV a b=true):a=b:=of_decide_eq_true ((iT _ _).symm.trans h)
noncomputable def xV(V:SV):Bool:=aL V 3
theorem qf(h:xV V=true):V= .sym (aC V) (aW V):=by induction V using SV.casesOn<;>first|rfl|exact nf h
noncomputable def oN(V:SV)(n:Nat):Bool:=ah (aL V 2) (bV (pX V) (aq n))
theorem sI(h:oN V n=true):V= .lit (aq n):=d1 h fun a b=>(bh a).trans (congrArg SV.lit (ib b))
noncomputable def Lz(V:SV):Bool:=aL V 12
noncomputable def CU(V:SV):Nat:=ct V
theorem TX(h:Lz V=true):V= .ref (CU V):=bh h
theorem aab(h:isLit V=true):V= .lit (pX V):=bh h
noncomputable def LA(V:SV):Bool:=ah (aL V 1) (rn V)
theorem TY(h:LA V=true):V= .bool true:=d1 h fun a b=>(bh a).trans (congrArg SV.bool b)
noncomputable def Mc(V:SV)(n:Nat):Bool:=ah (aL V 4) (ag (ct V) n)
theorem Vd(h:Mc V n=true):V= .str n:=d1 h fun a b=>(bh a).trans (congrArg SV.str (aZ b))
noncomputable def iY(V:SV):List SV:=bU V
noncomputable def isTup(V:SV):Bool:=aL V 5
theorem GN(h:isTup V=true):V= .tup (iY V):=bh h
noncomputable def Kn(V:SV):Bool:=aL V 7
theorem RH(h:Kn V=true):∃l,V= .bu l:=⟨iA V,bh h⟩
noncomputable def Ko(V:SV):Bool:=aL V 6
theorem RI(h:Ko V=true):∃l,V= .ar l:=⟨bU V,bh h⟩
noncomputable def i9(l:List SV)(n:Nat):Bool:=ag (len l) n
theorem len0{α:Type}{l:List α}(h:ag (len l) 0=true):l= []:=by induction l using List.casesOn<;>first|rfl|exact nf h
theorem CD(h:i9 l 1=true):l= [bB l 0]:=by
 induction l using List.casesOn with
 |nil=>exact nf h
 |cons a l=>rw[len0 (l:=l) h];rfl
theorem ug(h:i9 l 2=true):l= [bB l 0,bB l 1]:=by
 induction l using List.casesOn with
 |nil=>exact nf h
 |cons a l=>rw[CD (l:=l) h];rfl
theorem LF(h:i9 l 3=true):l= [bB l 0,bB l 1,bB l 2]:=by
 induction l using List.casesOn with
 |nil=>exact nf h
 |cons a l=>rw[ug (l:=l) h];rfl
noncomputable def IX.tg:IX→Nat
 | .lit _=>0| .var _=>1| .add _ _=>2| .sub _ _=>3| .mul _ _=>4| .neg _=>5| .abs _=>6| .fdiv _ _=>7| .fmod _ _=>8| .pow _ _=>9| .f1 _ _=>10| .f2 _ _ _=>11
noncomputable def IX.lh:IX→IX
 | .add a _=>a| .sub a _=>a| .mul a _=>a| .neg a=>a| .abs a=>a| .fdiv a _=>a| .fmod a _=>a| .pow a _=>a| .f1 _ a=>a| .f2 _ a _=>a|a=>a
noncomputable def IX.rh:IX→IX
 | .add _ a=>a| .sub _ a=>a| .mul _ a=>a| .fdiv _ a=>a| .fmod _ a=>a| .pow _ a=>a| .f2 _ _ a=>a|a=>a
noncomputable def IX.nn:IX→Nat
 | .var i=>i| .f1 f _=>f| .f2 f _ _=>f|_=>0
noncomputable def IX.zz:IX→Int
 | .lit n=>n|_=>0
noncomputable def bW(a:IX):IX→Bool:=IX.rec (motive:=fun _=>IX→Bool)
 (fun n b=>ah (ag b.tg 0) (bV n b.zz)) (fun n b=>ah (ag b.tg 1) (ag n b.nn))
 (fun _ _ f g b=>ah (ag b.tg 2) (ah (f b.lh) (g b.rh))) (fun _ _ f g b=>ah (ag b.tg 3) (ah (f b.lh) (g b.rh))) (fun _ _ f g b=>ah (ag b.tg 4) (ah (f b.lh) (g b.rh)))
 (fun _ f b=>ah (ag b.tg 5) (f b.lh)) (fun _ f b=>ah (ag b.tg 6) (f b.lh))
 (fun _ _ f g b=>ah (ag b.tg 7) (ah (f b.lh) (g b.rh))) (fun _ _ f g b=>ah (ag b.tg 8) (ah (f b.lh) (g b.rh))) (fun _ _ f g b=>ah (ag b.tg 9) (ah (f b.lh) (g b.rh)))
 (fun n _ f b=>ah (ag b.tg 10) (ah (ag n b.nn) (f b.lh)))
 (fun n _ _ f g b=>ah (ag b.tg 11) (ah (ag n b.nn) (ah (f b.lh) (g b.rh)))) a
noncomputable def ks(t:Nat)(z:Int)(n:Nat)(l r:IX):IX:=match t with
 |0=> .lit z|1=> .var n|2=> .add l r|3=> .sub l r|4=> .mul l r|5=> .neg l|6=> .abs l|7=> .fdiv l r|8=> .fmod l r|9=> .pow l r|10=> .f1 n l|_=> .f2 n l r
theorem Um(a:IX):ks a.tg a.zz a.nn a.lh a.rh=a:=by induction a using IX.casesOn<;>rfl
theorem qg{a:IX}{z:Int}{l r:IX}(h1:ag a.tg t=true)(h2:ks t z n l r=ks t a.zz a.nn a.lh a.rh):ks t z n l r=a:=by
 rw[h2,←aZ h1,Um]
theorem qr{a b:IX}{x y:IX}(ix:∀{b},bW x b=true→x=b)(iy:∀{b},bW y b=true→y=b)(h:ah (ag b.tg t) (ah (bW x b.lh) (bW y b.rh))=true)(e:∀l r,ks t b.zz b.nn l r=ks t 0 0 l r):ks t 0 0 x y=b:=by
 refine gj h fun h1 h2 h3=> ?_
 exact qg h1 (by rw[ix h2,iy h3,e])
theorem Jt{a b:IX}{x:IX}(ix:∀{b},bW x b=true→x=b)(h:ah (ag b.tg t) (bW x b.lh)=true)(e:∀l r,ks t b.zz b.nn l r=ks t 0 0 l l):ks t 0 0 x x=b:=by
 refine d1 h fun h1 h2=> ?_
 exact qg h1 (by rw[ix h2,e])
theorem cg:∀{a b:IX},bW a b=true→a=b
 | .lit n,b,h=>qg (t:=0) (n:=0) (l:= .lit 0) (r:= .lit 0) (bJ.mp h).1 (congrArg IX.lit (ib (bJ.mp h).2))
 | .var n,b,h=>qg (t:=1) (z:=0) (l:= .lit 0) (r:= .lit 0) (bJ.mp h).1 (congrArg IX.var (aZ (bJ.mp h).2))
 | .add _ _,_,h=>qr (t:=2) (a:= .lit 0) cg cg h fun _ _=>rfl
 | .sub _ _,_,h=>qr (t:=3) (a:= .lit 0) cg cg h fun _ _=>rfl
 | .mul _ _,_,h=>qr (t:=4) (a:= .lit 0) cg cg h fun _ _=>rfl
 | .fdiv _ _,_,h=>qr (t:=7) (a:= .lit 0) cg cg h fun _ _=>rfl
 | .fmod _ _,_,h=>qr (t:=8) (a:= .lit 0) cg cg h fun _ _=>rfl
 | .pow _ _,_,h=>qr (t:=9) (a:= .lit 0) cg cg h fun _ _=>rfl
 | .neg _,_,h=>Jt (t:=5) (a:= .lit 0) cg h fun _ _=>rfl
 | .abs _,_,h=>Jt (t:=6) (a:= .lit 0) cg h fun _ _=>rfl
 | .f1 n x,b,h=>by
  refine gj h fun h1 h2 h3=> ?_
  exact qg (t:=10) (z:=0) (r:= .lit 0) h1 (by rw[cg h3,aZ h2];rfl)
 | .f2 n x y,b,h=>by
  refine jR h fun h1 h2 h3 h4=> ?_
  exact qg (t:=11) (z:=0) h1 (by rw[cg h3,cg h4,aZ h2];rfl)
noncomputable def xW(l:List IX):List IX→Bool:=List.rec (motive:=fun _=>List IX→Bool) (fun m=>List.casesOn m true fun _ _=>false) (fun a _ f m=>List.casesOn m false fun b r=>ah (bW a b) (f r)) l
theorem wq:∀{l m:List IX},xW l m=true→l=m
 | [],[],_=>rfl
 | [],_::_,h=>nf h
 |_::_,[],h=>nf h
 |_::_,_::_,h=>by obtain⟨h1,h2⟩:=bJ.mp h;rw[cg h1,wq h2]
noncomputable def uY:LX→LX→Bool
 | .mk f l,.mk g m=>ah (ag f g) (xW l m)
theorem w5:∀{a b:LX},uY a b=true→a=b
 | .mk f l,.mk g m,h=>by obtain⟨h1,h2⟩:=bJ.mp h;rw[aZ h1,wq h2]
noncomputable def xR(a b:Bool):Bool:=cond a b (cond b false true)
theorem AQ:∀{a b:Bool},xR a b=true→a=b:=by decide
noncomputable def rq(c d:CX):Bool:=match c with
 | .lt a b t=>(match d with| .lt a' b' t'=>ah (bW a a') (ah (bW b b') (xR t t'))|_=>false)
 | .eq a b t=>(match d with| .eq a' b' t'=>ah (bW a a') (ah (bW b b') (xR t t'))|_=>false)
 | .mc a b t=>(match d with| .mc a' b' t'=>ah (uY a a') (ah (uY b b') (xR t t'))|_=>false)
 | .room n=>(match d with| .room m=>ag n m|_=>false)
theorem I6{c d:CX}(h:rq c d=true):c=d:=by
 induction c using CX.casesOn<;>induction d using CX.casesOn<;>first|exact nf h|skip
 ·refine gj h fun h1 h2 h3=> ?_
  rw[cg h1,cg h2,AQ h3]
 ·refine gj h fun h1 h2 h3=> ?_
  rw[cg h1,cg h2,AQ h3]
 ·refine gj h fun h1 h2 h3=> ?_
  rw[w5 h1,w5 h2,AQ h3]
 ·rw[aZ (show ag _ _=true from h)]
theorem neg_eq(b:Bool):neg b= !b:=by induction b<;>rfl
section
variable{α:Type}
theorem Jr{o:Option α}{k:α→Res}(h:Ok ρ F (CH o (bad n) k)):∃a,o=some a∧Ok ρ F (k a):=by
 induction o with
 |none=>exact h.elim
 |some a=>exact⟨a,rfl,h⟩
theorem qh{l:List α}{k:α→Res}(h:Ok ρ F (dG l i (bad n) k)):∃a,l[i]? =some a∧Ok ρ F (k a):=Jr (wz (bad n) k l i▸h)
theorem Av{l:En}{x:Nat}{k:SV→Res}(h:Ok ρ F (ie l x (bad n) k)):∃a,look l x=some a∧Ok ρ F (k a):=Jr (sA x (bad n) k l▸h)
theorem n4{l:En}{x:Nat}{v:SV}{k:En→Res}(h:Ok ρ F (putK l x v k)):Ok ρ F (k (put l x v)):=Ia x v l k▸h
theorem j3{l:List α}{o:α}{k:List α→Res}(h:Ok ρ F (er l i o k)):Ok ρ F (k (l.set i o)):=Io o l i k▸h
theorem n3{l m:List α}{k:List α→Res}(h:Ok ρ F (jz l m k)):Ok ρ F (k (l++m)):=Ht l m k▸h
theorem sC{v:SV}{x:Res}(h:Ok ρ F (known v x (bad n))):cX v=false∧Ok ρ F x:=by
 induction v using SV.casesOn<;>first|exact h.elim|exact⟨rfl,h⟩
end
section
theorem Inv.get(I:Inv c X ad h s){o:SO}(e:h[i]? =some o):∃p,ad[i]? =some p∧c.OR X ad s.heap p o:=I.fit i o ((dc h i).trans e)
theorem JM(r:c.VR X ad g v (.ref i)):∃p,ad[i]? =some p∧v= .ref p.1:=by
 obtain⟨_,hp,rfl⟩:=VR.uc r;exact⟨_,hp,rfl⟩
theorem hY(I:Inv c X ad h s){a:SV}{k:Nat→SO→Res}(q:c.Ok (gh a fun i=>dG h i (bad n) (k i)))(r:c.VR X ad s.heap v a)
  (H:∀i p o,a= .ref i→h[i]? =some o→ad[i]? =some p→v= .ref p.1→c.OR X ad s.heap p o→c.Ok (k i o)→P):P:=by
 refine Zq q fun i e z=> ?_;subst e
 refine ak (qh z) fun o ho q=> ?_
 refine ak (I.get ho) fun p hp R=> ?_
 refine ak (JM r) fun p' gn e=> ?_
 rw[hp] at gn;(injection gn with e1;subst e1)
 exact H i p o rfl ho hp e R q
theorem iU(e:ad[i]? =some p):Mt ad p.1∧Mt ad p.2:=⟨⟨p,cf e,.inl rfl⟩,⟨p,cf e,.inr rfl⟩⟩
theorem Inv.upd(I:Inv c X ad h s){o:SO}(hp:ad[i]? =some p)(hs:g.objs.size=s.heap.objs.size)
  (hk:∀b,b≠p.1→b≠p.2→g.get? b=s.heap.get? b)
  (ho:(∀v V,c.VR X ad s.heap v V→c.VR X ad g v V)→c.OR X ad g p o):Inv c X ad (h.set i o) {s with heap:=g,toks:=t}∧Step [] X ad s X ad {s with heap:=g,toks:=t}:=by
 have uT:=I.bc _ (iU hp).1
 have pE:=I.bc _ (iU hp).2
 have kk:∀b o,s.heap.get? b=some o→b∉X→g.get? b=some o∧b∉X:=fun b o e hx=>⟨(hk b (fun q=>hx (q▸uT)) fun q=>hx (q▸pE)).trans e,hx⟩
 have rD:=ho fun v V r=>r.mono kk fun _ _ e=>e
 refine⟨⟨fun b o e=>(hk b (fun q=> ?_) fun q=> ?_).trans (I.base b o e),by rw[zG];exact I.len,fun j o' e=> ?_,I.sep,I.bc,fun a m=>(if q1:a=p.1 then q1▸(g8 rD).1 else if q2:a=p.2 then q2▸(g8 rD).2 else let⟨o,e⟩:=I.live a m;⟨o,(hk a q1 q2).trans e⟩),I.own,?_⟩,
  ⟨fun b o e _ hm=>(hk b (fun q=>hm (q▸(iU hp).1)) fun q=>hm (q▸(iU hp).2)).trans e,mC hs.symm,fun _ _ e=>e,fun _ m=> .inl m,fun _ m=>m,fun _ m=> .inl m⟩⟩
 ·have:=I.own _ uT;rw[←q,e] at this;(exfalso;injection this)
 ·have:=I.own _ pE;rw[←q,e] at this;(exfalso;injection this)
 ·rw[dc] at e
  by_cases kQ:i=j
  ·subst kQ
   have DW:i<h.length:=by
    rcases fq i h.length with q|q
    ·exact q
    ·rw[jg (by rw[zG];exact q)] at e;(exfalso;injection e)
   rw[Oa DW] at e
   (injection e with e1;subst e1)
   exact⟨p,hp,ho fun v V r=>r.mono kk fun _ _ e=>e⟩
  ·rw[Oh kQ] at e
   refine ak (I.get e) fun q hq r=> ?_
   have sp:=I.sep j i q p hq hp (Ne.symm kQ)
   exact⟨q,hq,r.mono kk (fun _ _ e=>e) (hk _ sp.1 sp.2.1) (hk _ sp.2.2.1 sp.2.2.2)⟩
 ·refine gA I.rest fun a b e=> ?_
  exact⟨g,t,by rw[e]⟩
theorem AH{α:Type}{l:List α}{a q:α}(e:l[i]? =some q):(l++ [a])[i]? =some q:=by
 rw[iJ (dM.mp e).1];exact e
theorem wb{α:Type}{l:List α}{a q:α}(e:(l++ [a])[i]? =some q):l[i]? =some q∨(q=a∧i=l.length):=by
 rcases fq i l.length with z|z
 ·rw[iJ z] at e;exact .inl e
 ·rw[jU z] at e
  have lt:=(dM.mp e).1
  rw[EC] at lt
  have y:=zK.mp lt
  rw[y] at e
  exact .inr ⟨(Option.some.inj e).symm,Nat.le_antisymm (Of y) z⟩
theorem x4{p q:Addr}{G:Addr→Prop}(m:a∈p::q::X)(h1:G p)(h2:G q)(h3:a∈X→G a):G a:=
 (aE.mp m).elim (fun e=>e▸h1) fun m=>(aE.mp m).elim (fun e=>e▸h2) h3
theorem Inv.new(I:Inv c X ad h s){o:SO}(h1:s.heap.objs.size≤p.1)(h2:s.heap.objs.size≤p.2)(g1:p.1<g.objs.size)(g2:p.2<g.objs.size)
  (hH:c.H.objs.size≤s.heap.objs.size)(hk:∀b o,s.heap.get? b=some o→g.get? b=some o)
  (ho:c.OR (p.1::p.2::X) (ad++ [p]) g p o):Inv c (p.1::p.2::X) (ad++ [p]) (h++ [o]) {s with heap:=g,toks:=t}∧
   Step [] X ad s (p.1::p.2::X) (ad++ [p]) {s with heap:=g,toks:=t}∧(ad++ [p])[h.length]? =some p:=by
 have Kg:(ad++ [p])[h.length]? =some p:=by rw[←I.len,jU (bb _),vB];rfl
 have KC:∀b,Mt ad b→b<s.heap.objs.size:=fun b m=>I.low b (I.bc b m)
 have ne:∀b,b<s.heap.objs.size→b≠p.1∧b≠p.2:=fun b hb=>⟨jW (cV hb h1),jW (cV hb h2)⟩
 have kk:∀b o,s.heap.get? b=some o→b∉X→g.get? b=some o∧b∉p.1::p.2::X:=fun b o e hx=>⟨hk b o e,fun m=>x4 (G:=fun x=>x=b→False) m (fun q=>(ne b (Heap.lt_size e)).1 q.symm) (fun q=>(ne b (Heap.lt_size e)).2 q.symm) (fun m _=>hx m) rfl⟩
 have NF:∀b,Mt (ad++ [p]) b→Mt ad b∨b=p.1∨b=p.2:=fun b m=>ak m fun q hq e=>(bj.mp hq).elim (fun m=> .inl ⟨q,m,e⟩) fun m=> .inr (bx.mp m▸e)
 have big:∀a,s.heap.objs.size≤a→c.H.get? a=none:=fun a q=>by
  induction z:c.H.get? a using Option.casesOn with
  |none=>rfl
  |some o=>exact absurd (Heap.lt_size z) (PC.mpr (cx hH q))
 have gr:∀b,s.heap.objs.size≤b→b∈X∨s.heap.objs.size≤b:=fun _=> .inr
 refine⟨⟨fun b o e=>hk b o (I.base b o e),by rw[cH,cH,I.len];rfl,fun i o' e=> ?_,fun i j q q' e e' kQ=> ?_,fun b m=> ?_,fun a m=>x4 (G:=fun a=>∃o,g.get? a=some o) m (g8 ho).1 (g8 ho).2 fun m=>av (I.live a m) fun o e=>⟨o,hk a o e⟩,fun a m=>x4 (G:=fun a=>c.H.get? a=none) m (big _ h1) (big _ h2) (I.own a),?_⟩,
  ⟨fun b o e _ _=>hk b o e,dU (p5 h1 g1),fun i q e=>AH e,fun b m=>(NF b m).imp id fun q=>q.elim (fun e=>e▸h1) fun e=>e▸h2,fun a m=> .tail _ (.tail _ m),fun a m=>x4 (G:=fun a=>a∈X∨s.heap.objs.size≤a) m (gr _ h1) (gr _ h2) .inl⟩,Kg⟩
 ·rw[dc] at e
  rcases wb e with e|⟨r1,hi⟩
  ·refine ak (I.get e) fun q hq r=> ?_
   have e1:∀a,(∃o,s.heap.get? a=some o)→g.get? a=s.heap.get? a:=fun a z=>av z fun o e=>(hk a o e).trans e.symm
   exact⟨q,AH hq,r.mono kk (fun i q e=>AH e) (e1 _ (g8 r).1) (e1 _ (g8 r).2)⟩
  ·rw[r1,hi];exact⟨p,Kg,ho⟩
 ·have old:∀{q:Addr×Addr}{i:Nat},ad[i]? =some q→(q.1≠p.1∧q.1≠p.2)∧q.2≠p.1∧q.2≠p.2:=fun e=>⟨ne _ (KC _ (iU e).1),ne _ (KC _ (iU e).2)⟩
  rcases wb e with e1|⟨r1,hi⟩
  ·rcases wb e' with e2|⟨r2,hj⟩
   ·exact I.sep i j q q' e1 e2 kQ
   ·rw[r2];exact ai (old e1) fun a b=>⟨a.1,a.2,b.1,b.2⟩
  ·rcases wb e' with e2|⟨r2,hj⟩
   ·rw[r1];exact ai (old e2) fun a b=>⟨Ne.symm a.1,Ne.symm b.1,Ne.symm a.2,Ne.symm b.2⟩
   ·exact absurd (hi.trans hj.symm) kQ
 ·rcases NF b m with m|m
  ·exact .tail _ (.tail _ (I.bc b m))
  ·rcases m with e|e
   ·rw[e];exact .head _
   ·rw[e];exact .tail _ (.head _)
 ·exact gA I.rest fun a b e=>⟨g,t,by rw[e]⟩
end
end
section
noncomputable abbrev NE:Value→Shared→Prop:=fun _ _=>False
theorem ay{M:Model}{α:Type}{t:Sem α}{Q Q':α→Shared→Prop}(h:wpAny M A t Q E s)(H:∀a s,Q a s→Q' a s):wpAny M A t Q' E s:=wpAny_mono h H fun _ _ x=>x
section
theorem eU{a:SV}(hi:bQ a=true)(r:c.VR X ad g v a):∃t,v= .int ((aC a).eval c.ρ) t:=by
 induction a using SV.casesOn with
 |lit n=>exact r.inv
 |sym e n=>exact r.inv
 |_=>exact nf hi
theorem xA{e:IX}{n:Int}{l:Bool}{t:Tok}(hl:l=true→e.eval c.ρ=n):c.VR X ad g (.int (e.eval c.ρ) t) (vI e n l):=by
 induction l using Bool.casesOn with
 |true=>show c.VR X ad g _ (.lit n);rw[hl rfl];exact .lit n t
 |false=>exact .sym e n t
theorem nW{a:SV}(h:isLit a=true):(aC a).eval c.ρ=aW a:=by
 induction a using SV.casesOn with
 |lit n=>rfl
 |_=>exact nf h
theorem lits{a b:SV}(h:ah (isLit a) (isLit b)=true):(aC a).eval c.ρ=aW a∧(aC b).eval c.ρ=aW b:=⟨nW (bJ.mp h).1,nW (bJ.mp h).2⟩
theorem oe{a b:SV}(h:c.Ok (ltI a b k)):c.Ok (k (decide ((aC a).eval c.ρ<(aC b).eval c.ρ))):=by
 refine bp h (fun hl h=> ?_) fun hl h=> ?_
 ·have e:=lits (c:=c) hl
  rw[e.1,e.2,←j5]
  exact nV h
 ·refine ai (sQ h) fun q h=> ?_
  have q':decide ((aC a).eval c.ρ<(aC b).eval c.ρ)=bH (aW a) (aW b):=q
  rw[q'];exact h
theorem PJ{a b:IX}(h:Ik a b=true):a=b:=by
 induction a using IX.casesOn with
 |var i=>induction b using IX.casesOn with
  |var j=>exact congrArg IX.var (aZ h)
  |_=>exact nf h
 |_=>exact nf h
theorem wY{a b:SV}(h:c.Ok (pa a b k)):c.Ok (k (decide ((aC a).eval c.ρ=(aC b).eval c.ρ))):=by
 refine bp h (fun hl h=> ?_) fun hl h=>bp h (fun hs h=> ?_) fun hs h=> ?_
 ·have e:=lits (c:=c) hl
  rw[e.1,e.2,←iT]
  exact nV h
 ·rw[PJ hs,decide_eq_true rfl];exact h
 ·refine ai (sQ h) fun q h=> ?_
  have q':decide ((aC a).eval c.ρ=(aC b).eval c.ρ)=bV (aW a) (aW b):=q
  rw[q'];exact h
theorem Tc:oI=18446744073709551616:=rfl
theorem IX.Ug{a b:Int}(e:IX.lit a= .lit b):a=b:=congrArg (fun x=>match x with| .lit n=>n|_=>0) e
theorem LH{x:Int}(h:decide (x<64)=true):x≤1000000:=fG (g7 (of_decide_eq_true h)) (by decide)
theorem Ae{x:Int}{N:Nat}(h1:x<(N:Int))(h2: -(N:Int)<x):x.natAbs<N:=by lia
theorem j0{a:SV}{k:Res}(h:c.Ok (oh a k)):((aC a).eval c.ρ).natAbs<2^64∧c.Ok k:=by
 refine bp h (fun hl h=>yes h fun q h=> ?_) fun hl h=> ?_
 ·refine d1 q fun q1 q2=> ?_
  rw[j5] at q1 q2
  rw[nW hl]
  exact⟨Ae (of_decide_eq_true q1) (of_decide_eq_true q2),h⟩
 ·have h1:=iR h
  have h2:=iR h1.2
  exact⟨Ae (of_decide_eq_true h1.1) (of_decide_eq_true h2.1),h2.2⟩
theorem EW{a b:Int}(ha:a.natAbs<2^64):IntMulOk a b:=IntMulOk.of_left (intBits_le ha)
inductive qD (c:Cx) (X:List Addr) (ad:Ad) (s:Shared) (k:SV→Res) (v:Value) (s':Shared):Prop
 |mk:∀V,c.Ok (k V)→bQ V=true→c.VR X ad s'.heap v V→s'={s with toks:=s.toks+1}→qD c X ad s k v s'
theorem Jj(e:IX)(n:Int)(l:Bool):bQ (vI e n l)=true:=by cases l<;>rfl
theorem Qj{a b:SV}{t u:Tok}{k:SV→Res}(h:c.Ok (sW .LShift a b k)):wpAny c.M A (binaryOp .LShift (.int ((aC a).eval c.ρ) t) (.int ((aC b).eval c.ρ) u)) (qD c X ad s k) NE s:=
 yes h fun hl h=>yes h fun q h=>by
  have q1:=bJ.mp (bJ.mp q).1
  have q2:=bJ.mp (bJ.mp q).2
  rw[j5,j5] at q1
  rw[neg_eq,neg_eq,j5,j5,nO,nO] at q2
  rw[(lits (c:=c) hl).1,(lits (c:=c) hl).2]
  have q3:aW a<(64:Nat):=of_decide_eq_true q1.1
  exact lshift_int_small (se.mp (of_decide_eq_false q2.2)) (LH q1.2) (Ae (EX q3 (by decide)) (EH (by decide) (se.mp (of_decide_eq_false q2.1)))) ⟨_,h,rfl,.lit _ _,rfl⟩
theorem Ra{op:Operator}{a b:SV}{va vb:Value}{k:SV→Res}(h:c.Ok (sW op a b k))(ha:bQ a=true)(hb:bQ b=true)
  (ra:c.VR X ad s.heap va a)(rb:c.VR X ad s.heap vb b):wpAny c.M A (binaryOp op va vb) (qD c X ad s k) NE s:=by
 refine av (eU ha ra) fun t af=> ?_;subst af
 refine av (eU hb rb) fun u af=> ?_;subst af
 have fin:∀(f:Int→Int→Int)(e:IX)(k':SV→Res),e.eval c.ρ=f ((aC a).eval c.ρ) ((aC b).eval c.ρ)→c.Ok (k' (vI e (f (aW a) (aW b)) (ah (isLit a) (isLit b))))→
   qD c X ad s k' (.int (f ((aC a).eval c.ρ) ((aC b).eval c.ρ)) s.toks) {s with toks:=s.toks+1}:=fun f e k' z h=>⟨_,h,Jj _ _ _,z▸xA fun q=>by rw[z,(lits q).1,(lits q).2],rfl⟩
 cases op with
 |Add=>exact add_int (fin (·+·) (.add (aC a) (aC b)) k rfl h)
 |Sub=>exact sub_int (fin (·-·) (.sub (aC a) (aC b)) k rfl h)
 |Mult=>exact mul_int (fin (·*·) (.mul (aC a) (aC b)) k rfl (j0 (j0 h).2).2) (EW (j0 h).1)
 |FloorDiv=>
  refine ai (j0 h) fun h2 h=> ?_
  refine ai (sF (wY h)) fun h0 h=> ?_
  exact floordiv_int (of_decide_eq_false h0) (fin Aq (.fdiv (aC a) (aC b)) k rfl h) (.inl (PyProof.noPylong_of_log2 (rV ((Pk (n:=((aC b).eval c.ρ).natAbs) (k:=64) fun z=>of_decide_eq_false h0 (Int.natAbs_eq_zero.mp z)).mpr h2) (by decide))))
 |Mod=>
  refine ai (sF (wY h)) fun h0 h=> ?_
  exact mod_int' (of_decide_eq_false h0) (fin sr (.fmod (aC a) (aC b)) k rfl h)
 |Pow=>
  refine ai (sF (oe h)) fun h0 h=> ?_
  refine ai (aJ (oe h)) fun h1 h=> ?_
  exact pow_int_small (se.mp (of_decide_eq_false h0)) (LH h1) (j0 h).1 (fin (fun a b=>a^b.toNat) (.pow (aC a) (aC b)) k rfl (j0 h).2)
 |LShift=>exact Qj h
 |_=>exact(a0 h).elim
end
end
section
noncomputable def Ge(h:Heap)(x:Str)(v:Value):Prop:=∃mg mb,h.Ns mainGlobals mg∧h.Ns builtinsNs mb∧(mg x=some v∨(mg x=none∧mb x=some v))
structure xB(c:Cx)(cc x:Nat):Prop where
 cls:∃cd,clsIn c.K (c.S.ca cc)=some cd∧cd.hasDict=true∧onlyObject cd.mro=true
 ga:findIn c.K (.ref (c.S.ca cc)) "__getattribute__"=some (some (.builtin "object.__getattribute__"))
 M3:findIn c.K (.ref (c.S.ca cc)) "__getattr__"=some none
 sa:findIn c.K (.ref (c.S.ca cc)) "__setattr__"=some (some (.builtin "object.__setattr__"))
 no:c.P.f6 cc x=none→findIn c.K (.ref (c.S.ca cc)) (c.S.nm x)=some none
 yes:∀f,c.P.f6 cc x=some f→findIn c.K (.ref (c.S.ca cc)) (c.S.nm x)=some (some (.ref (c.S.fa f)))∧specialIn c.K (.ref (c.S.fa f)) "__get__"=some (some (.builtin "function.__get__"))∧
  takesIn c.K (.ref (c.S.fa f))=some false∧typeIn c.K (.ref (c.S.fa f))=some (.type "function")∧copiedNames.contains (c.S.nm x)=false
structure ax(c:Cx):Prop where
 sys:∃o,c.H.get? sysModules=some o
 NX:∀i,PyData.strOk (c.S.nm i)=true
 inj:∀i j,c.S.nm i=c.S.nm j→i=j
 lim:c.H.NoLimit
 bin:∀i,c.S.bi i≠ .none
 eA:c.K.In c.H
 Ci:∀i a,c.S.bi i≠ .ref a
 o8:∀x,(c.S.nm x==("__debug__":Str))=false
 DC:∀x,(c.S.nm x==("__classdict__":Str))=false
 glob:∀x g,c.S.gp x g=true→∃v,Ge c.H (c.S.nm x) v∧c.VR [] [] c.H v (c.P.eG g)
 b1:c.S.bi 1= .builtin "len"
 b2:c.S.bi 2= .builtin "abs"
 b3:c.S.bi 3= .builtin "isinstance"
 b4:c.S.bi 4= .type "range"
 b5:c.S.bi 5= .type "enumerate"
 b6:c.S.bi 6= .type "zip"
 b7:c.S.bi 7= .type "reversed"
 b8:c.S.bi 8= .builtin "max"
 MK:c.S.bi 10= .builtin "sorted"
 uF:c.S.bi 11= .type "str"
 DA:c.S.bi 12= .type "tuple"
 ML:c.S.bi 13= .type "list"
 MM:c.S.bi 14= .type "dict"
 NI:c.S.nm 1="append"
 NJ:c.S.nm 2="pop"
 NL:c.S.nm 3="extend"
 NM:c.S.nm 4="count"
 NN:c.S.nm 5="get"
 hand:∀i,handedIn (c.S.bi i)=true
 fZ:∀cc x,c.S.ic cc=true→c.S.ia x=true→xB c cc x
 ND:∀cc i,c.P.init cc=some i→c.S.ic cc=true∧makesIn c.K (c.S.ca cc)=true∧findIn c.K (.ref (c.S.ca cc)) "__init__"=some (some (.ref (c.S.fa i)))∧typeIn c.K (.ref (c.S.fa i))=some (.type "function")∧keepIn c.K (.ref (c.S.ca cc))=true
 sw:c.S.sw=c.P.sw
 sn:c.S.sn=c.P.sn
 cps:∀i,c.P.cps i=(c.S.nm i).cps.toList
 chr:∀n i,c.P.chr n=some i→c.S.nm i=⟨#[n]⟩
section
variable(ρ:Val) (S:oX)
noncomputable def dat:Nat→SV→PyData
 |0,_=> .none
 |n+1,V=>match V with
  | .none=> .none
  | .bool b=> .bool b
  | .lit m=> .int m
  | .sym e _=> .int (e.eval ρ)
  | .str i=> .str (S.nm i)
  | .tup l=> .tuple (l.map (dat n))
  | .ar l=> .list (l.map (dat n))
  | .lx x _=> .list ((x.eval ρ).map .int)
  |_=> .none
end
theorem all_eq(f:SV→Bool)(l:List SV):(List.rec (motive:=fun _=>Bool) true (fun a _ r=>cond (f a) r false) l)=l.all f:=by
 induction l with
 |nil=>rfl
 |cons a l ih=>rw[rU,←ih];show cond (f a) _ false=_;cases f a<;>rfl
theorem Gy(n:Nat)(l:List SV):dF (n+1) (.tup l)=l.all (dF n):=all_eq (dF n) l
theorem Ao(n:Nat)(l:List SV):dF (n+1) (.ar l)=l.all (dF n):=all_eq (dF n) l
theorem Qx{f:Nat→Value}:∀v∈(aI l.length).map f,∃i V,l[i]? =some V∧v=f i:=by
 intro v hv
 refine ak (bz.mp hv) fun i hi af=> ?_;subst af
 have:i<l.length:=dN.mp hi
 exact⟨i,l[i],by simp[this],rfl⟩
section
theorem E6{D:SV→PyData}(P:Paired (fun v V=>∃as,Reads g v (D V) as) vs l):∃as,ReadsAll g vs (l.map D) as:=by
 induction P with
 |nil=>exact⟨[],.nil⟩
 |cons a _ ih=>exact a.elim fun as r=>ih.elim fun bs q=>⟨as++bs,.cons r q⟩
theorem Qy{ns:List Int}(P:IntsAre vs ns):∃as,ReadsAll g vs (ns.map PyData.int) as:=by
 induction P with
 |nil=>exact⟨[],.nil⟩
 |cons n t _ ih=>exact ih.elim fun bs q=>⟨[]++bs,.cons (.int _ _) q⟩
theorem G4(n:Nat)(h:dF n V=true)(r:c.VR X ad g v V):∃as,Reads g v (dat c.ρ c.S n V) as:=by
 induction n generalizing v V with
 |zero=>exact nf h
 |succ n ih=>
  have row:∀{l:List SV}{f:Nat→Value},l.all (dF n)=true→(∀i V,l[i]? =some V→c.VR X ad g (f i) V)→∃as,ReadsAll g ((aI l.length).map f) (l.map (dat c.ρ c.S n)) as:=fun h hr=>
   E6 (rZ fun i V e=>ih (aM.mp h _ (cf e)) (hr i V e))
  induction V using SV.casesOn with
  |none=>exact VR.kl r▸⟨_,.none⟩
  |bool b=>exact VR.lM r▸⟨_,.bool b⟩
  |lit m=>exact(VR.dj r).elim fun t e=>e▸⟨_,.int m t⟩
  |sym e m=>exact(VR.fS r).elim fun t e=>e▸⟨_,.int _ t⟩
  |str i=>exact(VR.i7 r).elim fun t e=>e▸⟨_,.str _ t⟩
  |tup l=>obtain⟨a,o,f,ep,ho,hc,hd,hx,hr,rfl⟩:=VR.jG r;exact(row (Gy n _▸h) hr).elim fun as q=>⟨_,.tuple ho hc hd q⟩
  |ar l=>obtain⟨a,f,ep,ho,hx,hr,rfl⟩:=VR.mT r;exact(row (Ao n _▸h) hr).elim fun as q=>⟨_,.list ho rfl rfl q⟩
  |lx x m=>obtain⟨a,o,vs,ep,ho,hc,hd,hx,hi,rfl⟩:=VR.Nq r;exact(Qy hi).elim fun as q=>⟨_,.list ho hc hd q⟩
  |_=>exact nf h
theorem zL{D:SV→PyData}:∀{l:List SV},(∀V∈l,(D V).canLay0=true)→PyData.canLayAll0 (l.map D)=true
 | [],_=>rfl
 |a::l,h=>by
  rw[fo,PyData.canLayAll0,h a (.head _),zL fun V m=>h V (.tail _ m)];rfl
theorem zO{D:SV→PyData}{k:Nat}:∀{l:List SV},(∀V∈l,(D V).depth≤k)→PyData.depthAll (l.map D)≤k
 | [],_=>fu _
 |a::l,h=>by
  rw[fo,PyData.depthAll]
  exact Nat.max_le.mpr ⟨h a (.head _),zO fun V m=>h V (.tail _ m)⟩
theorem E0:∀ns:List Int,PyData.canLayAll0 (ns.map PyData.int)=true
 | []=>rfl
 |a::l=>by rw[fo,PyData.canLayAll0,E0 l];rfl
theorem Fc:∀ns:List Int,PyData.depthAll (ns.map PyData.int)=0
 | []=>rfl
 |a::l=>by rw[fo,PyData.depthAll,Fc l];rfl
theorem Jm(C:ax c)(n:Nat)(V:SV):(dat c.ρ c.S n V).canLay0=true∧(dat c.ρ c.S n V).depth≤n:=by
 induction n generalizing V with
 |zero=>exact⟨rfl,fu _⟩
 |succ n ih=>
  induction V using SV.casesOn with
  |str i=>exact⟨C.NX _,fu _⟩
  |tup l=>exact⟨zL fun V _=>(ih V).1,mv (zO fun V _=>(ih V).2)⟩
  |ar l=>exact⟨zL fun V _=>(ih V).1,mv (zO fun V _=>(ih V).2)⟩
  |lx x m=>exact⟨E0 _,mv (cx (mC (Fc _)) (fu _))⟩
  |_=>exact⟨rfl,fu _⟩
theorem FX(C:ax c)(hn:n≤64)(V:SV):PySem.SeqAt.shaped (dat c.ρ c.S n V)=true:=by
 unfold PySem.SeqAt.shaped
 rw[(Jm C n V).1,decide_eq_true (cx (Jm C n V).2 hn)];rfl
theorem Ft(x y:Bool):qk x y=(x==y):=by cases x<;>cases y<;>rfl
theorem str_beq(C:ax c)(i j:Nat):ag i j=(c.S.nm i==c.S.nm j):=by
 rw[AI]
 by_cases h:i=j
 ·subst h;simp
 ·rw[decide_eq_false h]
  symm
  rw[beq_eq_false_iff_ne]
  exact fun e=>h (C.inj _ _ e)
theorem YD(x y:LX):decide (x.eval c.ρ=y.eval c.ρ)=PyData.eqvAll ((x.eval c.ρ).map .int) ((y.eval c.ρ).map .int):=by
 rw[PySem.W.ked_eqvAll]
theorem Bq{ev:SV→SV→(Bool→Res)→Res}(gW:∀a b k,dF n a=true→dF n b=true→c.Ok (ev a b k)→c.Ok (k (PyData.eqv (dat c.ρ c.S n a) (dat c.ρ c.S n b)))):
  ∀(l m:List SV)(k:Bool→Res),l.all (dF n)=true→m.all (dF n)=true→c.Ok (xS ev l m k)→c.Ok (k (PyData.eqvAll (l.map (dat c.ρ c.S n)) (m.map (dat c.ρ c.S n))))
 | [],[],k,_,_,h=>h
 | [],_::_,k,_,_,h=>h
 |_::_,[],k,_,_,h=>h
 |a::l,b::m,k,hl,hm,h=>by
  rw[rU,nQ] at hl hm
  have h':c.Ok (ev a b fun t=>cond t (xS ev l m k) (k false)):=h
  have l8:=gW a b _ hl.1 hm.1 h'
  rw[fo,fo,PyData.eqvAll]
  refine bp l8 (fun e q=> ?_) fun e q=> ?_
  ·rw[e,Bool.true_and];exact Bq gW l m k hl.2 hm.2 q
  ·rw[e,Bool.false_and];exact q
theorem Fd:∀(l m:List PyData),l.length≠m.length→PyData.eqvAll l m=false
 | [],[],h=>absurd rfl h
 | [],_::_,_=>rfl
 |_::_,[],_=>rfl
 |a::l,b::m,h=>by rw[PyData.eqvAll,Fd l m (fun e=>h (by simp[e])),zJ]
theorem HP(a b:Int):(a==b)=decide (a=b):=by
 by_cases h:a=b<;>simp[h]
theorem FA(C:ax c){ev:SV→SV→(Bool→Res)→Res}(gW:∀a b k,dF n a=true→dF n b=true→c.Ok (ev a b k)→c.Ok (k (PyData.eqv (dat c.ρ c.S n a) (dat c.ρ c.S n b))))
  (a b:SV)(k:Bool→Res)(ha:dF (n+1) a=true)(hb:dF (n+1) b=true)(h:c.Ok (Bp ev a b k)):c.Ok (k (PyData.eqv (dat c.ρ c.S (n+1) a) (dat c.ρ c.S (n+1) b))):=by
 induction a using SV.casesOn with
 |none=>clear ha hb gW;induction b using SV.casesOn<;>first|exact h|exact(a0 h).elim
 |bool x=>clear ha hb gW;induction b using SV.casesOn<;>first|exact h|exact(a0 h).elim|(show c.Ok (k (x==_));rw[←Ft];exact nV h)
 |lit x=>clear ha hb gW;induction b using SV.casesOn<;>first|exact h|exact(a0 h).elim|(have q:=wY h;show c.Ok (k (_==_));rw[HP];exact q)
 |sym x y=>clear ha hb gW;induction b using SV.casesOn<;>first|exact h|exact(a0 h).elim|(have q:=wY h;show c.Ok (k (_==_));rw[HP];exact q)
 |str i=>clear ha hb gW;induction b using SV.casesOn<;>first|exact h|exact(a0 h).elim|(show c.Ok (k (c.S.nm i==c.S.nm _));rw[←str_beq C];exact nV h)
 |tup l=>induction b using SV.casesOn with
  |tup m=>rw[Gy] at ha hb;exact Bq gW l m k ha hb h
  |_=>exact(a0 h).elim
 |ar l=>induction b using SV.casesOn with
  |ar m=>
   rw[Ao] at ha hb
   refine bp h (fun e q=>Bq gW l m k ha hb q) fun e q=> ?_
   rw[len_eq,len_eq] at e
   have:PyData.eqv (dat c.ρ c.S (n+1) (.ar l)) (dat c.ρ c.S (n+1) (.ar m))=false:=Fd _ _ (by rw[aT,aT];intro z;rw[z,mB] at e;(exfalso;injection e))
   rw[this];exact q
  |_=>exact(a0 h).elim
 |lx x s=>induction b using SV.casesOn with
  |lx y t=>
   refine ai (sQ h) fun q h=> ?_
   have q':decide (x.eval c.ρ=y.eval c.ρ)=Cr s t:=q
   show c.Ok (k (PyData.eqvAll _ _))
   rw[←YD,q'];exact h
  |_=>exact(a0 h).elim
 |_=>exact(a0 h).elim
theorem I9(C:ax c):∀(m n:Nat)(a b:SV)(k:Bool→Res),dF n a=true→dF n b=true→c.Ok (MY m a b k)→c.Ok (k (PyData.eqv (dat c.ρ c.S n a) (dat c.ρ c.S n b)))
 |0,_,_,_,_,_,_,h=>(a0 h).elim
 |m+1,0,_,_,_,ha,_,_=>nf ha
 |m+1,n+1,a,b,k,ha,hb,h=>FA C (fun a b k=>I9 C m n a b k) a b k ha hb h
theorem wm{a:SV}(h:fw a=true)(n:Nat):dF (n+1) a=true:=by induction a using SV.casesOn<;>first|rfl|exact nf h
theorem Bo(C:ax c){a b:SV}(h:c.Ok (nu a b k)):dF 8 a=true∧dF 8 b=true∧c.Ok (k (PyData.eqv (dat c.ρ c.S 8 a) (dat c.ρ c.S 8 b))):=by
 refine bp h (fun e q=> ?_) fun e q=> ?_
 ·refine ai (aJ q) fun e2 q=> ?_
  exact⟨wm e _,wm e2 _,FA C (n:=7) (ev:=fun _ _ _=>bad 12) (fun a b k _ _ h=>(a0 h).elim) a b k (wm e _) (wm e2 _) q⟩
 ·refine ai (aJ q) fun e2 q=> ?_
  refine d1 e2 fun e3 e4=> ?_
  exact⟨e3,e4,I9 C 20 8 a b k e3 e4 q⟩
end
end
section
inductive aF (c:Cx) (X:List Addr) (ad:Ad) (s:Shared) (k:K) (v:Value) (s':Shared):Prop
 |mk:∀V h' ae X',c.Ok (k V h')→c.VR X' ae s'.heap v V→Inv c X' ae h' s'→Step [] X ad s X' ae s'→aF c X ad s k v s'
theorem bX{t:Sem Value}{s0:Shared}{k:K}(h:wpAny c.M A t (aF c X ad s k) E s0)
  (H:∀v s' V h' ae X',c.Ok (k V h')→c.VR X' ae s'.heap v V→Inv c X' ae h' s'→Step [] X ad s X' ae s'→Q v s'):wpAny c.M A t Q E s0:=ay h fun v s'⟨V,h',ae,X',q,r,J,T⟩=>H v s' V h' ae X' q r J T
inductive qB (c:Cx) (s:Shared) (k:Bool→Res) (v:Value) (s':Shared):Prop
 |mk:∀b tk,v= .bool b→c.Ok (k b)→s'={s with toks:=tk}→qB c s k v s'
section
theorem Fx(I:Inv c X ad h s){a:SV}{k:SV→Res}(q:c.Ok (n7 a h k))(r:c.VR X ad s.heap v a):
  ∃a',c.Ok (k a')∧∀n,dF (n+1) a'=true→∃as,Reads s.heap v (dat c.ρ c.S (n+1) a') as:=by
 refine bp q (fun _ q=> ?_) fun _ q=>⟨_,q,fun n hn=>G4 (n+1) hn r⟩
 refine hY I q r fun i p o _ _ _ ev R q=> ?_;subst ev
 refine td q fun l e z=> ?_;subst e
 refine⟨.ar l,z,fun n hn=> ?_⟩
 obtain⟨_,vs,⟨m,ho⟩,P⟩:=R
 rw[Ao] at hn
 have key:∀{vs:List Value}{l:List SV},Paired (c.VR X ad s.heap) vs l→l.all (dF n)=true→Paired (fun v V=>∃as,Reads s.heap v (dat c.ρ c.S n V) as) vs l:=by
  intro vs l P
  induction P with
  |nil=>intro _;exact .nil
  |cons a b ih=>intro z;rw[rU,nQ] at z;exact .cons (G4 n z.1 a) (ih z.2)
 refine av (E6 (D:=dat c.ρ c.S n) (key P hn)) fun as z=> ?_
 exact⟨_,.list ho rfl rfl (by simpa using z)⟩
noncomputable def oF:Value→Value→Bool
 | .none,.none=>true
 | .bool a,.bool b=>a==b
 | .int a _,.int b _=>a==b
 | .str a _,.str b _=>a==b
 | .bool a,.int b _=>(if a then 1 else 0)==b
 | .int a _,.bool b=>a==(if b then 1 else 0)
 |_,_=>false
theorem Jg{a b:SV}{t:Shared}(ha:fw a=true)(hb:fw b=true)(ra:c.VR X ad s.heap v a)(rb:c.VR X ad s.heap u b):EqAt A t v u (oF v u):=by
 induction ra using VR.casesOn with
 |none=>induction rb using VR.casesOn with
  |none=>exact EqAt.same _
  |bool b=>exact EqAt.none_bool _
  |lit n t=>exact EqAt.none_int _ _
  |sym e n t=>exact EqAt.none_int _ _
  |str i t=>exact EqAt.none_str _ _
  |_=>exact nf hb
 |bool x=>induction rb using VR.casesOn with
  |none=>exact EqAt.bool_none _
  |bool b=>exact EqAt.bool_bool _ _
  |lit n t=>exact EqAt.bool_int _ _ _
  |sym e n t=>exact EqAt.bool_int _ _ _
  |str i t=>exact EqAt.bool_str _ _ _
  |_=>exact nf hb
 |lit n t=>induction rb using VR.casesOn with
  |none=>exact EqAt.int_none _ _
  |bool b=>exact EqAt.int_bool _ _ _
  |lit n t=>exact EqAt.int_int _ _ _ _
  |sym e n t=>exact EqAt.int_int _ _ _ _
  |str i t=>exact EqAt.int_str _ _ _ _
  |_=>exact nf hb
 |sym e n t=>induction rb using VR.casesOn with
  |none=>exact EqAt.int_none _ _
  |bool b=>exact EqAt.int_bool _ _ _
  |lit n t=>exact EqAt.int_int _ _ _ _
  |sym e n t=>exact EqAt.int_int _ _ _ _
  |str i t=>exact EqAt.int_str _ _ _ _
  |_=>exact nf hb
 |str i t=>induction rb using VR.casesOn with
  |none=>exact EqAt.str_none _ _
  |bool b=>exact EqAt.str_bool _ _ _
  |lit n t=>exact EqAt.str_int _ _ _ _
  |sym e n t=>exact EqAt.str_int _ _ _ _
  |str i t=>exact EqAt.str_str _ _ _ _
  |_=>exact nf hb
 |_=>exact nf ha
theorem Gb{a b:SV}(ha:fw a=true)(hb:fw b=true)(ra:c.VR X ad s.heap v a)(rb:c.VR X ad s.heap u b):PyData.eqv (dat c.ρ c.S 8 a) (dat c.ρ c.S 8 b)=oF v u:=by
 induction ra using VR.casesOn<;>first|exact nf ha|(induction rb using VR.casesOn<;>first|exact nf hb|rfl)
theorem zU:∀{l:List SV},wK l=true→∀V∈l,fw V=true
 | [],_,_,m=>nomatch m
 |a::l,h,V,m=>by
  have h:cond (fw a) (wK l) false=true:=h
  induction e:fw a using Bool.casesOn with
  |false=>rw[e] at h;exact nf h
  |true=>
   rw[e] at h
   rcases aE.mp m with rfl|m
   ·exact e
   ·exact zU h V m
theorem GU(C:ax c){a:SV}(ha:fw a=true)(ra:c.VR X ad s.heap u a):∀{l:List SV}{vs:List Value},(∀V∈l,fw V=true)→Paired (c.VR X ad s.heap) vs l→c.Ok (B4 a l k)→
  c.Ok (k (vs.any fun y=>oF y u))
 | [],_,_,P,q=>p0 P q
 |b::l,_,hl,P,q=>p1 P fun v vs rb P=>by
  have q:c.Ok (nu b a fun t=>cond t (k true) (B4 a l k)):=q
  refine dq (Bo C q) fun _ _ q=> ?_
  rw[Gb (hl b (.head _)) ha rb ra] at q
  rw[vy]
  refine bp q (fun e q=> ?_) fun e q=> ?_
  ·rw[e];exact q
  ·rw[e];exact GU C ha ra (fun V m=>hl V (.tail _ m)) P q
theorem V9(C:ax c){a:SV}{Q:Value→Shared→Prop}(ra:c.VR X ad s.heap u a)(rl:c.VR X ad s.heap v (.tup l))(q:c.Ok (LI a l k))
  :∃ae items,v= .ref ae∧s.heap.IsTuple ae items∧(∀y,y∈items→EqAt A s y u (oF y u))∧c.Ok (k (items.any fun y=>oF y u)):=by
 refine ai (aJ q) fun e q=> ?_
 refine d1 e fun ha hl=> ?_
 have uL:=zU hl
 obtain⟨_,_,_,_,ho,hc,hd,hx,hr,rfl⟩:=VR.jG rl
 have P:=rZ hr
 refine⟨_,_,rfl,⟨_,ho,hc,_,hd⟩,fun y hy=> ?_,?_⟩
 ·rw[OF] at hy
  refine eP (Qx y hy) fun i V hV af=> ?_;subst af
  have hi:=uL V (cf hV)
  exact Jg hi ha (hr i V hV) ra
 ·have:=GU C ha ra uL P q
  simpa using this
theorem HX(h:ag v.ctorIdx (Value.none).ctorIdx=false):v≠ .none:=fun e=>by rw[e] at h;exact nf h.symm
theorem Fe(C:ax c){a:SV}(q:c.Ok (AX a k))(r:c.VR X ad s.heap v a):(v= .none∧c.Ok (k true))∨(v≠ .none∧c.Ok (k false)):=by
 have tr:∀{v l},c.VR X ad s.heap v (.tup l)→v≠ .none:=fun r=>by obtain⟨_,_,_,_,_,_,_,_,_,e⟩:=VR.jG r;exact HX (by rw[e];rfl)
 induction r using VR.casesOn with
 |none=>exact .inl ⟨rfl,q⟩
 |bi i=>exact .inr ⟨C.bin i,q⟩
 |au v=>exact(a0 q).elim
 |oE _ r=>exact .inr ⟨tr r,q⟩
 |oC _ r=>exact .inr ⟨tr r,q⟩
 |_=>exact .inr ⟨HX rfl,q⟩
theorem vG{a:SV}(e:mG a=true):a= .none:=bh e
theorem PI{e:IX}{a:SV}{n:Int}(he:∀m,e= .lit m→n=m)(hn:bV n (aW a)=true)(ha:bQ a=true)(h:A8 e a=true):e.eval c.ρ=(aC a).eval c.ρ:=by
 induction e using IX.casesOn with
 |lit m=>
  rw[nW h]
  rw[iT,decide_eq_true_iff,he m rfl] at hn
  exact hn
 |var i=>induction a using SV.casesOn with
  |sym e' _=>induction e' using IX.casesOn with
   |var j=>exact congrArg c.ρ.i (aZ h)
   |_=>exact nf h
  |_=>exact nf h
 |_=>exact nf h
theorem vM{a:SV}(ha:bQ a=true){k:SV→Res}{no:Res}:∀{l:List (IX×Int×SV)},(∀q∈l,∀n,q.1=IX.lit n→q.2.1=n)→c.Ok (ta a l no k)→
  (∃q∈l,q.1.eval c.ρ=(aC a).eval c.ρ∧c.Ok (k q.2.2))∨(c.Ok no∧∀q∈l,bV q.2.1 (aW a)=false)
 | [],_,q=> .inr ⟨q,fun _ m=>nomatch m⟩
 |p::l,hl,q=>by
  have q:c.Ok (cond (bV p.2.1 (aW a)) (cond (A8 p.1 a) (k p.2.2) (fM (.eq p.1 (aC a) true) (k p.2.2))) (ta a l no k)):=q
  refine bp q (fun e q=> .inl ⟨p,.head _,?_⟩) fun e q=> ?_
  ·refine bp q (fun e2 q=>⟨PI (fun m z=>hl p (.head _) m z) e ha e2,q⟩) fun e2 q=> ?_
   refine ai (iR q) fun z q=> ?_
   exact⟨of_decide_eq_true z,q⟩
  ·rcases vM ha (fun q m=>hl q (.tail _ m)) q with⟨x,hx,y⟩|⟨x,y⟩
   ·exact .inl ⟨x,.tail _ hx,y⟩
   ·exact .inr ⟨x,fun r m=>by rcases aE.mp m with rfl|m;exact e;exact y r m⟩
theorem zV:∀{l:List (IX×Int×SV)},sU l=true→∀q∈l,∃n,q.1= .lit n
 | [],_,_,m=>nomatch m
 |a::l,h,q,m=>by
  have h:cond (tc a.1) (sU l) false=true:=h
  induction e:tc a.1 using Bool.casesOn with
  |false=>rw[e] at h;exact nf h
  |true=>
   rw[e] at h
   rcases aE.mp m with rfl|m
   ·cases z:q.1<;>first|exact⟨_,rfl⟩|(rw[z] at e;exact nf e)
   ·exact zV h q m
theorem AD(C:ax c){l:En}{x:Nat}(h:look l x=none):∀y V,look l y=some V→c.S.nm x≠c.S.nm y:=fun y V e z=>by
 rw[C.inj _ _ z,e] at h;(exfalso;injection h)
theorem HT(C:ax c){l:En}{y:Nat}{aU:List (Str×Value)}{no:Res}{k:SV→Res}(hf:∀x V,look l x=some V→cX V=false→∃v,valueAt aU (c.S.nm x)=some v∧c.VR X ad s.heap v V)
  (cq:∀s,(∀x V,look l x=some V→s≠c.S.nm x)→valueAt aU s=none)(q:c.Ok (ie l y no fun v=>known v (k v) (bad n))):
  (valueAt aU (c.S.nm y)=none∧c.Ok no)∨∃V x,valueAt aU (c.S.nm y)=some x∧c.Ok (k V)∧c.VR X ad s.heap x V:=by
 rw[sA] at q
 induction e:look l y using Option.casesOn with
 |none=>rw[e] at q;exact .inl ⟨cq _ (AD C e),q⟩
 |some V=>
  rw[e] at q
  refine ai (sC q) fun z q=> ?_
  refine ak (hf y V e z) fun x hx rx=> ?_
  exact .inr ⟨V,x,hx,q,rx⟩
theorem A4(C:ax c)(I:Inv c X ad h s)(hp:ad[i]? =some p):(p.1==sysModules)=false:=by
 rw[beq_eq_false_iff_ne]
 intro e
 have:=I.own _ (I.bc _ (iU hp).1)
 refine av C.sys fun o ho=> ?_
 rw[e,ho] at this;(exfalso;injection this)
theorem RG(C:ax c)(I:Inv c X ad h s){a:SV}{o:SO}(ho:h[i]? =some o)(hp:ad[i]? =some p)(R:c.OR X ad s.heap p o)
  (ra:c.VR X ad s.heap u a)(q:c.Ok (Kl a o k)):(wpAny c.M A (compareOp .In u (.ref p.1)) (qB c s k) NE s)∧∀k',(∀t,k t=k' (neg t))→wpAny c.M A (compareOp .NotIn u (.ref p.1)) (qB c s k') NE s:=by
 have sys:=A4 C I hp
 induction o with
 |cb l=>
  obtain⟨_,aU,hd,hf,cq⟩:=R
  have hm:=hd.mapOf
  refine yX (show c.Ok (stK a fun x=>ie l x (k false) fun v=>known v (k true) (bad 15)) from q) fun x e z=> ?_;subst e;replace q:=z
  refine av (VR.i7 ra) fun t e=> ?_;subst e
  have key:c.Ok (k (valueAt aU (c.S.nm x)).isSome):=by
   rcases HT C hf cq q with⟨e,q⟩|⟨V,x,e,q,_⟩<;>rw[e]<;>exact q
  refine⟨wpAny_in_of (strKind_is c.prog c.w _ t) sys hm ⟨_,_,rfl,key,rfl⟩,fun k' hk=>wpAny_notIn_of (strKind_is c.prog c.w _ t) sys hm ⟨_,_,rfl,?_,rfl⟩⟩
  rw[hk,neg_eq] at key;exact key
 |cz ex l=>
  obtain⟨_,aU,hd,hf,cq⟩:=R
  have hm:=hd.mapOf
  refine ai (aJ q) fun hi q=> ?_
  refine av (eU hi ra) fun t af=> ?_;subst af
  have key:c.Ok (k (valueAt aU ((aC a).eval c.ρ)).isSome):=by
   rcases vM hi (fun q m=>(hf q m).1) q with⟨x,hx,e,y⟩|⟨z,y⟩
   ·obtain⟨_,v,hv,_⟩:=hf x hx
    rw[←e,hv];exact y
   ·refine ai (aJ z) fun e z=> ?_
    refine gj e fun e1 e2 e3=> ?_
    rw[cq e1 _ fun q hq z=> ?_]
    ·exact z
    ·refine av (zV e3 q hq) fun n hn=> ?_
     have y:=y q hq
     rw[(hf q hq).1 n hn,iT,decide_eq_false_iff_not] at y
     rw[hn,nW e2] at z
     exact y z.symm
  refine⟨wpAny_in_of (intKind_is c.prog c.w _ t) sys hm ⟨_,_,rfl,key,rfl⟩,fun k' hk=>wpAny_notIn_of (intKind_is c.prog c.w _ t) sys hm ⟨_,_,rfl,?_,rfl⟩⟩
  rw[hk,neg_eq] at key;exact key
 |_=>exact(a0 q).elim
theorem Jh(C:ax c)(I:Inv c X ad h s){a b:SV}(ra:c.VR X ad s.heap v a)(rb:c.VR X ad s.heap u b)(q:c.Ok (D5 a b h k)):
  (wpAny c.M A (compareOp .In v u) (qB c s k) NE s)∧∀k',(∀t,k t=k' (neg t))→wpAny c.M A (compareOp .NotIn v u) (qB c s k') NE s:=by
 refine bp q (fun _ q=> ?_) fun _ q=> ?_
 ·refine hY I q rb fun i p o _ ho hp e R q=> ?_;subst e
  exact RG C I ho hp R ra q
 ·refine KU q fun l e q1=> ?_;subst e
  refine ll (V9 C (A:=A.in1) (Q:=fun _ _=>True) ra rb q1) fun t items af ht he q=> ?_;subst af
  refine⟨in_tupleAt _ ht he ⟨_,s.toks,rfl,by simpa using q,rfl⟩,fun k' hk=> ?_⟩
  rw[hk,neg_eq] at q
  exact notIn_tupleAt _ ht he ⟨_,s.toks,rfl,by simpa using q,rfl⟩
theorem JL{a b:SV}{x:Res}(q:c.Ok (two a b x)):bQ a=true∧bQ b=true∧c.Ok x:=by
 refine ai (aJ q) fun e q=> ?_
 exact⟨(bJ.mp e).1,(bJ.mp e).2,q⟩
theorem Jp(a b:Int):neg (decide (b<a))=decide (a≤b):=by
 rw[neg_eq]
 by_cases h:b<a
 ·rw[decide_eq_true h,decide_eq_false (by lia)];rfl
 ·rw[decide_eq_false h,decide_eq_true (by lia)];rfl
theorem VM(C:ax c)(I:Inv c X ad h s)(hu:A.units+70<cLine){op:CmpOp}{a b:SV}(q:c.Ok (xK op a b h k))(ra:c.VR X ad s.heap v a)(rb:c.VR X ad s.heap u b):
  wpAny c.M A (compareOp op v u) (qB c s k) NE s:=by
 have MZ:∀k',c.Ok (n7 a h fun a=>n7 b h fun b=>nu a b k')→∃da db as bs,Reads s.heap v da as∧Reads s.heap u db bs∧PySem.SeqAt.shaped da=true∧PySem.SeqAt.shaped db=true∧c.Ok (k' (PyData.eqv da db)):=fun k' q=>by
  refine ak (Fx I q ra) fun a' q ha=> ?_
  refine ak (Fx I q rb) fun b' q hb=> ?_
  refine dq (Bo C q) fun ea eb q=> ?_
  refine av (ha 7 ea) fun as ha=> ?_
  refine av (hb 7 eb) fun bs hb=> ?_
  exact⟨_,_,as,bs,ha,hb,FX C (by decide) _,FX C (by decide) _,q⟩
 have tI:∀{a b:SV}{v u:Value}{x:Res},c.Ok (two a b x)→c.VR X ad s.heap v a→c.VR X ad s.heap u b→∃t t',v= .int ((aC a).eval c.ρ) t∧u= .int ((aC b).eval c.ρ) t'∧c.Ok x:=fun q ra rb=>by
  refine dq (JL q) fun ha hb q=> ?_
  refine av (eU ha ra) fun t e=> ?_
  refine av (eU hb rb) fun t' e'=> ?_
  exact⟨t,t',e,e',q⟩
 induction op with
 |Eq=>
  obtain⟨da,db,as,bs,h1,h2,h3,h4,q⟩:=MZ k q
  exact eq_dataH h1 h2 h3 h4 (by lia) ⟨_,s.toks,rfl,q,rfl⟩
 |NotEq=>
  obtain⟨da,db,as,bs,h1,h2,h3,h4,q⟩:=MZ (fun t=>k (neg t)) q
  exact ne_dataH h1 h2 h3 h4 (by lia) ⟨_,s.toks,rfl,by rw[←neg_eq];exact q,rfl⟩
 |Lt=>
  refine dK (tI q ra rb) fun t t' af jS q=> ?_;subst af;subst jS
  exact lt_int ⟨_,s.toks,rfl,oe q,rfl⟩
 |Gt=>
  refine dK (tI q ra rb) fun t t' af jS q=> ?_;subst af;subst jS
  exact gt_int ⟨_,s.toks,rfl,oe q,rfl⟩
 |LtE=>
  refine dK (tI q ra rb) fun t t' af jS q=> ?_;subst af;subst jS
  have q:=oe q
  rw[Jp] at q
  exact le_int ⟨_,s.toks,rfl,q,rfl⟩
 |GtE=>
  refine dK (tI q ra rb) fun t t' af jS q=> ?_;subst af;subst jS
  have q:=oe q
  rw[Jp] at q
  exact ge_int ⟨_,s.toks,rfl,q,rfl⟩
 |Is=>
  refine ai (aJ q) fun e q=> ?_
  have e:=vG e;subst e
  have e:=VR.kl rb;subst e
  rcases Fe C q ra with⟨rfl,q⟩|⟨rC,q⟩
  ·exact is_none_none ⟨_,s.toks,rfl,q,rfl⟩
  ·exact is_none_ne rC ⟨_,s.toks,rfl,q,rfl⟩
 |IsNot=>
  refine ai (aJ q) fun e q=> ?_
  have e:=vG e;subst e
  have e:=VR.kl rb;subst e
  rcases Fe (k:=fun t=>k (neg t)) C q ra with⟨rfl,q⟩|⟨rC,q⟩
  ·exact isnot_none_none ⟨_,s.toks,rfl,q,rfl⟩
  ·exact isnot_none_ne rC ⟨_,s.toks,rfl,q,rfl⟩
 |In=>exact(Jh C I ra rb q).1
 |NotIn=>exact(Jh C I ra rb q).2 k fun t=>rfl
end
end
section
theorem blt_iff{a b:Nat}:bq a b=true↔a<b:=by
 show dW (a+1) b=true↔_
 rw[E9];exact Iff.rfl
theorem jo(h:big n=true):n<100000:=blt_iff.mp h
theorem lB(h:small n=true):n<1000:=blt_iff.mp h
theorem iP:(200000:Nat)≤sizeLine:=by rw[sizeLine_eq];decide
section
theorem j8(P:Paired R vs l):vs.length=l.length:=P.length
theorem lE{ep:Nat}(P:c.VL X ad g vs l)(ho:g.get? a=some {cls:= .type "list",data:= .seq vs.toArray ep})(hx:a∉X):c.VR X ad g (.ref a) (.ar l):=by
 refine ak (zP P) fun f e k=> ?_
 exact .ar (e▸ho) hx k
theorem j4{o:Obj}{ep:Nat}(P:c.VL X ad g vs l)(ho:g.get? a=some o)(hc:o.cls= .type "tuple")(hd:o.data= .seq vs.toArray ep)(hx:a∉X):c.VR X ad g (.ref a) (.tup l):=by
 refine ak (zP P) fun f e k=> ?_
 exact .tup ho hc (by rw[hd,e]) hx k
theorem Inv.fresh(I:Inv c X ad h s)(q:s.heap.objs.size≤a):a∉X:=fun m=>df _ (cV (I.low a m) q)
theorem Inv.V3(I:Inv c X ad h s)(q:s.heap.get? a=none):a∉X:=fun m=>let⟨o,e⟩:=I.live a m;by rw[q] at e;(exfalso;injection e)
theorem Inv.below(I:Inv c X ad h s)(hH:c.H.objs.size≤c.s₀.heap.objs.size)(hz:c.s₀.heap.objs.size≤s.heap.objs.size):c.H.objs.size≤s.heap.objs.size:=cx hH hz
theorem gE{o:Obj}(hf:o.isFreed=false):(s.heap.push o).get? s.heap.objs.size=some o:=Heap.get?_push_size _ hf
theorem ec{o:Obj}{b:Addr}{o':Obj}(e:s.heap.get? b=some o'):(s.heap.push o).get? b=some o':=Heap.get?_push_of_some _ e
theorem w6(C:ax c)(I:Inv c X ad h s)(hH:c.H.objs.size≤s.heap.objs.size){m:Bool}{k:K}(P:c.VL X ad s.heap vs l)(q:c.Ok (pJ m l h k))(g:Heap)(t:Nat)
  (ha:s.heap.objs.size≤a)(hg:a<g.objs.size)(hold:∀b o,s.heap.get? b=some o→g.get? b=some o){ep:Nat}(ho:g.get? a=some {cls:= .type "list",data:= .seq vs.toArray ep}):
  aF c X ad s k (.ref a) {s with heap:=g,toks:=t}:=by
 have kY:s.heap.objs.size≤g.objs.size:=dU (p5 ha hg)
 refine bp q (fun e q=> ?_) fun e q=> ?_
 ·have q:=n3 q
  rw[len_eq] at q
  have st:=I.push (g:=g) (t:=t) hold kY
  obtain⟨J,T,hp⟩:=I.new (p:=(a,a)) (o:= .lst l) (g:=g) (t:=t) ha ha hg hg hH hold (by
   refine⟨rfl,vs,⟨ep,ho⟩,?_⟩
   refine Paired.imp (fun v V r=>r.mono (fun b o e hx=>⟨hold b o e,fun m=> ?_⟩) fun i p e=> ?_) P
   ·have n:b≠a:=jW (cV (Heap.lt_size e) ha)
    rcases aE.mp m with z|m
    ·exact n z
    ·rcases aE.mp m with z|m
     ·exact n z
     ·exact hx m
   ·rw[iJ (by
     rcases fq i ad.length with z|z
     ·exact z
     ·rw[jg z] at e;(exfalso;injection e))]
    exact e)
  exact⟨_,_,_,_,q,.ref hp,J,T⟩
 ·refine ai (I.push (g:=g) (t:=t) hold kY) fun J T=> ?_
  refine⟨_,_,_,_,q,lE (I.g6 T P) ho (I.fresh ha),J,T⟩
theorem eL(r:c.VR X ad g v (.ar l))(H:∀x vs,v= .ref x→g.PlainList x vs.toArray→x∉X→c.VL X ad g vs l→P):P:=by
 obtain⟨x,_,_,ho,hx,hr,e⟩:=VR.mT r
 exact H x _ e ⟨_,ho⟩ hx (rZ hr)
theorem bg{a b:SV}(e:a=b)(r:c.VR X ad g v a):c.VR X ad g v b:=e▸r
theorem HU(I:Inv c X ad h s){a:SV}{k:List SV→Res}(q:c.Ok (lstK a h k))(r:c.VR X ad s.heap v a):
  ∃x vs l,v= .ref x∧s.heap.PlainList x vs.toArray∧c.VL X ad s.heap vs l∧l.length<100000∧c.Ok (k l):=by
 refine bp q (fun _ q=> ?_) fun _ q=> ?_
 ·refine hY I q r fun i p o _ _ hp ev R q=> ?_;subst ev
  refine td q fun l e z=> ?_;subst e
  refine ai (aJ z) fun e q=> ?_
  rw[len_eq] at e
  obtain⟨_,vs,hl,P⟩:=R
  exact⟨_,vs,l,rfl,hl,P,jo e,q⟩
 ·refine lT q fun l e z=> ?_;subst e
  refine ai (aJ z) fun e q=> ?_
  rw[len_eq] at e
  exact eL r fun x vs e1 ho _ P=>⟨x,vs,l,e1,ho,P,jo e,q⟩
end
theorem EO{α:Type}(xs:List α):∀(n a:Nat),a+n≤xs.length→((aI n).map fun k=>a+k).filterMap (xs[·]?)=(xs.drop a).take n
 |0,a,_=>by simp
 |n+1,a,h=>by
  rw[ES,zH,Oe,EO xs n a (by lia)]
  have:a+n<xs.length:=by assumption
  simp only[fo,rW,ED,Ou,cA this]
  rw[List.take_succ,EE,cA this]
  rfl
theorem Pc{lo hi:Option Int}{a b:Nat}(ha:(sliceBounds lo hi none vs.length).1=(a:Int))(hb:(sliceBounds lo hi none vs.length).2.1=(b:Int))(hn:b≤vs.length):
  slicePick vs.toArray lo hi none=((vs.take b).drop a).toArray:=by
 unfold slicePick
 rw[cW,ha,hb]
 have h1:(sliceBounds lo hi none vs.length).2.2=1:=rfl
 rw[h1]
 congr 1
 have e:(fun x:Nat=>vs.toArray[x]?)=fun x=>vs[x]? :=by funext x;simp
 rw[e]
 unfold sliceRange
 simp only[show(1:Int)>0 by decide,if_true]
 by_cases Nb:(a:Int)<b
 ·rw[if_pos Nb]
  have h2:((b:Int)-a+1-1)/1=((b-a:Nat):Int):=by lia
  rw[h2,zB]
  have h3:(fun k:Nat=>((a:Int)+1*(k:Int)).toNat)=fun k=>a+k:=by funext k;lia
  rw[h3,EO vs (b-a) a (by lia),OP]
 ·rw[if_neg Nb]
  have h2:(0:Int).toNat=0:=rfl
  rw[h2,List.range_zero,rW,Ou,OP]
  have:b-a=0:=by lia
  rw[this,List.take_zero]
theorem Rh(i:Int)(n:Nat):clamp i n≤n:=by
 induction i with
 |ofNat k=>
  show cond (bq k n) k n≤n
  induction e:bq k n using Bool.casesOn with
  |true=>exact dU (blt_iff.mp e)
  |false=>exact bb _
 |negSucc k=>
  show cond (bq k n) (wH n (Nat.succ k)) 0≤n
  induction e:bq k n using Bool.casesOn with
  |true=>exact Nat.sub_le _ _
  |false=>exact fu _
theorem Gr(i:Int)(n:Nat):max (0:Int) (min (if i<0 then i+n else i) (n:Int))=(clamp i n:Int):=by
 induction i with
 |ofNat k=>
  show _=((cond (bq k n) k n:Nat):Int)
  have:¬(aq k<0):=by show¬((k:Int)<0);lia
  rw[if_neg this]
  induction e:bq k n using Bool.casesOn with
  |true=>have:=blt_iff.mp e;show max (0:Int) (min (k:Int) n)=(k:Int);lia
  |false=>
   have:¬k<n:=fun z=>by rw[blt_iff.mpr z] at e;exact nf e.symm
   show max (0:Int) (min (k:Int) n)=(n:Int);lia
 |negSucc k=>
  show _=((cond (bq k n) (wH n (Nat.succ k)) 0:Nat):Int)
  have:gC k<0:=Oq k
  rw[if_pos this]
  induction e:bq k n using Bool.casesOn with
  |true=>have:=blt_iff.mp e;show max (0:Int) (min (gC k+n) n)=((n-(k+1):Nat):Int);lia
  |false=>
   have:¬k<n:=fun z=>by rw[blt_iff.mpr z] at e;exact nf e.symm
   show max (0:Int) (min (gC k+n) n)=((0:Nat):Int);lia
theorem Paired.take(P:Paired R vs l):∀n,Paired R (vs.take n) (l.take n):=by
 induction P with
 |nil=>exact fun n=>by cases n<;>exact .nil
 |cons h r ih=>exact fun n=>by cases n with|zero=>exact .nil|succ n=>exact .cons h (ih n)
theorem Paired.drop(P:Paired R vs l):∀n,Paired R (vs.drop n) (l.drop n):=by
 induction P with
 |nil=>exact fun n=>by cases n<;>exact .nil
 |cons h r ih=>exact fun n=>by cases n with|zero=>exact .cons h r|succ n=>exact ih n
theorem Paired.reverse(P:Paired R vs l):Paired R vs.reverse l.reverse:=by
 induction P with
 |nil=>exact .nil
 |cons h r ih=>rw[mu,mu];exact Paired.append ih (.cons h .nil)
theorem QA{α:Type}(xs:List α):((aI xs.length).map fun k:Nat=>(((xs.length:Int)-1)+(-1)*(k:Int)).toNat).filterMap (xs[·]?)=xs.reverse:=by
 induction xs with
 |nil=>rfl
 |cons a l ih=>
  rw[mu,←ih,cw,ES,zH,Oe]
  congr 1
  ·have:∀k∈aI l.length,(((l.length+1:Nat):Int)-1+(-1)*(k:Int)).toNat=((((l.length:Int)-1)+(-1)*(k:Int)).toNat)+1:=fun k hk=>by
    have:=dN.mp hk;lia
   rw[p4 this,Ot,Ot]
   congr 1
  ·have:(((l.length+1:Nat):Int)-1+(-1)*((l.length:Nat):Int)).toNat=0:=by lia
   rw[fo,rW,ED,this]
   rfl
theorem O1(vs:List Value):slicePick vs.toArray none none (some (-1))=vs.reverse.toArray:=by
 unfold slicePick
 rw[cW]
 congr 1
 have e:(fun x:Nat=>vs.toArray[x]?)=fun x=>vs[x]? :=by funext x;simp
 rw[e,←QA vs]
 show((sliceRange ((vs.length:Int)-1) (-1) (-1)).filterMap _)=_
 unfold sliceRange
 have h0:¬((-1:Int)>0):=by decide
 simp only[h0,if_false]
 by_cases hv:vs.length=0
 ·rw[hv];rfl
 ·have:(vs.length:Int)-1> -1:=by lia
  rw[if_pos this]
  have:((vs.length:Int)-1- -1- -1-1)/(- -1)=(vs.length:Int):=by
   show((vs.length:Int)-1- -1- -1-1)/1=(vs.length:Int)
   lia
  rw[this,zB]
end
section
section
noncomputable def bY(c:Cx)(s:Shared):Prop:=c.H.objs.size≤s.heap.objs.size
theorem bY.step{ae:Ad}(hl:bY c s)(t:Step D X ad s X' ae s'):bY c s':=cx hl t.size
theorem fI(s:Shared)(o:Obj):s.heap.objs.size<(s.heap.push o).objs.size:=by rw[Heap.size_push];exact jV _
theorem Pt{l b:Addr}{ws:List Value}(hl:s.heap.IsList l vs.toArray)(hb:s.heap.IsList b ws.toArray)(kY:vs.length+ws.length≤sizeLine)
  (h:Q (.ref s.heap.objs.size) {s with heap:=s.heap.push {cls:= .type "list",data:= .seq (vs++ws).toArray}}):wpAny c.M A (binaryOp .Add (.ref l) (.ref b)) Q NE s:=by
 obtain⟨⟨k1,d1,a1,s1⟩,o1,c1,n1,e1⟩:=hl
 obtain⟨⟨k2,d2,a2,s2⟩,o2,c2,n2,e2⟩:=hb
 subst c1;subst e1;subst c2;subst e2
 refine concat_meets ⟨_,o1,rfl⟩ ⟨_,o2,rfl⟩ noFill_list_add seq_list_add PySem.F.slot_list_add PySem.F.entry_list_add (PySem.F.args_list_add_2 _ _) (list_addW l b vs.toArray ws.toArray n1 n2 d1 d2 s1 s2 (by simpa using kY)) ⟨o1,o2,?_⟩
 rw[Om]
 exact h
theorem PG{l:Addr}{x:Int}{u:Tok}(hl:s.heap.get? l=some {cls:= .type "list",data:= .seq vs.toArray n})(h1:x.toNat<1000)(h2:vs.length<1000)
  (h:Q (.ref s.heap.objs.size) {s with heap:=s.heap.push {cls:= .type "list",data:= .seq ((eR x.toNat vs).flatten).toArray}})(h3:x<2^62)(h4: -(2^62)<x):wpAny c.M A (binaryOp .Mult (.ref l) (.int x u)) Q NE s:=by
 have hm:vs.toArray.size*x.toNat≤1000000:=by
  rw[cW]
  exact cx (OQ (dU h2) (dU h1)) (by decide)
 have hm':vs.length*x.toNat≤1000000:=by rw[cW] at hm;exact hm
 refine wpAny_binaryOp_repeat_ref (T:="list") (U:="int") (by decide) ⟨_,hl,rfl⟩ (fun s'=>typeIs_int s' x u) noFill_list_mul F.fills_int_mul F.slot_int_rmul repeat_list F.slot_int_index.lookup
  (call_meets F.slot_int_rmul (typeIs_int s x u) F.entry_int_rmul (F.args_int_rmul_2 _ _) (int___rmul___int_list x u l vs.toArray n)
   ⟨hl,rfl,⟨_,hl,rfl⟩,call_meets F.slot_list_mul ⟨_,hl,rfl⟩ F.entry_list_mul (F.args_list_mul_2 _ _)
    (AutoListH.list___mul___list_int_3 l vs.toArray n x u (by simp[Builtin.List.listFitsIndex];lia) (by lia) (by simp only[Builtin.List.listTooLong,sizeLine_eq];simp;lia)) ⟨hl,?_⟩⟩)
 have e:(PA (fun x1 x2=>x1++x2) #[] (eR (if vs.toArray.isEmpty=true then 0 else x.toNat) vs.toArray))=((eR x.toNat vs).flatten).toArray:=by
  have key:∀(n:Nat)(a:Array Value),PA (fun x1 x2=>x1++x2) a (eR n vs.toArray)=a++((eR n vs).flatten).toArray:=by
   intro n
   induction n with
   |zero=>intro a;simp
   |succ n ih=>intro a;rw[vp,List.foldl_cons,ih,vp,EJ];simp[Array.append_assoc]
  rw[key]
  by_cases hv:vs= []
  ·subst hv;simp
  ·have:vs.toArray.isEmpty=false:=by induction vs using List.casesOn with|nil=>exact absurd rfl hv|cons a l=>rfl
   rw[if_neg (by rw[this];decide)]
   simp
 rw[e]
 exact h
theorem Tq(C:ax c)(I:Inv c X ad h s)(hH:bY c s){m:Bool}{a b:SV}{k:K}(q:c.Ok (Ld m a b h k))(ra:c.VR X ad s.heap v a)(rb:c.VR X ad s.heap u b):
  wpAny c.M A (binaryOp .Add v u) (aF c X ad s k) NE s:=by
 refine vj (HU I q ra) fun x vs l af hl P hn q=> ?_;subst af
 refine lT q fun l' e z=> ?_;subst e
 refine ai (aJ z) fun e q=> ?_
 rw[len_eq] at e
 have q:=n3 q
 refine eL rb fun _ ws af ho _ P'=> ?_;subst af
 have n1:=P.length
 have n2:=P'.length
 have hb:=jo e
 refine Pt hl.isList ho.isList ?hs ?_
 case hs=>
  have e3:=iP
  rw[n2]
  lia
 exact w6 C I hH (Paired.append P P') q _ s.toks (bb _) (fI _ _) (fun b o e=>ec e) (gE rfl)
theorem Vh(I:Inv c X ad h s){a b:SV}{k:K}(q:c.Ok (KR a b h k))(ra:c.VR X ad s.heap v a)(rb:c.VR X ad s.heap u b):wpAny c.M A (binaryOp .Sub v u) (aF c X ad s k) NE s:=by
 refine MQ q fun x e q1=> ?_;subst e
 refine MQ q1 fun y e q2=> ?_;subst e
 obtain rfl:=VR.lM ra;obtain rfl:=VR.lM rb
 refine sub_bool ⟨_,h,ad,X,q2,?_,I.toks _,Step.toks _⟩
 have e:∀b:Bool,b2i b=PyProof.Rows.b2i b:=fun b=>by induction b<;>rfl
 rw[←e,←e]
 exact .lit _ _
theorem Vz(C:ax c)(I:Inv c X ad h s)(hH:bY c s){op:Operator}{m:Bool}{a b:SV}{k:K}(q:c.Ok (K4 op m a b h k))(ra:c.VR X ad s.heap v a)(rb:c.VR X ad s.heap u b):
  wpAny c.M A (binaryOp op v u) (aF c X ad s k) NE s:=by
 refine bp q (fun e q=> ?_) fun e q=> ?_
 ·refine d1 e fun e1 e2=> ?_
  refine ai (sF q) fun _ q=> ?_
  exact ay (Ra q e1 e2 ra rb) fun v' s'⟨V,hq,_,hr,e⟩=>⟨V,h,ad,X,hq,hr,by rw[e];exact I.toks _,by rw[e];exact Step.toks _⟩
 ·refine bp q (fun e q=> ?_) fun e q=> ?_
  ·induction op<;>first|exact nf e|exact nf (Eq.symm e)|(cases e;done)|exact Tq C I hH q ra rb
  ·refine ai (aJ q) fun e q=> ?_
   induction op<;>first|exact nf e|exact nf (Eq.symm e)|(cases e;done)|exact Vh I q ra rb
end
end
section
section
theorem Af{i:Int}{k:Nat→Res}(q:c.Ok (ti i n k)):∃j,seqIndex? i n=some j∧j<n∧-(2^63)≤i∧i<2^63∧((0≤i∧j=i.toNat)∨(i<0∧-(n:Int)≤i∧j=(i+n).toNat))∧c.Ok (k j):=by
 induction i with
 |ofNat m=>
  refine ai (aJ q) fun e q=> ?_
  refine d1 e fun e1 e2=> ?_
  have h1:=blt_iff.mp e1
  have h2:=lB e2
  have hm:aq m=(m:Int):=rfl
  refine⟨m,?_,h1,by lia,by lia,.inl ⟨by lia,by lia⟩,q⟩
  unfold seqIndex?
  have n0:¬((aq m)<0):=by lia
  simp only[n0,if_false]
  have:(decide (0≤aq m)&&decide (aq m<(n:Int)))=true:=by simp;assumption
  rw[if_pos this];rfl
 |negSucc m=>
  refine ai (aJ q) fun e q=> ?_
  refine d1 e fun e1 e2=> ?_
  have h1:=blt_iff.mp e1
  have h2:=lB e2
  have n0:gC m<0:=Oq m
  have hs:wH n (Nat.succ m)=n-(m+1):=rfl
  refine⟨n-(m+1),?_,by omega+splitDisjunctions,by omega+splitDisjunctions,by omega+splitDisjunctions,.inr ⟨n0,by omega+splitDisjunctions,by omega+splitDisjunctions⟩,q⟩
  unfold seqIndex?
  simp only[n0,if_true]
  have:(decide (0≤gC m+(n:Int))&&decide (gC m+(n:Int)<(n:Int)))=true:=by simp;omega+splitDisjunctions
  rw[if_pos this]
  congr 1
  omega+splitDisjunctions
theorem HQ{i:SV}{k:SV→Res}(q:c.Ok (mU l i k))(ri:c.VR X ad g u i):
  ∃(n:Int)(t:Tok)(j:Nat)(V:SV),u= .int n t∧seqIndex? n l.length=some j∧j<l.length∧-(2^63)≤n∧n<2^63∧((0≤n∧j=n.toNat)∨(n<0∧-(l.length:Int)≤n∧j=(n+l.length).toNat))∧l[j]? =some V∧c.Ok (k V):=by
 refine litE q fun n e q=> ?_
 refine av (VR.dj (bg e ri)) fun t af=> ?_
 rw[len_eq] at q
 refine Ew (Af q) fun j h1 h2 h3 h4 h5 q=> ?_
 refine ak (qh q) fun V hV q=> ?_
 exact⟨n,t,j,V,af,h1,h2,h3,h4,h5,hV,q⟩
theorem Hk{i:SV}{k:SV→Res}{P:Value→Shared→Prop}{value slice:Expr}(q:c.Ok (mU l i k))(rl:c.VR X ad s.heap v (.tup l))(ri:c.VR X ad s.heap u i)
  (hs:subscripted slice false v u=operate [v,u] (getItem v u))(fin:∀V x,c.Ok (k V)→c.VR X ad s.heap x V→P x s):wpAny c.M A (subscriptTail value slice v u) P NE s:=by
 obtain⟨n,t,j,V,rfl,h1,h2,h3,h4,_,hV,q⟩:=HQ q ri
 obtain⟨_,_,_,_,ho,hc,hd,hx,hr,rfl⟩:=VR.jG rl
 have P':=rZ hr
 refine ak (Internal.Paired.get P' hV) fun x uS rx=> ?_
 exact item_tupleT (j:=j) ⟨_,ho,hc,_,hd⟩ h3 h4 (by simpa using h1) (by simpa using uS) (fin V x q rx) hs
theorem list_item{i:SV}{x:Addr}{k:SV→Res}{P:Value→Shared→Prop}{value slice:Expr}(q:c.Ok (mU l i k))(hl:s.heap.IsList x vs.toArray)(Pl:c.VL X ad s.heap vs l)(ri:c.VR X ad s.heap u i)
  (hs:subscripted slice false (.ref x) u=operate [.ref x,u] (getItem (.ref x) u))(fin:∀V x,c.Ok (k V)→c.VR X ad s.heap x V→P x s):wpAny c.M A (subscriptTail value slice (.ref x) u) P NE s:=by
 obtain⟨n,t,j,V,rfl,h1,h2,h3,h4,h5,hV,q⟩:=HQ q ri
 refine ak (Internal.Paired.get Pl hV) fun y hy ry=> ?_
 have e:=Pl.length
 refine tail_any hl.typeIs slot_list_getitem.lookup ?_ hs
 rcases h5 with⟨h5,h6⟩|⟨h5,h6,h7⟩
 ·exact wpAny_getItem_list hl h5 h4 (by rw[←h6];simpa using hy) (fin V y q ry)
 ·refine wpAny_getItem_list_neg hl h5 ?_ h3 ?_ (fin V y q ry)
  ·rw[cW,e];exact h6
  ·rw[cW,e,←h7];simpa using hy
theorem Uy(a b:Int):(1:Int)∈dv a b:=by
 unfold dv
 rw[vw]
 refine⟨bz.mpr ⟨0,by simp,rfl⟩,?_⟩
 simp[Int.fmod_one]
theorem vX{ns:List Int}(P:IntsAre vs ns):vs.length=ns.length:=by
 induction P with
 |nil=>rfl
 |cons _ _ r ih=>exact congrArg (·+1) ih
theorem AW{ns:List Int}(P:IntsAre vs ns):∀{q:Nat}{x:Int},ns[q]? =some x→∃(t:Tok),vs[q]? =some (.int x t):=by
 induction P with
 |nil=>intro q x e;(exfalso;injection e)
 |cons _ t r ih=>
  intro q x e
  induction q using Nat.casesAuxOn with
  |zero=>exact⟨t,congrArg (fun y=>some (Value.int y t)) (Option.some.inj e)⟩
  |succ q=>exact ih e
theorem Qe{ns:List Int}(P:IntsAre vs ns)(h:ns≠ []):vs.length=ns.length∧∃t,vs[vs.length-1]? =some (.int (ns.getLastD 0) t):=
 ⟨vX P,AW P (by
  rw[vX P,←List.getLast?_eq_getElem?]
  induction ns using List.casesOn with
  |nil=>exact absurd rfl h
  |cons a l=>rfl)⟩
theorem Ui{x:LX}{sm:List Int}{i:SV}{k:SV→Res}{P:Value→Shared→Prop}{value slice:Expr}(q:c.Ok (By x sm i k))(rl:c.VR X ad s.heap v (.lx x sm))(ri:c.VR X ad s.heap u i)
  (hs:subscripted slice false v u=operate [v,u] (getItem v u))(fin:∀V x,c.Ok (k V)→c.VR X ad s.heap x V→P x s):wpAny c.M A (subscriptTail value slice v u) P NE s:=by
 obtain⟨f,l⟩:=x
 induction f using Nat.casesAuxOn with
 |succ f=>exact(a0 q).elim
 |zero=>
  induction l using List.casesOn with
  |nil=>exact(a0 q).elim
  |cons a l=>
   induction l using List.casesOn with
   |nil=>exact(a0 q).elim
   |cons b l=>
    refine litE (show c.Ok (gg i fun m=>cond (bV m (.negSucc 0)) (k (.sym (.f2 1 a b) (Kt sm))) (bad 19)) from q) fun m ei q=> ?_
    refine ai (aJ q) fun e q=> ?_
    have e:=ib e
    subst e
    refine av (VR.dj (bg ei ri)) fun t af=> ?_;subst af
    obtain⟨_,_,_,_,ho,hc,hd,hx,hi,rfl⟩:=VR.Nq rl
    rename_i o vs ep
    have hi:IntsAre vs (dv (a.eval c.ρ) (b.eval c.ρ)):=hi
    have ne:dv (a.eval c.ρ) (b.eval c.ρ)≠ []:=List.ne_nil_of_mem (Uy _ _)
    obtain⟨h1,t',h2⟩:=Qe hi ne
    have pos:0<vs.length:=by rw[h1];exact List.length_pos_iff.mpr ne
    have hl:s.heap.IsList _ vs.toArray:=⟨o,ho,hc,ep,hd⟩
    refine tail_any hl.typeIs slot_list_getitem.lookup (wpAny_getItem_list_neg hl (by decide) ?_ (by decide) ?_ (fin _ _ q (.sym (.f2 1 a b) _ t'))) hs
    ·rw[cW];show-(vs.length:Int)≤-1;lia
    ·rw[cW,show(gC 0+(vs.length:Int)).toNat=vs.length-1 by lia]
     rw[mh]
     exact h2
theorem lG(r:c.VR X ad g v (.tup l)):∃a o vs ep,v= .ref a∧g.get? a=some o∧o.cls= .type "tuple"∧o.data= .seq vs.toArray ep∧a∉X∧c.VL X ad g vs l:=by
 obtain⟨_,_,_,_,ho,hc,hd,hx,hr,rfl⟩:=VR.jG r;exact⟨_,_,_,_,rfl,ho,hc,hd,hx,rZ hr⟩
theorem aag(r:c.VR X ad g v (.ar l)):∃a vs,v= .ref a∧g.PlainList a vs.toArray∧a∉X∧c.VL X ad g vs l:=eL r fun x vs e hl hx P=>⟨x,vs,e,hl,hx,P⟩
theorem WR{e:IX}{n m:Int}(r:c.VR X ad g v (.sym e n)):c.VR X ad g v (.sym e m):=by
 obtain⟨t,rfl⟩:=VR.fS r;exact .sym e m t
theorem IG{a b b':SV}(r:c.VR X ad g v (.tup [a,b]))(f:∀x,c.VR X ad g x b→c.VR X ad g x b'):c.VR X ad g v (.tup [a,b']):=by
 obtain⟨x,o,vs,ep,rfl,ho,hc,hd,hx,P⟩:=lG r
 obtain⟨_,_,rfl,h1,P⟩:=Eg P
 obtain⟨_,_,rfl,h2,P⟩:=Eg P
 obtain rfl:=NQ P
 exact j4 (.cons h1 (.cons (f _ h2) .nil)) ho hc hd hx
theorem II(C:ax c){e:IX}{n:Int}(r:c.VR X ad g v (.tree e n)):(0≤e.eval c.ρ∧c.VR X ad g v (.tup [.str c.P.sw,.sym e n]))∨
  (e.eval c.ρ<0∧c.VR X ad g v (.tup [.str c.P.sn,.tup [.str c.P.sw,.sym (.sub (.lit (aq 0)) e) (jk (aq 0) n)]])):=by
 rw[←C.sw,←C.sn]
 exact r.inv.imp id fun z=>⟨z.1,av z.2 fun m r=>IG r fun x q=>IG q fun x q=>WR q⟩
theorem Hj(C:ax c){e:IX}{n:Int}{k:List SV→Res}(q:c.Ok (xw c.P e n k))(r:c.VR X ad g v (.tree e n)):∃l,c.VR X ad g v (.tup l)∧c.Ok (k l):=by
 refine ai (sQ q) fun z q=> ?_
 have z:decide (e.eval c.ρ<0)=bH n (aq 0):=z
 rw[←z] at q
 rcases II C r with⟨h0,r⟩|⟨h0,r⟩
 ·rw[decide_eq_false (by lia)] at q
  exact⟨_,r,q⟩
 ·rw[decide_eq_true h0] at q
  exact⟨_,r,q⟩
theorem Ve{o:Option Nat}{k:K}(q:c.Ok (Md o h k)):∃y,o=some y∧c.Ok (k (.str y) h):=by
 induction o using Option.casesOn with
 |none=>exact q.elim
 |some y=>exact⟨y,rfl,q⟩
theorem Vg(C:ax c)(I:Inv c X ad h s){x:Nat}{i:SV}{k:K}{value slice:Expr}(q:c.Ok (strSub c.P x i h k))(ro:c.VR X ad s.heap v (.str x))(ri:c.VR X ad s.heap u i)
  (hs:subscripted slice false v u=operate [v,u] (getItem v u)):wpAny c.M A (subscriptTail value slice v u) (aF c X ad s k) NE s:=by
 refine litE q fun n e q=> ?_
 refine av (VR.dj (bg e ri)) fun t af=> ?_
 refine av (VR.i7 ro) fun t' jS=> ?_
 rw[af,jS] at hs⊢
 rw[len_eq] at q
 refine Ew (Af q) fun j h1 h2 h3 h4 h5 q=> ?_
 refine ak (qh q) fun cc hV q=> ?_
 refine ak (Ve q) fun y e q=> ?_
 have e':=C.chr _ _ e
 refine tail_any (typeIs_str s _ t') F.slot_str_getitem.lookup (P.getItem_str (c:=cc) ?_ ?_ ?_) hs
 ·simp only[Oj,decide_eq_false_iff_not];lia
 ·rw[C.cps] at h1 hV
  have e1:(c.S.nm x).length=(c.S.nm x).cps.toList.length:=by simp[Str.length]
  rw[e1,h1]
  simpa using hV
 ·rw[←e'];exact⟨_,h,ad,X,q,.str y _,I.toks _,Step.toks _⟩
theorem FC{d:Addr}{l:En}{i:SV}{k:SV→Res}{value slice:Expr}{P:Value→Shared→Prop}(q:c.Ok (Br l i k))(ri:c.VR X ad s.heap u i)
  (hs:subscripted slice false (.ref d) u=operate [.ref d,u] (getItem (.ref d) u))(hm:s.heap.MapOf (PySem.strKind c.prog c.w) d m)
  (hf:∀x V,look l x=some V→cX V=false→∃v,m (c.S.nm x)=some v∧c.VR X ad s.heap v V)(fin:∀V x,c.Ok (k V)→c.VR X ad s.heap x V→P x {s with toks:=s.toks+1}):wpAny c.M A (subscriptTail value slice (.ref d) u) P NE s:=by
 refine yX q fun x e q=> ?_
 refine av (VR.i7 (bg e ri)) fun t af=> ?_
 rw[af] at hs⊢
 refine ak (Av q) fun V hV q=> ?_
 refine ai (sC q) fun z q=> ?_
 refine ak (hf _ _ hV z) fun y hy ry=> ?_
 exact tail_any hm.typeIs slot_dict_getitem.lookup (wpAny_getItem_of (strKind_is c.prog c.w _ t) hm hy (fin V _ q ry)) hs
theorem QZ(I:Inv c X ad h s){i:SV}{o:SO}{k:SV→Res}{P:Value→Shared→Prop}{value slice:Expr}(q:c.Ok (JH i o k))(R:c.OR X ad s.heap p o)(ri:c.VR X ad s.heap u i)
  (hs:subscripted slice false (.ref p.1) u=operate [.ref p.1,u] (getItem (.ref p.1) u))(done:∀V x,c.Ok (k V)→c.VR X ad s.heap x V→P x s)(tA:∀V x,c.Ok (k V)→c.VR X ad s.heap x V→P x {s with toks:=s.toks+1}):
  wpAny c.M A (subscriptTail value slice (.ref p.1) u) P NE s:=by
 induction o with
 |lst l=>
  obtain⟨_,vs,hl,Pl⟩:=R
  exact list_item q hl.isList Pl ri hs done
 |iF l=>
  obtain⟨_,vs,rB,hf⟩:=R
  have hl:=rB.isList
  refine ai (aJ q) fun e q=> ?_
  refine av (eU e ri) fun t af=> ?_;subst af
  rcases vM e (fun q m=>(hf q (bj.mpr (.inl m))).1) q with⟨z,hz,e,y⟩|⟨z,_⟩
  ·obtain⟨_,⟨h0,h0b⟩,x,hx,rx⟩:=hf z (bj.mpr (.inl hz))
   refine tail_any hl.typeIs slot_list_getitem.lookup (wpAny_getItem_list hl (by rw[←e];exact h0) ?_ (by rw[←e];simpa using hx) (done _ _ y rx)) hs
   rw[←e];exact h0b
  ·exact(a0 z).elim
 |cz ex l=>
  obtain⟨_,aU,hd,hf,_⟩:=R
  have hm:=hd.mapOf
  refine ai (aJ q) fun e q=> ?_
  refine av (eU e ri) fun t af=> ?_;subst af
  rcases vM e (fun q m=>(hf q m).1) q with⟨z,hz,e,y⟩|⟨z,_⟩
  ·obtain⟨_,x,hx,rx⟩:=hf z hz
   exact tail_any hm.typeIs slot_dict_getitem.lookup (wpAny_getItem_of (intKind_is c.prog c.w _ t) hm (by rw[←e];exact hx) (tA _ _ y rx)) hs
  ·exact(a0 z).elim
 |cb l=>
  obtain⟨_,aU,hd,hf,_⟩:=R
  exact FC q ri hs hd.mapOf hf tA
 |_=>exact(a0 q).elim
theorem Vi(C:ax c)(I:Inv c X ad h s){o i:SV}{k:K}{value slice:Expr}(q:c.Ok (Me c.P o i h k))(ro:c.VR X ad s.heap v o)(ri:c.VR X ad s.heap u i)
  (hs:subscripted slice false v u=operate [v,u] (getItem v u)):wpAny c.M A (subscriptTail value slice v u) (aF c X ad s k) NE s:=by
 have done:∀V x,c.Ok (k V h)→c.VR X ad s.heap x V→aF c X ad s k x s:=fun V x q r=>⟨V,h,ad,X,q,r,I,Step.refl ..⟩
 have tA:∀V x,c.Ok (k V h)→c.VR X ad s.heap x V→aF c X ad s k x {s with toks:=s.toks+1}:=fun V x q r=>⟨V,h,ad,X,q,r,I.toks _,Step.toks _⟩
 refine bp q (fun e q=>Hk q (bg (bh e) ro) ri hs done) fun _ q=> ?_
 refine bp q (fun e q=>eL (l:=bU o) (bg (bh e) ro) fun x vs e hl hx P=> ?_) fun _ q=> ?_
 ·subst e
  exact list_item q hl.isList P ri hs done
 refine bp q (fun e q=>hY I q ro fun r p o _ _ _ e R q=> ?_) fun _ q=> ?_
 ·subst e
  exact QZ I q R ri hs done tA
 refine bp q (fun e q=>Vg C I q (bg (bh e) ro) ri hs) fun _ q=> ?_
 refine bp q (fun e q=> ?_) fun _ q=> ?_
 ·obtain⟨_,_,_,_,ho,hm,hx,hf,hr,e⟩:=VR.qK (l:=iA o) (bg (bh e) ro)
  subst e
  exact FC q ri hs hm (fun x V a b=>⟨_,hf x V a b,hr x V a⟩) tA
 induction o using SV.casesOn with
 |lx x sm=>exact Ui (show c.Ok (By x sm i fun v=>k v h) from q) ro ri hs done
 |tree e n=>
  refine ak (Hj C (show c.Ok (xw c.P e n fun l=>mU l i fun v=>k v h) from q) ro) fun l ro q=> ?_
  exact Hk q ro ri hs done
 |_=>exact(a0 q).elim
end
end
section
section
theorem Fu{o:SV}{d:Nat}{k:Nat→Res}(q:c.Ok (Bf o d n k))(r:c.VR X ad g v o):∃lo a,IsPart v lo∧((lo=none∧a=d)∨∃i,lo=some i∧a=clamp i n)∧c.Ok (k a):=by
 refine bp q (fun e q=>⟨none,d,VR.kl (bg (bh e) r)▸ .none,.inl ⟨rfl,rfl⟩,q⟩) fun _ q=> ?_
 refine litE q fun i e q=> ?_
 refine av (VR.dj (bg e r)) fun t e=> ?_
 exact⟨some i,clamp i n,e▸ .int i t,.inr ⟨i,rfl,rfl⟩,q⟩
theorem QL(C:ax c)(I:Inv c X ad h s)(hH:bY c s){m:Bool}{o l u st:SV}{vo vl vu vs:Value}{k:K}{value slice:Expr}{ops:Value→List Value}(q:c.Ok (JE m o l u st h k))
  (ro:c.VR X ad s.heap vo o)(rl:c.VR X ad s.heap vl l)(ru:c.VR X ad s.heap vu u)(rs:c.VR X ad s.heap vs st)(hs:∀i,subscripted slice false vo i=operate (ops i) (getItem vo i)):
  wpAny c.M A (subscriptTail value slice vo (.ref s.heap.objs.size)) (aF c X ad s k) NE {s with heap:=s.heap.push {cls:= .type "slice",data:= .fields #[vl,vu,vs]}}:=by
 refine vj (HU I q ro) fun x xs ls af rB P hn q=> ?_;subst af
 have hl:=rB.isList
 have e0:=iP
 have kY:xs.toArray.size≤sizeLine:=by rw[cW,P.length];lia
 have ew:=hl.push {cls:= .type "slice",data:= .fields #[vl,vu,vs]}
 have fin:∀(ys:List Value)(ms:List SV),c.VL X ad s.heap ys ms→c.Ok (pJ m ms h k)→
   aF c X ad s k (.ref (s.heap.push {cls:= .type "slice",data:= .fields #[vl,vu,vs]}).objs.size)
    {s with heap:=(s.heap.push {cls:= .type "slice",data:= .fields #[vl,vu,vs]}).push {cls:= .type "list",data:= .seq ys.toArray}}:=fun ys ms PP q=>
  w6 C I hH PP q _ s.toks (by rw[Heap.size_push];exact nU _) (fI {s with heap:=s.heap.push {cls:= .type "slice",data:= .fields #[vl,vu,vs]}} _) (fun b o e=>Heap.get?_push_of_some _ (ec e)) (Heap.get?_push_size _ rfl)
 refine bp q (fun e q=> ?_) fun _ q=> ?_
 ·obtain rfl:=VR.kl (bg (bh e) rs)
  rw[len_eq] at q
  refine dK (Fu q rl) fun lo a pl ha q=> ?_
  refine dK (Fu q ru) fun hi b pu hb q=> ?_
  rw[wX,w8] at q
  refine tail_any ew.typeIs slot_list_getitem.lookup (wpAny_getItem_list_slice ew (Heap.IsSliceOf.new ..) pl pu .none (by simp) ?_ kY) (hs _)
  rw[Pc (a:=a) (b:=b) ?_ ?_ ?_]
  ·exact fin _ _ (Internal.Paired.drop (Internal.Paired.take P b) a) q
  ·rw[P.length]
   rcases ha with⟨rfl,rfl⟩|⟨i,rfl,rfl⟩
   ·simp[sliceBounds]
   ·rw[←Gr];simp[sliceBounds]
  ·rw[P.length]
   rcases hb with⟨rfl,rfl⟩|⟨i,rfl,rfl⟩
   ·simp[sliceBounds]
   ·rw[←Gr];simp[sliceBounds]
  ·rw[P.length]
   rcases hb with⟨rfl,rfl⟩|⟨i,rfl,rfl⟩
   ·exact bb _
   ·exact Rh _ _
 ·refine litE q fun i e q=> ?_
  refine av (VR.dj (bg e rs)) fun t af=> ?_;subst af
  refine ai (aJ q) fun e z=> ?_
  refine gj e fun e1 e2 e3=> ?_
  obtain rfl:=ib e1
  rw[wC] at z
  obtain rfl:=VR.kl (bg (vG e2) rl)
  obtain rfl:=VR.kl (bg (vG e3) ru)
  refine tail_any ew.typeIs slot_list_getitem.lookup (wpAny_getItem_list_slice ew (Heap.IsSliceOf.new ..) .none .none (.int _ t) (by decide) ?_ kY) (hs _)
  rw[show(some (gC 0))=some (-1) from rfl,O1]
  exact fin _ _ (Internal.Paired.reverse P) z
end
end
section
theorem Qi{o:Obj}{es:Array DictEntry}{ep:Nat}(hd:o.data= .dict es ep)(hk:StrKeys es)(hm:∀name,nsFind es name=m name)(name:Str):lookIn name o=some (m name):=by
 have Lo:es.any (·.refKey)=false:=by
  rw[Array.any_eq_false'];intro e he;obtain⟨n,t,h⟩:=hk e he;simp[DictEntry.refKey,h]
 unfold lookIn
 rw[hd]
 dsimp only
 rw[←hm name]
 simp only[nsFind,findBy,←Array.find?_toList]
 induction e:es.toList.find? (·.key.isStr name) using Option.casesOn with
 |some x=>rfl
 |none=>
  rw[←Array.any_toList] at Lo
  dsimp only
  rw[Lo];rfl
section
theorem Q5(C:ax c)(u:cX V=false)(r:c.VR X ad g v V):handedIn v=true:=by
 have tr:∀{v l},c.VR X ad g v (.tup l)→handedIn v=true:=fun r=>by obtain⟨_,_,_,_,_,_,_,_,_,e⟩:=VR.jG r;rw[e];rfl
 induction r using VR.casesOn with
 |bi i=>exact C.hand i
 |au v=>exact nf u.symm
 |oE _ r=>exact tr r
 |oC _ r=>exact tr r
 |_=>rfl
theorem Inv.eA(C:ax c)(I:Inv c X ad h s):c.K.In s.heap:=fun a o e=>I.base a o (C.eA a o e)
theorem Bs{cc:Nat}{l:List (Nat×SV)}(R:c.OR X ad g p (.ins cc l)):∃(ox od:Obj)(m:Str→Option Value),InstAt g p.1 ox (c.S.ca cc) (some od)∧ox.dict=some p.2∧g.Ns1 p.2 m∧c.S.ic cc=true∧
  (∀n,lookIn n od=some (m n))∧(∀x V,look l x=some V→cX V=false→∃v,m (c.S.nm x)=some v∧c.VR X ad g v V)∧(∀s,(∀x V,look l x=some V→s≠c.S.nm x)→m s=none):=by
 obtain⟨sl,m,od,h1,h2,hn,hi,hf,cq⟩:=R
 refine vj (id hn) fun o es ep ho hd hk hu hm=> ?_
 rw[h2] at ho;(injection ho with e1;subst e1)
 exact⟨_,od,m,⟨h1,rfl,rfl,h2⟩,rfl,hn,hi,Qi hd hk hm,hf,cq⟩
theorem PO{cc x:Nat}(F:xB c cc x):takerIn c.K (c.S.ca cc) (c.S.nm x)=some none:=by
 unfold takerIn
 induction e:c.P.f6 cc x using Option.casesOn with
 |none=>rw[F.no e];rfl
 |some f=>
  refine vg (F.yes f e) fun h1 h2 h3 h4 h5=> ?_
  rw[h1,iL]
  dsimp only
  rw[h3];rfl
theorem Rz{cc x:Nat}{od:Obj}(F:xB c cc x)(hl:lookIn (c.S.nm x) od=some (some v)):findObj c.K (c.S.ca cc) (some od) (c.S.nm x)=some (.value v):=by
 refine gz F.cls fun cd hc hd ho=> ?_
 have own:W.ownOf cd (some od) (c.S.nm x)=some (some v):=by unfold W.ownOf;rw[if_pos hd];exact hl
 unfold findObj
 rw[hc,iL]
 induction e:c.P.f6 cc x using Option.casesOn with
 |none=>
  rw[F.no e,iL,iL,iL]
  dsimp only
  rw[own];rfl
 |some f=>
  refine vg (F.yes f e) fun h1 h2 h3 h4 h5=> ?_
  rw[h1,iL]
  dsimp only
  rw[h2,iL]
  dsimp only
  rw[h3,iL]
  dsimp only
  rw[own];rfl
theorem P7{cc x:Nat}{od:Obj}(F:xB c cc x)(hm:c.P.f6 cc x=some f)(hl:lookIn (c.S.nm x) od=some none):findObj c.K (c.S.ca cc) (some od) (c.S.nm x)=some (.bind (.builtin "function.__get__") (.ref (c.S.fa f))):=by
 refine gz F.cls fun cd hc hd ho=> ?_
 refine vg (F.yes f hm) fun h1 h2 h3 h4 h5=> ?_
 have own:W.ownOf cd (some od) (c.S.nm x)=some none:=by unfold W.ownOf;rw[if_pos hd];exact hl
 unfold findObj
 rw[hc,iL,h1,iL]
 dsimp only
 rw[h2,iL]
 dsimp only
 rw[h3,iL]
 dsimp only
 rw[own,iL]
 dsimp only
 rw[h5]
 rfl
theorem S3(C:ax c)(I:Inv c X ad h s){o:SV}{x:Nat}{k:K}{ex:Bool}(hx:c.S.ia x=true)(q:c.Ok (K3 c.P o x h k))(r:c.VR X ad s.heap v o):
  wpAny c.M A (getAttr v (c.S.nm x) ex) (aF c X ad s k) NE s:=by
 refine hY I q r fun i p o _ ho hp af R q=> ?_;subst af
 refine Lx q fun cc l e z=> ?_;subst e
 replace q:=z
 obtain⟨ox,od,m,IA,_,hn,hi,uM,hf,cq⟩:=Bs R
 have F:=C.fZ cc x hi hx
 have l0:=I.eA C
 rw[sA] at q
 induction e:look l x using Option.casesOn with
 |some V=>
  rw[e] at q
  refine ai (sC q) fun u q=> ?_
  refine ak (hf x V e u) fun v hv rv=> ?_
  exact get_value l0 IA F.ga (Rz F (by rw[uM,hv])) (Q5 C u rv) ⟨V,h,ad,X,q,rv,I.toks _,Step.toks _⟩
 |none=>
  rw[e] at q
  have q:c.Ok (oP (c.P.f6 cc x) (bad 21) fun f=>k (.dy i f) h):=q
  induction em:c.P.f6 cc x using Option.casesOn with
  |none=>rw[em] at q;exact(a0 q).elim
  |some f=>
   rw[em] at q
   have q:c.Ok (k (.dy i f) h):=q
   refine get_bind l0 IA F.ga (P7 F em (by rw[uM,cq _ (AD C e)])) F.M3 (wpAny_call (fn_get (s:={s with toks:=s.toks+1}) l0 (F.yes f em).2.2.2.1 ?_))
   refine ai (I.push (g:=s.heap.push (methodObj (.ref (c.S.fa f)) (.ref p.1))) (t:=s.toks+1) (fun b o e=>ec e) (dU (fI _ _))) fun J T=> ?_
   exact wpAny_pure ⟨_,_,_,_,q,.dy (gE rfl) (I.fresh (bb _)) hp,J,T⟩
end
end
section
inductive qZ (c:Cx) (X:List Addr) (ad:Ad) (s:Shared) (k:Hp→Res) (s':Shared):Prop
 |mk:∀h',c.Ok (k h')→Inv c X ad h' s'→Step [] X ad s X ad s'→qZ c X ad s k s'
section
theorem AZ{l:En}(cq:∀s,(∀x V,look l x=some V→s≠c.S.nm x)→m s=none):PySem.Within m (l.map fun p=>c.S.nm p.1):=by
 intro y hy
 refine Classical.byContradiction fun hn=>hy (cq y fun x V e z=>hn ?_)
 subst z
 have key:∀l:En,look l x=some V→c.S.nm x∈l.map fun p=>c.S.nm p.1:=by
  intro l
  induction l with
  |nil=>intro e;(exfalso;injection e)
  |cons p l ih=>
   obtain⟨z,w⟩:=p
   intro e
   rw[eB] at e
   by_cases q:z=x
   ·subst q;exact .head _
   ·rw[if_neg q] at e;exact .tail _ (ih e)
 exact key l e
theorem G0(C:ax c){l:En}{x:Nat}(hf:∀y W,look l y=some W→cX W=false→∃u,m (c.S.nm y)=some u∧c.VR X ad g u W)
  (cq:∀s,(∀y W,look l y=some W→s≠c.S.nm y)→m s=none)(rv:c.VR X ad g v V):
  (∀y W,look (put l x V) y=some W→cX W=false→∃u,(if c.S.nm y=c.S.nm x then some v else m (c.S.nm y))=some u∧c.VR X ad g u W)∧
  (∀s,(∀y W,look (put l x V) y=some W→s≠c.S.nm y)→(if s=c.S.nm x then some v else m s)=none):=by
 refine⟨fun y W e u=> ?_,fun s hs=> ?_⟩
 ·rw[lA] at e
  by_cases q:x=y
  ·subst q
   rw[if_pos rfl] at e;(injection e with e1;subst e1)
   exact⟨v,if_pos rfl,rv⟩
  ·rw[if_neg q] at e
   rw[if_neg fun z=>q (C.inj _ _ z).symm]
   exact hf y W e u
 ·have h1:s≠c.S.nm x:=hs x V (by rw[lA,if_pos rfl])
  rw[if_neg h1]
  refine cq s fun y W e=> ?_
  by_cases q:x=y
  ·subst q;exact h1
  ·exact hs y W (by rw[lA,if_neg q];exact e)
theorem XD{R:Result→Shared→Prop}{cc:Nat}{x dx:Addr}{sl:Array (Option Value)}{od:Obj}{name:Str}{tk:Tok}{ns:List Str}{cd:ClassData}
  (l0:c.K.In s.heap)(rE:s.heap.get? x=some ⟨.ref (c.S.ca cc),some dx,.plain,sl⟩)(uP:s.heap.get? dx=some od)(hn:s.heap.Ns1 dx m)(hw:PySem.Within m ns)(kY:ns.length<1000)
  (hc:clsIn c.K (c.S.ca cc)=some cd)(hd:cd.hasDict=true)(BW:onlyObject cd.mro=true)(ht:takerIn c.K (c.S.ca cc) name=some none)
  (h:∀h',h'.Ns1 dx (fun y=>if y=name then some v else m y)→Heap.SameBut dx s.heap h'→R (.ok (.ret .none)) {s with heap:=h',toks:=s.toks+1}):
  codeAny c.M A (.call (.builtin "object.__setattr__") ⟨[.ref x,.str name tk,v],[]⟩) R s:=by
 refine osa_open (od:=some od) l0 ⟨rE,rfl,rfl,uP⟩ (by unfold plainOver;rw[hc];exact BW) ht fun b=> ?_
 refine wpAny_bind (wpAny_pure (wpAny_bind (wpAny_bind (wpAny_loadPart rE (wpAny_bind ((looks_clsIn l0 hc).here ?_))))))
 rw[hd]
 refine wpAny_pure (a:=some dx) (wpAny_bind (wpAny_pure (wpAny_bind ?_)))
 refine wpAny_nsSet1 hn fun h' dT hs=> ?_
 refine N5 (dT.count (PySem.Within.cons name v hw)) fun oD esD epD uO hdD hcD=> ?_
 refine wpAny_bind (wpAny_lookBehind uO (by rw[hdD];exact pastItsLine_dict (cx hcD (by rw[cw,sizeLine_eq];lia))) ?_)
 exact wpAny_pure (h h' dT hs)
theorem QI(C:ax c)(I:Inv c X ad h s){o:SV}{x:Nat}{vo:Value}{k:Hp→Res}(hx:c.S.ia x=true)(q:c.Ok (JB o x V h k))(r:c.VR X ad s.heap vo o)(rv:c.VR X ad s.heap v V):
  wpAny c.M A (setAttr vo (c.S.nm x) v) (fun _ s'=>qZ c X ad s k s') NE s:=by
 refine hY I q r fun i p o _ ho hp af R q=> ?_;subst af
 refine Lx q fun cc l e z=> ?_;subst e
 refine ai (aJ z) fun e q=> ?_
 rw[len_eq] at e
 have D0:=lB e
 have q:=j3 (n4 q)
 obtain⟨ox,od,m,IA,hdx,hn,hi,uM,hf,cq⟩:=Bs R
 refine iI R fun sl _ _ rE _=> ?_
 have F:=C.fZ cc x hi hx
 have l0:=I.eA C
 refine gz F.cls fun cd hc hd BW=> ?_
 have Zg:p.1≠p.2:=by
  intro z
  refine N5 hn fun o es ep kR kO _=> ?_
  rw[←z,rE] at kR;(injection kR with e1;subst e1);(exfalso;injection kO)
 have uP:∃od,s.heap.get? p.2=some od:=let⟨o,_,_,e,_⟩:=hn;⟨o,e⟩
 refine av uP fun od2 uP=> ?_
 refine set_plain l0 IA F.sa (XD (s:={s with toks:=s.toks+1}) l0 rE uP hn (AZ cq) (by rw[aT];exact D0) hc hd BW (PO F) fun h' dT hs=> ?_)
 have uO:∃od,h'.get? p.2=some od:=let⟨o,_,_,e,_⟩:=dT;⟨o,e⟩
 refine av uO fun oD uO=> ?_
 have hg:h'.objs.size=s.heap.objs.size:=hs.1
 obtain⟨J,T⟩:=I.upd (g:=h') (t:=s.toks+1+1) (o:= .ins cc (put l x V)) hp hg (fun b _ hb=>hs.2 b hb) (fun mono=>by
  obtain⟨k1,k2⟩:=G0 (X:=X) (ad:=ad) (g:=h') C (fun y W e u=>let⟨v,hv,rv⟩:=hf y W e u;⟨v,hv,mono _ _ rv⟩) cq (mono _ _ rv)
  exact⟨sl,_,oD,(hs.2 p.1 Zg).trans rE,uO,dT,hi,k1,k2⟩)
 exact⟨_,q,J,T⟩
end
end
section
section
variable{Kk:Type} [DecidableEq Kk]
theorem p6(a:Kk×Value)(l:List (Kk×Value))(x:Kk):valueAt (a::l) x=if a.1=x then some a.2 else valueAt l x:=by
 unfold valueAt
 rw[List.find?_cons]
 by_cases h:a.1=x
 ·rw[if_pos h,decide_eq_true h];rfl
 ·rw[if_neg h,decide_eq_false h]
theorem E8(k:Kk)(v:Value)(x:Kk):∀l:List (Kk×Value),valueAt (l.map fun kv=>if kv.1=k then(kv.1,v) else kv) x=if x=k then(if l.any (fun kv=>kv.1=k) then some v else none) else valueAt l x
 | []=>by simp[valueAt]
 |a::l=>by
  rw[fo,p6,E8 k v x l,vy,p6]
  by_cases h1:a.1=k
  ·rw[if_pos h1]
   by_cases h2:x=k
   ·subst h2;simp[h1]
   ·have:a.1≠x:=fun e=>h2 (e.symm.trans h1)
    simp[h2,this]
  ·rw[if_neg h1]
   by_cases h2:x=k
   ·subst h2;rw[if_pos rfl,if_pos rfl,decide_eq_false h1,OW,if_neg h1]
   ·simp[h2]
theorem E7(k:Kk)(v:Value)(x:Kk):∀l:List (Kk×Value),l.any (fun kv=>kv.1=k)=false→valueAt (l++ [(k,v)]) x=if x=k then some v else valueAt l x
 | [],_=>by
  rw[OL,p6]
  by_cases h:x=k
  ·subst h;simp
  ·have:¬k=x:=fun e=>h e.symm
   simp[h,this,valueAt]
 |a::l,q=>by
  rw[vy,Oj] at q
  rw[OB,p6,E7 k v x l q.2,p6]
  have h1:a.1≠k:=of_decide_eq_false q.1
  by_cases h2:x=k
  ·subst h2;simp[h1]
  ·simp[h2]
theorem vx(aU:List (Kk×Value))(k:Kk)(v:Value)(x:Kk):valueAt (stored aU k v) x=if x=k then some v else valueAt aU x:=by
 unfold stored
 induction e:aU.any (fun kv=>kv.1=k) using Bool.casesOn with
 |true=>rw[if_pos rfl,E8,e];rfl
 |false=>rw[if_neg eQ,E7 k v x aU e]
theorem Pr{aU:List (Kk×Value)}{k:Kk}(h:k∈aU.map (·.1)):∃v,valueAt aU k=some v:=by
 induction aU with
 |nil=>exact(aP h).elim
 |cons a l ih=>
  rw[p6]
  by_cases q:a.1=k
  ·exact⟨_,if_pos q⟩
  ·rw[if_neg q]
   rcases aE.mp h with z|z
   ·exact absurd z.symm q
   ·exact ih z
theorem Ql{l l':List Kk}:l.Nodup→(∀a∈l,a∈l')→l.length≤l'.length:=by
 induction l generalizing l' with
 |nil=>intro _ _;exact fu _
 |cons a l ih=>
  intro hn hs
  have dT:=mA.mp hn
  have h1:=ih (l':=l'.erase a) dT.2 fun b hb=>(List.mem_erase_of_ne fun e=>dT.1 (by rw[←e];exact hb)).mpr (hs b (.tail _ hb))
  have h2:=List.length_erase_of_mem (hs a (.head _))
  have h3:0<l'.length:=List.length_pos_of_mem (hs a (.head _))
  rw[cw];lia
theorem Bx{aU:List (Kk×Value)}{l':List Kk}(hn:(aU.map (·.1)).Nodup)(cq:∀k,k∉l'→valueAt aU k=none):aU.length≤l'.length:=by
 rw[←aT (f:=(·.1)) (as:=aU)]
 refine Ql hn fun a ha=>Classical.byContradiction fun q=> ?_
 refine av (Pr ha) fun v hv=> ?_
 rw[cq a q] at hv;(exfalso;injection hv)
end
theorem Paired.set(P:Paired R vs l)(q:R v V):∀j,Paired R (vs.set j v) (l.set j V):=by
 induction P with
 |nil=>exact fun n=> .nil
 |cons h r ih=>exact fun n=>by cases n with|zero=>exact .cons q r|succ n=>exact .cons h (ih n)
noncomputable def oo(n:Int)(l:List (IX×Int×SV)):List (IX×Int×SV):=List.rec [] (fun p _ ih=>cond (bV p.2.1 n) ih (p::ih)) l
theorem GA{n:Int}:∀{l:List (IX×Int×SV)}{q:IX×Int×SV},q∈oo n l↔q∈l∧q.2.1≠n
 | [],q=>by simp[oo]
 |p::l,q=>by
  show q∈cond (bV p.2.1 n) (oo n l) (p::oo n l)↔_
  have ih:=GA (n:=n) (l:=l) (q:=q)
  by_cases e:p.2.1=n
  ·rw[iT,decide_eq_true e]
   show q∈oo n l↔_
   rw[ih,aE]
   exact⟨fun z=>⟨.inr z.1,z.2⟩,fun z=>⟨z.1.elim (fun y=>absurd (y▸e) z.2) id,z.2⟩⟩
  ·rw[iT,decide_eq_false e]
   show q∈(p::oo n l)↔_
   rw[aE,ih,aE]
   exact⟨fun z=>z.elim (fun y=>⟨.inl y,y▸e⟩) fun y=>⟨.inr y.1,y.2⟩,fun z=>z.1.elim .inl fun y=> .inr ⟨y,z.2⟩⟩
theorem As{n:Int}{v:SV}{l:List (IX×Int×SV)}{q:IX×Int×SV}:q∈xU n v l↔q=(.lit n,n,v)∨(q∈l∧q.2.1≠n):=by
 show q∈_::oo n l↔_
 rw[aE,GA]
theorem O0{prog:Program}{l:Addr}{items:Array Value}{k:Int}{t:Tok}{Q:Unit→Shared→Prop}(hl:s.heap.PlainList l items)
  (h0:0≤k)(Lr:k<2^63)(hn:k<items.size)
  (hQ:∀h',h'.PlainList l (items.setIfInBounds k.toNat v)→Heap.SameBut l s.heap h'→Q () {s with heap:=h'}):
  wpAny (model prog w) A (setItem (.ref l) (.int k t) v) Q E s:=by
 obtain⟨ne,ho⟩:=id hl
 unfold setItem
 refine wpAny_holding (wpAny_bind (wpAny_sequenceKey hl.isList.typeIs (by decide) ?_))
 refine wpAny_bind (wpAny_callSpecial?_slot (name:=Str.ofString "__setitem__") hl.isList.typeIs slot_list_setitem
  (wpAny_call_entry slot_list_setitem hl.isList.typeIs entry_list_setitem ?_ (args_list_setitem _ _ _)))
 show wpAny _ _ (Builtin.List.listSubscript? (.int k t)>>=_) _ _ s
 refine wpAny_bind (wpAny_listSubscript_int (fitsIndex_of h0 Lr) ?_)
 clear Lr
 obtain⟨j,rfl⟩:=EB h0
 have hj:j<items.size:=by lia
 have uS:items[j]? =some items[j]:=Array.getElem?_eq_getElem hj
 show wpAny _ _ ((seqItemAt l j>>=fun r=>pure (r.map (j,·)))>>=_) _ _ s
 refine wpAny_bind (wpAny_bind (wpAny_seqItemAt ho rfl (wpAny_pure ?_)))
 rw[uS]
 show wpAny _ _ (setSeqItemAt l j v>>=_) _ _ s
 have Lq:(s.heap.update l (Obj.mapSeq (·.setIfInBounds j v))).PlainList l (items.setIfInBounds j v):=
  ⟨_,Heap.get?_update_self _ ho rfl⟩
 refine wpAny_bind (wpAny_setSeqItemAt ho rfl ?_)
 first
  |exact wpAny_bind (wpAny_pure (wpAny_pure ⟨.none,rfl,wpAny_pure (hQ _ Lq (Heap.SameBut.update ..))⟩))
  |exact wpAny_pure ⟨.none,rfl,wpAny_pure (hQ _ Lq (Heap.SameBut.update ..))⟩
section
theorem AP{Kk:Type} [DecidableEq Kk]{prog:Program}{knd:PySem.KeyKind prog w Kk}{aU:List (Kk×Value)}(hd:Heap.DictOf knd g a aU):(aU.map (·.1)).Nodup:=by
 obtain⟨_,_,_,_,_,_,_,_,hn⟩:=hd
 exact hn
theorem UO(I:Inv c X ad h s){i:SV}{vi:Value}{k:Hp→Res}(hp:ad[r]? =some p)(R:c.OR X ad s.heap p (.lst l))(q:c.Ok (gg i fun n=>cond (bH n (aq 0)) (bad 23) (ti n (len l) fun j=>er l j V fun l'=>er h r (.lst l') k)))(ri:c.VR X ad s.heap vi i)(rv:c.VR X ad s.heap v V):
  wpAny c.M A (setItem (.ref p.1) vi v) (fun _ s'=>qZ c X ad s k s') NE s:=by
 refine ak R.2 fun vs hl P=> ?_
 refine litE q fun n e q=> ?_
 refine av (VR.dj (bg e ri)) fun t af=> ?_;subst af
 refine ai (sF q) fun e q=> ?_
 rw[j5,decide_eq_false_iff_not] at e
 rw[len_eq] at q
 refine Ew (Af q) fun j h1 h2 h3 h4 h5 q=> ?_
 have hj:0≤n∧j=n.toNat:=h5.resolve_right fun h5=>absurd h5.1 e
 refine O0 hl hj.1 h4 (by rw[cW,P.length];lia) fun h' ew hs=> ?_
 rw[←hj.2,List.setIfInBounds_toArray] at ew
 exact ai (I.upd (g:=h') (t:=s.toks) (o:= .lst (l.set j V)) hp hs.1 (fun b hb _=>hs.2 b hb) fun mono=>⟨R.1,_,ew,Internal.Paired.set (Paired.imp mono P) (mono _ _ rv) j⟩) fun J T=>⟨_,j3 (j3 q),J,T⟩
theorem UM(C:ax c)(I:Inv c X ad h s){i:SV}{vi:Value}{k:Hp→Res}{l:List (Nat×SV)}(hp:ad[r]? =some p)(R:c.OR X ad s.heap p (.cb l))(q:c.Ok (stK i fun x=>cond (small (len l)) (putK l x V fun l'=>er h r (.cb l') k) (bad 23)))(ri:c.VR X ad s.heap vi i)(rv:c.VR X ad s.heap v V):
  wpAny c.M A (setItem (.ref p.1) vi v) (fun _ s'=>qZ c X ad s k s') NE s:=by
 obtain⟨e2,aU,hd,hf,cq⟩:=R
 refine yX q fun x e q=> ?_
 refine av (VR.i7 (bg e ri)) fun t af=> ?_;subst af
 refine ai (aJ q) fun e q=> ?_
 rw[len_eq] at e
 have hlen:aU.length≤l.length:=by
  rw[←aT (f:=fun p=>c.S.nm p.1) (as:=l)]
  exact Bx (AP hd) fun k hk=>Classical.byContradiction fun z=>hk (AZ cq k z)
 refine wpAny_setItem_pairs (strKind_is c.prog c.w _ t) hd (fun h' kO hs=> ?_) (by have:=iP;have:=lB e;lia)
 refine ai (I.upd (g:=h') (t:=s.toks+1) (o:= .cb (put l x V)) hp hs.1 (fun b hb _=>hs.2 b hb) fun mono=> ?_) fun J T=>⟨_,j3 (n4 q),J,T⟩
 refine ai (G0 (x:=x) (X:=X) (ad:=ad) (g:=h') C (fun y W e u=>ak (hf y W e u) fun v hv rv=>⟨v,hv,mono _ _ rv⟩) cq (mono _ _ rv)) fun k1 k2=> ?_
 exact⟨e2,_,kO,fun y W e u=>by rw[vx];exact k1 y W e u,fun s e=>by rw[vx];exact k2 s e⟩
theorem UN(C:ax c)(I:Inv c X ad h s){i:SV}{vi:Value}{k:Hp→Res}{ex:Bool}{l:List (IX×Int×SV)}(hp:ad[r]? =some p)(R:c.OR X ad s.heap p (.cz ex l))(q:c.Ok (gg i fun n=>cond (ah ex (ah (sU l) (small (len l)))) (er h r (.cz true (xU n V l)) k) (bad 23)))(ri:c.VR X ad s.heap vi i)(rv:c.VR X ad s.heap v V):
  wpAny c.M A (setItem (.ref p.1) vi v) (fun _ s'=>qZ c X ad s k s') NE s:=by
 obtain⟨e2,aU,hd,hf,cq⟩:=R
 refine litE q fun n e q=> ?_
 refine av (VR.dj (bg e ri)) fun t af=> ?_;subst af
 refine ai (aJ q) fun e q=> ?_
 refine gj e fun M0 hal e=> ?_
 rw[len_eq] at e
 have hlen:aU.length≤l.length:=by
  rw[←aT (f:=fun p=>p.1.eval c.ρ) (as:=l)]
  exact Bx (AP hd) fun k hk=>cq M0 k fun q hq z=>hk (bz.mpr ⟨q,hq,z.symm⟩)
 have lit:∀q∈l,q.1.eval c.ρ=q.2.1:=fun q hq=>av (zV hal q hq) fun m hm=>by rw[(hf q hq).1 m hm,hm];rfl
 refine wpAny_setItem_pairs (intKind_is c.prog c.w _ t) hd (fun h' kO hs=> ?_) (by have:=iP;have:=lB e;lia)
 refine ai (I.upd (g:=h') (t:=s.toks+1) (o:= .cz true (xU n V l)) hp hs.1 (fun b hb _=>hs.2 b hb) fun mono=>⟨e2,_,kO,fun z hz=> ?_,fun _ m hm=> ?_⟩) fun J T=>⟨_,j3 q,J,T⟩
 ·rw[vx]
  rcases As.mp hz with rfl|⟨hz,ne⟩
  ·exact⟨fun m e=>(IX.Ug e),v,if_pos rfl,mono _ _ rv⟩
  ·refine ak (hf z hz).2 fun u k2 k3=>⟨(hf z hz).1,u,?_,mono _ _ k3⟩
   rw[if_neg (by rw[lit z hz];exact ne)];exact k2
 ·have Ng:m≠n:=hm _ (As.mpr (.inl rfl))
  rw[vx,if_neg Ng]
  refine cq M0 m fun z hz=> ?_
  by_cases y:z.2.1=n
  ·rw[lit z hz,y];exact Ng
  ·exact hm z (As.mpr (.inr ⟨hz,y⟩))
theorem QJ(C:ax c)(I:Inv c X ad h s){o i:SV}{vo vi:Value}{k:Hp→Res}(q:c.Ok (JC o i V h k))(ro:c.VR X ad s.heap vo o)(ri:c.VR X ad s.heap vi i)(rv:c.VR X ad s.heap v V):
  wpAny c.M A (setItem vo vi v) (fun _ s'=>qZ c X ad s k s') NE s:=by
 refine hY I q ro fun r p o _ ho hp af R q=> ?_;subst af
 induction o using SO.casesOn with
 |lst l=>exact UO I hp R q ri rv
 |cb l=>exact UM C I hp R q ri rv
 |cz ex l=>exact UN C I hp R q ri rv
 |_=>exact(a0 q).elim
end
end
section
theorem GP:∀{l:List SV}{n:Nat}{k:SV→List SV→Res},Ok ρ F (xp l (bad n) k)→∃r z,l=r++ [z]∧Ok ρ F (k z r)
 | [],_,_,q=>q.elim
 | [a],_,k,q=>⟨[],a,rfl,q⟩
 |a::b::l,n,k,q=>by
  have q:Ok ρ F (xp (b::l) (bad n) fun z r'=>k z (a::r')):=q
  refine eP (GP q) fun r z e q=> ?_
  exact⟨a::r,z,by rw[e];rfl,q⟩
theorem E5{z:SV}:∀{r:List SV}{vs:List Value},Paired R vs (r++ [z])→∃us v,vs=us++ [v]∧Paired R us r∧R v z
 | [],_,P=>p1 P fun v us h P=>p0 P ⟨[],v,rfl,.nil,h⟩
 |a::r,_,P=>p1 P fun v us h P=>by
  obtain⟨us,w,rfl,P,rz⟩:=E5 (r:=r) P
  exact⟨v::us,w,rfl,.cons h P,rz⟩
theorem Paired.mem(P:Paired R vs l):v∈vs→∃V,V∈l∧R v V:=by
 induction P with
 |nil=>exact fun m=>(aP m).elim
 |cons h r ih=>
  intro m
  rcases aE.mp m with e|m
  ·exact⟨_,.head _,e▸h⟩
  ·refine ak (ih m) fun V hV q=> ?_
   exact⟨V,.tail _ hV,q⟩
theorem iS{k:SV→Res}(q:Ok ρ F (dX as k)):∃a,as= [a]∧Ok ρ F (k a):=by
 induction as using List.casesOn with
 |nil=>exact(a0 q).elim
 |cons a r=>induction r using List.casesOn with
  |nil=>exact⟨a,rfl,q⟩
  |cons _ _=>exact(a0 q).elim
theorem GI{k:SV→List SV→Res}(q:Ok ρ F (tC as k)):∃a d,as=a::d∧Ok ρ F (k a d):=by
 induction as using List.casesOn with
 |nil=>exact q.elim
 |cons a d=>exact⟨a,d,rfl,q⟩
theorem su(e:isNil as=true):as= []:=by
 induction as using List.casesOn with
 |nil=>rfl
 |cons a d=>exact nf e
theorem IF{k:SV→SV→Res}(q:Ok ρ F (ux as k)):∃a b,as= [a,b]∧Ok ρ F (k a b):=by
 induction as using List.casesOn with
 |nil=>exact(a0 q).elim
 |cons a r=>
  refine ak (iS (k:=fun b=>k a b) q) fun b af q=> ?_;subst af
  exact⟨a,b,rfl,q⟩
@[elab_as_elim] theorem LP(e:isNil l=true)(P:Paired R vs l){G:List Value→Prop}(h:G []):G vs:=by rw[su e] at P;exact p0 P h
@[elab_as_elim] theorem KG{k:SV→List SV→Res}(q:Ok ρ F (tC l k))(P:Paired R vs l){G:List Value→Prop}(h:∀a d v us,Ok ρ F (k a d)→R v a→Paired R us d→G (v::us)):G vs:=by
 refine eP (GI q) fun a d e q=> ?_
 rw[e] at P
 exact p1 P fun v us r P=>h a d v us q r P
@[elab_as_elim] theorem Zk{k:SV→Res}(q:Ok ρ F (dX l k))(P:Paired R vs l){G:List Value→Prop}(h:∀a v,Ok ρ F (k a)→R v a→G [v]):G vs:=by
 refine ak (iS q) fun a e q=> ?_
 rw[e] at P
 exact p1 P fun v us r P=>p0 P (h a v q r)
section
theorem Aa(C:ax c){a:SV}(ha:fw a=true)(ra:c.VR X ad s.heap u a):∀{l:List SV}{vs:List Value}{k:Nat→Res},(∀V∈l,fw V=true)→Paired (c.VR X ad s.heap) vs l→c.Ok (wU a l k)→
  c.Ok (k (vs.countP fun y=>oF y u))
 | [],_,k,_,P,q=>p0 P q
 |b::l,_,k,hl,P,q=>p1 P fun v vs rb P=>by
  have q:c.Ok (nu b a fun t=>cond t (wU a l fun n=>k (Nat.succ n)) (wU a l k)):=q
  refine dq (Bo C q) fun _ _ q=> ?_
  rw[Gb (hl b (.head _)) ha rb ra] at q
  rw[List.countP_cons]
  refine bp q (fun e q=> ?_) fun e q=> ?_
  ·rw[e,if_pos rfl];exact Aa C ha ra (k:=fun n=>k (Nat.succ n)) (fun V m=>hl V (.tail _ m)) P q
  ·rw[e,if_neg eQ];exact Aa C ha ra (fun V m=>hl V (.tail _ m)) P q
noncomputable def mid(x:Nat):String×String:=match x with
 |1=>("list","list.append")|2=>("list","list.pop")|3=>("list","list.extend")|4=>("list","list.count")|_=>("dict","dict.get")
theorem O6(C:ax c)(I:Inv c X ad h s){x:Nat}{o:SV}{pl:Sem Bool}{own:Nat→Nat→Res}{no:Res}{Q:Value×List Value→Shared→Prop}(q:c.Ok (Kz c.P o x h own no))(r:c.VR X ad s.heap v o)
  (h1:c.Ok no→1≤x→x≤5→Q (.builtin (mid x).2,[v]) s)(h2:∀i f p,ad[i]? =some p→o= .ref i→v= .ref p.1→c.Ok (own i f)→Q (.ref (c.S.fa f),[v]) s)(hx:c.S.ia x=true):wpAny c.M A (getMethod v (c.S.nm x) pl) Q NE s:=by
 have lst:∀a vs,v= .ref a→s.heap.PlainList a vs→(x=1∨x=2∨x=3∨x=4)→c.Ok no→wpAny c.M A (getMethod v (c.S.nm x) pl) Q NE s:=by
  rintro a vs rfl hl hx qq
  have hd:∀b,Value.ref a= .ref b→∃o,s.heap.get? b=some o∧o.dict=none:=fun b e=>by(injection e with e1;subst e1);obtain⟨n,ho⟩:=hl;exact⟨_,ho,rfl⟩
  rcases hx with rfl|rfl|rfl|rfl
  ·exact getMethod_builtin hl.isList.typeIs F.plainAttrs_list (by rw[C.NI];exact F.slot_list_append) F.type_list_append hd (h1 qq (by lia) (by lia))
  ·exact getMethod_builtin hl.isList.typeIs F.plainAttrs_list (by rw[C.NJ];exact F.slot_list_pop) F.type_list_pop hd (h1 qq (by lia) (by lia))
  ·exact getMethod_builtin hl.isList.typeIs F.plainAttrs_list (by rw[C.NL];exact F.slot_list_extend) F.type_list_extend hd (h1 qq (by lia) (by lia))
  ·exact getMethod_builtin hl.isList.typeIs F.plainAttrs_list (by rw[C.NM];exact F.slot_list_count) F.type_list_count hd (h1 qq (by lia) (by lia))
 refine bp q (fun e q=> ?_) fun _ q=> ?_
 rotate_left
 ·refine ai (aJ q) fun e q=> ?_
  refine ai (aJ q) fun e4 q=> ?_
  refine eL (l:=bU o) (bg (bh e) r) fun a vs af hl _ _=> ?_
  exact lst _ _ af hl (.inr (.inr (.inr (aZ e4)))) q
 refine hY I q r fun i p o eo _ hp af R q=> ?_;subst af
 induction o with
 |ins cc l=>
  have q:c.Ok (ie l x (oP (c.P.f6 cc x) (bad 53) fun f=>own i f) fun _=>bad 53):=q
  obtain⟨ox,od,m,IA,_,hn,hi,uM,hf,cq⟩:=Bs R
  have F:=C.fZ cc x hi hx
  rw[sA] at q
  induction e:look l x using Option.casesOn with
  |some V=>rw[e] at q;exact(a0 q).elim
  |none=>
   rw[e] at q
   have q:c.Ok (oP (c.P.f6 cc x) (bad 53) fun f=>own i f):=q
   induction em:c.P.f6 cc x using Option.casesOn with
   |none=>rw[em] at q;exact(a0 q).elim
   |some f=>
    rw[em] at q
    refine vg (F.yes f em) fun k1 k2 k3 k4 k5=> ?_
    exact method_fn (I.eA C) IA F.ga F.M3 k1 k4 (by show(lookIn _ od).map _=_;rw[uM,cq _ (AD C e)];rfl) (h2 i f p hp eo rfl q)
 |lst l=>
  obtain⟨_,vs,hl,_⟩:=R
  refine bp q (fun e q=>lst _ _ rfl hl (.inl (aZ e)) q) fun _ q=>bp q (fun e q=>lst _ _ rfl hl (.inr (.inl (aZ e))) q) fun _ q=> ?_
  refine ai (aJ q) fun e q=> ?_
  exact lst _ _ rfl hl (.inr (.inr (.inl (aZ e)))) q
 |fb g' l=>
  obtain⟨_,vs,hl,_⟩:=R
  refine ai (aJ q) fun e q=> ?_
  exact lst _ _ rfl hl (.inl (aZ e)) q
 |cb l=>
  obtain⟨_,aU,hd,_⟩:=R
  refine ai (aJ q) fun e q=> ?_
  have e:=aZ e
  subst e
  have hm:=hd.mapOf
  exact getMethod_builtin hm.typeIs F.plainAttrs_dict (by rw[C.NN];exact F.slot_dict_get) F.type_dict_get hm.noDict (h1 q (by lia) (by lia))
 |_=>exact(a0 q).elim
end
end
section
theorem Py(p:List Value)(y:Value):((p++ [y]).toArray).eraseIdxIfInBounds ((p++ [y]).toArray.size-1)=p.toArray:=by
 have hk:(p++ [y]).toArray.size-1=p.length:=by rw[cW,cH];rfl
 rw[hk]
 have:(p++ [y]).eraseIdx p.length=p:=by rw[List.eraseIdx_append_of_length_le (bb _)];simp
 simp[Array.eraseIdxIfInBounds,this]
section
theorem aF.of{k:K}{h':Hp}(q:c.Ok (k V h'))(r:c.VR X ad s'.heap v V)(J:Inv c X ad h' s')(T:Step [] X ad s X ad s'):aF c X ad s k v s':=⟨V,h',ad,X,q,r,J,T⟩
theorem tooLong(h:n≤200000):Builtin.List.listTooLong n=false:=by
 have:=iP
 simp only[Builtin.List.listTooLong,sizeLine_eq]
 simp;lia
theorem LC{o':SO}{us:List Value}{K':K}(I:Inv c X ad h s)(hp:ad[i]? =some p)(hl:s.heap.PlainList p.1 us.toArray)(hz:us.length<1100000)(rs:c.VL X ad s.heap vs [V])
  (ho:∀g x,g.PlainList p.1 (us++ [x]).toArray→c.VR X ad g x V→(∀v V,c.VR X ad s.heap v V→c.VR X ad g v V)→c.OR X ad g p o')(q:c.Ok (er h i o' fun h=>K' .none h)):wpAny c.M A (call (.builtin "list.append") (.ref p.1::vs)) (aF c X ad s K') NE s:=by
 refine p1 rs fun _ _ rv rs=>p0 rs ?_
 refine wpAny_list_append_plain hl (fun h' ew hs=> ?_) (by rw[cW,sizeLine_eq];lia)
 rw[List.push_toArray] at ew
 refine ai (I.upd (g:=h') (t:=s.toks) (o:=o') hp hs.1 (fun b hb _=>hs.2 b hb) fun mono=>ho _ _ ew (mono _ _ rv) mono) fun J T=> ?_
 exact aF.of (j3 q) .none J T
theorem Y3{us:List Value}{k:K}(I:Inv c X ad h s)(hp:ad[i]? =some p)(e2:p.2=p.1)(hl:s.heap.PlainList p.1 us.toArray)(P:c.VL X ad s.heap us l)(rs:c.VL X ad s.heap vs as)
  (q:c.Ok (cond (isNil as) (cond (big (len l)) (xp l (bad 26) fun v l'=>er h i (.lst l') fun h=>k v h) (bad 26)) (bad 26))):wpAny c.M A (call (.builtin "list.pop") (.ref p.1::vs)) (aF c X ad s k) NE s:=by
 have Nf:=iP
 refine ai (aJ q) fun e z=> ?_
 obtain rfl:=su e
 refine p0 rs ?_
 refine ai (aJ z) fun e q=> ?_
 rw[len_eq] at e
 have hb:=jo e
 refine av hl fun n pq=> ?_
 refine eP (GP q) fun r z af qq=> ?_;subst af
 refine dK (E5 P) fun pT y af P' ry=> ?_;subst af
 have hz:=P.length
 have hk:(pT++ [y]).toArray.size-1=pT.length:=by rw[cW,cH];rfl
 have hy:(pT++ [y]).toArray[(pT++ [y]).toArray.size-1]? =some y:=by rw[hk];simp
 refine call_meets F.slot_list_pop ⟨_,pq,rfl⟩ F.entry_list_pop (F.args_list_pop_1 _) (PySem.MeetsSeq.list_pop_last p.1 _ n y hy (by rw[cW];lia)) ⟨pq,?_⟩
 have ew:(s.heap.update p.1 (Obj.mapSeq fun xs=>xs.eraseIdxIfInBounds ((pT++ [y]).toArray.size-1))).PlainList p.1 pT.toArray:=Py pT y▸⟨_,Heap.get?_update_self _ pq rfl⟩
 refine ai (I.upd (t:=s.toks) (o:= .lst r) hp (Heap.SameBut.update ..).1 (fun b hb _=>(Heap.SameBut.update ..).2 b hb) fun mono=>⟨e2,_,ew,Paired.imp mono P'⟩) fun J T=> ?_
 exact aF.of (j3 qq) (I.cu T ry) J T
theorem YX{us:List Value}{k:K}(I:Inv c X ad h s)(hp:ad[i]? =some p)(e2:p.2=p.1)(hl:s.heap.PlainList p.1 us.toArray)(P:c.VL X ad s.heap us l)(rs:c.VL X ad s.heap vs as)
  (q:c.Ok (dX as fun v=>eE v fun m=>cond (ah (big (len l)) (big (len m))) (jz l m fun l'=>er h i (.lst l') fun h=>k .none h) (bad 26))):wpAny c.M A (call (.builtin "list.extend") (.ref p.1::vs)) (aF c X ad s k) NE s:=by
 have Nf:=iP
 refine ak (iS q) fun V af z=> ?_;subst af
 refine lT z fun m ev q=> ?_
 refine ai (aJ q) fun e q=> ?_
 refine d1 e fun e1 e3=> ?_
 rw[len_eq] at e1 e3
 have hb1:=jo e1
 have hb3:=jo e3
 refine av hl fun n pq=> ?_
 refine p1 rs fun _ _ rv rs=>p0 rs ?_
 refine eL (bg ev rv) fun b ws ee ho hbx P2=> ?_;subst ee
 refine av ho fun n2 hbo=> ?_
 have z1:=P.length
 have z2:=P2.length
 refine call_meets F.slot_list_extend ⟨_,pq,rfl⟩ F.entry_list_extend (F.args_list_extend_2 _ _) (AutoSeq1.list_extend_list_list_0 p.1 us.toArray n b ws.toArray n2 ?_ ?_ ?_) ⟨pq,hbo,?_⟩
 ·rw[cW,cW,tooLong (by lia)];simp
 ·rw[cW];lia
 ·rw[cW,cW];lia
 ·have ew:(s.heap.update p.1 (Obj.mapSeq fun x=>x++ws.toArray)).PlainList p.1 (us++ws).toArray:=by
   rw[←Om]
   exact⟨_,Heap.get?_update_self _ pq rfl⟩
  refine ai (I.upd (t:=s.toks) (o:= .lst (l++m)) hp (Heap.SameBut.update ..).1 (fun b hb _=>(Heap.SameBut.update ..).2 b hb) fun mono=>⟨e2,_,ew,Paired.append (Paired.imp mono P) (Paired.imp mono P2)⟩) fun J T=> ?_
  exact aF.of (j3 (n3 q)) .none J T
theorem Yy(C:ax c){l:En}{aU:List (Str×Value)}{k:K}(I:Inv c X ad h s)(hp:ad[i]? =some p)(hd:Heap.DictOf (PySem.strKind c.prog c.w) s.heap p.1 aU)
  (hf:∀x V,look l x=some V→cX V=false→∃v,valueAt aU (c.S.nm x)=some v∧c.VR X ad s.heap v V)(cq:∀s,(∀x V,look l x=some V→s≠c.S.nm x)→valueAt aU s=none)
  (rs:c.VL X ad s.heap vs as)(q:c.Ok (Kb l as fun v=>k v h)):wpAny c.M A (call (.builtin "dict.get") (.ref p.1::vs)) (aF c X ad s k) NE s:=by
 have hm:=hd.mapOf
 have sys:=A4 C I hp
 have done:∀V x,c.Ok (k V h)→c.VR X ad s.heap x V→aF c X ad s k x {s with toks:=s.toks+1}:=fun V x q r=>aF.of q r (I.toks _) (Step.toks _)
 refine eP (GI q) fun a d af z=> ?_;subst af
 refine yX z fun y ey q=> ?_
 refine p1 rs fun _ _ ry rd=> ?_
 refine av (VR.i7 (bg ey ry)) fun t af=> ?_;subst af
 have c2:aF c X ad s k ((valueAt aU (c.S.nm y)).getD .none) {s with toks:=s.toks+1}→wpAny c.M A (call (.builtin "dict.get") [.ref p.1,.str (c.S.nm y) t]) (aF c X ad s k) NE s:=fun z=>by
  refine call_meetsIn F.slot_dict_get hm.typeIs F.entry_dict_get (F.args_dict_get_2 _ _) (meets_dict_get (strKind c.prog c.w) p.1 (strKind_is c.prog c.w _ t) sys) ⟨_,hm,?_⟩
  exact z
 have c3:∀w,aF c X ad s k ((valueAt aU (c.S.nm y)).getD w) {s with toks:=s.toks+1}→wpAny c.M A (call (.builtin "dict.get") [.ref p.1,.str (c.S.nm y) t,w]) (aF c X ad s k) NE s:=fun w z=>by
  refine call_meetsIn F.slot_dict_get hm.typeIs F.entry_dict_get (F.args_dict_get_3 _ _ _) (meets_dict_get_default (strKind c.prog c.w) p.1 (strKind_is c.prog c.w _ t) sys _) ⟨_,hm,?_⟩
  exact z
 rcases HT C hf cq q with⟨e,q⟩|⟨V,x,e,q,rx⟩<;>rw[e] at c2 c3<;>refine bp q (fun z q=> ?_) fun _ q=> ?_
 ·obtain rfl:=su z
  exact p0 rd (c2 (done _ _ q .none))
 ·refine ak (iS q) fun w af q=> ?_;subst af
  exact p1 rd fun _ _ rL rd=>p0 rd (c3 _ (done _ _ q rL))
 ·obtain rfl:=su z
  exact p0 rd (c2 (done _ _ q rx))
 ·refine ak (iS q) fun w af q=> ?_;subst af
  exact p1 rd fun _ _ rL rd=>p0 rd (c3 _ (done _ _ q rx))
theorem Qp(C:ax c)(I:Inv c X ad h s){x:Nat}{o:SV}{k:K}(q:c.Ok (Js x o as h k))(r:c.VR X ad s.heap v o)(rs:c.VL X ad s.heap vs as)(h1:1≤x)(h5:x≤5):
  wpAny c.M A (call (.builtin (mid x).2) (v::vs)) (aF c X ad s k) NE s:=by
 have Nf:=iP
 refine bp q (fun _ q=> ?_) fun _ q=> ?_
 ·refine hY I q r fun i p o _ ho hp af R q=> ?_;subst af
  induction o with
  |lst l=>
   obtain⟨e2,us,hl,P⟩:=R
   refine bp q (fun e q=> ?_) fun _ q=>bp q (fun e q=> ?_) fun _ q=>ai (aJ q) fun e q=> ?_
   ·have e:=aZ e
    rw[e]
    refine ak (iS q) fun V af z=> ?_;subst af
    refine ai (aJ z) fun e q=> ?_
    rw[len_eq] at e
    have hb:=jo e
    exact LC (o':= .lst (l++ [V])) I hp hl (by rw[P.length];lia) rs (fun g x ew rx mono=>⟨e2,_,ew,Paired.append (Paired.imp mono P) (.cons rx .nil)⟩) (n3 q)
   ·rw[aZ e]
    exact Y3 I hp e2 hl P rs q
   ·rw[aZ e]
    exact YX I hp e2 hl P rs q
  |fb g' l=>
   obtain⟨e2,us,hl,P⟩:=R
   refine ai (aJ q) fun e q=> ?_
   rw[aZ e]
   refine ak (iS q) fun V af z=> ?_;subst af
   refine ai (iR z) fun hr q=> ?_
   refine ai (aJ q) fun e q=> ?_
   rw[len_eq] at e
   have hb:=lB e
   have hr:(c.ρ.g g').length<1000000:=hr
   exact LC (o':= .fb g' (l++ [V])) I hp hl (by rw[P.length,cH];lia) rs (fun g x ew rx mono=>⟨e2,_,ew,by
    rw[←mr]
    exact Paired.append (Paired.imp mono P) (.cons rx .nil)⟩) (n3 q)
  |cb l=>
   obtain⟨e2,aU,hd,hf,cq⟩:=R
   refine ai (aJ q) fun e q=> ?_
   rw[aZ e]
   exact Yy C I hp hd hf cq rs q
  |_=>exact(a0 q).elim
 ·refine lT q fun l eo q=> ?_
  refine ai (aJ q) fun e q=> ?_
  rw[aZ e]
  refine ak (iS q) fun V af z=> ?_;subst af
  refine ai (aJ z) fun e q=> ?_
  refine d1 e fun ha hl=> ?_
  have uL:=zU hl
  refine eL (bg eo r) fun a us af kU hx P=> ?_;subst af
  refine av kU fun n ho=> ?_
  refine p1 rs fun u _ rv rs=>p0 rs ?_
  have q:=Aa C ha rv uL P q
  refine call_meets F.slot_list_count ⟨_,ho,rfl⟩ F.entry_list_count (F.args_list_count_2 _ _) (list_countAt a us.toArray n none #[] _ (fun y=>oF y u)) ⟨ho,fun y hy=> ?_,?_⟩
  ·rw[OF] at hy
   refine ak (Internal.Paired.mem P hy) fun V' hV' ry=> ?_
   exact Jg (uL _ hV') ha ry rv
  ·exact aF.of q (.lit _ _) (I.toks _) (Step.toks _)
end
end
section
theorem wi(h:n<10):il n=1:=by rw[il,dif_pos h]
theorem wh(h:¬n<10):il n=il (n/10)+1:=by rw[il,dif_neg h]
theorem Ph:∀n:Nat,(Pd 10 n).length=il n:=by
 intro n
 induction n using ON with
 |ind n ih=>
  by_cases h:n<10
  ·rw[wi h,Nat.toDigits_of_lt_base h];rfl
  ·rw[wh h,←ih (n/10) (by lia),Nat.toDigits_of_base_le (by decide) (by lia)]
   simp
theorem text_len{a:Int}(h:0≤a):((Str.ofString (toString a)).length:Int)=(il a.toNat:Int):=by
 refine av (EB h) fun n af=> ?_;subst af
 have e:Str.ofString (toString ((n:Nat):Int))=⟨((Pd 10 n).map Char.toNat).toArray⟩:=text_ofNat n
 rw[e,zB,←Ph]
 simp[Str.length]
theorem TH:∀n:Nat,il n≤n+1:=by
 intro n
 induction n using ON with
 |ind n ih=>
  by_cases h:n<10
  ·rw[wi h];lia
  ·rw[wh h];have:=ih (n/10) (by lia);lia
theorem Pz(h:n<2^64):il n<2^63:=by
 by_cases q:n<10
 ·rw[wi q];lia
 ·rw[wh q];have:=TH (n/10);lia
section
theorem Ue(C:ax c)(I:Inv c X ad h s){k:K}(q:c.Ok (LG c.P V h k))(r:c.VR X ad s.heap v V):wpAny c.M A (call (.builtin "len") [v]) (aF c X ad s k) NE s:=by
 have fin:∀n:Int,c.Ok (k (.lit n) h)→aF c X ad s k (.int n (s.toks+1)) {s with toks:=s.toks+1+1}:=fun n q=>aF.of q (.lit _ _) (I.toks _) (Step.toks _)
 have lst:∀a(vs:List Value)(l:List SV),v= .ref a→s.heap.PlainList a vs.toArray→c.VL X ad s.heap vs l→c.Ok (xY l h k)→wpAny c.M A (call (.builtin "len") [v]) (aF c X ad s k) NE s:=by
  rintro a vs l rfl hl P q
  refine ai (aJ q) fun e q=> ?_
  rw[len_eq] at e q
  have hb:=jo e
  have hz:=P.length
  have e2:((vs.toArray.size:Nat):Int)=aq l.length:=by rw[cW,hz];rfl
  exact call_len_list hl.isList (by rw[cW];lia) (by rw[e2];exact fin _ q)
 refine bp q (fun e q=>eL (l:=bU V) (bg (bh e) r) fun a vs af hl hx P=>lst a vs _ af hl P q) fun _ q=> ?_
 refine bp q (fun e q=> ?_) fun _ q=> ?_
 ·refine ai (aJ q) fun eb q=> ?_
  rw[len_eq] at eb q
  have hb:=jo eb
  obtain⟨a,o,vs,ep,ev,ho,hc,hd,hx,P⟩:=lG (l:=bU V) (bg (bh e) r)
  have hz:=P.length
  have e2:((vs.toArray.size:Nat):Int)=aq (bU V).length:=by rw[cW,hz];rfl
  rw[ev]
  exact PyProof.Rows.len_tuple ⟨o,ho,hc,ep,hd⟩ (by rw[cW];lia) (by rw[e2];exact fin _ q)
 refine bp q (fun e q=> ?_) fun _ q=> ?_
 ·refine av (VR.i7 (i:=ct V) (bg (bh e) r)) fun t ev=> ?_
  have e:((c.S.nm (ct V)).length:Int)=aq (len (c.P.cps (ct V))):=by rw[len_eq,C.cps];simp[Str.length]
  refine ai (aJ q) fun hb q=> ?_
  have hb:=jo hb
  rw[len_eq] at hb
  rw[ev]
  refine P.len_str (by rw[e,len_eq];simp only[Int.ofNat_eq_natCast];lia) ?_
  rw[e];exact fin _ q
 refine bp q (fun _ q=>hY I q r fun i p o _ _ hp ev R q=>td q fun l e q=> ?_) fun _ q=> ?_
 ·subst e
  obtain⟨e2,us,hl,P⟩:=R
  exact lst _ us l ev hl P q
 induction V using SV.casesOn with
 |iu e n=>
  refine av (VR.Kj r) fun t af=> ?_;subst af
  refine ai (iR q) fun z1 q=> ?_
  refine ai (iR q) fun z2 q=> ?_
  have z1:decide (e.eval c.ρ<0)=false:=z1
  have z2:decide (e.eval c.ρ<oI)=true:=z2
  rw[decide_eq_false_iff_not] at z1
  rw[decide_eq_true_iff,Tc] at z2
  have e1:=text_len (a:=e.eval c.ρ) (by lia)
  have e3:=Pz (n:=(e.eval c.ρ).toNat) (by lia)
  refine P.len_str (by rw[e1];lia) ?_
  rw[e1]
  exact aF.of q (.sym (.f1 0 e) _ _) (I.toks _) (Step.toks _)
 |_=>exact(a0 q).elim
theorem SX(I:Inv c X ad h s){k:K}(q:c.Ok (K0 V fun v=>k v h))(r:c.VR X ad s.heap v V):wpAny c.M A (call (.builtin "abs") [v]) (aF c X ad s k) NE s:=by
 have e:∀a:Int,(if a<0 then-a else a)=(a.natAbs:Int):=fun a=>by split<;>omega
 refine ai (aJ q) fun ei q=> ?_
 refine av (eU ei r) fun t ev=> ?_
 rw[ev]
 exact call_abs_int fun u tk=>by rw[e];exact aF.of q (xA (e:= .abs (aC V)) fun z=>by rw[←nW (c:=c) z];rfl) (I.toks _) (Step.toks _)
theorem Kr(r:c.VR X ad g v V)(e:Bu V=true):∃x t,v= .str x t:=by
 induction V using SV.casesOn with
 |str i=>exact av (VR.i7 r) fun t e=>⟨_,t,e⟩
 |iu i n=>exact av (VR.Kj r) fun t e=>⟨_,t,e⟩
 |_=>exact nf e
theorem BZ(r:c.VR X ad g v (.tup l)):∃a o,v= .ref a∧g.get? a=some o∧o.cls= .type "tuple":=let⟨a,o,vs,ep,e,ho,hc,_⟩:=lG r;⟨a,o,e,ho,hc⟩
theorem Ks(C:ax c)(r:c.VR X ad g v V)(e:Bv V=true):∃a o,v= .ref a∧g.get? a=some o∧o.cls= .type "tuple":=by
 induction V using SV.casesOn with
 |tup l=>exact BZ r
 |tree i n=>exact(II C r).elim (fun r=>BZ r.2) fun r=>BZ r.2
 |_=>exact nf e
inductive oj (g:Heap):Value→Prop
 |none:oj g .none
 |bool (b:Bool):oj g (.bool b)
 |int (n:Int) (t:Tok):oj g (.int n t)
 |lst (a:Addr) (d:Data):g.get? a=some {cls:= .type "list",data:=d}→oj g (.ref a)
theorem Kq(r:c.VR X ad g v V)(e:BR V=true):oj g v:=by
 induction V using SV.casesOn with
 |none=>exact VR.kl r▸ .none
 |bool b=>exact VR.lM r▸ .bool b
 |lit n=>exact av (VR.dj r) fun t e=>e▸ .int n t
 |sym x n=>exact av (VR.fS r) fun t e=>e▸ .int _ t
 |ar l=>exact eL r fun x vs e hl _ _=>av hl fun n ho=>e▸ .lst x _ ho
 |_=>exact nf e
theorem GF(f:oj s.heap v)(q:Q (.bool false) {s with toks:=s.toks+1}):
  wpAny c.M A (call (.builtin "isinstance") [v,.type "str"]) Q NE s∧wpAny c.M A (call (.builtin "isinstance") [v,.type "tuple"]) Q NE s:=by
 induction f using oj.casesOn with
 |none=>exact⟨IsiPair.NoneType_str q,IsiPair.NoneType_tuple q⟩
 |bool b=>exact⟨IsiPair.bool_str q,IsiPair.bool_tuple q⟩
 |int n t=>exact⟨IsiPair.int_str q,IsiPair.int_tuple q⟩
 |lst a d ho=>exact⟨IsiPair.list_str ho rfl q,IsiPair.list_tuple ho rfl q⟩
theorem KD{a:Bool}(h:mf a b=true)(f:a=true→P)(g:b=true→P):P:=by
 induction a with
 |true=>exact f rfl
 |false=>exact g h
theorem TZ(C:ax c)(I:Inv c X ad h s)(q:c.Ok (CC t V k))(r:c.VR X ad s.heap v V)(fin:∀b tk,c.Ok (k b)→Q (.bool b) {s with toks:=tk}):
  wpAny c.M A (call (.builtin "isinstance") [v,c.S.bi t]) Q NE s:=by
 refine bp q (fun e q=> ?_) fun _ q=>ai (aJ q) fun e q=> ?_
 ·rw[aZ e,C.uF]
  refine bp q (fun e q=> ?_) fun _ q=>ai (aJ q) fun e q=>KD e (fun e=>(GF (Kq r e) (fin _ _ q)).1) fun e=> ?_
  ·obtain⟨x,t,rfl⟩:=Kr r e
   exact IsiPair.str_str (fin _ s.toks q)
  ·obtain⟨a,o,rfl,ho,hc⟩:=Ks C r e
   exact IsiPair.tuple_str ho hc (fin _ _ q)
 ·rw[aZ e,C.DA]
  refine bp q (fun e q=> ?_) fun _ q=>ai (aJ q) fun e q=>KD e (fun e=>(GF (Kq r e) (fin _ _ q)).2) fun e=> ?_
  ·obtain⟨a,o,rfl,ho,hc⟩:=Ks C r e
   exact IsiPair.tuple_tuple ho hc (fin _ s.toks q)
  ·obtain⟨x,t,rfl⟩:=Kr r e
   exact IsiPair.str_tuple (fin _ _ q)
end
end
section
theorem Ab(a:Int):∀l:List Int,(fz a l).Perm (a::l)
 | []=> .refl _
 |b::r=>by
  unfold fz
  by_cases h:b<a
  ·rw[if_pos h];exact((Ab a r).cons b).trans (.swap a b r)
  ·rw[if_neg h]
theorem Fl:∀l:List Int,(lN l).Perm l
 | []=> .refl _
 |a::r=>(Ab a _).trans ((Fl r).cons a)
theorem E1(a:Int):∀l:List Int,l.Pairwise (·≤·)→(fz a l).Pairwise (·≤·)
 | [],_=>by simp[fz]
 |b::r,h=>by
  unfold fz
  refine ai (ml.mp h) fun h1 h2=> ?_
  by_cases q:b<a
  ·rw[if_pos q]
   refine ml.mpr ⟨fun x hx=> ?_,E1 a r h2⟩
   rcases aE.mp ((Ab a r).mem_iff.mp hx) with rfl|m
   ·lia
   ·exact h1 x m
  ·rw[if_neg q]
   refine ml.mpr ⟨fun x hx=> ?_,h⟩
   rcases aE.mp hx with rfl|m
   ·lia
   ·have:=h1 x m;lia
theorem EY:∀l:List Int,(lN l).Pairwise (·≤·)
 | []=> .nil
 |a::r=>E1 a _ (EY r)
theorem EU:∀{l m:List Int},l.Pairwise (·≤·)→m.Pairwise (·≤·)→l.Perm m→l=m
 | [],m,_,_,p=>p.symm.eq_nil.symm▸rfl
 |a::l,[],_,_,p=>absurd p.eq_nil (by simp)
 |a::l,b::m,h1,h2,p=>by
  refine ai (ml.mp h1) fun x1 x2=> ?_
  refine ai (ml.mp h2) fun y1 y2=> ?_
  have e:a=b:=by
   have ha:a∈b::m:=p.mem_iff.mp (.head _)
   have hb:b∈a::l:=p.mem_iff.mpr (.head _)
   rcases aE.mp ha with e|ha
   ·exact e
   ·rcases aE.mp hb with e|hb
    ·exact e.symm
    ·have:=y1 a ha;have:=x1 b hb;lia
  subst e
  rw[EU x2 y2 (List.Perm.cons_inv p)]
theorem Wc(l:List SV):uV l=l.map aC:=by
 induction l with
 |nil=>rfl
 |cons a l ih=>show aC a::uV l=_;rw[ih];rfl
section
variable{c:Cx} {X:List Addr} {ad:Ad} {h:Hp} {s:Shared} {g:Heap}
theorem GL:∀{vs:List Value}{l:List SV},Paired (c.VR X ad g) vs l→(∀V∈l,bQ V=true)→IntsAre vs (l.map fun V=>(aC V).eval c.ρ)
 |_,[],P,_=>p0 P .nil
 |_,_::_,P,h=>p1 P fun v us r P=>by
  refine av (eU (h _ (.head _)) r) fun t af=> ?_;subst af
  exact .cons _ _ (GL P fun V m=>h V (.tail _ m))
theorem Gg:∀{l:List SV},allI l=true→∀V∈l,bQ V=true
 | [],_,_,m=>nomatch m
 |a::l,h,V,m=>by
  have h:cond (bQ a) (allI l) false=true:=h
  induction e:bQ a using Bool.casesOn with
  |false=>rw[e] at h;(exfalso;injection h)
  |true=>
   rw[e] at h
   rcases aE.mp m with rfl|m
   ·exact e
   ·exact Gg h V m
theorem Au{V:SV}(h:cX V=true):V= .au:=bh h
theorem Gj{vs:List Value}{l:List SV}(P:c.VL X ad g vs l)(e:big (len l)=true):vs.toArray.size≤sizeLine:=by
 rw[len_eq,←P.length] at e
 rw[cW];exact cx (dU (rV (jo e) (by decide))) iP
theorem Ux{as:List SV}{vs:List Value}{f:SV→Res}(q:c.Ok (dX as f))(rs:c.VL X ad g vs as){G:List Value→Prop}(H:∀V v,c.Ok (f V)→c.VR X ad g v V→G [v]):G vs:=by
 refine ak (iS q) fun V af q=> ?_;subst af
 exact p1 rs fun v us r rs=>p0 rs (H V v q r)
section
variable{A:Around} {b n:Nat} {w:Value} {as:List SV} {vs:List Value} {Q:Value→Shared→Prop} (DR:ag b n=true) (DS:c.S.bi n=w)
include DR DS
theorem o3{f:SV→Res}(q:c.Ok (dX as f))(rs:c.VL X ad g vs as)(H:∀V v,c.Ok (f V)→c.VR X ad g v V→wpAny c.M A (call w [v]) Q NE s):wpAny c.M A (call (c.S.bi b) vs) Q NE s:=by
 rw[aZ DR,DS];exact Ux (G:=fun vs=>wpAny c.M A (call w vs) Q NE s) q rs H
theorem MO{f:SV→SV→Res}(q:c.Ok (ux as f))(rs:c.VL X ad g vs as)(H:∀V W v u,c.Ok (f V W)→c.VR X ad g v V→c.VR X ad g u W→wpAny c.M A (call w [v,u]) Q NE s):wpAny c.M A (call (c.S.bi b) vs) Q NE s:=by
 rw[aZ DR,DS]
 refine eP (IF q) fun V W af q=> ?_;subst af
 exact p1 rs fun v us r rs=>p1 rs fun u us r2 rs=>p0 rs (H V W v u q r r2)
end
@[elab_as_elim] theorem Vx{G:Value→Prop}{v:Value}{V:SV}{f:Nat→Res}(q:c.Ok (yD V f))(r:c.VR X ad g v V)(H:∀t,c.Ok (f t)→G (c.S.bi t)):G v:=biE q fun t e q=>VR.D2 (bg e r)▸H t q
@[elab_as_elim] theorem AU{G:Value→Prop}{v:Value}{V:SV}{f:List SV→Res}(q:c.Ok (eE V f))(r:c.VR X ad g v V)(H:∀l a us,c.Ok (f l)→g.PlainList a us.toArray→a∉X→c.VL X ad g us l→G (.ref a)):G v:=lT q fun l e q=>eL (bg e r) fun a us e hl hx P=>e▸H l a us q hl hx P
@[elab_as_elim] theorem UK(I:Inv c X ad h s){G:Value→Prop}{v:Value}{V:SV}{f:List (Nat×SV)→Res}(q:c.Ok (CZ V h f))(r:c.VR X ad s.heap v V)
  (H:∀l(p:Addr×Addr),c.Ok (f l)→∀{i:Nat},ad[i]? =some p→∀aU:List (Str×Value),s.heap.DictOf (strKind c.prog c.w) p.1 aU→(∀x V,look l x=some V→cX V=false→∃v,valueAt aU (c.S.nm x)=some v∧c.VR X ad s.heap v V)→
   (∀s,(∀x V,look l x=some V→s≠c.S.nm x)→valueAt aU s=none)→G (.ref p.1)):G v:=by
 refine hY I q r fun i p o _ _ hp ev R q=>Zw q fun l e q=> ?_
 subst ev;subst e
 obtain⟨e2,aU,hd,hf,cq⟩:=R;exact H l p q hp aU hd hf cq
variable{A:Around} {k:K} {V:SV} {v:Value}
theorem VB(C:ax c)(I:Inv c X ad h s){T:SV}{u:Value}(q:c.Ok (yD T fun t=>CC t V fun b=>cond b (k (.bool true) h) (k (.bool false) h)))(r:c.VR X ad s.heap v V)(r2:c.VR X ad s.heap u T):
  wpAny c.M A (call (.builtin "isinstance") [v,u]) (aF c X ad s k) NE s:=
 Vx (G:=fun u=>wpAny c.M A (call (.builtin "isinstance") [v,u]) (aF c X ad s k) NE s) q r2 fun t q=>TZ C I q r fun b tk q=>aF.of (nV (k:=fun b=>k (.bool b) h) q) (.bool _) (I.toks _) (Step.toks _)
theorem VC(I:Inv c X ad h s)(hh:A.handled=none){W:SV}{u:Value}(q:c.Ok (two V W (ltI V W fun t=>cond t (k W h) (k V h))))(r:c.VR X ad s.heap v V)(r2:c.VR X ad s.heap u W):
  wpAny c.M A (call (.builtin "max") [v,u]) (aF c X ad s k) NE s:=by
 refine dq (JL q) fun h1 h2 q=> ?_
 refine av (eU h1 r) fun t1 af=> ?_;subst af
 refine av (eU h2 r2) fun t2 af=> ?_;subst af
 refine gD (max_two_ints hh fun h' tk hk hs=> ?_)
 refine ai (I.push (g:=h') (t:=tk) hk hs) fun J T=> ?_
 refine bp (oe q) (fun e q=> ?_) fun e q=> ?_
 ·rw[if_pos (of_decide_eq_true e)];exact aF.of q (I.cu T r2) J T
 ·rw[if_neg (of_decide_eq_false e)];exact aF.of q (I.cu T r) J T
theorem PV(I:Inv c X ad h s)(q:c.Ok (eE V fun l=>cond (ah (bq (len l) 64) (allI l)) (k (.lx (.mk 1 (uV l)) (sortI (Mb l))) h) (bad 285)))(r:c.VR X ad s.heap v V):
  wpAny c.M A (call (.builtin "sorted") [v]) (aF c X ad s k) NE s:=
 AU q r fun l a us q hl hx P=>yes q fun e q=>by
  have e2:=Gg (bJ.mp e).2
  have e1:=blt_iff.mp (bJ.mp e).1
  rw[len_eq,←P.length] at e1
  refine gD (sorted_ints hl.isList (GL P e2) e1 fun out ns' a1 a2 a3 hs=> ?_)
  refine ai (I.push (g:=sortedAll s.heap us out) (t:=s.toks) (fun _ _=>sortedAll_old) hs) fun J T=> ?_
  refine av (sortedAll_at s.heap us out) fun ep he=> ?_
  refine aF.of q (.lx (vs:=out.toList) (ep:=ep) _ _ he rfl (by rw[Array.toArray_toList]) (I.fresh (nU _)) ?_) J T
  have e6:LX.eval c.ρ (.mk 1 (uV l))=ns':=by
   rw[EU a3 (EY _) (a2.trans (Fl _).symm),Wc]
   show lN ((l.map aC).map _)=_
   rw[iN];rfl
  rw[e6];exact a1
theorem WK(I:Inv c X ad h s)(e2:bQ V=true)(q:c.Ok (oh V (k (.iu (aC V) (aW V)) h)))(r:c.VR X ad s.heap v V):wpAny c.M A (call (.type "str") [v]) (aF c X ad s k) NE s:=by
 refine av (eU e2 r) fun t af=> ?_;subst af
 refine P.str_of_int ?_ (aF.of (j0 q).2 (.iu _ _ _) (I.toks _) (Step.toks _))
 by_cases z0:((aC V).eval c.ρ).natAbs=0
 ·rw[z0];decide
 ·exact rV ((Pk z0 (k:=64)).mpr (j0 q).1) (by decide)
theorem VD(I:Inv c X ad h s)(q:c.Ok (JG V fun v=>k v h))(r:c.VR X ad s.heap v V):wpAny c.M A (call (.type "str") [v]) (aF c X ad s k) NE s:=by
 exact yes q fun e q=>WK I e q r
theorem Rb(I:Inv c X ad h s)(q:c.Ok (eE V fun l=>cond (big (len l)) (k (.tup l) h) (bad 285)))(r:c.VR X ad s.heap v V):
  wpAny c.M A (call (.type "tuple") [v]) (aF c X ad s k) NE s:=
 AU q r fun l a us q hl hx P=>yes q fun e q=>gD (call_tuple_list hl.isList (fun h' hk hs=>by
  have YL:s.heap.get? h'.objs.size=none:=Option.eq_none_iff_forall_ne_some.mpr fun o z=>absurd (Heap.lt_size (hk _ _ z)) (df _)
  refine ai (I.push (g:=h'.push {cls:= .type "tuple",data:= .seq us.toArray}) (t:=s.toks) (fun b o e=>Heap.get?_push_of_some _ (hk b o e)) hs) fun J T=> ?_
  exact aF.of q (j4 (I.g6 T P) (Heap.get?_push_size _ rfl) rfl rfl (I.V3 YL)) J T) (Gj P e))
theorem Tf(I:Inv c X ad h s)(q:c.Ok (eE V fun l=>cond (big (len l)) (k (.ar l) h) (bad 285)))(r:c.VR X ad s.heap v V):
  wpAny c.M A (call (.type "list") [v]) (aF c X ad s k) NE s:=
 AU q r fun l a us q⟨n,ho⟩hx P=>yes q fun e q=>gD (call_list_seq a (.inl rfl) ho rfl rfl (fun h' c' hk hD hs=>by
  refine ai (I.push (g:=h') (t:=s.toks) hk hs) fun J T=> ?_
  exact aF.of q (lE (I.g6 T P) hD (I.fresh (bb _))) J T) (Gj P e))
theorem Te(C:ax c)(I:Inv c X ad h s)(q:c.Ok (CZ V h fun l=>cond (small (len l)) (k (.bu l) h) (bad 285)))(r:c.VR X ad s.heap v V):
  wpAny c.M A (call (.type "dict") [v]) (aF c X ad s k) NE s:=
 UK I q r fun l p q{i}hp aU hd hf cq=>yes q fun e q=>by
  rw[len_eq] at e
  have hlen:aU.length≤l.length:=by
   rw[←aT (f:=fun p=>c.S.nm p.1) (as:=l)]
   exact Bx (AP hd) fun k hk=>Classical.byContradiction fun z=>hk (AZ cq k z)
  refine gD (kt_call_dict (A4 C I hp) hd (cx hlen (cx (dU (rV (lB e) (by decide))) iP)) fun h' kO kW hs=> ?_)
  refine ai (I.push (g:=h') (t:=s.toks) (fun b o e=>(kW.2 b (jW (Heap.lt_size e))).trans (Heap.get?_push_of_some _ e)) hs) fun J T=> ?_
  obtain⟨o,ho⟩:∃o,h'.get? s.heap.objs.size=some o:=let⟨o,_,_,e,_⟩:=kO;⟨o,e⟩
  refine aF.of q (.bu (f:=fun x=>(valueAt aU (c.S.nm x)).getD .none) ho kO.mapOf (I.fresh (bb _)) (fun x V e u=> ?_) fun x V e=> ?_) J T
  ·refine ak (hf x V e u) fun v hv _=> ?_
   rw[hv];rfl
  ·induction u:cX V using Bool.casesOn with
   |true=>rw[Au u];exact .au _
   |false=>
    refine ak (hf x V e u) fun v hv rv=> ?_
    rw[hv];exact I.cu T rv
theorem PX(C:ax c)(I:Inv c X ad h s)(hh:A.handled=none){b:Nat}{as:List SV}{vs:List Value}(q:c.Ok (Bh c.P b as h k))(rs:c.VL X ad s.heap vs as):
  wpAny c.M A (call (c.S.bi b) vs) (aF c X ad s k) NE s:=
 (lz (fun e q=>o3 e C.b1 q rs fun V v q r=>Ue C I q r)<|
 lz (fun e q=>MO e C.b3 q rs fun V W v u q r r2=>VB C I q r r2)<|
 lz (fun e q=>o3 e C.b2 q rs fun V v q r=>SX I q r)<|
 lz (fun e q=>MO e C.b8 q rs fun V W v u q r r2=>VC I hh q r r2)<|
 lz (fun e q=>o3 e C.MK q rs fun V v q r=>PV I q r)<|
 lz (fun e q=>o3 e C.uF q rs fun V v q r=>VD I q r)<|
 lz (fun e q=>o3 e C.DA q rs fun V v q r=>Rb I q r)<|
 lz (fun e q=>o3 e C.ML q rs fun V v q r=>Tf I q r)<|
 lz (fun e q=>o3 e C.MM q rs fun V v q r=>Te C I q r) fun q=>(a0 q).elim) q
end
end
section
theorem OG:fillsNumberSlot (.type "tuple") "mul"=pure false:=
 PySem.fillsNumberSlot_seq (id:="tuple.__mul__") (r:=some (.builtin "tuple.__rmul__")) F.slot_tuple_mul.lookup (by decide+kernel) F.slot_tuple_rmul.lookup (by decide+kernel)
theorem Pb:seqRepeat? (.type "tuple")=pure (some (.builtin "tuple.__mul__")):=by
 unfold seqRepeat?
 rw[PySem.seqSlot_of (T:="tuple") (name:="__mul__") (id:="tuple.__mul__") F.slot_tuple_mul.lookup (by decide+kernel),PySem.seqSlot_of (T:="tuple") (name:="__rmul__") (id:="tuple.__rmul__") F.slot_tuple_rmul.lookup (by decide+kernel)]
 rfl
theorem PH(a:Int)(t:Tok)(l:Addr)(items:Array Value)(n:Nat)(od:Option Addr)(sl:Array (Option Value)):
  Meets (Builtin.«int.__rmul__» ⟨[.int a t,.ref l],[]⟩) (fun _ R s=>s.heap.get? l=some {cls:= .type "tuple",dict:=od,data:= .seq items n,slots:=sl}∧R (.ok (.ret Value.notImplemented)) s):=
 .of_wp fun prog w A R s h=>by obtain⟨hp,g,d,tk,os⟩:=s;obtain⟨hl,h⟩:=h;wp_walk;exact⟨_,rfl,h⟩
theorem PR(u:Tok)(l:Addr)(x:Value)(n:Nat)(od:Option Addr)(sl:Array (Option Value)):
  Meets (Builtin.«tuple.__mul__» ⟨[.ref l,.int 2 u],[]⟩) (fun _ R s=>s.heap.get? l=some {cls:= .type "tuple",dict:=od,data:= .seq #[x] n,slots:=sl}∧
   R (.ok (.ret (.ref s.heap.objs.size))) {s with heap:=s.heap.push {cls:= .type "tuple",data:= .seq #[x,x]}}):=
 .of_wp fun prog w A R s h=>by
  obtain⟨hp,g,d,tk,os⟩:=s;obtain⟨hl,h⟩:=h
  wp_walk
  exact⟨_,rfl,h⟩
section
theorem UE(I:Inv c X ad h s){t':Tok}{k:K}(q:c.Ok (dX l fun a=>k (.tup [a,a]) h))(rv:c.VR X ad s.heap v (.tup l)):wpAny c.M A (binaryOp .Mult v (.int 2 t')) (aF c X ad s k) NE s:=by
 refine ak (iS q) fun a af z=> ?_;subst af
 obtain⟨x,o,vs,ep,rfl,ho,hc,hd,hx,P⟩:=lG rv
 obtain⟨y,_,rfl,r1,P⟩:=Eg P
 obtain rfl:=NQ P
 obtain⟨oc,od,odt,pL⟩:=o
 dsimp only at hc hd
 subst hc hd
 refine wpAny_binaryOp_repeat_ref (T:="tuple") (U:="int") (by decide) ⟨_,ho,rfl⟩ (fun s'=>typeIs_int s' 2 t') OG F.fills_int_mul F.slot_int_rmul Pb F.slot_int_index.lookup
  (call_meets F.slot_int_rmul (typeIs_int s 2 t') F.entry_int_rmul (F.args_int_rmul_2 _ _) (PH 2 t' x _ ep od pL)
   ⟨ho,rfl,⟨_,ho,rfl⟩,call_meets F.slot_tuple_mul ⟨_,ho,rfl⟩ F.entry_tuple_mul (F.args_tuple_mul_2 _ _) (PR t' x y ep od pL) ⟨ho,?_⟩⟩)
 refine ai (I.push (g:=s.heap.push {cls:= .type "tuple",data:= .seq #[y,y]}) (t:=s.toks) (fun b o e=>ec e) (dU (fI _ _))) fun J T=> ?_
 exact aF.of z (j4 (vs:=[y,y]) (.cons (I.cu T r1) (.cons (I.cu T r1) .nil)) (gE rfl) rfl rfl (I.fresh (bb _))) J T
theorem WA(P:c.VL X ad g vs l)(j:Nat):c.VL X ad g (eR j vs).flatten (eR j l).flatten:=by
 induction j with
 |zero=>exact .nil
 |succ j ih=>rw[vp,vp,EJ,EJ];exact Paired.append P ih
theorem UD(C:ax c)(I:Inv c X ad h s)(hH:bY c s){t m:Bool}{b:SV}{k:K}(q:c.Ok (CQ t m l b h k))(rv:c.VR X ad s.heap v (cond t (.tup l) (.ar l)))(rb:c.VR X ad s.heap u b):
  wpAny c.M A (binaryOp .Mult v u) (aF c X ad s k) NE s:=by
 refine litE q fun n e q=> ?_
 refine av (VR.dj (bg e rb)) fun t' ee=> ?_;subst ee
 refine ai (aJ q) fun e q=> ?_
 refine gj e fun e0 e1 e2=> ?_
 refine bp q (fun et q=> ?_) fun et q=> ?_<;>rw[et] at rv
 ·refine ai (aJ q) fun e3 q=> ?_
  rw[ib e3]
  exact UE I q rv
 ·rw[len_eq] at e2
  have h1:=lB e1
  have h2:=lB e2
  rw[neg_eq,j5,nO,decide_eq_false_iff_not] at e0
  have e0:¬n<0:=e0
  refine eL (l:=l) rv fun x vs ev ho hx P=> ?_;subst ev
  refine av ho fun ep ho=> ?_
  have hz:=P.length
  rw[Ig] at q
  refine PG ho h1 (by lia) ?_ (by lia) (by lia)
  exact w6 C I hH (WA P _) q _ s.toks (bb _) (fI _ _) (fun b o e=>ec e) (gE rfl)
theorem Up(I:Inv c X ad h s){k:K}(q:c.Ok (LJ V h k))(r:c.VR X ad s.heap v V):wpAny c.M A (unaryOp .USub v) (aF c X ad s k) NE s:=by
 refine ai (aJ q) fun e q=> ?_
 refine av (eU e r) fun t af=> ?_;subst af
 refine neg_int (aF.of q ?_ (I.toks _) (Step.toks _))
 exact xA (e:= .neg (aC V)) fun z=>by show-_=_;rw[nW z];rfl
end
end
section
noncomputable def aV(e:Env):List Addr:=e.locals::e.cells.map (·.2)
noncomputable def Ym(c:Cx)(e:Env)(X:List Addr)(ad:Ad)(h:Heap)(m:Str→Option Value)(x:Nat)(V:SV):Prop:=
 (e.kindOf (c.S.nm x)=some .local∧∃v,m (c.S.nm x)=some v∧c.VR X ad h v V)∨
 ((e.kindOf (c.S.nm x)=some .cell∨e.kindOf (c.S.nm x)=some .free)∧∃a v,e.cells.lookup (c.S.nm x)=some a∧h.IsCell a (some v)∧c.VR X ad h v V)
noncomputable def tY(e:Env)(n:Str):Prop:=e.kindOf n=some .local∨e.kindOf n=some .cell∨e.kindOf n=some .free
structure bC(c:Cx)(e:Env)(X:List Addr)(ad:Ad)(h:Heap)(env:En):Prop where
 kind:e.scope.kind= .function
 glob:e.globals=mainGlobals
 blt:e.builtins=builtinsNs
 vars:∃m,h.Ns e.locals m∧∀x V,look env x=some V→tY e (c.S.nm x)→Ym c e X ad h m x V
 cell:∀n a,e.cells.lookup n=some a→∃v,h.IsCell a v
 bc:∀a∈aV e,a∈X
 fT:∀a∈aV e,¬Mt ad a
 apart:∀n n' a,e.cells.lookup n=some a→e.cells.lookup n'=some a→n=n'
 locs:∀n a,e.cells.lookup n=some a→a≠e.locals
theorem lookup_mem{α:Type}{l:List (Str×α)}{n:Str}{a:α}(h:l.lookup n=some a):a∈l.map (·.2):=bz.mpr ⟨(n,a),mem_of_lookup h,rfl⟩
section
variable{ae:Ad}
theorem bC.loc(R:bC c e X ad s.heap env):e.locals∈X∧¬Mt ad e.locals:=⟨R.bc _ (.head _),R.fT _ (.head _)⟩
theorem bC.cel(R:bC c e X ad s.heap env){n:Str}(q:e.cells.lookup n=some a):a∈X∧¬Mt ad a:=⟨R.bc _ (.tail _ (lookup_mem q)),R.fT _ (.tail _ (lookup_mem q))⟩
theorem bC.keep(R:bC c e X ad s.heap env)(I:Inv c X ad h s)(T:Step [] X ad s X' ae s'):bC c e X' ae s'.heap env:=by
 have kp:∀a∈aV e,∀o,s.heap.get? a=some o→s'.heap.get? a=some o:=fun a ha o q=>T.keep a o q (fun m=>nomatch m) (R.fT a ha)
 refine ak R.vars fun m hn hv=> ?_
 have kc:∀{n a v},e.cells.lookup n=some a→s.heap.IsCell a v→s'.heap.IsCell a v:=fun q⟨o,ho,hd⟩=>⟨o,kp _ (.tail _ (lookup_mem q)) o ho,hd⟩
 refine⟨R.kind,R.glob,R.blt,⟨m,hn.at' (kp _ (.head _)),fun x V q vk=> ?_⟩,fun n a q=>let⟨v,z⟩:=R.cell n a q;⟨v,kc q z⟩,fun a ha=>T.XK a (R.bc a ha),fun a ha z=> ?_,R.apart,R.locs⟩
 ·rcases hv x V q vk with⟨k,v,h1,h2⟩|⟨k,a,v,h1,h2,h3⟩
  ·exact .inl ⟨k,v,h1,I.cu T h2⟩
  ·exact .inr ⟨k,a,v,h1,kc h1 h2,I.cu T h3⟩
 ·rcases T.dI a z with z|z
  ·exact R.fT a ha z
  ·exact df _ (cV (I.low a (R.bc a ha)) z)
theorem To(C:ax c)(I:Inv c X ad h s)(R:bC c e X ad s.heap env){x:Nat}{p:Pos}{P:Prog}{k:K}(q:c.Ok (dD x P cl n env h k))(vk:tY e (c.S.nm x)):
  wpAny c.M A (eval (.Name (c.S.nm x) p) e) (aF c X ad s k) NE s:=by
 refine ak (Av q) fun V hV q=> ?_
 refine ai (sC q) fun u q=> ?_
 refine ak R.vars fun m hn hv=> ?_
 rcases hv x V hV vk with⟨k1,v,h1,h2⟩|⟨k1,a,v,h1,h2,h3⟩
 ·exact wpAny_Name (wpAny_loadName_local R.kind k1 hn h1 (aF.of q h2 I (Step.refl ..))) (C.o8 x)
 ·rcases k1 with k1|k1
  ·exact wpAny_Name (wpAny_loadName_cell R.kind k1 h1 h2 (aF.of q h3 I (Step.refl ..))) (C.o8 x)
  ·exact wpAny_Name (wpAny_loadName_free R.kind k1 h1 h2 (aF.of q h3 I (Step.refl ..)) (C.DC x)) (C.o8 x)
theorem S8(I:Inv c X ad h s)(r:c.VR [] [] c.H v V):c.VR X ad s.heap v V:=
 r.mono (fun b o q _=>⟨I.base b o q,fun m=>by have:=I.own b m;rw[q] at this;(exfalso;injection this)⟩) fun i p q=>by simp at q
theorem Hy(C:ax c)(I:Inv c X ad h s)(R:bC c e X ad s.heap env){x g:Nat}{p:Pos}{k:K}(q:c.Ok (t6 g c.P cl n env h k))(hg:c.S.gp x g=true)(hk:e.kindOf (c.S.nm x)=some .globalImplicit):
  wpAny c.M A (eval (.Name (c.S.nm x) p) e) (aF c X ad s k) NE s:=by
 refine ai (sC q) fun u q=> ?_
 obtain⟨v,⟨mg,mb,n1,n2,hv⟩,r⟩:=C.glob x g hg
 have m1:s.heap.Ns e.globals mg:=by rw[R.glob];exact n1.keeps I.base
 have m2:s.heap.Ns e.builtins mb:=by rw[R.blt];exact n2.keeps I.base
 have fin:=aF.of q (S8 I r) I (Step.refl [] X ad s)
 rcases hv with hv|⟨h1,hv⟩
 ·exact Name_function_global R.kind hk (loadGlobal_global m1 hv fin) (C.o8 x)
 ·exact Name_function_global R.kind hk (loadGlobal_builtin m1 h1 m2 hv fin) (C.o8 x)
end
end
section
noncomputable def Wr(c:Cx)(e:Env)(x:Nat)(D:List Addr):Prop:=(e.kindOf (c.S.nm x)=some .local→e.locals∈D)∧∀a,e.cells.lookup (c.S.nm x)=some a→e.kindOf (c.S.nm x)=some .cell→a∈D
theorem Wr.aV{x:Nat}:Wr c e x (aV e):=⟨fun _=> .head _,fun a q _=> .tail _ (lookup_mem q)⟩
noncomputable def ZX(c:Cx)(D:List Addr)(e:Env)(X:List Addr)(ad:Ad)(h:Hp)(s:Shared)(env:En)(s':Shared):Prop:=bC c e X ad s'.heap env∧Inv c X ad h s'∧Step D X ad s X ad s'
noncomputable def Ah(e:Env)(n:Str):Prop:=e.kindOf n=some .local∨(e.kindOf n=some .cell∧∃a,e.cells.lookup n=some a)
section
variable{ae:Ad}
theorem v8(C:ax c)(I:Inv c X ad h s)(R:bC c e X ad s.heap env){x:Nat}(hw:Wr c e x D)(rv:c.VR X ad s.heap v V)(hs:Ah e (c.S.nm x)):
  wpAny c.M A (storeName e (c.S.nm x) v) (fun _ s'=>ZX c D e X ad h s (put env x V) s') NE s:=by
 refine ak R.vars fun m hn hv=> ?_
 rcases hs with hl|⟨hc,a,ha⟩
 ·refine wpAny_storeName_local hl hn (fun h' dT kW=> ?_) (by rw[R.kind];rfl)
  have hD:∀a∈ [e.locals],a∈X∧¬Mt ad a:=fun a m=>by rw[bx.mp m];exact R.loc
  obtain⟨J,T⟩:=I.heap (D:=[e.locals]) (g:=h') (t:=s.toks+1) (fun b o q nb=>(kW.2 b fun z=>nb (by rw[z];exact .head _)).trans q) (mC kW.1.symm) hD
   fun a m=>by rw[bx.mp m];obtain⟨o,_,_,ho,_⟩:=dT;exact⟨o,ho⟩
  have mono:∀{v V},c.VR X ad s.heap v V→c.VR X ad h' v V:=fun r=>I.vr T (fun a m=>(hD a m).1) r
  have kc:∀{n a v},e.cells.lookup n=some a→s.heap.IsCell a v→h'.IsCell a v:=fun q z=>z.sameBut kW (R.locs _ _ q)
  refine⟨⟨R.kind,R.glob,R.blt,⟨_,dT,fun y W q vk=> ?_⟩,fun n a q=>let⟨v,z⟩:=R.cell n a q;⟨v,kc q z⟩,R.bc,R.fT,R.apart,R.locs⟩,J,T.mono fun a m=>by rw[bx.mp m];exact hw.1 hl⟩
  rw[lA] at q
  by_cases z:x=y
  ·subst z
   rw[if_pos rfl] at q;(injection q with e1;subst e1)
   exact .inl ⟨hl,v,if_pos rfl,mono rv⟩
  ·rw[if_neg z] at q
   rcases hv y W q vk with⟨k,u,h1,h2⟩|⟨k,a,u,h1,h2,h3⟩
   ·exact .inl ⟨k,u,(if_neg fun z'=>z (C.inj _ _ z').symm).trans h1,mono h2⟩
   ·exact .inr ⟨k,a,u,h1,kc h1 h2,mono h3⟩
 ·refine av (R.cell _ a ha) fun v0 D1=> ?_
  refine wpAny_storeName_cell R.kind hc ha D1 fun h' DT kW=> ?_
  have hD:∀b∈ [a],b∈X∧¬Mt ad b:=fun b m=>by rw[bx.mp m];exact R.cel ha
  obtain⟨J,T⟩:=I.heap (D:=[a]) (g:=h') (t:=s.toks) (fun b o q nb=>(kW.2 b fun z=>nb (by rw[z];exact .head _)).trans q) (mC kW.1.symm) hD
   fun b m=>by rw[bx.mp m];obtain⟨o,ho,_⟩:=DT;exact⟨o,ho⟩
  have mono:∀{v V},c.VR X ad s.heap v V→c.VR X ad h' v V:=fun r=>I.vr T (fun a m=>(hD a m).1) r
  have kc:∀{n b v},n≠c.S.nm x→e.cells.lookup n=some b→s.heap.IsCell b v→h'.IsCell b v:=fun ne q z=>z.sameBut kW fun y=>ne (R.apart _ _ _ (y▸q) ha)
  refine⟨⟨R.kind,R.glob,R.blt,⟨m,hn.sameBut kW (R.locs _ _ ha).symm,fun y W q vk=> ?_⟩,fun n b q=> ?_,R.bc,R.fT,R.apart,R.locs⟩,J,T.mono fun b m=>by rw[bx.mp m];exact hw.2 _ ha hc⟩
  ·rw[lA] at q
   by_cases z:x=y
   ·subst z
    rw[if_pos rfl] at q;(injection q with e1;subst e1)
    exact .inr ⟨.inl hc,a,v,ha,DT,mono rv⟩
   ·rw[if_neg z] at q
    rcases hv y W q vk with⟨k,u,h1,h2⟩|⟨k,b,u,h1,h2,h3⟩
    ·exact .inl ⟨k,u,h1,mono h2⟩
    ·exact .inr ⟨k,b,u,h1,kc (fun z'=>z (C.inj _ _ z').symm) h1 h2,mono h3⟩
  ·by_cases z:n=c.S.nm x
   ·subst z
    rw[ha] at q;(injection q with e1;subst e1)
    exact⟨_,DT⟩
   ·refine av (R.cell n b q) fun u y=> ?_
    exact⟨u,kc z q y⟩
end
end
section
section
variable(nm:Nat→Str)
noncomputable def dz(sc:List (Nat×NameKind)):List (Str×NameKind):=sc.map fun p=>(nm p.1,p.2)
noncomputable def dP(sc:List (Nat×NameKind)):Scope:={kind:= .function,names:=dz nm sc,isGenerator:=false,isCoroutine:=false}
noncomputable def qw(v:ME):Bool:=ag v.ctorIdx 21
noncomputable def mX(m:ME)(e:PySem.Expr):Option PySem.Expr:=if qw m then none else some e
mutual
noncomputable def az:ME→PySem.Expr
 | .none k p=> .Constant .none k p
 | .bool b k p=> .Constant (.bool b) k p
 | .int n k p=> .Constant (.int n) k p
 | .str i k p=> .Constant (.str (nm i)) k p
 | .loc x p=> .Name (nm x) p
 | .eG x _ p=> .Name (nm x) p
 | .o4 a es p=> .BoolOp (if a then .And else .Or) (bO es) p
 | .bin op _ l r p=> .BinOp (az l) op (az r) p
 | .not e p=> .UnaryOp .Not (az e) p
 | .neg e p=> .UnaryOp .USub (az e) p
 | .pF t b o p=> .IfExp (az t) (az b) (az o) p
 | .tup es k p=> .Tuple (bO es) k p
 | .lst _ es p=> .List (bO es) p
 | .f3 _ p=> .Dict [] [] p
 | .comp elt t it ifs sc p=> .ListComp (az elt) [⟨az t,az it,bO ifs,0⟩] (dP nm sc) p
 | .cmp l ops rs p=> .Compare (az l) ops (bO rs) p
 | .call f as p=> .Call (az f) (bO as) [] p
 | .oO o x ap as p=> .Call (.Attribute (az o) (nm x) ap) (bO as) [] p
 | .fZ o x p=> .Attribute (az o) (nm x) p
 | .sub o i p=> .Subscript (az o) (az i) p
 | .fj _ o l u s sp p=> .Subscript (az o) (.Slice (mX l (az l)) (mX u (az u)) (mX s (az s)) sp) p
 | .absent=> .Constant .none 0 default
 | .rep t _ es k lp r p=> .BinOp (if t then .Tuple (bO es) k lp else .List (bO es) lp) .Mult (az r) p
 | .iter _ x _ as q p=> .Call (.Name (nm x) q) (bO as) [] p
 | .raw e=>e
noncomputable def bO:List ME→List PySem.Expr
 | []=>[]
 |e::r=>az e::bO r
end
mutual
noncomputable def cn:MS→PySem.Stmt
 | .asg t v p=> .Assign [az nm t] (az nm v) p
 | .aug x np op v p=> .AugAssign (.Name (nm x) np) op (az nm v) p
 | .ret v p=> .Return (mX v (az nm v)) p
 | .iff t b o p=> .If (az nm t) (eg b) (eg o) p
 | .cj t b p=> .While (az nm t) (eg b) [] p
 | .for t it b p=> .For (az nm t) (az nm it) (eg b) [] p
 | .exp e p=> .Expr (az nm e) p
 | .raw s=>s
noncomputable def eg:List MS→List PySem.Stmt
 | []=>[]
 |s::r=>cn s::eg r
end
end
structure cp(A:Around)(d:Nat):Prop where
 dm:A.handled=none
 dep:A.depth+d<recursionLimit
 yZ:A.units+8*d+100<cLine
theorem cp.less{m:Nat}(a:cp A m)(h:n≤m):cp A n:=⟨a.dm,by have:=a.dep;lia,by have:=a.yZ;lia⟩
theorem cp.deeper{m:Nat}(a:cp A (m+1))(e:Env):cp (A.deeper e) m:=⟨a.dm,by have:=a.dep;show A.depth+1+m<_;lia,by have:=a.yZ;show A.units+3+8*m+100<_;lia⟩
theorem cp.making{m:Nat}(a:cp A (m+2))(args:Args):cp (A.under (.builtin "type.__call__" args)) m:=by
 have h1:(Code.builtin "type.__call__" args).weight≤1:=by
  have e1:(Code.builtin "type.__call__" args).frames=0:=by kernel_rfl
  have e2:(Code.builtin "type.__call__" args).isGuard=false:=by kernel_rfl
  have e3:(Code.builtin "type.__call__" args).isCaller=false:=by kernel_rfl
  unfold Code.weight
  rw[e1,e2,e3]
  cases(Code.builtin "type.__call__" args).isCreation<;>decide
 have h2:(Code.builtin "type.__call__" args).cUnits=1:=by kernel_rfl
 refine⟨a.dm,?_,?_⟩
 ·have:=a.dep
  show A.depth+(Code.builtin "type.__call__" args).weight+m<_
  lia
 ·have:=a.yZ
  show A.units+(Code.builtin "type.__call__" args).cUnits+8*m+100<_
  rw[h2];lia
end
section
noncomputable def ck(sc:List (Nat×NameKind))(x:Nat):Option NameKind:=match sc with
 | []=>none
 |p::r=>if p.1=x then some p.2 else ck r x
structure gN(c:Cx)(e:Env)(sc:List (Nat×NameKind)):Prop where
 kind:∀x,e.kindOf (c.S.nm x)=ck sc x
 cell:∀x,ck sc x=some .cell→∃a,e.cells.lookup (c.S.nm x)=some a
noncomputable def qY(sc:List (Nat×NameKind))(x:Nat):Bool:=match ck sc x with
 |some .local=>true
 |some .cell=>true
 |some .free=>true
 |_=>false
theorem Vq(S:gN c e sc){x:Nat}(h:qY sc x=true):tY e (c.S.nm x):=by
 unfold qY at h
 have:=S.kind x
 induction q:ck sc x using Option.casesOn with
 |none=>rw[q] at h;exact nf h
 |some k=>
  rw[q] at h this
  induction k<;>first|exact .inl this|exact .inr (.inl this)|exact .inr (.inr this)|exact nf h
structure At(c:Cx)(m:Nat)(sc:List (Nat×NameKind))(A:Around)(e:Env)(X:List Addr)(ad:Ad)(s:Shared)(env:En)(h:Hp):Prop where
 ao:cp A (4*m+2)
 inv:Inv c X ad h s
 low:bY c s
 fr:bC c e X ad s.heap env
 sc:gN c e sc
section
variable{m:Nat} {ae:Ad} {h':Hp}
theorem At.next(a:At c m sc A e X ad s env h)(J:Inv c X' ae h' s')(T:Step [] X ad s X' ae s'):At c m sc A e X' ae s' env h':=⟨a.ao,J,a.low.step T,a.fr.keep a.inv T,a.sc⟩
theorem aF.after(T:Step [] X ad s X' ae s'){k:K}(p:aF c X' ae s' k v fD):aF c X ad s k v fD:=by
 obtain⟨V,l8,mP,ni,q,r,J,T'⟩:=p
 exact⟨V,l8,mP,ni,q,r,J,T.trans T'⟩
inductive jP (c:Cx) (X:List Addr) (ad:Ad) (s:Shared) (k:KB) (b:Bool) (s':Shared):Prop
 |mk:∀h' ae X',c.Ok (k b h')→Inv c X' ae h' s'→Step [] X ad s X' ae s'→jP c X ad s k b s'
theorem pV{t:Sem Bool}{s0:Shared}{k:KB}{Q:Bool→Shared→Prop}(h:wpAny c.M A t (jP c X ad s k) E s0)
  (H:∀v s' h' ae X',c.Ok (k v h')→Inv c X' ae h' s'→Step [] X ad s X' ae s'→Q v s'):wpAny c.M A t Q E s0:=ay h fun v s'⟨h',ae,X',q,J,T⟩=>H v s' h' ae X' q J T
theorem jP.after(T:Step [] X ad s X' ae s'){k:KB}(p:jP c X' ae s' k b fD):jP c X ad s k b fD:=by
 obtain⟨l8,mP,ni,q,J,T'⟩:=p
 exact⟨l8,mP,ni,q,J,T.trans T'⟩
inductive nc (c:Cx) (X:List Addr) (ad:Ad) (s:Shared) (N:Nat) (k:KL) (vs:List Value) (s':Shared):Prop
 |mk:∀l h' ae X',c.Ok (k l h')→c.VL X' ae s'.heap vs l→Inv c X' ae h' s'→Step [] X ad s X' ae s'→l.length=N→nc c X ad s N k vs s'
theorem vf{t:Sem (List Value)}{s0:Shared}{N:Nat}{k:KL}{Q:List Value→Shared→Prop}(h:wpAny c.M A t (nc c X ad s N k) E s0)
  (H:∀v s' l h' ae X',c.Ok (k l h')→c.VL X' ae s'.heap v l→Inv c X' ae h' s'→Step [] X ad s X' ae s'→l.length=N→Q v s'):wpAny c.M A t Q E s0:=ay h fun v s'⟨l,h',ae,X',q,P,J,T,z⟩=>H v s' l h' ae X' q P J T z
theorem nc.after(T:Step [] X ad s X' ae s'){N:Nat}{k:KL}(p:nc c X' ae s' N k vs fD):nc c X ad s N k vs fD:=by
 obtain⟨l,l8,mP,ni,q,r,J,T',z⟩:=p
 exact⟨l,l8,mP,ni,q,r,J,T.trans T',z⟩
end
noncomputable def aO(c:Cx)(m:Nat)(sc:List (Nat×NameKind))(cl:aX)(n:Nat)(C:C)(d:PySem.Expr):Prop:=
 ∀⦃A e X ad s env h⦄⦃k:K⦄,At c m sc A e X ad s env h→c.Ok (C c.P cl n env h k)→wpAny c.M A (eval d e) (aF c X ad s k) NE s
noncomputable def jy(c:Cx)(m:Nat)(sc:List (Nat×NameKind))(cl:aX)(n:Nat)(C:CB)(d:PySem.Expr):Prop:=
 ∀⦃A e X ad s env h⦄⦃k:KB⦄,At c m sc A e X ad s env h→c.Ok (C c.P cl n env h k)→wpAny c.M A (isTrue d e (eval d e)) (jP c X ad s k) NE s
noncomputable def ij(c:Cx)(m:Nat)(sc:List (Nat×NameKind))(cl:aX)(n:Nat)(C:CL)(ds:List PySem.Expr):Prop:=
 ∀⦃A e X ad s env h p⦄⦃k:KL⦄,At c m sc A e X ad s env h→c.Ok (C c.P cl n env h k)→wpAny c.M A (spliced (backTo p (starEach ds e))) (nc c X ad s ds.length k) NE s
section
variable{m:Nat}
theorem A9(C:ax c)(x:Nat)(p:Pos)(hx:qY sc x=true):aO c m sc cl n (dD x) (.Name (c.S.nm x) p):=fun _ _ _ _ _ _ _ _ a q=>To C a.inv a.fr q (Vq a.sc hx)
theorem UX(C:ax c){x g:Nat}(p:Pos)(hg:c.S.gp x g=true)(hk:ck sc x=some .globalImplicit):aO c m sc cl n (t6 g) (.Name (c.S.nm x) p):=fun _ _ _ _ _ _ _ _ a q=>Hy C a.inv a.fr q hg (by rw[a.sc.kind,hk])
theorem Hb(k p):aO c m sc cl n (fx .none) (.Constant .none k p):=fun _ _ _ _ _ _ _ _ a q=>wpAny_Constant_none (aF.of q .none a.inv (Step.refl ..))
theorem Sk(b k p):aO c m sc cl n (fx (.bool b)) (.Constant (.bool b) k p):=fun _ _ _ _ _ _ _ _ a q=>wpAny_Constant_bool (aF.of q (.bool b) a.inv (Step.refl ..))
theorem UZ(i k p):aO c m sc cl n (fx (.lit i)) (.Constant (.int i) k p):=fun _ _ _ _ _ _ _ _ a q=>wpAny_Constant_int (aF.of q (.lit _ _) (a.inv.toks _) (Step.toks _))
theorem U6(i k p):aO c m sc cl n (fx (.str i)) (.Constant (.str (c.S.nm i)) k p):=fun _ _ _ _ _ _ _ _ a q=>PySem.wpAny_Constant_str (aF.of q (.str _ _) (a.inv.toks _) (Step.toks _))
theorem US(C:ax c){op:Operator}{mm:Bool}{l r:Internal.C}{dl dr:PySem.Expr}{p:Pos}(hl:aO c m sc cl n l dl)(hr:aO c m sc cl n r dr):aO c m sc cl n (xI op mm l r) (.BinOp dl op dr p):=fun _ _ _ _ _ _ _ _ a q=>
 wpAny_BinOp (bX (hl a q) fun v s1 V h1 aK X1 q1 r1 J1 T1=>bX (hr (a.next J1 T1) q1) fun u s2 W h2 bl X2 q2 r2 J2 T2=>
  ay (Vz C J2 ((a.next J1 T1).next J2 T2).low q2 (J1.cu T2 r1) r2) fun _ _ p=>(p.after T2).after T1)
theorem U1{x:Internal.C}{p:Pos}(hx:aO c m sc cl n x d):aO c m sc cl n (K9 x) (.UnaryOp .USub d p):=fun _ _ _ _ _ _ _ _ a q=>
 wpAny_UnaryOp (bX (hx a q) fun v s1 V h1 aK X1 q1 r1 J1 T1=>ay (Up J1 q1 r1) fun _ _ p=>p.after T1)
theorem UY{t:CB}{b o:Internal.C}{db MW:PySem.Expr}{p:Pos}(ht:jy c m sc cl n t dt)(hb:aO c m sc cl n b db)(ho:aO c m sc cl n o MW):aO c m sc cl n (xJ t b o) (.IfExp dt db MW p):=fun _ _ _ _ _ _ _ _ a q=>
 wpAny_IfExp (pV (ht a q) fun b s1 h1 aK X1 q1 J1 T1=>by
  induction b with
  |true=>exact ay (hb (a.next J1 T1) q1) fun _ _ p=>p.after T1
  |false=>exact ay (ho (a.next J1 T1) q1) fun _ _ p=>p.after T1)
theorem Iq:ij c m sc cl n qM []:=fun _ _ _ _ _ _ _ _ _ a q=>wpAny_items_nil ⟨[],_,_,_,q,.nil,a.inv,Step.refl ..,rfl⟩
theorem Ha{x:Internal.C}{r:CL}(hx:aO c m sc cl n x d)(hr:ij c m sc cl n r ds)(hs:∀e,starEach (d::ds) e=(false,eval d e)::starEach ds e):ij c m sc cl n (ou x r) (d::ds):=fun _ _ _ _ _ _ _ _ _ a q=>
 wpAny_items_cons (bX (hx a q) fun v s1 V h1 aK X1 q1 r1 J1 T1=>vf (hr (a.next J1 T1) q1) fun vs s2 l h2 bl X2 q2 r2 J2 T2 z=>
  ⟨V::l,h2,bl,X2,q2,.cons (J1.cu T2 r1) r2,J2,T1.trans T2,by rw[cw,cw,z]⟩) (hs _)
end
end
section
section
variable{m:Nat}
theorem Be(q:c.Ok (Dy V k)):∃b,V= .bool b∧c.Ok (k b):=by
 induction V using SV.casesOn with
 |bool b=>exact⟨b,rfl,nV q⟩
 |_=>exact(a0 q).elim
theorem F4{Q:Bool→Shared→Prop}(r:c.VR X ad s.heap v (.bool b))(h:Q b s):wpAny c.M A (truthy v) Q NE s:=by
 obtain rfl:=VR.lM r;exact wpAny_truthy_bool h
theorem AE{x:Internal.C}(hx:aO c m sc cl n x d)(hd:∀e(w:Sem Value),isTrue d e w=(do let v←w;standAt d.pos;holding [v] (truthy v))):jy c m sc cl n (x8 x) d:=fun _ _ _ _ _ _ _ _ a q=>
 wpAny_isTrue_value (bX (hx a q) fun v s1 V h1 aK X1 q1 r1 J1 T1=>by
  refine ak (Be q1) fun b af q2=> ?_;subst af
  exact F4 r1 ⟨h1,aK,X1,q2,J1,T1⟩) (hd _ _)
theorem Sz{t:CB}{p:Pos}(ht:jy c m sc cl n t d):jy c m sc cl n (Mg t) (.UnaryOp .Not d p):=fun _ _ _ _ _ _ _ _ a q=>
 wpAny_isTrue_Not (pV (ht a q) fun b s1 h1 aK X1 q1 J1 T1=>by
  induction b with
  |true=>exact⟨h1,aK,X1,q1,J1,T1⟩
  |false=>exact⟨h1,aK,X1,q1,J1,T1⟩)
theorem U2{t:CB}{x:Internal.C}{p:Pos}(hx:aO c m sc cl n x d)(ht:t=x8 x):aO c m sc cl n (La t) (.UnaryOp .Not d p):=fun _ _ _ _ _ _ _ _ a q=>
 wpAny_UnaryOp (by
  subst ht
  refine bX (hx a q) fun v s1 V h1 aK X1 q1 r1 J1 T1=> ?_
  refine ak (Be q1) fun b af q2=> ?_;subst af
  refine not_value (F4 r1 ?_)
  induction b with
  |true=>exact⟨_,h1,aK,X1,q2,.bool _,J1,T1⟩
  |false=>exact⟨_,h1,aK,X1,q2,.bool _,J1,T1⟩)
theorem wt(P:Paired R vs l)(h:l.length≤1000):vs.length≤sizeLine:=by
 rw[P.length];have:=iP;lia
theorem U8{es:CL}{k:Nat}{p:Pos}(he:ij c m sc cl n es ds)(hz:ds.length≤1000):aO c m sc cl n (Ck es) (.Tuple ds k p):=fun _ _ _ _ _ _ _ _ a q=>
 wpAny_Tuple (vf (he a q) fun vs s1 l h1 aK X1 q1 P J1 T1 z=>⟨wt P (by lia),by
  refine ai (J1.push (g:=s1.heap.push {cls:= .type "tuple",data:= .seq vs.toArray}) (t:=s1.toks) (fun b o e=>ec e) (dU (fI _ _))) fun J T=> ?_
  exact aF.after T1 (aF.of q1 (j4 (J1.g6 T P) (gE rfl) rfl rfl (J1.fresh (bb _))) J T)⟩)
theorem U0(C:ax c){mm:Bool}{es:CL}{p:Pos}(he:ij c m sc cl n es ds)(hz:ds.length≤1000):aO c m sc cl n (K8 mm es) (.List ds p):=fun _ _ _ _ _ _ _ _ a q=>
 wpAny_List (vf (he a q) fun vs s1 l h1 aK X1 q1 P J1 T1 z=>⟨wt P (by lia),by
  exact aF.after T1 (w6 C J1 (a.next J1 T1).low P q1 _ s1.toks (bb _) (fI _ _) (fun b o e=>ec e) (gE rfl))⟩)
end
end
section
section
variable{m:Nat}
theorem UQ(C:ax c){o:Internal.C}{x:Nat}{p:Pos}(ho:aO c m sc cl n o d)(hx:c.S.ia x=true)(hb:∀e w,attributeBase d (c.S.nm x) e w=w):aO c m sc cl n (K5 o x) (.Attribute d (c.S.nm x) p):=fun _ _ _ _ _ _ _ _ a q=>
 Attribute_any_ (bX (ho a q) fun v s1 V h1 aK X1 q1 r1 J1 T1=>ay (S3 C J1 hx q1 r1) fun _ _ p=>p.after T1)
  (by rw[arm_eval_Attribute,hb])
theorem U7(C:ax c){o i:Internal.C}{p:Pos}(ho:aO c m sc cl n o d)(hi:aO c m sc cl n i di)(hs:∀v u,subscripted di false v u=operate [v,u] (getItem v u)):aO c m sc cl n (Cj o i) (.Subscript d di p):=fun _ _ _ _ _ _ _ _ a q=>
 Subscript_ (bX (ho a q) fun v s1 V h1 aK X1 q1 r1 J1 T1=>bX (hi (a.next J1 T1) q1) fun u s2 W h2 bl X2 q2 r2 J2 T2=>
  ay (Vi C J2 q2 (J1.cu T2 r1) r2 (hs _ _)) fun _ _ p=>(p.after T2).after T1)
inductive Mx (c:Cx) (X:List Addr) (ad:Ad) (s:Shared) (t:Bool) (k:List SV→Hp→Res) (v:Value) (s1:Shared):Prop
 |mk (l:List SV) (h1:Hp) (aK:Ad) (X1:List Addr):c.Ok (k l h1)→c.VR X1 aK s1.heap v (cond t (.tup l) (.ar l))→Inv c X1 aK h1 s1→Step [] X ad s X1 aK s1→Mx c X ad s t k v s1
theorem U3(C:ax c){t mm:Bool}{es:CL}{r:Internal.C}{dr:PySem.Expr}{k:Nat}{lp p:Pos}(he:ij c m sc cl n es ds)(hz:ds.length≤1000)(hr:aO c m sc cl n r dr):
  aO c m sc cl n (Lb t mm es r) (.BinOp (if t then .Tuple ds k lp else .List ds lp) .Mult dr p):=fun{A e X ad s env h K}a q=>by
 refine wpAny_BinOp ?_
 have key:wpAny c.M A (eval (if t then .Tuple ds k lp else .List ds lp) e) (Mx c X ad s t fun l h1=>r c.P cl n env h1 fun b h=>CQ t mm l b h K) NE s:=by
  induction t with
  |true=>
   refine wpAny_Tuple (vf (he a q) fun vs s1 l h1 aK X1 q1 P J1 T1 z=>⟨wt P (by lia),?_⟩)
   refine ai (J1.push (g:=s1.heap.push {cls:= .type "tuple",data:= .seq vs.toArray}) (t:=s1.toks) (fun b o e=>ec e) (dU (fI _ _))) fun J T=> ?_
   exact⟨l,h1,aK,X1,q1,j4 (J1.g6 T P) (gE rfl) rfl rfl (J1.fresh (bb _)),J,T1.trans T⟩
  |false=>
   refine wpAny_List (vf (he a q) fun vs s1 l h1 aK X1 q1 P J1 T1 z=>⟨wt P (by lia),?_⟩)
   refine ai (J1.push (g:=s1.heap.push {cls:= .type "list",data:= .seq vs.toArray}) (t:=s1.toks) (fun b o e=>ec e) (dU (fI _ _))) fun J T=> ?_
   exact⟨l,h1,aK,X1,q1,lE (J1.g6 T P) (gE rfl) (J1.fresh (bb _)),J,T1.trans T⟩
 refine ay key fun v s1 S=> ?_
 obtain⟨l,h1,aK,X1,q1,r1,J1,T1⟩:=S
 exact bX (hr (a.next J1 T1) q1) fun u s2 W h2 bl X2 q2 r2 J2 T2=>
  ay (UD C J2 ((a.next J1 T1).next J2 T2).low q2 (J1.cu T2 r1) r2) fun _ _ p=>(p.after T2).after T1
end
end
section
section
variable{m:Nat}
noncomputable def oH(c:Cx)(m:Nat)(sc:List (Nat×NameKind))(cl:aX)(n:Nat)(qs:SV→CB)(ops:List CmpOp)(ds:List PySem.Expr):Prop:=
 ∀⦃A e X ad s env h⦄⦃p:Pos⦄⦃V:SV⦄⦃v:Value⦄⦃k:KB⦄,At c m sc A e X ad s env h→c.VR X ad s.heap v V→c.Ok (qs V c.P cl n env h k)→
  wpAny c.M A (compareChain p v ops (evalEach ds e)) (fun w s'=>∃b,w= .bool b∧jP c X ad s k b s') NE s∧
  wpAny c.M A (testChain p v ops (evalEach ds e)) (jP c X ad s k) NE s
theorem I1(C:ax c)(a:At c m sc A e X ad s env h){op:CmpOp}{W:SV}(q:c.Ok (xK op V W h k))(rv:c.VR X ad s.heap v V)(ru:c.VR X ad s.heap u W):
  wpAny c.M A (compareOp op v u) (fun w s'=>∃b,w= .bool b∧c.Ok (k b)∧Inv c X ad h s'∧Step [] X ad s X ad s') NE s:=
 ay (VM C a.inv (by have:=a.ao.yZ;lia) q rv ru) fun w s'⟨b,tk,e1,q,e2⟩=>⟨b,e1,q,by rw[e2];exact a.inv.toks _,by rw[e2];exact Step.toks _⟩
theorem QQ(C:ax c){op:CmpOp}{r:Internal.C}(hr:aO c m sc cl n r d):oH c m sc cl n (tP op r) [op] [d]:=fun{A e X ad s env h p V v k}a rv q=>by
 have key:wpAny c.M A (eval d e) (fun u s1=>wpAny c.M A (compareOp op v u) (fun w s'=>∃b,w= .bool b∧jP c X ad s k b s') NE s1) NE s:=
  bX (hr a q) fun u s1 W h1 aK X1 q1 r1 J1 T1=>ay (I1 C (a.next J1 T1) q1 (a.inv.cu T1 rv) r1) fun w s'⟨b,e1,q2,J2,T2⟩=>
   ⟨b,e1,h1,aK,X1,by induction b<;>exact q2,J2,T1.trans T2⟩
 refine⟨chain_last key,?_⟩
 show wpAny _ _ (do
  let rv←holding [v] (eval d e)
  standAt p
  let c←operate [v,rv] (compareOp op v rv)
  holding [c] (truthy c)) _ _ _
 exact wpAny_bind (wpAny_holding (ay key fun u s1 k1=>wpAny_bind (wpAny_standAt (wpAny_bind (wpAny_operate' (ay k1 fun w s2⟨b,e1,t⟩=>wpAny_holding (by subst e1;exact wpAny_truthy_bool t)))))))
inductive Mw (c:Cx) (m:Nat) (sc:List (Nat×NameKind)) (A:Around) (e:Env) (X:List Addr) (ad:Ad) (s:Shared) (env:En) (u:Value) (k:Bool→SV→Hp→Res) (w:Value) (s2:Shared):Prop
 |mk (b:Bool) (W:SV) (h1:Hp) (aK:Ad) (X1:List Addr):w= .bool b→At c m sc A e X1 aK s2 env h1→c.VR X1 aK s2.heap u W→Step [] X ad s X1 aK s2→c.Ok (k b W h1)→Mw c m sc A e X ad s env u k w s2
theorem QR(C:ax c){op yS:CmpOp}{ops:List CmpOp}{r:Internal.C}{more:SV→CB}{d':PySem.Expr}(hr:aO c m sc cl n r d)(hm:oH c m sc cl n more (yS::ops) (d'::ds)):
  oH c m sc cl n (KO op r more) (op::yS::ops) (d::d'::ds):=fun{A e X ad s env h p V v k}a rv q=>by
 have key:wpAny c.M A (eval d e) (fun u s1=>wpAny c.M A (compareOp op v u) (Mw c m sc A e X ad s env u fun b W h1=>cond b (more W c.P cl n env h1 k) (k false h1)) NE s1) NE s:=
  bX (hr a q) fun u s1 W h1 aK X1 q1 r1 J1 T1=>ay (I1 C (a.next J1 T1) q1 (a.inv.cu T1 rv) r1) fun w s'⟨b,e1,q2,J2,T2⟩=>
   ⟨b,W,h1,aK,X1,e1,(a.next J1 T1).next J2 T2,J1.cu T2 r1,T1.trans T2,q2⟩
 refine⟨chain_link (ay key fun u s1 k1=>ay k1 fun w s2 S=> ?_),test_link (ay key fun u s1 k1=>ay k1 fun w s2 S=> ?_)⟩
 ·obtain⟨b,W,h1,aK,X1,e1,a1,r1,T1,q1⟩:=S
  subst e1
  refine wpAny_truthy_bool ?_
  induction b with
  |true=>exact wpAny_mono (hm a1 r1 q1).1 (fun _ _⟨b,e,t⟩=>⟨b,e,t.after T1⟩) fun _ _ x=>x
  |false=>exact⟨false,rfl,h1,aK,X1,q1,a1.inv,T1⟩
 ·obtain⟨b,W,h1,aK,X1,e1,a1,r1,T1,q1⟩:=S
  subst e1
  refine wpAny_truthy_bool ?_
  induction b with
  |true=>exact wpAny_mono (hm a1 r1 q1).2 (fun _ _ t=>t.after T1) fun _ _ x=>x
  |false=>exact⟨h1,aK,X1,q1,a1.inv,T1⟩
theorem UU{l:Internal.C}{dl:PySem.Expr}{qs:SV→CB}{ops:List CmpOp}{p:Pos}(hl:aO c m sc cl n l dl)(hq:oH c m sc cl n qs ops ds)(hm:lastMarks ops ds=false):aO c m sc cl n (K6 l qs) (.Compare dl ops ds p):=fun{A e X ad s env h k}a q=>by
 rw[arm_eval_Compare,markedEach_of_false _ _ _ hm]
 refine wpAny_bind (bX (hl a q) fun v s1 V h1 aK X1 q1 r1 J1 T1=> ?_)
 have q1:c.Ok (qs V c.P cl n _ h1 fun t h=>tq t h k):=q1
 refine wpAny_mono (hq (a.next J1 T1) r1 q1).1 (fun w s2⟨b,e1,h2,bl,X2,q2,J2,T2⟩=> ?_) fun _ _ x=>x
 subst e1
 induction b with
 |true=>exact⟨_,h2,bl,X2,q2,.bool _,J2,T1.trans T2⟩
 |false=>exact⟨_,h2,bl,X2,q2,.bool _,J2,T1.trans T2⟩
theorem Sx{l:Internal.C}{dl:PySem.Expr}{qs:SV→CB}{ops:List CmpOp}{p:Pos}(hl:aO c m sc cl n l dl)(hq:oH c m sc cl n qs ops ds)(hm:lastMarks ops ds=false):jy c m sc cl n (ur l qs) (.Compare dl ops ds p):=fun{A e X ad s env h k}a q=>by
 show wpAny _ _ (do testChain p (←eval dl e) ops (markedEach ops ds (evalEach ds e))) _ _ _
 rw[markedEach_of_false _ _ _ hm]
 exact wpAny_bind (bX (hl a q) fun v s1 V h1 aK X1 q1 r1 J1 T1=>wpAny_mono (hq (a.next J1 T1) r1 q1).2 (fun _ _ t=>t.after T1) fun _ _ x=>x)
end
end
section
section
variable{m:Nat}
noncomputable def tV(c:Cx)(m:Nat)(sc:List (Nat×NameKind))(cl:aX)(n:Nat)(a:Bool)(C:CB)(ds:List PySem.Expr):Prop:=
 ∀⦃A e X ad s env h⦄⦃k:KB⦄,At c m sc A e X ad s env h→c.Ok (C c.P cl n env h k)→wpAny c.M A (allTrue (if a then .And else .Or) ds e) (jP c X ad s k) NE s
theorem Sy(b:Bool):tV c m sc cl n b (uu b) []:=fun _ _ _ _ _ _ _ _ a q=>by
 induction b with
 |true=>exact wpAny_allTrue_And_nil ⟨_,_,_,q,a.inv,Step.refl ..⟩
 |false=>exact wpAny_allTrue_Or_nil ⟨_,_,_,q,a.inv,Step.refl ..⟩
theorem QT{x r:CB}(hx:jy c m sc cl n x d)(hr:tV c m sc cl n b r ds):tV c m sc cl n b (xv b x r) (d::ds):=fun{A e X ad s env h k}a q=>by
 induction b with
 |true=>
  refine wpAny_allTrue_And_cons (pV (hx a q) fun t s1 h1 aK X1 q1 J1 T1=> ?_)
  induction t with
  |true=>exact ay (hr (a.next J1 T1) q1) fun _ _ p=>p.after T1
  |false=>exact⟨h1,aK,X1,q1,J1,T1⟩
 |false=>
  refine wpAny_allTrue_Or_cons (pV (hx a q) fun t s1 h1 aK X1 q1 J1 T1=> ?_)
  induction t with
  |true=>exact⟨h1,aK,X1,q1,J1,T1⟩
  |false=>exact ay (hr (a.next J1 T1) q1) fun _ _ p=>p.after T1
theorem Sw{t:CB}{p:Pos}(ht:tV c m sc cl n b t ds):jy c m sc cl n t (.BoolOp (if b then .And else .Or) ds p):=fun _ _ _ _ _ _ _ _ a q=>wpAny_isTrue_BoolOp (ht a q)
noncomputable def tX(c:Cx)(m:Nat)(sc:List (Nat×NameKind))(cl:aX)(n:Nat)(a:Bool)(C:Internal.C)(ds:List PySem.Expr):Prop:=
 ∀⦃A e X ad s env h⦄⦃p:Pos⦄⦃k:K⦄,At c m sc A e X ad s env h→c.Ok (C c.P cl n env h k)→wpAny c.M A (boolOp p (if a then .And else .Or) (evalEach ds e)) (aF c X ad s k) NE s
theorem QM{x:Internal.C}(hx:aO c m sc cl n x d):tX c m sc cl n b x [d]:=fun _ _ _ _ _ _ _ _ _ a q=>by induction b<;>exact hx a q
inductive Mp (c:Cx) (m:Nat) (sc:List (Nat×NameKind)) (A:Around) (e:Env) (X:List Addr) (ad:Ad) (s:Shared) (env:En) (k:Bool→Hp→Res) (v:Value) (s1:Shared):Prop
 |mk (t:Bool) (h1:Hp) (aK:Ad) (X1:List Addr):v= .bool t→At c m sc A e X1 aK s1 env h1→Step [] X ad s X1 aK s1→c.Ok (k t h1)→Mp c m sc A e X ad s env k v s1
theorem QN{x r:Internal.C}{d':PySem.Expr}(hx:aO c m sc cl n x d)(hr:tX c m sc cl n b r (d'::ds)):tX c m sc cl n b (JU b x r) (d::d'::ds):=fun{A e X ad s env h p k}a q=>by
 have key:wpAny c.M A (eval d e) (Mp c m sc A e X ad s env fun t h1=>cond (qk b t) (r c.P cl n env h1 k) (tq t h1 k)) NE s:=
  bX (hx a q) fun v s1 V h1 aK X1 q1 r1 J1 T1=>by
   refine ak (Be q1) fun t af q2=> ?_;subst af
   obtain rfl:=VR.lM r1;exact⟨t,h1,aK,X1,rfl,a.next J1 T1,T1,q2⟩
 have fin:∀{t:Bool}{s1:Shared}{h1 aK X1},At c m sc A e X1 aK s1 env h1→Step [] X ad s X1 aK s1→c.Ok (tq t h1 k)→aF c X ad s k (.bool t) s1:=fun{t s1 h1 aK X1}a1 T1 q=>by
  induction t with
  |true=>exact⟨_,h1,aK,X1,q,.bool _,a1.inv,T1⟩
  |false=>exact⟨_,h1,aK,X1,q,.bool _,a1.inv,T1⟩
 induction b with
 |true=>
  show wpAny _ _ (do
   let v←eval d e
   standAt p
   let t←holding [v] (truthy v)
   match BoolOp.And,t with
   | .And,false| .Or,true=>pure v
   |_,_=>boolOp p .And (evalEach (d'::ds) e)) _ _ _
  refine wpAny_bind (ay key fun v s1 S=>wpAny_bind (wpAny_standAt (wpAny_bind (wpAny_holding ?_))))
  obtain⟨t,h1,aK,X1,e1,a1,T1,q1⟩:=S
  subst e1
  refine wpAny_truthy_bool ?_
  induction t with
  |true=>exact ay (hr a1 q1) fun _ _ p=>p.after T1
  |false=>exact wpAny_pure (fin a1 T1 q1)
 |false=>
  show wpAny _ _ (do
   let v←eval d e
   standAt p
   let t←holding [v] (truthy v)
   match BoolOp.Or,t with
   | .And,false| .Or,true=>pure v
   |_,_=>boolOp p .Or (evalEach (d'::ds) e)) _ _ _
  refine wpAny_bind (ay key fun v s1 S=>wpAny_bind (wpAny_standAt (wpAny_bind (wpAny_holding ?_))))
  obtain⟨t,h1,aK,X1,e1,a1,T1,q1⟩:=S
  subst e1
  refine wpAny_truthy_bool ?_
  induction t with
  |true=>exact wpAny_pure (fin a1 T1 q1)
  |false=>exact ay (hr a1 q1) fun _ _ p=>p.after T1
theorem UT{x:Internal.C}{p:Pos}(hx:tX c m sc cl n b x ds):aO c m sc cl n x (.BoolOp (if b then .And else .Or) ds p):=fun _ _ _ _ _ _ _ _ a q=>by
 rw[arm_eval_BoolOp]
 exact hx a q
end
end
section
section
variable{m:Nat}
noncomputable def qE(c:Cx)(m:Nat)(sc:List (Nat×NameKind))(cl:aX)(n:Nat)(C:Internal.C)(d:Option PySem.Expr):Prop:=
 ∀⦃A e X ad s env h⦄⦃k:K⦄,At c m sc A e X ad s env h→c.Ok (C c.P cl n env h k)→wpAny c.M A (evalPart d e) (aF c X ad s k) NE s
theorem Sm{x:Internal.C}(hx:aO c m sc cl n x d):qE c m sc cl n x (some d):=fun _ _ _ _ _ _ _ _ a q=>hx a q
theorem PK:qE c m sc cl n (fx .none) none:=fun _ _ _ _ _ _ _ _ a q=>wpAny_pure (aF.of q .none a.inv (Step.refl ..))
theorem U5(C:ax c){mm:Bool}{o l u st:Internal.C}{dl du ds:Option PySem.Expr}{sp p:Pos}(ho:aO c m sc cl n o d)(hl:qE c m sc cl n l dl)(hu:qE c m sc cl n u du)(hs:qE c m sc cl n st ds):
  aO c m sc cl n (Lc mm o l u st) (.Subscript d (.Slice dl du ds sp) p):=fun{A e X ad s env h k}a q=>
 Subscript_ (bX (ho a q) fun v s1 V h1 aK X1 q1 r1 J1 T1=>wpAny_Slice (bX (hl (a.next J1 T1) q1) fun vl s2 L h2 bl X2 q2 r2 J2 T2=>
  bX (hu ((a.next J1 T1).next J2 T2) q2) fun vu s3 U h3 gU X3 q3 r3 J3 T3=>bX (hs (((a.next J1 T1).next J2 T2).next J3 T3) q3) fun vs s4 W h4 yC X4 q4 r4 J4 T4=>by
   have low:=((((a.next J1 T1).next J2 T2).next J3 T3).next J4 T4).low
   refine ay (QL (ops:=fun i=>match ds with|none=>[i,v]|some _=>[v,i]) C J4 low q4 (J3.cu T4 (J2.cu T3 (J1.cu T2 r1))) (J3.cu T4 (J2.cu T3 r2)) (J3.cu T4 r3) r4 fun i=>by induction ds<;>rfl) fun _ _ p=>(((p.after T4).after T3).after T2).after T1))
end
end
section
noncomputable def br(c:Cx)(m:Nat)(cl:aX):Prop:=∀⦃A:Around⦄⦃X:List Addr⦄⦃ad:Ad⦄⦃s:Shared⦄⦃h:Hp⦄⦃f:Nat⦄⦃as:List SV⦄⦃vs:List Value⦄⦃k:K⦄,
 cp A (4*m)→Inv c X ad h s→bY c s→c.VL X ad s.heap vs as→c.Ok (cl f as h k)→fnIn c.K (c.S.fa f)=true∧codeAny c.M A (.call (.ref (c.S.fa f)) ⟨vs,[]⟩) (wants (aF c X ad s k) NE) s
section
variable{m:Nat}
theorem AY{K:Frag}{f:Addr}(h:fnIn K f=true):keepIn K (.ref f)=true:=by
 unfold fnIn at h
 unfold keepIn
 dsimp only
 split at h
 ·rename_i e;rw[e]
 ·exact nf h
theorem S2{es:CL}(he:ij c m sc cl n es ds){p:Pos}{k:KL}{f:Value}{Q:Args→Shared→Prop}
  (a:At c m sc A e X ad s env h)(q:c.Ok (es c.P cl n env h k))(fin:∀vs s',nc c X ad s ds.length k vs s'→Q ⟨vs,[]⟩ s')(hd:∀d r,ds=d::r→∃x,starEach (d::r) e=(false,x)::starEach r e):
  wpAny c.M A (evalArgs f true (backTo p (starEach ds e)) []) Q NE s:=by
 have w:=he (p:=p) a q
 induction ds using List.casesOn with
 |nil=>
  have e1:backTo p (starEach [] e)= []:=rfl
  rw[e1] at w⊢
  unfold evalArgs
  refine wpAny_bind (ay w fun vs s1 l=> ?_)
  refine wpAny_bind (wpAny_pure (wpAny_holding ?_))
  exact wpAny_bind (wpAny_pure (wpAny_bind (wpAny_pure (wpAny_pure (fin _ _ l)))))
 |cons d r=>
  refine av (hd d r rfl) fun x e1=> ?_
  rw[e1] at w⊢
  exact evalArgs_plain (ay w fun vs s1 l=>fin _ _ l)
theorem call_of{f:Value}(h:codeAny c.M A (.call f ⟨vs,[]⟩) (wants Q NE) s):wpAny c.M A (call f vs) Q NE s:=
 wpAny_call (codeAny_mono h fun r s' z=>by rcases r with e|(v|_|_|_)<;>first|exact z|exact z.elim)
end
end
section
section
variable{m:Nat}
theorem VE(Y:br c m cl)(ao:cp A (4*m))(I:Inv c X ad h s)(hl:bY c s){k:K}(q:c.Ok (cl f (.ref i::as) h k))(rv:c.VR X ad s.heap v (.dy i f))(rs:c.VL X ad s.heap vs as):
  ∃a p,v= .ref a∧fnIn c.K (c.S.fa f)=true∧s.heap.get? a=some (methodObj (.ref (c.S.fa f)) (.ref p))∧wpAny c.M A (call v vs) (aF c X ad s k) NE s:=by
 refine ll (VR.YO rv) fun _ _ ho hx hp af=> ?_;subst af
 refine ai (Y ao I hl (.cons (.ref hp) rs) q) fun h1 h2=> ?_
 exact⟨_,_,rfl,h1,ho,call_of (method_call ho h2)⟩
end
end
section
section
variable{m:Nat}
theorem zS{M:Model}{f:Value}(hf:∀a,f≠ .ref a)(h:Heap)(_:True):∃k,(k=Keeper.frame∨k=Keeper.machine∨k=Keeper.boundFrame)∧Looks M h (keeperOf f) k:=
 ⟨.machine,.inr (.inl rfl),by induction f<;>first|exact absurd rfl (hf _)|exact Looks.of_pure rfl⟩
structure Rows(ds:List PySem.Expr):Prop where
 all:∀e p,((backTo p (starEach ds e)).any (·.1))=false
 cons:∀e d r,ds=d::r→∃x,starEach (d::r) e=(false,x)::starEach r e
noncomputable def Keeps(c:Cx)(f:Value)(h:Heap):Prop:=∃k,(k=Keeper.frame∨k=Keeper.machine∨k=Keeper.boundFrame)∧Looks c.M h (keeperOf f) k
theorem r8{es:CL}(he:ij c m sc cl n es ds)(hd:Rows ds){p:Pos}{k:KL}{f:Value}{first:List Value}
  (a:At c m sc A e X ad s env h)(q:c.Ok (es c.P cl n env h k))
  (fin:∀vs s',nc c X ad s ds.length k vs s'→Keeps c f s'.heap∧wpAny c.M A (call f (first++vs)) Q NE s'):
  wpAny c.M A (callWith p f first (backTo p (starEach ds e)) []) Q NE s:=
 callWith_of (P:=Keeps c f) (by rw[hd.all];rfl) (fun _ z=>z) (S2 he
  a q (fun vs s' l=>fin vs s' l) fun d r z=>hd.cons e d r z)
end
end
section
section
variable{m:Nat}
theorem Vv(C:ax c)(Y:br c m cl)(ao:cp A (4*m))(I:Inv c X ad h s)(hl:bY c s){k:K}(q:c.Ok (cl f as h k))(rv:c.VR X ad s.heap v (.fn f))(rs:c.VL X ad s.heap vs as):
  Keeps c v s.heap∧wpAny c.M A (call v vs) (aF c X ad s k) NE s:=by
 obtain rfl:=VR.D3 rv
 refine ai (Y ao I hl rs q) fun h1 h2=> ?_
 exact⟨keeps_K (AY h1) _ (I.eA C),call_of h2⟩
theorem S0(C:ax c)(Y:br c m cl)(ao:cp A (4*m))(I:Inv c X ad h s)(hl:bY c s){k:K}(q:c.Ok (cl f (.ref i::as) h k))(rv:c.VR X ad s.heap v (.dy i f))(rs:c.VL X ad s.heap vs as):
  Keeps c v s.heap∧wpAny c.M A (call v vs) (aF c X ad s k) NE s:=by
 refine ll (VE Y ao I hl q rv rs) fun a p af h1 h2 h3=> ?_;subst af
 exact⟨keeps_M h1 _ ⟨h2,I.eA C⟩,h3⟩
theorem Vu(C:ax c)(ao:cp A (4*m))(I:Inv c X ad h s){b:Nat}{k:K}(q:c.Ok (Bh c.P b as h k))(rv:c.VR X ad s.heap v (.bi b))(rs:c.VL X ad s.heap vs as):
  Keeps c v s.heap∧wpAny c.M A (call v vs) (aF c X ad s k) NE s:=by
 obtain rfl:=VR.D2 rv;exact⟨zS (C.Ci b) _ trivial,PX C I ao.dm q rs⟩
end
end
section
section
variable{m:Nat}
theorem Qq{o:Option Nat}{k:Nat→Res}(q:Ok ρ F (oP o (bad r) k)):∃a,o=some a∧Ok ρ F (k a):=by
 induction o with
 |none=>exact(a0 q).elim
 |some a=>exact⟨a,rfl,q⟩
theorem O8(h:mG V=true):V= .none:=by induction V using SV.casesOn<;>first|rfl|exact nf h
theorem S1(C:ax c)(Y:br c m cl)(ao:cp A (4*m+2))(I:Inv c X ad h s)(hl:bY c s){cc:Nat}{k:K}(q:c.Ok (Cb c.P cl (.cls cc) as h k))(rv:c.VR X ad s.heap v (.cls cc))(rs:c.VL X ad s.heap vs as):
  Keeps c v s.heap∧wpAny c.M A (call v vs) (aF c X ad s k) NE s:=by
 obtain rfl:=VR.Lw rv
 refine ak (Qq q) fun i hi q=> ?_
 have q:=n3 q
 rw[len_eq] at q
 refine vg (C.ND cc i hi) fun c1 c2 c3 c4 c5=> ?_
 refine⟨keeps_K c5 _ (I.eA C),call_of ?_⟩
 obtain⟨hh,g,d,t,os⟩:=s
 have hx:((hh.push emptyDict).push (instObj (c.S.ca cc) hh.objs.size)).get? (hh.objs.size+1)=some (instObj (c.S.ca cc) hh.objs.size):=by heap_get
 have hd:((hh.push emptyDict).push (instObj (c.S.ca cc) hh.objs.size)).get? hh.objs.size=some emptyDict:=by heap_get
 have z1:hh.objs.size+1<((hh.push emptyDict).push (instObj (c.S.ca cc) hh.objs.size)).objs.size:=by rw[Heap.size_push,Heap.size_push];lia
 have old:∀b o,hh.get? b=some o→((hh.push emptyDict).push (instObj (c.S.ca cc) hh.objs.size)).get? b=some o:=fun b o e=>Heap.get?_push_of_some _ (Heap.get?_push_of_some _ e)
 obtain⟨J,T,hp⟩:=I.new (p:=(hh.objs.size+1,hh.objs.size)) (o:= .ins cc []) (g:=(hh.push emptyDict).push (instObj (c.S.ca cc) hh.objs.size)) (t:=t) (nU _) (bb _) z1 (rV (jV _) z1) hl old
  ⟨#[],fun _=>none,emptyDict,hx,hd,Heap.Ns1.of_empty ⟨_,#[],_,hd,rfl,fun e he=>absurd he (by simp),fun _=>rfl⟩,c1,fun x V e=>(by(exfalso;injection e)),fun _ _=>rfl⟩
 have uD:cp (A.under (.builtin "type.__call__" ⟨.ref (c.S.ca cc)::vs,[]⟩)) (4*m):=ao.making _
 obtain⟨-,w⟩:=Y uD J (hl.step T) (.cons (.ref hp) (I.g6 T rs)) q
 refine make_core (makes_of (I.eA C) c2) (looks_findIn (I.eA C) c3) (fun self=>bind_fn (I.eA C) self c4) (.inl rfl) (codeAny_mono w fun r s' z=> ?_)
 rcases r with e|(u|_|_|_)<;>first|exact z|exact z.elim|skip
 obtain⟨V,h',ae,X',q,r,J',T'⟩:=z
 obtain⟨e,q⟩:=aJ q
 have e:=O8 e
 subst e
 obtain rfl:=VR.kl r
 exact⟨rfl,_,h',ae,X',q,.ref (T'.kL _ _ hp),J',T.trans T'⟩
end
end
section
section
variable{m:Nat}
theorem SY(C:ax c)(Y:br c m cl)(ao:cp A (4*m+2))(I:Inv c X ad h s)(hl:bY c s){k:K}(q:c.Ok (Cb c.P cl V as h k))(rv:c.VR X ad s.heap v V)(rs:c.VL X ad s.heap vs as):
  Keeps c v s.heap∧wpAny c.M A (call v vs) (aF c X ad s k) NE s:=by
 have uD:cp A (4*m):=ao.less (by lia)
 induction V using SV.casesOn with
 |fn i=>exact Vv C Y uD I hl q rv rs
 |dy r i=>exact S0 C Y uD I hl q rv rs
 |cls cc=>exact S1 C Y ao I hl q rv rs
 |bi b=>exact Vu C uD I q rv rs
 |_=>exact(a0 q).elim
theorem G8(C:ax c)(Y:br c m cl){f:Internal.C}{es:CL}{p:Pos}(hf:aO c m sc cl n f d)(he:ij c m sc cl n es ds)(hd:Rows ds)
  (hc:∀e,eval (.Call d ds [] p) e=(do callWith p (←eval d e) [] (backTo p (starEach ds e)) [])):aO c m sc cl n (xf f es) (.Call d ds [] p):=fun{A e X ad s env h k}a q=>by
 rw[hc]
 refine wpAny_bind (bX (hf a q) fun v s1 V h1 aK X1 q1 r1 J1 T1=> ?_)
 have a1:=a.next J1 T1
 refine r8 he hd a1 q1 fun vs s2⟨l,h2,bl,X2,q2,P2,J2,T2,_⟩=> ?_
 have a2:=a1.next J2 T2
 refine ai (SY C Y a2.ao J2 a2.low q2 (J1.cu T2 r1) P2) fun z1 z2=> ?_
 exact⟨z1,ay z2 fun _ _ p=>(p.after T2).after T1⟩
theorem Sl(C:ax c)(Y:br c m cl){o:Internal.C}{x:Nat}{es:CL}{ap p:Pos}(ho:aO c m sc cl n o d)(he:ij c m sc cl n es ds)(hd:Rows ds)(hx:c.S.ia x=true)
  (hc:∀e,∃pl,eval (.Call (.Attribute d (c.S.nm x) ap) ds [] p) e=(do
   let ov←eval d e
   standAt ap.atName
   let(f,first)←holding [ov] (getMethod ov (c.S.nm x) pl)
   callWith p f first (backTo p (starEach ds e)) [])):aO c m sc cl n (JV o x es) (.Call (.Attribute d (c.S.nm x) ap) ds [] p):=fun{A e X ad s env h k}a q=>by
 obtain⟨pl,hc⟩:=hc e
 refine MethodCall_ (pl:=pl) (bX (ho a q) fun v s1 V h1 aK X1 q1 r1 J1 T1=> ?_) hc
 have a1:=a.next J1 T1
 refine O6 C J1 q1 r1 (fun q2 l1 l5=> ?_) (fun i f pp hp e1 e2 q2=> ?_) hx
 ·refine r8 he hd a1 q2 fun vs s2⟨l,h2,bl,X2,q3,P2,J2,T2,_⟩=>⟨zS (by intro;intro z;(exfalso;injection z)) _ trivial,?_⟩
  exact ay (Qp C J2 q3 (J1.cu T2 r1) P2 l1 l5) fun _ _ p=>(p.after T2).after T1
 ·subst e1 e2
  refine r8 he hd a1 q2 fun vs s2⟨l,h2,bl,X2,q3,P2,J2,T2,_⟩=> ?_
  have a2:=a1.next J2 T2
  obtain⟨w1,w2⟩:=Y (a2.ao.less (by lia)) J2 a2.low (.cons (J1.cu T2 r1) P2) q3
  exact⟨keeps_K (AY w1) _ (J2.eA C),ay (call_of w2) fun _ _ p=>(p.after T2).after T1⟩
end
end
section
noncomputable def special:List String:=["enumerate","zip","dict_itemiterator","dict_reverseitemiterator","odict_iterator","itertools.zip_longest","itertools.pairwise"]
noncomputable def nY(h:Heap)(I:Addr):Prop:=∃o T,h.get? I=some o∧o.cls= .type T∧special.contains T=false
noncomputable def hS(v:PySem.Expr):Bool:=ag v.ctorIdx 25
inductive c8 (c:Cx) (aH:PySem.Expr) (X:List Addr) (ad:Ad) (h:Heap):Value→IT→List Addr→Prop
 |walk {I:Addr} {fp:List Addr} {n:Nat} {P:Nat→Value→Prop} {St:Nat→Heap→Prop} {i:Nat} {l:List SV}:(∀A:Around,A.handled=none→Walks c.prog c.w A I fp [I] n P St)→St i h→(∀b∈fp,b=I∨((∃o,h.get? b=some o)∧b∉X))→
   (∀i h,St i h→nY h I)→i+l.length=n→(∀j V,l[j]? =some V→∀u,P (i+j) u→c.VR X ad h u V)→c8 c aH X ad h (.ref I) (.items l) [I]
 |oG {I:Addr} {fp wr:List Addr} {n:Nat} {PT:Nat→Array Value→Prop} {St:Nat→Heap→Prop} {Dq:Nat→Addr→Heap→Prop} {i:Nat} {l:List SV}:hS aH=true→(∀A:Around,A.handled=none→WalksT c.prog c.w A I fp wr n PT St Dq)→St i h→
   (∀b∈fp,b∈wr∨((∃o,h.get? b=some o)∧b∉X))→(∀i h,St i h→∀b∈wr,∃o,h.get? b=some o)→i+l.length=n→(∀j V,l[j]? =some V→∀vals,PT (i+j) vals→∃l',V= .tup l'∧c.VL X ad h vals.toList l')→c8 c aH X ad h (.ref I) (.items l) wr
 |ref {I:Addr} {p:Addr×Addr} {i j:Nat}:h.IsListIter I p.1 j→ad[i]? =some p→c8 c aH X ad h (.ref I) (.ref i j) [I]
 |enum {e it a:Addr} {k:Nat} {vs:List Value} {l:List SV} {old:Value}:hS aH=true→IsEnum h e it k old→h.IsListIter it a k→h.PlainList a vs.toArray→a∉X→e≠it→c.VL X ad h (vs.drop k) l→c8 c aH X ad h (.ref e) (.enum k l) [e,it]
 |gG {e it:Addr} {p:Addr×Addr} {i k:Nat} {old:Value}:hS aH=true→IsEnum h e it k old→h.IsListIter it p.1 k→ad[i]? =some p→e≠it→c8 c aH X ad h (.ref e) (.gG i k) [e,it]
section
theorem E3{I:Addr}{Q:Unit→Shared→Prop}(p:nY s.heap I)(q:Q () s):wpAny c.M A (letOwnedTupleGo aH (.ref I) u) Q E s:=by
 refine dK p fun o T ho hc hT=> ?_
 have key:∀(_:Unit),wpAny c.M A (do
   let(.ref r,.ref a):=(Value.ref I,u)|return
   let o←load r
   match o.cls,o.data with
   | .type n,.fields vs=>
    if special.contains n&&vs[0]? ==some (rawInt a) then
     rule "for.unpacks-the-owned-tuple"
     updateField r 0 .none
   |_,_=>pure ():Sem Unit) Q E s:=by
  intro _
  induction u with
  |ref a=>
   refine wpAny_bind (wpAny_load ho ?_)
   rw[hc]
   cases hd:o.data with
   |fields vs=>
    dsimp only
    rw[hT]
    exact wpAny_pure q
   |_=>exact wpAny_pure q
  |_=>exact wpAny_pure q
 unfold letOwnedTupleGo
 induction aH using Expr.casesOn with
 |Tuple=>exact key ()
 |List=>exact key ()
 |_=>exact wpAny_pure q
noncomputable def lO(N:List Addr)(s s':Shared):Prop:=(∀b o,s.heap.get? b=some o→b∉N→s'.heap.get? b=some o)∧s.heap.objs.size≤s'.heap.objs.size∧∃hp tk,s'={s with heap:=hp,toks:=tk}
inductive yy (c:Cx) (aH:PySem.Expr) (X:List Addr) (ad:Ad) (h:Hp) (s:Shared) (u v:Value) (N:List Addr) (k:SV→IT→Res) (s2:Shared):Prop
 |mk (V:SV) (it:IT):c.Ok (k V it)→Inv c X ad h s2→Step N X ad s X ad s2→c.VR X ad s2.heap u V→c8 c aH X ad s2.heap v it N→yy c aH X ad h s u v N k s2
noncomputable def lJ(c:Cx)(A:Around)(aH:PySem.Expr)(X:List Addr)(ad:Ad)(h:Hp)(s:Shared)(v:Value)(N:List Addr)(done:Res)(k:SV→IT→Res)(r:Option Value)(s1:Shared):Prop:=match r with
 |none=>c.Ok done∧lO N s s1
 |some u=>wpAny c.M A (letOwnedTupleGo aH v u) (fun _ s2=>yy c aH X ad h s u v N k s2) NE s1
theorem TK{α:Type}{l:List α}{a:α}(e:l[i]? =some a):l.drop i=a::l.drop (i+1):=by
 refine av (dM.mp e) fun h af=> ?_;subst af
 exact List.drop_eq_getElem_cons h
theorem H9(P:Paired R vs l)(e:l[j]? =none):vs.toArray[j]? =none:=by
 have:=j8 P
 rw[mh,EA,this]
 exact EA.mp e
theorem Fz(I:Inv c X ad h s){x1:Nat}{tp:Pos}{e it:Addr}{k:Nat}{old x:Value}(he:IsEnum s.heap e it k old)(hi:s.heap.IsListIter it a k)(hl:s.heap.PlainList a vs.toArray)(hx:vs[k]? =some x)(ne:e≠it)
  (hN:∀b∈ [e,it],b∈X∧¬Mt ad b)(rx:c.VR X ad s.heap x V)
  (fin:∀s2 u CF,Inv c X ad h s2→Step [e,it] X ad s X ad s2→c.VR X ad s2.heap u (.tup [.lit (aq k),V])→IsEnum s2.heap e it ((k+1:Nat):Int) CF→s2.heap.IsListIter it a (k+1)→Q u s2):
  wpAny c.M A (pyNext (.ref e)) (fun r s1=>∃u,r=some u∧wpAny c.M A (letOwnedTupleGo (.Tuple elts x1 tp) (.ref e) u) (fun _=>Q u) NE s1) NE s:=by
 have uS:vs.toArray[k]? =some x:=by rw[mh];exact hx
 refine wpAny_pyNext_enum_item he hi hl.isList uS ne fun h1 ho h2 h3 h4 h5=>⟨_,rfl,?_⟩
 refine wpAny_letOwnedTupleGo_enum ho fun h' yK cR=> ?_
 refine ak (id hi) fun oi hoi hir=> ?_
 have Zd:e<s.heap.objs.size:=Heap.lt_size he
 have k1:∀b o,s.heap.get? b=some o→b∉ [e,it]→h'.get? b=some o:=fun b o q nb=>(cR.2 b fun z=>nb (by rw[z];exact .head _)).trans (h5 b o (fun z=>nb (by rw[z];exact .head _)) (fun z=>nb (by rw[z];exact .tail _ (.head _))) q)
 have i2:h'.IsListIter it a (k+1):=by obtain⟨o,q,r⟩:=h2;exact⟨o,(cR.2 it ne.symm).trans q,r⟩
 have z:s.heap.objs.size≤h'.objs.size:=by rw[cR.1];show _≤h1.objs.size;lia
 obtain⟨J,T⟩:=I.heap (D:=[e,it]) (g:=h') (t:=s.toks+1) k1 z hN fun b m=>by
  rcases aE.mp m with rfl|m
  ·exact⟨_,yK⟩
  ·rw[bx.mp m];obtain⟨o,q,_⟩:=i2;exact⟨o,q⟩
 have hD:∀b∈ [e,it],b∈X:=fun b m=>(hN b m).1
 refine fin _ _ _ J T (j4 (.cons (.lit _ _) (.cons (I.vr T hD rx) .nil)) ((cR.2 _ (vz Zd)).trans h3) rfl rfl (I.fresh (bb _))) yK i2
theorem Q4(I:Inv c X ad h s)(hh:A.handled=none){I0:Addr}{fp:List Addr}{P:Nat→Value→Prop}{St:Nat→Heap→Prop}{k:SV→IT→Res}(W:∀A:Around,A.handled=none→Walks c.prog c.w A I0 fp [I0] n P St)(st:St i s.heap)(gm:∀b∈fp,b=I0∨((∃o,s.heap.get? b=some o)∧b∉X))
  (kU:∀i h,St i h→nY h I0)(hn:i+l.length=n)(hV:∀j V,l[j]? =some V→∀u,P (i+j) u→c.VR X ad s.heap u V)(hN:∀a∈ [I0],a∈X∧¬Mt ad a)(q:c.Ok (nextK (.items l) h done k)):wpAny c.M A (pyNext (.ref I0)) (lJ c A aH X ad h s (.ref I0) [I0] done k) NE s:=by
 match l with
 | []=>
  subst hn
  exact gD ((W A hh).done s _ _ st fun h' tk hk hz=>⟨q,fun b o e nb=>hk b o nb e,hz,h',tk,rfl⟩)
 |V::l=>
  have e1:i+1+l.length=n:=by rw[←hn,cw];lia
  refine gD ((W A hh).item i s _ _ (by lia) st fun u h' tk hP Ep hk hz=> ?_)
  have hD:∀a∈ [I0],a∈X:=fun a m=>(hN a m).1
  refine E3 (kU _ _ Ep) ?_
  refine eP (kU _ _ Ep) fun o T' ho _=> ?_
  refine ai (I.heap (D:=[I0]) (g:=h') (t:=tk) (fun b o q nb=>hk b o nb q) hz hN fun a m=>⟨o,bx.mp m▸ho⟩) fun J T=> ?_
  exact⟨V,.items l,q,J,T,I.vr T hD (hV 0 V rfl u hP),.walk W Ep (fun b m=>(gm b m).imp id fun z=>⟨av z.1 fun o' kR=>⟨o',hk b o' (fun m=>z.2 (hD b m)) kR⟩,z.2⟩) kU e1 fun j V' e u r=>I.vr T hD (hV (j+1) V' e u (zd i 1 j▸r))⟩
theorem PS(I:Inv c X ad h s)(hh:A.handled=none){x1:Nat}{tp:Pos}{I0:Addr}{fp wr:List Addr}{PT:Nat→Array Value→Prop}{St:Nat→Heap→Prop}{Dq:Nat→Addr→Heap→Prop}{k:SV→IT→Res}(W:∀A:Around,A.handled=none→WalksT c.prog c.w A I0 fp wr n PT St Dq)(st:St i s.heap)
  (gm:∀b∈fp,b∈wr∨((∃o,s.heap.get? b=some o)∧b∉X))(pv:∀i h,St i h→∀b∈wr,∃o,h.get? b=some o)(hn:i+l.length=n)(hV:∀j V,l[j]? =some V→∀vals,PT (i+j) vals→∃l',V= .tup l'∧c.VL X ad s.heap vals.toList l')(hN:∀a∈wr,a∈X∧¬Mt ad a)(q:c.Ok (nextK (.items l) h done k)):
  wpAny c.M A (pyNext (.ref I0)) (lJ c A (.Tuple elts x1 tp) X ad h s (.ref I0) wr done k) NE s:=by
 match l with
 | []=>
  subst hn
  exact gD ((W A hh).done s _ _ st fun h' tk hk hz=>⟨q,fun b o e nb=>hk b o nb e,hz,h',tk,rfl⟩)
 |V::l=>
  have e1:i+1+l.length=n:=by rw[←hn,cw];lia
  refine gD ((W A hh).item i s _ _ (by lia) st fun T0 vals h' tk hP hT ht' hm hk hz=> ?_)
  refine gD ((W A hh).go elts x1 tp i T0 _ _ _ hm fun h2 NY nC hz2=> ?_)
  have nT:=(W A hh).apart i T0 _ hm
  have hD:∀a∈wr,a∈X:=fun a m=>(hN a m).1
  refine ak (hV 0 V rfl vals hP) fun l' af P=> ?_;subst af
  obtain⟨ot,hot,hct,ep,hdt⟩:=ht'
  refine ai (I.heap (D:=wr) (g:=h2) (t:=tk) (fun b o q nb=>nC b o nb (hk b o nb q)) (cx hz hz2) hN fun b m=>pv _ _ NY b m) fun J T=> ?_
  exact⟨.tup l',.items l,q,J,T,j4 (vs:=vals.toList) (Paired.imp (fun _ _ r=>I.vr T hD r) P) (nC _ _ nT hot) hct (by rw[hdt]) (I.fresh hT),.oG rfl W NY (fun b m=>(gm b m).imp id fun z=>⟨av z.1 fun o' kR=>⟨o',nC b o' (fun m=>z.2 (hD b m)) (hk b o' (fun m=>z.2 (hD b m)) kR)⟩,z.2⟩) pv e1
   fun j V' e u r=>ak (hV (j+1) V' e u (zd i 1 j▸r)) fun l2 e2 P2=>⟨l2,e2,Paired.imp (fun _ _ r=>I.vr T hD r) P2⟩⟩
theorem SW(I:Inv c X ad h s)(hh:A.handled=none){I0:Addr}{k:SV→IT→Res}(hit:s.heap.IsListIter I0 p.1 j)(hp:ad[i]? =some p)(hN:∀a∈ [I0],a∈X∧¬Mt ad a)(q:c.Ok (nextK (.ref i j) h done k)):wpAny c.M A (pyNext (.ref I0)) (lJ c A aH X ad h s (.ref I0) [I0] done k) NE s:=by
 refine ak (qh q) fun o ho q=> ?_
 refine ak (I.get ho) fun p' gn O=> ?_
 rw[hp] at gn;(injection gn with e1;subst e1)
 induction o using SO.casesOn with
 |lst l=>
  refine ak O.2 fun vs hl P=> ?_
  have q:c.Ok (dG l j done fun a=>k a (.ref i (Nat.succ j))):=q
  rw[wz] at q
  induction e:l[j]? using Option.casesOn with
  |none=>
   rw[e] at q
   exact gD (wpAny_pyNext_list_end hh hit hl.isList (H9 P e) fun h' he hz=>⟨q,fun b o e nb=>he b o (fun z=>nb (by rw[z];exact .head _)) e,hz,h',s.toks,rfl⟩)
  |some V=>
   rw[e] at q
   refine ak (Internal.Paired.get P e) fun x hx rx=> ?_
   refine wpAny_pyNext_list_item hit hl.isList (x:=x) (by rw[mh];exact hx) fun h' Lu hs=> ?_
   refine gz (id Lu) fun o1 Nj hc1 hd1=> ?_
   refine E3 ⟨o1,_,Nj,hc1,by decide⟩ ?_
   refine ai (I.heap (D:=[I0]) (g:=h') (t:=s.toks) (fun b o q nb=>(hs.2 b fun z=>nb (by rw[z];exact .head _)).trans q) (mC hs.1.symm) hN fun a m=>⟨o1,bx.mp m▸Nj⟩) fun J T=> ?_
   exact⟨V,_,q,J,T,I.vr T (fun a m=>(hN a m).1) rx,.ref Lu hp⟩
 |_=>exact(a0 q).elim
theorem Q3(I:Inv c X ad h s)(hh:A.handled=none){x1:Nat}{tp:Pos}{e it:Addr}{kk:Nat}{old:Value}{k:SV→IT→Res}(he:IsEnum s.heap e it kk old)(hi:s.heap.IsListIter it a kk)(hl:s.heap.PlainList a vs.toArray)(hx:a∉X)(ne:e≠it)(P:c.VL X ad s.heap (vs.drop kk) l)
  (hN:∀a∈ [e,it],a∈X∧¬Mt ad a)(q:c.Ok (nextK (.enum kk l) h done k)):wpAny c.M A (pyNext (.ref e)) (lJ c A (.Tuple elts x1 tp) X ad h s (.ref e) [e,it] done k) NE s:=by
 match l with
 | []=>
  have e0:vs.toArray[kk]? =none:=by
   have:=j8 P
   rw[List.length_drop] at this
   rw[mh,EA]
   exact Of this
  exact gD (wpAny_pyNext_enum_end hh he hi hl.isList e0 fun h' he hz=>⟨q,fun b o e nb=>he b o (fun z=>nb (by rw[z];exact .tail _ (.head _))) e,hz,h',s.toks,rfl⟩)
 |V::l=>
  refine ak (Internal.Paired.get P (i:=0) rfl) fun x Nn rx=> ?_
  have Np:vs[kk]? =some x:=by rw[EE] at Nn;exact Nn
  refine ay (Fz (elts:=elts) (x1:=x1) (tp:=tp) I he hi hl Np ne hN rx (Q:=fun u s2=>yy c (.Tuple elts x1 tp) X ad h s u (.ref e) [e,it] k s2) fun s2 u CF J T r e2 i2=> ?_) fun r s1 z=>ak z fun u e1 w=>by subst e1;exact w
  have hD:∀b∈ [e,it],b∈X:=fun a m=>(hN a m).1
  refine⟨_,_,q,J,T,r,.enum rfl e2 i2 ⟨hl.choose,(T.keep a _ hl.choose_spec (fun m=>hx (hD a m)) fun m=>hx (I.bc a m))⟩ hx ne ?_⟩
  rw[TK Np] at P
  exact p1 (G:=fun vs=>c.VL X ad s2.heap vs.tail l) P fun _ _ _ P=>Paired.imp (fun _ _ q=>I.vr T hD q) P
theorem Pe(I:Inv c X ad h s)(hh:A.handled=none){x1:Nat}{tp:Pos}{e it:Addr}{kk:Nat}{old:Value}{k:SV→IT→Res}(he:IsEnum s.heap e it kk old)(hi:s.heap.IsListIter it p.1 kk)(hp:ad[i]? =some p)(ne:e≠it)
  (hN:∀a∈ [e,it],a∈X∧¬Mt ad a)(q:c.Ok (nextK (.gG i kk) h done k)):wpAny c.M A (pyNext (.ref e)) (lJ c A (.Tuple elts x1 tp) X ad h s (.ref e) [e,it] done k) NE s:=by
 refine ak (qh q) fun o ho q=> ?_
 refine ak (I.get ho) fun p' gn O=> ?_
 rw[hp] at gn;(injection gn with e1;subst e1)
 induction o using SO.casesOn with
 |lst l=>
  refine ak O.2 fun vs hl P=> ?_
  have q:c.Ok (dG l kk done fun a=>k (.tup [.lit (aq kk),a]) (.gG i (Nat.succ kk))):=q
  rw[wz] at q
  induction e0:l[kk]? using Option.casesOn with
  |none=>
   rw[e0] at q
   exact gD (wpAny_pyNext_enum_end hh he hi hl.isList (H9 P e0) fun h' he hz=>⟨q,fun b o e nb=>he b o (fun z=>nb (by rw[z];exact .tail _ (.head _))) e,hz,h',s.toks,rfl⟩)
  |some V=>
   rw[e0] at q
   refine ak (Internal.Paired.get P e0) fun x hx rx=> ?_
   exact ay (Fz (elts:=elts) (x1:=x1) (tp:=tp) I he hi hl hx ne hN rx (Q:=fun u s2=>yy c (.Tuple elts x1 tp) X ad h s u (.ref e) [e,it] k s2) fun s2 u CF J T r e2 i2=>⟨_,_,q,J,T,r,.gG rfl e2 i2 hp ne⟩) fun r s1 z=>ak z fun u e1 w=>by subst e1;exact w
 |_=>exact(a0 q).elim
theorem Dg(h:hS aH=true){P:PySem.Expr→Prop}(H:∀a b d,P (.Tuple a b d)):P aH:=by
 induction aH using Expr.casesOn with
 |Tuple a b d=>exact H a b d
 |_=>exact nf h
theorem Bb(I:Inv c X ad h s)(hh:A.handled=none){it:IT}{k:SV→IT→Res}(R:c8 c aH X ad s.heap v it N)(hN:∀a∈N,a∈X∧¬Mt ad a)(q:c.Ok (nextK it h done k)):
  wpAny c.M A (pyNext v) (lJ c A aH X ad h s v N done k) NE s:=by
 induction R using c8.casesOn with
 |walk W st gm kU hn hV=>exact Q4 I hh W st gm kU hn hV hN q
 |oG ht W st gm pv hn hV=>exact Dg (P:=fun aH=>wpAny c.M A _ (lJ c A aH X ad h s _ _ done k) NE s) ht fun _ _ _=>PS I hh W st gm pv hn hV hN q
 |ref hit hp=>exact SW I hh hit hp hN q
 |enum ht he hi hl hx ne P=>exact Dg (P:=fun aH=>wpAny c.M A _ (lJ c A aH X ad h s _ _ done k) NE s) ht fun _ _ _=>Q3 I hh he hi hl hx ne P hN q
 |gG ht he hi hp ne=>exact Dg (P:=fun aH=>wpAny c.M A _ (lJ c A aH X ad h s _ _ done k) NE s) ht fun _ _ _=>Pe I hh he hi hp ne hN q
theorem c8.keep(I:Inv c X ad h s)(hh:A.handled=none){it:IT}{ae:Ad}(R:c8 c aH X ad s.heap v it N)(hN:∀a∈N,a∈X∧¬Mt ad a)(T:Step D X ad s X' ae s')(hD:∀a∈D,a∈X)(hND:∀a∈N,a∉D):
  c8 c aH X' ae s'.heap v it N:=by
 have kN:∀a∈N,∀o,s.heap.get? a=some o→s'.heap.get? a=some o:=fun a m o q=>T.keep a o q (hND a m) (hN a m).2
 have kF:∀a,a∉X→∀o,s.heap.get? a=some o→s'.heap.get? a=some o:=fun a nx o q=>T.keep a o q (fun m=>nx (hD a m)) fun m=>nx (I.bc a m)
 have kX:∀a,a∉X→(∃o,s.heap.get? a=some o)→a∉X':=fun a nx⟨o,q⟩m=>(T.XN a m).elim nx fun z=>df _ (cV (Heap.lt_size q) z)
 induction R using c8.casesOn with
 |walk W st gm kU hn hV=>
  refine .walk W ((W A hh).frame _ _ _ st fun b m o q=> ?_) (fun b m=> ?_) kU hn fun j V e u r=>I.vr T hD (hV j V e u r)
  ·rcases gm b m with rfl|⟨_,nx⟩
   ·exact kN _ (.head _) o q
   ·exact kF b nx o q
  ·rcases gm b m with e|⟨⟨o,q⟩,nx⟩
   ·exact .inl e
   ·exact .inr ⟨⟨o,kF b nx o q⟩,kX b nx ⟨o,q⟩⟩
 |oG ht W st gm pv hn hV=>
  refine .oG ht W ((W A hh).frame _ _ _ st fun b m o q=> ?_) (fun b m=> ?_) pv hn fun j V e u r=>let⟨l',e',P⟩:=hV j V e u r;⟨l',e',Paired.imp (fun _ _ q=>I.vr T hD q) P⟩
  ·rcases gm b m with m'|⟨_,nx⟩
   ·exact kN _ m' o q
   ·exact kF b nx o q
  ·rcases gm b m with e|⟨⟨o,q⟩,nx⟩
   ·exact .inl e
   ·exact .inr ⟨⟨o,kF b nx o q⟩,kX b nx ⟨o,q⟩⟩
 |ref hit hp=>obtain⟨o,q,r⟩:=hit;exact .ref ⟨o,kN _ (.head _) o q,r⟩ (T.kL _ _ hp)
 |enum ht he hi hl hx ne P=>obtain⟨o,q,r⟩:=hi;exact .enum ht (kN _ (.head _) _ he) ⟨o,kN _ (.tail _ (.head _)) o q,r⟩ ⟨hl.choose,kF _ hx _ hl.choose_spec⟩ (kX _ hx ⟨_,hl.choose_spec⟩) ne (Paired.imp (fun _ _ q=>I.vr T hD q) P)
 |gG ht he hi hp ne=>obtain⟨o,q,r⟩:=hi;exact .gG ht (kN _ (.head _) _ he) ⟨o,kN _ (.tail _ (.head _)) o q,r⟩ (T.kL _ _ hp) ne
theorem c8.self(hh:A.handled=none){it:IT}(R:c8 c aH X ad s.heap v it N)(q:Q v s):wpAny c.M A (pyIter v) Q E s:=by
 induction R using c8.casesOn with
 |walk W st gm kU hn hV=>exact(W A hh).self _ _ _ _ st q
 |oG ht W st gm pv hn hV=>exact(W A hh).self _ _ _ _ st q
 |ref hit hp=>exact wpAny_pyIter_listiter hit q
 |enum ht he hi hl hx ne P=>exact wpAny_pyIter_enum he q
 |gG ht he hi hp ne=>exact wpAny_pyIter_enum he q
end
end
section
section
theorem Inv.grow(I:Inv c X ad h s)(hN:∀a∈N,s.heap.objs.size≤a∧∃o,g.get? a=some o)(hL:bY c s)(hk:∀b o,s.heap.get? b=some o→g.get? b=some o)(hz:s.heap.objs.size≤g.objs.size):
  Inv c (N++X) ad h {s with heap:=g,toks:=t}∧Step [] X ad s (N++X) ad {s with heap:=g,toks:=t}∧∀a∈N,a∈N++X∧¬Mt ad a:=by
 have nw:∀a∈N,a<s.heap.objs.size→False:=fun a m z=>df _ (cV z (hN a m).1)
 have mem:∀a∈N++X,a∈N∨a∈X:=fun a m=>bj.mp m
 have kk:∀b o,s.heap.get? b=some o→b∉X→g.get? b=some o∧b∉N++X:=fun b o e nx=>⟨hk b o e,fun m=>(mem b m).elim (fun m=>nw b m (Heap.lt_size e)) nx⟩
 refine⟨⟨fun b o e=>hk b o (I.base b o e),I.len,fun i o e=> ?_,I.sep,fun b m=>bj.mpr (.inr (I.bc b m)),fun a m=>(mem a m).elim (fun m=>(hN a m).2) fun m=>let⟨o,e⟩:=I.live a m;⟨o,hk a o e⟩,
  fun a m=>(mem a m).elim (fun m=>Heap.get?_none_of_le (cx hL (hN a m).1)) (I.own a),?_⟩,
  ⟨fun b o e _ _=>hk b o e,hz,fun _ _ e=>e,fun _ m=> .inl m,fun a m=>bj.mpr (.inr m),fun a m=>(mem a m).elim (fun m=> .inr (hN a m).1) .inl⟩,
  fun a m=>⟨bj.mpr (.inl m),fun z=>nw a m (I.low a (I.bc a z))⟩⟩
 ·refine ak (I.fit i o e) fun p hp R=> ?_
  obtain⟨⟨o1,l1⟩,o2,l2⟩:=g8 R
  exact⟨p,hp,R.mono kk (fun _ _ e=>e) ((hk _ _ l1).trans l1.symm) ((hk _ _ l2).trans l2.symm)⟩
 ·refine gA I.rest fun a b e=> ?_
  exact⟨g,t,by rw[e]⟩
inductive kK (c:Cx) (aH:PySem.Expr) (X:List Addr) (ad:Ad) (s:Shared) (k:IT→Hp→Res) (v:Value) (s':Shared):Prop
 |mk:∀it h' ae X' N,c.Ok (k it h')→c8 c aH X' ae s'.heap v it N→Inv c X' ae h' s'→Step [] X ad s X' ae s'→(∀a∈N,a∈X'∧¬Mt ae a∧s.heap.objs.size≤a)→kK c aH X ad s k v s'
theorem y5{t:Sem Value}{s0:Shared}{k:IT→Hp→Res}(h:wpAny c.M A t (kK c aH X ad s k) E s0)
  (H:∀v s' it h' ae X' N,c.Ok (k it h')→c8 c aH X' ae s'.heap v it N→Inv c X' ae h' s'→Step [] X ad s X' ae s'→(∀a∈N,a∈X'∧¬Mt ae a∧s.heap.objs.size≤a)→Q v s'):wpAny c.M A t Q E s0:=ay h fun v s'⟨it,h',ae,X',N,q,R,J,T,hN⟩=>H v s' it h' ae X' N q R J T hN
theorem kK.after{ae:Ad}{k:IT→Hp→Res}(T:Step [] X ad s X' ae s')(p:kK c aH X' ae s' k v fD):kK c aH X ad s k v fD:=by
 obtain⟨it,h2,bl,X2,N,q,R,J,T2,hN⟩:=p
 exact⟨it,h2,bl,X2,N,q,R,J,T.trans T2,fun a m=>⟨(hN a m).1,(hN a m).2.1,cx T.size (hN a m).2.2⟩⟩
theorem PD{h:Heap}{I:Addr}(x:h.IsListIter I a i):nY h I:=by obtain⟨o,ho,hc,_⟩:=x;exact⟨o,_,ho,hc,by decide⟩
theorem Qu{h:Heap}{I:Addr}(x:h.IsTupleIter I a i):nY h I:=by obtain⟨o,ho,hc,_⟩:=x;exact⟨o,_,ho,hc,by decide⟩
theorem Qt{h:Heap}{I:Addr}{i:Int}(x:h.IsRevIter I a i):nY h I:=by obtain⟨o,ho,hc,_⟩:=x;exact⟨o,_,ho,hc,by decide⟩
theorem Po{h:Heap}{I:Addr}{a b d:Int}(x:IsRangeIter h I a b d):nY h I:=⟨_,_,x,rfl,by decide⟩
theorem wB{o:Obj}(hz:s.heap.objs.size≤a)(e:g.get? a=some o):∀b∈ [a],s.heap.objs.size≤b∧∃o,g.get? b=some o:=fun b m=>by rw[bx.mp m];exact⟨hz,o,e⟩
theorem Ji{o o':Obj}(hg:s.heap.get? a=some o)(hx:a∉X):∀b∈ [s.heap.objs.size,a],b=s.heap.objs.size∨(∃o,(s.heap.push o').get? b=some o)∧b∉ [s.heap.objs.size]++X:=fun b m=>by
 rcases aE.mp m with rfl|m
 ·exact .inl rfl
 ·rw[bx.mp m]
  refine .inr ⟨⟨_,ec hg⟩,fun m=> ?_⟩
  rcases bj.mp m with m|m
  ·exact jW (Heap.lt_size hg) (bx.mp m)
  ·exact hx m
theorem Wa(P:c.VL X ad g vs l)(j:Nat)(V:SV)(e:l[j]? =some V)(u:Value)(hu:vs.toArray[0+j]? =some u):c.VR X ad g u V:=by
 refine ak (Internal.Paired.get P e) fun w hw rL=> ?_
 rw[cZ,mh,hw] at hu
 (injection hu with e1;subst e1)
 exact rL
theorem Hi{o:Obj}{k:IT→Hp→Res}{ob:Obj}(I:Inv c X ad h s)(hL:bY c s)(hg:s.heap.get? a=some ob)(hx:a∉X)(P:c.VL X ad s.heap vs l)(q:c.Ok (k (.items l) h))
  (hf:o.isFreed=false)(w:∀X',(s.heap.push o).get? s.heap.objs.size=some o→(∀b∈ [s.heap.objs.size,a],b=s.heap.objs.size∨(∃o',(s.heap.push o).get? b=some o')∧b∉X')→0+l.length=vs.toArray.size→(∀(j:Nat)V,l[j]? =some V→∀u,vs.toArray[0+j]? =some u→c.VR X' ad (s.heap.push o) u V)→c8 c aH X' ad (s.heap.push o) (.ref s.heap.objs.size) (.items l) [s.heap.objs.size]):
  kK c aH X ad s k (.ref s.heap.objs.size) {s with heap:=s.heap.push o}:=by
 refine dq (I.grow (N:=[s.heap.objs.size]) (t:=s.toks) (wB (bb _) (gE hf)) hL (fun b o' e=>ec e) (dU (fI _ _))) fun J T hN=> ?_
 exact⟨_,h,ad,_,[s.heap.objs.size],q,w _ (gE hf) (Ji hg hx) (by rw[cZ,cW,j8 P]) (Wa (I.g6 T P)),J,T,fun b m=>⟨(hN b m).1,(hN b m).2,by rw[bx.mp m];exact bb _⟩⟩
theorem Vm(C:ax c)(I:Inv c X ad h s)(hL:bY c s){k:IT→Hp→Res}(q:c.Ok (Mi V h fun it=>k it h))(r:c.VR X ad s.heap v V):
  wpAny c.M A (pyIter v) (kK c aH X ad s k) NE s:=by
 refine bp q (fun _ q=>hY I q r fun i p o _ ho hp ev R q=>td q fun l eo q=> ?_) fun _ q=>bp q (fun e q=>eL (l:=bU V) (bg (bh e) r) fun a vs ev hl hx P=> ?_) fun _ q=>KU q fun l e q=> ?_
 ·subst ev;subst eo
  obtain⟨_,vs,hl,P⟩:=R
  refine wpAny_pyIter_list hl.isList ?_
  have hI:(s.heap.push {cls:= .type "list_iterator",data:= .fields #[.ref p.1,.int 0 0]}).get? s.heap.objs.size=some {cls:= .type "list_iterator",data:= .fields #[.ref p.1,.int 0 0]}:=gE rfl
  refine dq (I.grow (N:=[s.heap.objs.size]) (t:=s.toks) (wB (bb _) hI) hL (fun b o' e=>ec e) (dU (fI _ _))) fun J T hN=> ?_
  exact⟨_,h,ad,_,[s.heap.objs.size],q,.ref ⟨_,hI,rfl,rfl⟩ hp,J,T,fun b m=>⟨(hN b m).1,(hN b m).2,by rw[bx.mp m];exact bb _⟩⟩
 ·subst ev
  refine ai (aJ q) fun hb q=> ?_
  refine av (id hl) fun ep hg=> ?_
  exact wpAny_pyIter_list hl.isList (Hi I hL hg hx P q rfl fun X' hI h1 h2 h3=> .walk (i:=0) (fun A hh=>Walks.list hh _ a (jW (Heap.lt_size hg)) vs.toArray) ⟨⟨_,hI,rfl,rfl⟩,⟨_,ec hg,rfl,ep,rfl⟩⟩ h1 (fun i h st=>PD st.1) h2 h3)
 ·refine ai (aJ q) fun hb q=> ?_
  obtain⟨a,o,vs,ep,ev,hg,hc,hd,hx,P⟩:=lG (bg e r)
  subst ev
  exact wpAny_pyIter_tuple ⟨o,hg,hc,ep,hd⟩ (Hi I hL hg hx P q rfl fun X' hI h1 h2 h3=> .walk (i:=0) (fun A hh=>Walks.tuple hh _ a (jW (Heap.lt_size hg)) vs.toArray) ⟨⟨_,hI,rfl,rfl⟩,⟨_,ec hg,hc,ep,hd⟩⟩ h1 (fun i h st=>Qu st.1) h2 h3)
end
noncomputable def fL(c:Cx)(m:Nat)(sc:List (Nat×NameKind))(cl:aX)(n:Nat)(C:CI)(d aH:PySem.Expr):Prop:=
 ∀⦃A e X ad s env h⦄⦃k:IT→Hp→Res⦄,At c m sc A e X ad s env h→c.Ok (C c.P cl n env h k)→wpAny c.M A (eval d e) (fun x s1=>wpAny c.M A (pyIter x) (kK c aH X ad s k) NE s1) NE s
section
variable{m:Nat}
theorem v7(C:ax c){x:Internal.C}(hx:aO c m sc cl n x d):fL c m sc cl n (qL x) d aH:=fun _ _ _ _ _ _ _ _ a q=>
 bX (hx a q) fun v s1 V h1 aK X1 q1 r1 J1 T1=>ay (Vm C J1 (a.next J1 T1).low q1 r1) fun _ _ p=>p.after T1
end
end
section
theorem AA(n:Nat)(a st:Int):pO (n+1) a st= .lit a::pO n (a+st) st:=rfl
theorem Ij:∀(n:Nat)(a st:Int),(pO n a st).length=n
 |0,_,_=>rfl
 |n+1,a,st=>by rw[AA,cw,Ij n]
theorem Ii:∀(n:Nat)(a st:Int)(j:Nat)(V:SV),(pO n a st)[j]? =some V→V= .lit (a+(j:Int)*st)
 |0,a,st,j,V,h=>by
  have h:([]:List SV)[j]? =some V:=h
  simp at h
 |n+1,a,st,0,V,h=>by
  rw[AA] at h
  (injection h with e1;subst e1)
  simp
 |n+1,a,st,j+1,V,h=>by
  rw[AA,y6] at h
  rw[Ii n _ st j V h]
  congr 1
  push_cast
  rw[Int.add_mul,Int.one_mul]
  lia
theorem qo{a:Int}(h:vc a=true): -2000000<a∧a<2000000:=by
 refine d1 h fun h1 h2=> ?_
 rw[j5] at h1 h2
 have:=of_decide_eq_true h1
 have:=of_decide_eq_true h2
 have e1:(aq 1000000:Int)=1000000:=rfl
 have e2:(gC 1000000:Int)= -1000001:=rfl
 lia
section
theorem Fj(I:Inv c X ad h s)(hL:bY c s){r:Addr}{a b st:Int}{t u v:Tok}{k:IT→Hp→Res}(hr:IsRange s.heap r a b st t u v)(D0:Builtin.Range.small a b st=true)(hn:Builtin.Range.rangeSize a b st=(n:Int))(q:c.Ok (k (.items (pO n a st)) h)):
  wpAny c.M A (pyIter (.ref r)) (kK c aH X ad s k) NE s:=by
 refine wpAny_pyIter_range hr D0 ?_
 rw[hn]
 have hI:(s.heap.push {cls:= .type "range_iterator",data:= .fields #[rawInt a,rawInt (n:Int),rawInt st]}).get? s.heap.objs.size=some {cls:= .type "range_iterator",data:= .fields #[rawInt a,rawInt (n:Int),rawInt st]}:=gE rfl
 refine dq (I.grow (N:=[s.heap.objs.size]) (t:=s.toks) (wB (bb _) hI) hL (fun b o e=>ec e) (dU (fI _ _))) fun J T hN=> ?_
 refine⟨_,h,ad,_,[s.heap.objs.size],q,.walk (i:=0) (fun A hh=>Walks.range hh _ a st n) (by simpa using hI) (fun b m=> .inl (bx.mp m)) (fun i h st=>Po st) (by rw[cZ,Ij]) (fun j V e u hu=> ?_),J,T,fun b m=>⟨(hN b m).1,(hN b m).2,by rw[bx.mp m];exact bb _⟩⟩
 refine av hu fun tt hu=> ?_
 rw[cZ] at hu
 rw[hu,Ii n a st j V e]
 exact .lit _ _
noncomputable abbrev oW(c:Cx)(A:Around)(aH:PySem.Expr)(X:List Addr)(ad:Ad)(s:Shared)(k:IT→Hp→Res)(x:Value)(s1:Shared):Prop:=wpAny c.M A (pyIter x) (kK c aH X ad s k) NE s1
theorem G3(I:Inv c X ad h s)(hL:bY c s){a b:Int}{k:IT→Hp→Res}(q:c.Ok (A7 a b fun l=>k (.items l) h))(o:Obj)(tk:Nat)(t u v:Tok)(ho:o={cls:= .type "range",data:= .fields #[.int a t,.int b u,.int 1 v]}):
  oW c A aH X ad s k (.ref s.heap.objs.size) {s with heap:=s.heap.push o,toks:=tk}:=by
 subst ho
 refine ai (aJ q) fun hs q=> ?_
 refine o7 hs fun h3 h4 h2=> ?_
 have h3:=qo h3
 have h4:=qo h4
 refine ai (I.push (g:=s.heap.push {cls:= .type "range",data:= .fields #[.int a t,.int b u,.int 1 v]}) (t:=tk) (fun b o e=>ec e) (dU (fI _ _))) fun J T=> ?_
 exact ay (Fj J (hL.step T) (IsRange.new ..) (small_one (by lia) (by lia) (by lia) (by lia)) (rangeSize_nat a b) q) fun _ _ p=>p.after T
theorem Sd(I:Inv c X ad h s)(hL:bY c s){a b:Int}{k:IT→Hp→Res}(q:c.Ok (Ib a b fun l=>k (.items l) h))(o:Obj)(tk:Nat)(t u v:Tok)(ho:o={cls:= .type "range",data:= .fields #[.int a t,.int b u,.int (-1) v]}):
  oW c A aH X ad s k (.ref s.heap.objs.size) {s with heap:=s.heap.push o,toks:=tk}:=by
 subst ho
 refine ai (aJ q) fun hs q=> ?_
 refine o7 hs fun h3 h4 h2=> ?_
 have h3:=qo h3
 have h4:=qo h4
 refine ai (I.push (g:=s.heap.push {cls:= .type "range",data:= .fields #[.int a t,.int b u,.int (-1) v]}) (t:=tk) (fun b o e=>ec e) (dU (fI _ _))) fun J T=> ?_
 exact ay (Fj J (hL.step T) (IsRange.new ..) (small_down (by lia) (by lia) (by lia) (by lia)) (rangeSize_downNat a b) q) fun _ _ p=>p.after T
theorem Qw(C:ax c)(I:Inv c X ad h s)(hL:bY c s){k:IT→Hp→Res}(q:c.Ok (Jv as fun l=>k (.items l) h))(P:c.VL X ad s.heap vs as):
  wpAny c.M A (call (.type "range") vs) (oW c A aH X ad s k) NE s:=by
 refine KG q P fun a1 r v1 us q r1 P=>litE q fun a ea q=>av (VR.dj (bg ea r1)) fun _ ee=> ?_;subst ee
 refine bp q (fun e q=>LP e P (call_range_1 (G3 I hL q _ _ _ _ _ rfl))) fun _ q=> ?_
 refine KG q P fun a2 r v2 us q r2 P=>litE q fun b eb q=>av (VR.dj (bg eb r2)) fun _ ee=> ?_;subst ee
 refine bp q (fun e q=>LP e P (call_range_2 (G3 I hL q _ _ _ _ _ rfl))) fun _ q=> ?_
 refine Zk q P fun a3 v3 q r3=>litE q fun st es q=>av (VR.dj (bg es r3)) fun _ ee=> ?_;subst ee
 refine ai (aJ q) fun e q2=> ?_
 rw[ib e]
 refine ai (aJ q2) fun hs _=> ?_
 refine o7 hs fun h3 h4 _=> ?_
 have h3:=qo h3
 have h4:=qo h4
 exact call_range_3 (by decide) (Sd I hL q2 _ _ _ _ _ rfl) (.inl (PyProof.noPylong_small (by lia)))
theorem Rx(I:Inv c X ad h s)(hL:bY c s)(ht:hS aH=true){k:IT→Hp→Res}(q:c.Ok (J0 V h fun it=>k it h))(r:c.VR X ad s.heap v V):
  wpAny c.M A (call (.type "enumerate") [v]) (oW c A aH X ad s k) NE s:=by
 have two:∀{g:Heap}{a:Addr},IsEnum g (s.heap.objs.size+1) s.heap.objs.size 0 .none→g.IsListIter s.heap.objs.size a 0→∀b∈ [s.heap.objs.size+1,s.heap.objs.size],s.heap.objs.size≤b∧∃o,g.get? b=some o:=fun he⟨o,ho,_⟩b m=>by
  rcases aE.mp m with rfl|m
  ·exact⟨nU _,_,he⟩
  ·rw[bx.mp m];exact⟨bb _,o,ho⟩
 refine bp q (fun _ q=>hY I q r fun i p o _ _ hp ev R q=>td q fun l eo q=> ?_) fun _ q=>lT q fun l e q=>eL (bg e r) fun a vs ev hl hx P=> ?_
 ·subst ev;subst eo
  obtain⟨_,vs,hl,P⟩:=R
  refine call_enumerate_list hl.isList fun h' he hi hz hk=> ?_
  refine dq (I.grow (N:=[s.heap.objs.size+1,s.heap.objs.size]) (g:=h') (t:=s.toks) (two he hi) hL hk (by lia)) fun J T hN=> ?_
  exact wpAny_pyIter_enum he ⟨_,h,ad,_,_,q,.gG ht he hi hp (OH _),J,T,fun b m=>⟨(hN b m).1,(hN b m).2,(two he hi b m).1⟩⟩
 ·subst ev
  refine ai (aJ q) fun hb q=> ?_
  refine av (id hl) fun ep hg=> ?_
  have lt:a<s.heap.objs.size:=Heap.lt_size hg
  refine call_enumerate_list hl.isList fun h' he hi hz hk=> ?_
  refine dq (I.grow (N:=[s.heap.objs.size+1,s.heap.objs.size]) (g:=h') (t:=s.toks) (two he hi) hL hk (by lia)) fun J T hN=> ?_
  refine wpAny_pyIter_enum he ⟨_,h,ad,_,_,q,.enum ht he hi ⟨ep,hk _ _ hg⟩ (fun m=> ?_) (OH _) (I.g6 T P),J,T,fun b m=>⟨(hN b m).1,(hN b m).2,(two he hi b m).1⟩⟩
  rcases bj.mp m with m|m
  ·exact absurd lt (PC.mpr (two he hi a m).1)
  ·exact hx m
theorem UG(I:Inv c X ad h s)(hL:bY c s){k:IT→Hp→Res}(q:c.Ok (eE V fun l=>cond (big (len l)) (k (.items (jJ l)) h) (bad 31)))(r:c.VR X ad s.heap v V):
  wpAny c.M A (call (.type "reversed") [v]) (oW c A aH X ad s k) NE s:=by
 refine lT q fun l e q=>eL (bg e r) fun a vs ev hl hx P=> ?_;subst ev
 refine ai (aJ q) fun hb q=> ?_
 rw[wC] at q
 refine av (id hl) fun ep hg=> ?_
 have lt:a<s.heap.objs.size:=Heap.lt_size hg
 refine call_reversed_list hl.isList ?_
 have hI:(s.heap.push (revObj a ((vs.toArray.size:Int)-1))).get? s.heap.objs.size=some (revObj a ((vs.toArray.size:Int)-1)):=gE rfl
 refine dq (I.grow (N:=[s.heap.objs.size]) (t:=s.toks) (wB (bb _) hI) hL (fun b o e=>ec e) (dU (fI _ _))) fun J T hN=> ?_
 have Nl:(s.heap.push (revObj a ((vs.toArray.size:Int)-1))).IsRevIter s.heap.objs.size a ((vs.toArray.size:Int)-1-((0:Nat):Int)):=⟨_,hI,rfl,by simp[revObj]⟩
 refine wpAny_pyIter_revIter Nl ⟨_,h,ad,_,[s.heap.objs.size],q,.walk (i:=0) (fun A hh=>Walks.listRev hh _ a (jW lt) vs.toArray) ⟨fu _,Nl,⟨_,ec hg,rfl,ep,rfl⟩⟩ (Ji hg hx) (fun i h st=>Qt st.2.1) (by rw[cZ,cW,j8 P,rS]) (fun j V e u hu=> ?_),J,T,fun b m=>⟨(hN b m).1,(hN b m).2,by rw[bx.mp m];exact bb _⟩⟩
 have hj:j<l.length:=by
  have:=(dM.mp e).1
  rwa [rS] at this
 rw[List.getElem?_reverse hj] at e
 refine ak (Internal.Paired.get P e) fun w hw rL=> ?_
 rw[cW,j8 P,cZ,mh,hw] at hu
 (injection hu with e1;subst e1)
 exact I.cu T rL
end
section
variable{m:Nat}
theorem Hq:∀(l m:List SV),(mZ l m).length=min l.length m.length
 | [],m=>by simp[mZ]
 |a::l,[]=>by simp[mZ]
 |a::l,b::m=>by
  show(mZ l m).length+1=_
  rw[Hq l m,cw,cw];lia
theorem Ho:∀(l m:List SV)(j:Nat)(V:SV),(mZ l m)[j]? =some V→∃a b,l[j]? =some a∧m[j]? =some b∧V= .tup [a,b]
 | [],m,j,V,h=>by
  have h:([]:List SV)[j]? =some V:=h
  simp at h
 |a::l,[],j,V,h=>by
  have h:([]:List SV)[j]? =some V:=h
  simp at h
 |a::l,b::m,0,V,h=>by
  have h:(SV.tup [a,b]::mZ l m)[0]? =some V:=h
  (injection h with e1;subst e1);exact⟨a,b,rfl,rfl,rfl⟩
 |a::l,b::m,j+1,V,h=>Ho l m j V h
theorem Q8(z a b:Nat)(h1:a<z)(h2:b<z):ZipApart (z+4) (z+2) (z+3) z (z+1) a b:=by constructor<;>(intro h;have h:(_:Nat)=(_:Nat):=h;omega)
theorem Vt(z:Nat)(h:z+2=z+4∨z+2=z+3∨z+2=z∨z+2=z+1):False:=by lia
theorem Vs(I:Inv c X ad h s)(hL:bY c s)(ht:hS aH=true){W:SV}{k:IT→Hp→Res}(q:c.Ok (eE V fun l=>eE W fun m=>cond (ah (big (len l)) (big (len m))) (k (.items (mZ l m)) h) (bad 31)))
  (rv:c.VR X ad s.heap v V)(ru:c.VR X ad s.heap u W):wpAny c.M A (call (.type "zip") [v,u]) (oW c A aH X ad s k) NE s:=by
 refine lT q fun l e q=>eL (bg e rv) fun a vs ev hl hx P=> ?_;subst ev
 refine lT q fun m e q=>eL (bg e ru) fun b us ev hm hy P'=> ?_;subst ev
 refine ai (aJ q) fun hb q=> ?_
 obtain⟨ep,hg⟩:=id hl
 obtain⟨ep',DV⟩:=id hm
 have Nz:a<s.heap.objs.size:=Heap.lt_size hg
 have NA:b<s.heap.objs.size:=Heap.lt_size DV
 refine call_zip_2 hl.isList hm.isList fun h' hz M8 M9 h1 h2 kY hk=> ?_
 have D:ZipApart (s.heap.objs.size+4) (s.heap.objs.size+2) (s.heap.objs.size+3) s.heap.objs.size (s.heap.objs.size+1) a b:=Q8 _ _ _ Nz NA
 have pg:∀x∈ [s.heap.objs.size+4,s.heap.objs.size+3,s.heap.objs.size,s.heap.objs.size+1],s.heap.objs.size≤x∧∃o,h'.get? x=some o:=
  in1 ⟨nS _ _,_,hz⟩ (in1 ⟨nS _ _,_,M9⟩ (in1 ⟨bb _,ak (id h1) fun o1 e1 _=>⟨o1,e1⟩⟩ (in1 ⟨nS _ _,ak (id h2) fun o2 e2 _=>⟨o2,e2⟩⟩ bS)))
 obtain⟨J,T,hN⟩:=I.grow (g:=h') (t:=s.toks) pg hL hk (by rw[kY];exact nS _ _)
 have nx:∀x,x<s.heap.objs.size→x∉X→x∉ [s.heap.objs.size+4,s.heap.objs.size+3,s.heap.objs.size,s.heap.objs.size+1]++X:=fun x lt nx m=>by
  rcases bj.mp m with m|m
  ·exact df _ (cV lt (pg x m).1)
  ·exact nx m
 have nz:s.heap.objs.size+2∉ [s.heap.objs.size+4,s.heap.objs.size+3,s.heap.objs.size,s.heap.objs.size+1]:=fun m=>Vt s.heap.objs.size (by simp only[aE,aP,or_false] at m;exact m)
 refine wpAny_pyIter_zip hz ⟨_,h,ad,_,_,q,.oG (i:=0) ht (fun A hh=>WalksT.zip2 hh _ _ _ _ _ a b D vs.toArray us.toArray) ⟨hz,M8,⟨_,_,M9⟩,h1,h2,⟨_,hk _ _ hg,rfl,ep,rfl⟩,⟨_,hk _ _ DV,rfl,ep',rfl⟩⟩ (in1 (.inl (.head _)) (in1 (.inr ⟨⟨_,M8⟩,fun m=>(bj.mp m).elim nz (I.fresh (nS _ _))⟩) (in1 (.inl (.tail _ (.head _))) (in1 (.inl (.tail _ (.tail _ (.head _)))) (in1 (.inl (.tail _ (.tail _ (.tail _ (.head _))))) (in1 (.inr ⟨⟨_,hk _ _ hg⟩,nx _ Nz hx⟩) (in1 (.inr ⟨⟨_,hk _ _ DV⟩,nx _ NA hy⟩) bS))))))) (fun i g st=> ?_) (by rw[cZ,Hq,cW,cW,j8 P,j8 P']) (fun j Z e vals hp=> ?_),J,T,fun x m=>⟨(hN x m).1,(hN x m).2,(pg x m).1⟩⟩
 ·obtain⟨z1,z2,⟨z3,z4,z5⟩,h1,h2,_⟩:=st
  exact in1 ⟨_,z1⟩ (in1 ⟨_,z5⟩ (in1 (ak h1 fun o1 e1 _=>⟨o1,e1⟩) (in1 (ak h2 fun o2 e2 _=>⟨o2,e2⟩) bS)))
 ·refine dK hp fun x y e1 e2 af=> ?_;subst af
  refine dK (Ho l m j Z e) fun c1 c2 f1 f2 af=> ?_;subst af
  refine ak (Internal.Paired.get P f1) fun p1 g1 r1=> ?_
  refine ak (Internal.Paired.get P' f2) fun p2 g2 r2=> ?_
  rw[cZ,mh,g1] at e1
  rw[cZ,mh,g2] at e2
  (injection e1 with e1;subst e1);(injection e2 with e1;subst e1)
  exact⟨_,rfl,.cons (I.cu T r1) (.cons (I.cu T r2) .nil)⟩
theorem PY(C:ax c)(I:Inv c X ad h s)(hL:bY c s){b:Nat}(ht:b=5∨b=6→hS aH=true){k:IT→Hp→Res}(q:c.Ok (IZ b as h fun it=>k it h))(P:c.VL X ad s.heap vs as):
  wpAny c.M A (call (c.S.bi b) vs) (oW c A aH X ad s k) NE s:=by
 refine bp q (fun e q=> ?_) fun _ q=>bp q (fun e q=> ?_) fun _ q=>bp q (fun e q=> ?_) fun _ q=>bp q (fun e q=> ?_) fun _ q=>(a0 q).elim
 ·rw[aZ e,C.b4];exact Qw C I hL q P
 ·have e:=aZ e
  refine ak (iS q) fun V af q=> ?_;subst af
  refine p1 P fun _ _ r P=>p0 P ?_
  rw[e,C.b5];exact Rx I hL (ht (.inl e)) q r
 ·have e:=aZ e
  refine eP (IF q) fun V W af q=> ?_;subst af
  refine p1 P fun _ _ r P=>p1 P fun _ _ r' P=>p0 P ?_
  rw[e,C.b6];exact Vs I hL (ht (.inr e)) q r r'
 ·refine ak (iS q) fun V af q=> ?_;subst af
  refine p1 P fun _ _ r P=>p0 P ?_
  rw[aZ e,C.b7];exact UG I hL q r
theorem QP(C:ax c){b x g:Nat}{es:CL}{p qp:Pos}(hg:c.S.gp x g=true)(hb:c.P.eG g= .bi b)(hk:ck sc x=some .globalImplicit)(he:ij c m sc cl n es ds)(hd:Rows ds)(ht:b=5∨b=6→hS aH=true):
  fL c m sc cl n (xn b es) (.Call (.Name (c.S.nm x) qp) ds [] p) aH:=fun{A e X ad s env h k}a q=>by
 rw[arm_eval_Call_Name']
 have q1:c.Ok (t6 g c.P cl n env h fun V h=>match V with| .bi b'=>cond (ag b b') (xn b es c.P cl n env h k) (bad 0)|_=>bad 0):=by
  unfold t6;rw[hb]
  show c.Ok (cond (ag b b) _ _)
  rw[mB];exact q
 refine wpAny_bind (bX (Hy (x:=x) (p:=qp) C a.inv a.fr q1 hg (by rw[a.sc.kind,hk])) fun v s1 V h1 aK X1 q1 r1 J1 T1=> ?_)
 have a1:=a.next J1 T1
 induction V using SV.casesOn with
 |bi b'=>
  refine ai (aJ q1) fun e q2=> ?_
  have e:=aZ e
  subst e
  obtain rfl:=VR.D2 r1
  refine r8 he hd a1 q2 fun vs s2⟨l,h2,bl,X2,q3,P2,J2,T2,_⟩=>⟨zS (C.Ci b) _ trivial,?_⟩
  exact ay (PY C J2 (a1.next J2 T2).low ht q3 P2) fun _ _ w=>ay w fun _ _ p=>(p.after T2).after T1
 |_=>exact(a0 q1).elim
end
end
section
section
variable{ae:Ad} {h':Hp} {m:Nat}
theorem bC.tH(R:bC c e X ad s.heap env)(I:Inv c X ad h s)(T:Step D X ad s X' ae s')(hD:∀a∈D,a∈X)(hf:∀a∈aV e,a∉D):bC c e X' ae s'.heap env:=by
 have kp:∀a∈aV e,∀o,s.heap.get? a=some o→s'.heap.get? a=some o:=fun a ha o q=>T.keep a o q (hf a ha) (R.fT a ha)
 refine ak R.vars fun m hn hv=> ?_
 have kc:∀{n a v},e.cells.lookup n=some a→s.heap.IsCell a v→s'.heap.IsCell a v:=fun q⟨o,ho,hd⟩=>⟨o,kp _ (.tail _ (lookup_mem q)) o ho,hd⟩
 refine⟨R.kind,R.glob,R.blt,⟨m,hn.at' (kp _ (.head _)),fun x V q vk=> ?_⟩,fun n a q=>let⟨v,z⟩:=R.cell n a q;⟨v,kc q z⟩,fun a ha=>T.XK a (R.bc a ha),fun a ha z=> ?_,R.apart,R.locs⟩
 ·rcases hv x V q vk with⟨k,v,h1,h2⟩|⟨k,a,v,h1,h2,h3⟩
  ·exact .inl ⟨k,v,h1,I.vr T hD h2⟩
  ·exact .inr ⟨k,a,v,h1,kc h1 h2,I.vr T hD h3⟩
 ·rcases T.dI a z with z|z
  ·exact R.fT a ha z
  ·exact df _ (cV (I.low a (R.bc a ha)) z)
theorem bC.look(R:bC c e X ad s.heap env)(hl:∀x V,Internal.look aD x=some V→Internal.look env x=some V):bC c e X ad s.heap aD:=by
 refine ak R.vars fun m hn hv=> ?_
 exact⟨R.kind,R.glob,R.blt,⟨m,hn,fun x V q vk=>hv x V (hl x V q) vk⟩,R.cell,R.bc,R.fT,R.apart,R.locs⟩
theorem bC.aam(R:bC c e X ad s.heap env):∀a∈aV e,a∈X:=R.bc
inductive oZ (c:Cx) (D:List Addr) (ns:List Nat) (env:En) (e:Env) (X:List Addr) (ad:Ad) (h:Hp) (s:Shared) (k:En→Res) (s':Shared):Prop
 |mk:∀aD,c.Ok (k aD)→bC c e X ad s'.heap aD→Inv c X ad h s'→Step D X ad s X ad s'→(∀x,x∉ns→Internal.look aD x=Internal.look env x)→oZ c D ns env e X ad h s k s'
theorem nL{α:Type}{t:Sem α}{s0:Shared}{k:En→Res}{Q:α→Shared→Prop}(w:wpAny c.M A t (fun _=>oZ c D ns env e X ad h s k) E s0)
  (H:∀v s' aD,c.Ok (k aD)→bC c e X ad s'.heap aD→Inv c X ad h s'→Step D X ad s X ad s'→(∀x,x∉ns→Internal.look aD x=Internal.look env x)→Q v s'):wpAny c.M A t Q E s0:=ay w fun v s'⟨aD,q,R,J,T,l⟩=>H v s' aD q R J T l
theorem oZ.after{k:En→Res}(T:Step D X ad s X ad s')(p:oZ c D ns env e X ad h s' k fD):oZ c D ns env e X ad h s k fD:=by
 obtain⟨aD,q,R,J,T',w⟩:=p
 exact⟨aD,q,R,J,T.trans T',w⟩
end
structure eW(c:Cx)(sc:List (Nat×NameKind))(ns:List Nat)(t:CT)(d:PySem.Expr):Prop where
 run:∀{A e X ad s env h V v}{D:List Addr}{k:En→Res},(∀x∈ns,Wr c e x D)→(∀a∈D,a∈X)→A.handled=none→Inv c X ad h s→bC c e X ad s.heap env→gN c e sc→c.VR X ad s.heap v V→c.Ok (t c.P V env k)→wpAny c.M A (assign d e v) (fun _=>oZ c D ns env e X ad h s k) NE s
 go:∀{V env}{k:En→Res},c.Ok (t c.P V env k)→∃aD,c.Ok (k aD)
 one:∀e r,assignEach (d::r) e=(false,assign d e)::assignEach r e
structure qj(c:Cx)(sc:List (Nat×NameKind))(ns:List Nat)(t:Prog→List SV→En→(En→Res)→Res)(ds:List PySem.Expr):Prop where
 run:∀{A e X ad s env h l vs}{D:List Addr}{k:En→Res},(∀x∈ns,Wr c e x D)→(∀a∈D,a∈X)→A.handled=none→Inv c X ad h s→bC c e X ad s.heap env→gN c e sc→c.VL X ad s.heap vs l→c.Ok (t c.P l env k)→wpAny c.M A (assignInOrder ((assignEach ds e).map (·.2)) vs) (fun _=>oZ c D ns env e X ad h s k) NE s
 go:∀{l env}{k:En→Res},c.Ok (t c.P l env k)→(∃aD,c.Ok (k aD))∧l.length=ds.length
 star:∀e,(assignEach ds e).findIdx? (·.1)=none∧(assignEach ds e).length=ds.length
noncomputable def ef(sc:List (Nat×NameKind))(x:Nat):Bool:=match ck sc x with
 |some .local=>true
 |some .cell=>true
 |_=>false
section
theorem p7(S:gN c e sc){x:Nat}(h:ef sc x=true):Ah e (c.S.nm x):=by
 unfold ef at h
 have:=S.kind x
 induction q:ck sc x using Option.casesOn with
 |none=>rw[q] at h;exact nf h
 |some k=>
  rw[q] at h this
  induction k<;>first|exact .inl this|exact .inr ⟨this,S.cell x q⟩|exact nf h
theorem tm(C:ax c){x:Nat}{p:Pos}(hx:ef sc x=true):eW c sc [x] (jM x) (.Name (c.S.nm x) p) where
 run:=fun hw hX hh I R S rv q=>wpAny_assign_Name (ay (v8 C I R (hw _ (.head _)) rv (p7 S hx)) fun _ s'⟨R',J,T⟩=>⟨_,n4 q,R',J,T,fun y ny=>by rw[lA,if_neg fun z=>ny (by rw[z];exact .head _)]⟩)
 go:=fun q=>⟨_,n4 q⟩
 one:=fun e r=>rfl
theorem JJ:qj c sc [] x7 [] where
 run:=fun{A e X ad s env h l vs D k}hw hX hh I R S P q=>by
  induction P using PySem.Paired.casesOn with
  |nil=>exact wpAny_assignInOrder_none ⟨env,q,R,I,Step.refl ..,fun _ _=>rfl⟩
  |cons _ _=>exact(a0 q).elim
 go:=fun{l env k}q=>by
  induction l using List.casesOn with
  |nil=>exact⟨⟨_,q⟩,rfl⟩
  |cons _ _=>exact(a0 q).elim
 star:=fun e=>⟨rfl,rfl⟩
theorem IB{t:CT}{r:Prog→List SV→En→(En→Res)→Res}{n1 n2:List Nat}(ht:eW c sc n1 t d)(hr:qj c sc n2 r ds):qj c sc (n1++n2) (qA t r) (d::ds) where
 run:=fun{A e X ad s env h l vs D k}hw hX hh I R S P q=>by
  induction P using PySem.Paired.casesOn with
  |nil=>exact(a0 q).elim
  |cons rv P=>
   rw[ht.one]
   refine wpAny_assignInOrder_more (nL (ht.run (fun x m=>hw x (bj.mpr (.inl m))) hX hh I R S rv q) fun _ s1 iZ q1 R1 J1 T1 w1=> ?_)
   refine ay (hr.run (fun x m=>hw x (bj.mpr (.inr m))) hX hh J1 R1 S (Paired.imp (fun _ _ r=>I.vr T1 hX r) P) q1) fun _ s2 p=> ?_
   obtain⟨jB,q2,R2,J2,T2,w2⟩:=p
   exact⟨jB,q2,R2,J2,T1.trans T2,fun y ny=>(w2 y fun m=>ny (bj.mpr (.inr m))).trans (w1 y fun m=>ny (bj.mpr (.inl m)))⟩
 go:=fun{l env k}q=>by
  induction l using List.casesOn with
  |nil=>exact(a0 q).elim
  |cons V l=>
   refine av (ht.go q) fun iZ q1=> ?_
   refine ai (hr.go q1) fun h1 h2=> ?_
   exact⟨h1,by rw[cw,cw,h2]⟩
 star:=fun e=>by
  refine ai (hr.star e) fun h1 h2=> ?_
  rw[ht.one]
  exact⟨by rw[List.findIdx?_cons,h1];rfl,by rw[cw,cw,h2]⟩
theorem H5(C:ax c){k:List SV→Res}(q:c.Ok (Di c.P V k))(r:c.VR X ad g v V):∃l,c.VR X ad g v (.tup l)∧c.Ok (k l):=by
 induction V using SV.casesOn with
 |tup l=>exact⟨l,r,q⟩
 |tree e n=>exact Hj C q r
 |_=>exact(a0 q).elim
theorem RZ{k:List SV→Res}(q:c.Ok (Di c.P V k)):∃l,c.Ok (k l):=by
 induction V using SV.casesOn with
 |tup l=>exact⟨l,q⟩
 |tree e n=>
  refine ai (sQ q) fun z q=> ?_
  refine bp q (fun _ q=>⟨_,q⟩) fun _ q=>⟨_,q⟩
 |_=>exact(a0 q).elim
theorem EZ(I:Inv c X ad h s)(hh:A.handled=none)(r:c.VR X ad s.heap v (.tup l))(hn:l.length=n):
  wpAny c.M A (unpackItems v n none) (fun vs s'=>c.VL X ad s'.heap vs l∧Inv c X ad h s'∧Step [] X ad s X ad s') NE s:=by
 obtain⟨a,o,vs,ep,rfl,hg,hc,hd,hx,P⟩:=lG r
 have ht:IsTup s.heap a vs.toArray:=⟨o,hg,hc,ep,hd⟩
 have e:n=vs.toArray.size:=by rw[cW,j8 P,hn]
 rw[e]
 refine gD (unpackItems_tuple hh ht fun h' he hz=> ?_)
 refine ai (I.push (g:=h') (t:=s.toks) (fun b o q=>he b o (jW (Heap.lt_size q)) q) hz) fun J T=> ?_
 exact⟨I.g6 T P,J,T⟩
theorem JK(C:ax c){r:Prog→List SV→En→(En→Res)→Res}{k:Nat}{p:Pos}(hr:qj c sc ns r ds):eW c sc ns (qT r) (.Tuple ds k p) where
 run:=fun{A e X ad s env h V v D K}hw hX hh I R S rv q=>by
  refine ak (H5 C q rv) fun l rl q=> ?_
  refine ai (hr.go q) fun _ hlen=> ?_
  refine ai (hr.star e) fun h1 h2=> ?_
  rw[arm_assign_Tuple]
  refine wpAny_bind (wpAny_standAt ?_)
  unfold unpack
  rw[h1,h2]
  refine wpAny_bind (wpAny_holding (ay (EZ I hh rl hlen) fun vs s1⟨P1,J1,T1⟩=> ?_))
  refine ay (hr.run hw hX hh J1 (R.keep I T1) S P1 q) fun _ _ p=>p.after (T1.mono fun _ m=>nomatch m)
 go:=fun q=>by
  refine av (RZ q) fun l q=> ?_
  exact(hr.go q).1
 one:=fun e r=>rfl
end
end
section
inductive Dr (c:Cx) (e:Env) (X:List Addr) (ad:Ad) (s:Shared) (k:En→Hp→Res) (s':Shared):Prop
 |mk:∀aD h' ae X',c.Ok (k aD h')→bC c e X' ae s'.heap aD→Inv c X' ae h' s'→Step (aV e) X ad s X' ae s'→Dr c e X ad s k s'
inductive My (c:Cx) (D X:List Addr) (ad:Ad) (s:Shared) (kr:K) (v:Value) (s':Shared):Prop
 |mk:∀V h' ae X',c.Ok (kr V h')→c.VR X' ae s'.heap v V→Inv c X' ae h' s'→Step D X ad s X' ae s'→My c D X ad s kr v s'
noncomputable def dR(c:Cx)(e:Env)(X:List Addr)(ad:Ad)(s:Shared)(k:En→Hp→Res)(kr:K)(f:Flow)(s':Shared):Prop:=match f with
 | .next=>Dr c e X ad s k s'
 | .ret v=>My c (aV e) X ad s kr v s'
 |_=>False
noncomputable def de(c:Cx)(m:Nat)(sc:List (Nat×NameKind))(cl:aX)(n:Nat)(C:CS)(d:PySem.Stmt):Prop:=
 ∀⦃A e X ad s env h⦄⦃k:En→Hp→Res⦄⦃kr:K⦄,At c m sc A e X ad s env h→c.Ok (C c.P cl n env h k kr)→wpAny c.M A (exec d e) (dR c e X ad s k kr) NE s
noncomputable def gH(c:Cx)(m:Nat)(sc:List (Nat×NameKind))(cl:aX)(n:Nat)(C:CS)(ds:List PySem.Stmt):Prop:=
 ∀⦃A e X ad s env h⦄⦃k:En→Hp→Res⦄⦃kr:K⦄,At c m sc A e X ad s env h→c.Ok (C c.P cl n env h k kr)→wpAny c.M A (execs ds e) (dR c e X ad s k kr) NE s
section
variable{m:Nat} {ae:Ad} {h':Hp}
theorem Step.to(T:Step [] X ad s X' ae s'):Step (aV e) X ad s X' ae s':=T.mono fun _ m=>nomatch m
theorem dR.after(T:Step (aV e) X ad s X' ae s'){k:En→Hp→Res}{kr:K}{f:Flow}(p:dR c e X' ae s' k kr f fD):dR c e X ad s k kr f fD:=by
 induction f with
 |next=>obtain⟨jB,h2,bl,X2,q,R,J,T2⟩:=p;exact⟨jB,h2,bl,X2,q,R,J,T.trans T2⟩
 |ret v=>obtain⟨V,h2,bl,X2,q,r,J,T2⟩:=p;exact⟨V,h2,bl,X2,q,r,J,T.trans T2⟩
 |_=>exact p.elim
theorem At.ow(a:At c m sc A e X ad s env h)(R:bC c e X' ae s'.heap aD)(J:Inv c X' ae h' s')(T:Step (aV e) X ad s X' ae s'):At c m sc A e X' ae s' aD h':=⟨a.ao,J,a.low.step T,R,a.sc⟩
theorem dR.iE{k:En→Hp→Res}{kr:K}(q:c.Ok (k aD h'))(R:bC c e X' ae s'.heap aD)(J:Inv c X' ae h' s')(T:Step (aV e) X ad s X' ae s'):dR c e X ad s k kr .next s':=⟨aD,h',ae,X',q,R,J,T⟩
end
section
variable{m:Nat}
theorem Hc:gH c m sc cl n qQ []:=fun _ _ _ _ _ _ _ _ _ a q=>wpAny_execs_nil (dR.iE q a.fr a.inv (Step.refl ..))
theorem He{x r:CS}{d:PySem.Stmt}{ds:List PySem.Stmt}(hx:de c m sc cl n x d)(hr:gH c m sc cl n r ds):gH c m sc cl n (um x r) (d::ds):=fun{A e X ad s env h k kr}a q=>
 wpAny_execs_cons (ay (hx a q) fun f s1 p=>by
  induction f with
  |next=>
   obtain⟨iZ,h1,aK,X1,q1,R1,J1,T1⟩:=p
   exact ay (hr (a.ow R1 J1 T1) q1) fun _ _ p=>p.after T1
  |ret v=>exact p
  |brk=>exact p.elim
  |cont=>exact p.elim)
theorem Hd{x:Internal.C}{p:Pos}(hx:aO c m sc cl n x d):de c m sc cl n (oR x) (.Return (some d) p):=fun _ _ _ _ _ _ _ _ _ a q=>
 wpAny_Return_some (bX (hx a q) fun v s1 V h1 aK X1 q1 r1 J1 T1=>⟨V,h1,aK,X1,q1,r1,J1,T1.to⟩)
theorem QS{p:Pos}:de c m sc cl n (oR (fx .none)) (.Return none p):=fun _ _ _ _ _ _ _ _ _ a q=>wpAny_Return_none ⟨.none,_,_,_,q,.none,a.inv,Step.refl ..⟩
theorem U4{t:CB}{b o:CS}{ds:List PySem.Stmt}{p:Pos}(ht:jy c m sc cl n t dt)(hb:gH c m sc cl n b db)(ho:gH c m sc cl n o ds):de c m sc cl n (NU t b o) (.If dt db ds p):=fun _ _ _ _ _ _ _ _ _ a q=>
 wpAny_If (pV (ht a q) fun b s1 h1 aK X1 q1 J1 T1=>by
  induction b with
  |true=>exact ay (hb (a.next J1 T1) q1) fun _ _ p=>p.after T1.to
  |false=>exact ay (ho (a.next J1 T1) q1) fun _ _ p=>p.after T1.to)
theorem Qn(R:bC c e X ad g env):interactive e=false:=by unfold interactive;rw[R.kind];rfl
theorem Sq{x:Internal.C}{p:Pos}(hx:aO c m sc cl n x d)(hs:∀e,swapsWith d none p.line e=pure false):de c m sc cl n (L1 x) (.Expr d p):=fun _ _ _ _ _ _ _ _ _ a q=>
 wpAny_Expr_any (bX (hx a q) fun v s1 V h1 aK X1 q1 r1 J1 T1=>dR.iE (aJ q1).2 (a.next J1 T1).fr J1 T1.to) (Qn a.fr) (hs _)
theorem vD{env:Env}{t value:PySem.Expr}{Q:Flow→Shared→Prop}(ho:assignEach [t] env= [(false,assign t env)])
  (h:wpAny c.M A (eval value env) (fun v s₁=>wpAny c.M A (assign t env v) (fun _=>Q .next) E s₁) E s)(hs:swapsWithSole [t] value pos.line env=pure false)(hw:swappedStores [t] value env=pure none):
  wpAny c.M A (exec (.Assign [t] value pos) env) Q E s:=by
 refine wpAny_Assign_stores (ay h fun v s1 w=> ?_) hs hw
 rw[ho]
 exact w
theorem FY{t:CT}{x:Internal.C}{p:Pos}(ht:eW c sc ns t dt)(hx:aO c m sc cl n x d)(hs:∀e,swapsWithSole [dt] d p.line e=pure false)(hw:∀e,swappedStores [dt] d e=pure none):de c m sc cl n (km t x) (.Assign [dt] d p):=fun{A e X ad s env h k kr}a q=>
 vD (ht.one e []) (bX (hx a q) fun v s1 V h1 aK X1 q1 r1 J1 T1=>nL (ht.run (D:=aV e) (fun _ _=>Wr.aV) (a.next J1 T1).fr.bc a.ao.dm J1 (a.next J1 T1).fr a.sc r1 q1) fun _ s2 jB q2 R2 J2 T2 _=>dR.iE q2 R2 J2 (T1.to.trans T2)) (hs e) (hw e)
theorem Sn(C:ax c){o x:Internal.C}{a:Nat}{dO:PySem.Expr}{tp p:Pos}(ho:aO c m sc cl n o dO)(hx:aO c m sc cl n x d)(ha:c.S.ia a=true)(hs:∀e,swapsWith d (some (.Attribute dO (c.S.nm a) tp)) p.line e=pure false):
  de c m sc cl n (CW o a x) (.Assign [.Attribute dO (c.S.nm a) tp] d p):=fun{A e X ad s env h k kr}b q=>
 plainObj_wpAny_Assign_Attribute (bX (hx b q) fun v s1 V h1 aK X1 q1 r1 J1 T1=>bX (ho (b.next J1 T1) q1) fun u s2 W h2 bl X2 q2 r2 J2 T2=>by
  have b2:=(b.next J1 T1).next J2 T2
  exact ay (QI C J2 ha q2 r2 (J1.cu T2 r1)) fun _ s3⟨h3,q3,J3,T3⟩=>dR.iE q3 (b2.next J3 T3).fr J3 ((T1.trans T2).trans T3).to) (hs e)
theorem Ss(C:ax c){o i x:Internal.C}{dO:PySem.Expr}{tp p:Pos}(ho:aO c m sc cl n o dO)(hi:aO c m sc cl n i di)(hx:aO c m sc cl n x d)(hs:∀e,swapsWith d (some (.Subscript dO di tp)) p.line e=pure false):
  de c m sc cl n (CY o i x) (.Assign [.Subscript dO di tp] d p):=fun{A e X ad s env h k kr}b q=>
 wpAny_Assign_Subscript (bX (hx b q) fun v s1 V h1 aK X1 q1 r1 J1 T1=>bX (ho (b.next J1 T1) q1) fun u s2 W h2 bl X2 q2 r2 J2 T2=>bX (hi ((b.next J1 T1).next J2 T2) q2) fun y s3 Z h3 gU X3 q3 r3 J3 T3=>by
  have b3:=((b.next J1 T1).next J2 T2).next J3 T3
  exact ay (QJ C J3 q3 (J2.cu T3 r2) r3 (J2.cu T3 (J1.cu T2 r1))) fun _ s4⟨h4,q4,J4,T4⟩=>dR.iE q4 (b3.next J4 T4).fr J4 (((T1.trans T2).trans T3).trans T4).to) (hs e)
theorem QX{n:Str}(h:Ah e n):tY e n:=by
 rcases h with h|⟨h,_⟩
 ·exact .inl h
 ·exact .inr (.inl h)
theorem Uh(C:ax c)(I:Inv c X ad h s)(R:bC c e X ad s.heap env){x:Nat}(hV:look env x=some V)(vk:tY e (c.S.nm x)):
  wpAny c.M A (loadName e (c.S.nm x)) (fun v s'=>c.VR X ad s.heap v V∧s'=s) NE s:=by
 refine ak R.vars fun m hn hv=> ?_
 rcases hv x V hV vk with⟨k1,v,h1,h2⟩|⟨k1,a,v,h1,h2,h3⟩
 ·exact wpAny_loadName_local R.kind k1 hn h1 ⟨h2,rfl⟩
 ·rcases k1 with k1|k1
  ·exact wpAny_loadName_cell R.kind k1 h1 h2 ⟨h3,rfl⟩
  ·exact wpAny_loadName_free R.kind k1 h1 h2 ⟨h3,rfl⟩ (C.DC x)
theorem TQ{op:Operator}{a b:SV}{va vb:Value}{k:SV→Res}(h:c.Ok (sW op a b k))(DZ:isAdd op=true∨Bt op=true)(ha:bQ a=true)(hb:bQ b=true)
  (ra:c.VR X ad s.heap va a)(rb:c.VR X ad s.heap vb b):wpAny c.M A (inplaceOp op va vb) (qD c X ad s k) NE s:=by
 refine av (eU ha ra) fun t af=> ?_;subst af
 refine av (eU hb rb) fun u af=> ?_;subst af
 have fin:∀(e:IX)(n:Int)(k':SV→Res),(ah (isLit a) (isLit b)=true→e.eval c.ρ=n)→c.Ok (k' (vI e n (ah (isLit a) (isLit b))))→
   qD c X ad s k' (.int (e.eval c.ρ) s.toks) {s with toks:=s.toks+1}:=fun e n k' q h=>⟨_,h,Jj _ _ _,xA q,rfl⟩
 induction op with
 |Add=>exact PyProof.Rows.iadd_int (fin (.add (aC a) (aC b)) _ k (fun q=>by have e:=lits (c:=c) q;show _+_=_;rw[e.1,e.2];rfl) h)
 |Mult=>
  refine ai (j0 h) fun h1 h=> ?_
  refine ai (j0 h) fun h2 h=> ?_
  exact PyProof.Rows.imul_int (fin (.mul (aC a) (aC b)) _ k (fun q=>by have e:=lits (c:=c) q;show _*_=_;rw[e.1,e.2];rfl) h) (EW h1)
 |_=>rcases DZ with h|h<;>exact nf h
theorem So(C:ax c){x:Nat}{np p:Pos}{op:Operator}{v:Internal.C}(hv:aO c m sc cl n v d)(uQ:ef sc x=true):de c m sc cl n (LZ x op v) (.AugAssign (.Name (c.S.nm x) np) op d p):=fun{A e X ad s env h k kr}b q=>by
 refine ak (Av q) fun V hV q=> ?_
 refine ai (aJ q) fun e1 q=> ?_
 refine d1 e1 fun e2 e3=> ?_
 have DZ:isAdd op=true∨Bt op=true:=by
  induction z:isAdd op using Bool.casesOn with
  |true=>exact .inl rfl
  |false=>rw[z] at e3;exact .inr e3
 refine wpAny_AugAssign_Name (ay (Uh C b.inv b.fr hV (QX (p7 b.sc uQ))) fun u s0⟨r0,e0⟩=> ?_)
 subst e0
 refine bX (hv b q) fun w s1 W h1 aK X1 q1 r1 J1 T1=> ?_
 refine ai (aJ q1) fun e4 q1=> ?_
 refine ay (TQ q1 DZ e2 e4 (b.inv.cu T1 r0) r1) fun y s2⟨Z,q2,_,r2,e5⟩=> ?_
 subst e5
 have J2:=J1.toks (s1.toks+1)
 have R2:bC c e X1 aK s1.heap env:=(b.next J1 T1).fr
 exact ay (v8 (s:={s1 with toks:=s1.toks+1}) C J2 R2 (D:=aV e) Wr.aV r2 (p7 b.sc uQ)) fun _ s3⟨R3,J3,T3⟩=>dR.iE (n4 q2) R3 J3 ((T1.trans (Step.toks _)).to.trans T3)
end
end
section
noncomputable def locs:List (Nat×Pos)→Prog→List SV→En→(En→Res)→Res
 | []=>x7
 |x::r=>qA (jM x.1) (locs r)
noncomputable def eZ(nm:Nat→Str)(xs:List (Nat×Pos)):List PySem.Expr:=xs.map fun x=> .Name (nm x.1) x.2
noncomputable def putL:En→List Nat→List SV→En
 |env,x::xs,V::l=>putL (put env x V) xs l
 |env,_,_=>env
theorem v5:∀{xs:List Nat}{l:List SV}{env:En}{y:Nat},y∉xs→look (putL env xs l) y=look env y
 | [],l,env,y,h=>by induction l using List.casesOn<;>rfl
 |x::xs,[],env,y,h=>rfl
 |x::xs,V::l,env,y,h=>by
  show look (putL (put env x V) xs l) y=_
  rw[v5 (fun m=>h (.tail _ m)),lA,if_neg fun z=>h (by rw[z];exact .head _)]
theorem Az:∀{xs:List Nat}{l:List SV}{env:En}{y:Nat}{V:SV},xs.Nodup→(y,V)∈xs.zip l→look (putL env xs l) y=some V
 | [],l,env,y,V,_,h=>by simp at h
 |x::xs,[],env,y,V,_,h=>by simp at h
 |x::xs,W::l,env,y,V,nd,h=>by
  rw[rT] at h
  have NG:=mA.mp nd
  show look (putL (put env x W) xs l) y=_
  rcases aE.mp h with e|h
  ·(injection e with e1 e2;subst e1;subst e2)
   rw[v5 NG.1,lA,if_pos rfl]
  ·exact Az NG.2 h
theorem Fg{α β:Type}:∀{xs:List α}{l:List β}{y:α},xs.length=l.length→y∈xs→∃V,(y,V)∈xs.zip l
 | [],l,y,_,h=>by exact(aP h).elim
 |x::xs,[],y,e,_=>by(exfalso;injection e)
 |x::xs,V::l,y,e,h=>by
  rw[rT]
  rcases aE.mp h with rfl|h
  ·exact⟨V,.head _⟩
  ·refine av (Fg (xs:=xs) (l:=l) (by simpa using e) h) fun W q=> ?_
   exact⟨W,.tail _ q⟩
theorem IQ{α β:Type}:∀{xs:List α}{l:List β},xs.length=l.length→xs.reverse.zip l.reverse=(xs.zip l).reverse
 | [],[],_=>rfl
 | [],_::_,e=>by(exfalso;injection e)
 |_::_,[],e=>by(exfalso;injection e)
 |x::xs,V::l,e=>by
  have e:xs.length=l.length:=by simpa using e
  rw[mu,mu,List.zip_append (by rw[rS,rS,e]),IQ e]
  show _=((x,V)::xs.zip l).reverse
  rw[mu]
  rfl
theorem Sb{xs:List Nat}(nd:xs.Nodup)(e:xs.length=l.length)(y:Nat):look (putL env xs.reverse l.reverse) y=look (putL env xs l) y:=by
 by_cases h:y∈xs
 ·refine av (Fg e h) fun V q=> ?_
  rw[Az nd q]
  refine Az (List.pairwise_reverse.mpr (nd.imp fun h=>Ne.symm h)) ?_
  rw[IQ e]
  exact EL.mpr q
 ·rw[v5 h,v5 (fun m=>h (EL.mp m))]
section
variable{m:Nat}
theorem H0:∀{xs:List (Nat×Pos)}{l:List SV}{env:En}{k:En→Res},c.Ok (locs xs c.P l env k)→xs.length=l.length∧c.Ok (k (putL env (xs.map (·.1)) l))
 | [],l,env,k,q=>by
  induction l using List.casesOn with
  |nil=>exact⟨rfl,q⟩
  |cons _ _=>exact(a0 q).elim
 |x::xs,l,env,k,q=>by
  induction l using List.casesOn with
  |nil=>exact(a0 q).elim
  |cons V l=>
   refine ai (H0 (n4 q)) fun h1 h2=> ?_
   exact⟨by rw[cw,cw,h1],h2⟩
theorem IC(C:ax c):∀{xs:List (Nat×Pos)},(∀x∈xs,ef sc x.1=true)→qj c sc (xs.map (·.1)) (locs xs) (eZ c.S.nm xs)
 | [],_=>JJ
 |x::xs,h=>IB (tm C (h x (.head _))) (IC C fun y m=>h y (.tail _ m))
theorem Gm(C:ax c)(S:gN c e sc):∀{xs:List Nat}{l:List SV}{vs:List Value}{X:List Addr}{ad:Ad}{h:Hp}{s:Shared}{env:En},(∀x∈xs,ef sc x=true)→Inv c X ad h s→bC c e X ad s.heap env→c.VL X ad s.heap vs l→xs.length=l.length→
  wpAny c.M A (assignInOrder (xs.map fun x=>bindName e (c.S.nm x)) vs) (fun _ s'=>bC c e X ad s'.heap (putL env xs l)∧Inv c X ad h s'∧Step (aV e) X ad s X ad s') NE s
 | [],l,vs,X,ad,h,s,env,hx,I,R,P,el=>by
  induction P using PySem.Paired.casesOn with
  |nil=>exact wpAny_assignInOrder_none ⟨R,I,Step.refl ..⟩
  |cons _ _=>(exfalso;injection el)
 |x::xs,l,vs,X,ad,h,s,env,hx,I,R,P,el=>by
  induction P using PySem.Paired.casesOn with
  |nil=>(exfalso;injection el)
  |cons rv P=>
   rw[fo]
   refine wpAny_assignInOrder_more (wpAny_bindName (ay (v8 C I R (D:=aV e) Wr.aV rv (p7 S (hx x (.head _)))) fun _ s1⟨R1,J1,T1⟩=> ?_))
   exact ay (Gm C S (fun y m=>hx y (.tail _ m)) J1 R1 (Paired.imp (fun _ _ r=>I.vr T1 R.bc r) P) (by simpa using el)) fun _ s2⟨R2,J2,T2⟩=>⟨R2,J2,T1.trans T2⟩
theorem Su(C:ax c){xs:List (Nat×Pos)}{x:Internal.C}{k:Nat}{tp p:Pos}(uQ:∀x∈xs,ef sc x.1=true)(nd:(xs.map (·.1)).Nodup)(hx:aO c m sc cl n x d)
  (hs:∀e,swapsWithSole [.Tuple (eZ c.S.nm xs) k tp] d p.line e=pure false)
  (hw:∀e,gN c e sc→swappedStores [.Tuple (eZ c.S.nm xs) k tp] d e=pure none∨swappedStores [.Tuple (eZ c.S.nm xs) k tp] d e=pure (some (xs.map fun x=>c.S.nm x.1))):
  de c m sc cl n (km (qT (locs xs)) x) (.Assign [.Tuple (eZ c.S.nm xs) k tp] d p):=fun{A e X ad s env h K kr}a q=>by
 rcases hw e a.sc with hw|hw
 ·have ht:=JK (k:=k) (p:=tp) C (IC (sc:=sc) C uQ)
  exact vD (ht.one e []) (bX (hx a q) fun v s1 V h1 aK X1 q1 r1 J1 T1=>nL (ht.run (D:=aV e) (fun _ _=>Wr.aV) (a.next J1 T1).fr.bc a.ao.dm J1 (a.next J1 T1).fr a.sc r1 q1) fun _ s2 jB q2 R2 J2 T2 _=>dR.iE q2 R2 J2 (T1.to.trans T2)) (hs e) hw
 ·refine Assign_Tuple_swapped (bX (hx a q) fun v s1 V h1 aK X1 q1 r1 J1 T1=> ?_) (hs e) hw
  refine ak (H5 C q1 r1) fun l rl q2=> ?_
  obtain⟨el,q3⟩:=H0 q2
  refine ay (EZ J1 a.ao.dm rl (by rw[aT];exact el.symm)) fun vs s2⟨P2,J2,T2⟩=> ?_
  have R2:bC c e X1 aK s2.heap env:=((a.next J1 T1).next J2 T2).fr
  have e1:((xs.map fun x=>c.S.nm x.1).reverse.map fun n=>bindName e n)=((xs.map (·.1)).reverse.map fun x=>bindName e (c.S.nm x)):=by
   rw[←OE,←OE,iN,iN];rfl
  rw[e1]
  have pE:∀x∈(xs.map (·.1)).reverse,ef sc x=true:=fun x m=>by
   refine ak (bz.mp (EL.mp m)) fun y my af=> ?_;subst af
   exact uQ y my
  refine ay (Gm C a.sc pE J2 R2 (Paired.reverse P2) (by rw[rS,rS,aT];exact el)) fun _ s3⟨R3,J3,T3⟩=> ?_
  refine dR.iE q3 (R3.look fun y V z=> ?_) J3 ((T1.trans T2).to.trans T3)
  rw[Sb nd (by rw[aT];exact el)]
  exact z
theorem Sv{t:CB}{b:CS}{p:Pos}(ht:jy c m sc cl n t dt)(hb:gH c m sc cl n b db):de c m sc cl n (L3 t b) (.While dt db [] p):=fun{A e X ad s env h k kr}a q=>by
 have rC:∀{α:Type}{E:Value→Shared→Prop}{t:Sem α}{Q:α→Shared→Prop}{s:Shared},wpAny c.M A t Q NE s→wpAny c.M A t Q E s:=fun w=>wpAny_mono w (fun _ _ x=>x) fun _ _ x=>x.elim
 refine wpAny_While (codeAny_whileLoop (fun j s'=>Dr c e X ad s (KW t b c.P cl n k kr j) s') (fun j s1⟨iZ,h1,aK,X1,q1,R1,J1,T1⟩=>rC ?_) n ⟨env,h,ad,X,q,a.fr,a.inv,Step.refl ..⟩)
 induction j using Nat.casesAuxOn with
 |zero=>exact(a0 q1).elim
 |succ j=>
  have a1:=a.ow R1 J1 T1
  refine pV (ht a1 q1) fun v s2 h2 bl X2 q2 J2 T2=> ?_
  have a2:=a1.next J2 T2
  induction v with
  |true=>
   refine rC (ay (hb a2 q2) fun f s3 w=> ?_)
   have w:=dR.after (T1.trans T2.to) w
   induction f with
   |next=>exact⟨j,jV _,w⟩
   |ret v=>exact w
   |brk=>exact w.elim
   |cont=>exact w.elim
  |false=>exact wpAny_execs_nil (dR.iE q2 a2.fr J2 (T1.trans T2.to))
end
end
section
noncomputable def without(X N:List Addr):List Addr:=X.filter fun a=> !N.contains a
theorem jY:a∈without X N↔a∈X∧a∉N:=by
 unfold without
 rw[vw]
 simp
section
variable{ae:Ad} {h':Hp}
theorem qd(G:lO N s s')(hN:∀a∈N,a∈X)(r:c.VR X ad s.heap v V):c.VR (without X N) ad s'.heap v V:=
 r.mono (fun b o q nx=>⟨G.1 b o q fun m=>nx (hN b m),fun m=>nx (jY.mp m).1⟩) fun _ _ q=>q
theorem Inv.gone(I:Inv c X ad h s)(G:lO N s s')(hN:∀a∈N,a∈X∧¬Mt ad a):Inv c (without X N) ad h s':=by
 have nm:∀b,Mt ad b→b∉N:=fun b m n=>(hN b n).2 m
 refine⟨fun b o q=>G.1 b o (I.base b o q) fun m=> ?_,I.len,fun i o q=> ?_,I.sep,fun b m=>jY.mpr ⟨I.bc b m,nm b m⟩,fun a m=> ?_,fun a m=>I.own a (jY.mp m).1,?_⟩
 ·have:=I.own b (hN b m).1;rw[q] at this;(exfalso;injection this)
 ·refine ak (I.fit i o q) fun p hp R=> ?_
  obtain⟨⟨o1,l1⟩,o2,l2⟩:=g8 R
  have mm:=iU hp
  exact⟨p,hp,R.mono (fun b o q nx=>⟨G.1 b o q fun m=>nx (hN b m).1,fun m=>nx (jY.mp m).1⟩) (fun _ _ q=>q) ((G.1 _ _ l1 (nm _ mm.1)).trans l1.symm) ((G.1 _ _ l2 (nm _ mm.2)).trans l2.symm)⟩
 ·refine ai (jY.mp m) fun m1 m2=> ?_
  refine av (I.live a m1) fun o q=> ?_
  exact⟨o,G.1 a o q m2⟩
 ·obtain⟨_,_,hp,tk,rfl⟩:=G
  refine gA I.rest fun a b q=> ?_
  exact⟨hp,tk,by rw[q]⟩
theorem bC.gone(R:bC c e X ad s.heap env)(G:lO N s s')(hN:∀a∈N,a∈X)(hf:∀a∈aV e,a∉N):bC c e (without X N) ad s'.heap env:=by
 refine ak R.vars fun m hn hv=> ?_
 have kc:∀{n a v},e.cells.lookup n=some a→s.heap.IsCell a v→s'.heap.IsCell a v:=fun q⟨o,ho,hd⟩=>⟨o,G.1 _ _ ho (hf _ (.tail _ (lookup_mem q))),hd⟩
 refine⟨R.kind,R.glob,R.blt,⟨m,hn.at' (fun o q=>G.1 _ _ q (hf _ (.head _))),fun x V q vk=> ?_⟩,fun n a q=>let⟨v,z⟩:=R.cell n a q;⟨v,kc q z⟩,fun a ha=>jY.mpr ⟨R.bc a ha,hf a ha⟩,R.fT,R.apart,R.locs⟩
 rcases hv x V q vk with⟨k,v,h1,h2⟩|⟨k,a,v,h1,h2,h3⟩
 ·exact .inl ⟨k,v,h1,qd G hN h2⟩
 ·exact .inr ⟨k,a,v,h1,kc h1 h2,qd G hN h3⟩
theorem Step.gone(T:Step (D++N) X ad s X' ae s')(G:lO N s' fD)(hn:∀a∈N,s.heap.objs.size≤a)(hX:∀a∈X,a<s.heap.objs.size):Step D X ad s (without X' N) ae fD where
 keep:=fun b o q nd nm=>by
  have nn:b∉N:=fun m=>df _ (cV (Heap.lt_size q) (hn b m))
  exact G.1 b o (T.keep b o q (fun m=>(bj.mp m).elim nd nn) nm) nn
 size:=cx T.size G.2.1
 kL:=T.kL
 dI:=T.dI
 XK:=fun a m=>jY.mpr ⟨T.XK a m,fun n=>df _ (cV (hX a m) (hn a n))⟩
 XN:=fun a m=>T.XN a (jY.mp m).1
theorem Step.C4(T:Step (D++N) X ad s X' ae s')(hn:∀a∈N,s.heap.objs.size≤a):Step D X ad s X' ae s':=
 {T with keep:=fun b o q nd nm=>T.keep b o q (fun m=>(bj.mp m).elim nd fun n=>df _ (cV (Heap.lt_size q) (hn b n))) nm}
theorem Step.inl(T:Step D X ad s X' ae s'):Step (D++N) X ad s X' ae s':=T.mono fun _ m=>bj.mpr (.inl m)
theorem Step.inr(T:Step N X ad s X' ae s'):Step (D++N) X ad s X' ae s':=T.mono fun _ m=>bj.mpr (.inr m)
theorem Step.nil(T:Step [] X ad s X' ae s'):Step D X ad s X' ae s':=T.mono fun _ m=>nomatch m
theorem jj(I:Inv c X ad h s)(T:Step D X ad s X' ae s')(hN:∀a∈N,a∈X∧¬Mt ad a):∀a∈N,a∈X'∧¬Mt ae a:=fun a m=>⟨T.XK a (hN a m).1,fun z=>(T.dI a z).elim (hN a m).2 fun q=>df _ (cV (I.low a (hN a m).1) q)⟩
theorem weak{M:Model}{α:Type}{t:Sem α}{Q:α→Shared→Prop}(w:wpAny M A t Q NE s):wpAny M A t Q E s:=wpAny_mono w (fun _ _ x=>x) fun _ _ x=>x.elim
end
section
variable{m:Nat}
inductive Mq (c:Cx) (e:Env) (dt:PySem.Expr) (v:Value) (N X:List Addr) (ad:Ad) (s:Shared) (G:IT→En→Hp→Res) (s':Shared):Prop
 |mk (it:IT) (env:En) (h':Hp) (ae:Ad) (X':List Addr):c.Ok (G it env h')→bC c e X' ae s'.heap env→c8 c dt X' ae s'.heap v it N→Inv c X' ae h' s'→Step (aV e++N) X ad s X' ae s'→Mq c e dt v N X ad s G s'
theorem Sr{t:CT}{it:CI}{b:CS}{p:Pos}(hi:fL c m sc cl n it di dt)(ht:eW c sc ns t dt)(hb:gH c m sc cl n b db)(hf:∀e x,foldedSetIterable di e x=pure x):
  de c m sc cl n (L2 t it b) (.For dt di db [] p):=fun{A e X ad s env h k kr}a q=>by
 refine wpAny_For (ay (hi a q) fun x s1 w=>y5 w fun v s2 it h2 bl X2 N q2 R2 J2 T2 hN=> ?_) (hf e)
 have hN2:∀a∈N,a∈X2∧¬Mt bl a:=fun b m=>⟨(hN b m).1,(hN b m).2.1⟩
 have hn:∀a∈N,s.heap.objs.size≤a:=fun b m=>(hN b m).2.2
 have DU:∀a∈aV e,a∉N:=fun b m z=>df _ (cV (a.inv.low b (a.fr.bc b m)) (hn b z))
 have uI:∀a∈N,a∉aV e:=fun b m z=>DU b z m
 refine codeAny_forLoop_any (fun j s'=>Mq c e dt v N X2 bl s2 (BS t b c.P cl n k kr j) s') (fun j s3 S=> ?_) n ⟨it,env,h2,bl,X2,q2,a.fr.keep a.inv T2,R2,J2,Step.refl ..⟩
 obtain⟨it3,i6,h3,gU,X3,q3,F3,R3,J3,T3⟩:=S
 induction j using Nat.casesAuxOn with
 |zero=>exact(a0 q3).elim
 |succ j=>
  have rr:=jj J2 T3 hN2
  have MB:Step (aV e++N) X ad s X3 gU s3:=T2.nil.trans T3
  have q3:c.Ok (nextK it3 h3 (k i6 h3) fun V it=>t c.P V i6 fun env=>b c.P cl n env h3 (fun env h=>BS t b c.P cl n k kr j it env h) kr):=q3
  refine weak (ay (Bb J3 a.ao.dm R3 rr q3) fun r s4 w=> ?_)
  induction r with
  |none=>
   obtain⟨q4,G⟩:=w
   exact wpAny_execs_nil (dR.iE q4 (F3.gone G (fun b m=>(rr b m).1) DU) (J3.gone G rr) (MB.gone G hn a.inv.low))
  |some u=>
   refine weak (ay w fun _ s5 S5=> ?_)
   obtain⟨V,Nw,q5,J5,T5,r5,R5⟩:=S5
   have F5:=F3.tH J3 T5 (fun b m=>(rr b m).1) DU
   refine weak (nL (ht.run (D:=aV e) (fun _ _=>Wr.aV) F5.bc a.ao.dm J5 F5 a.sc r5 q5) fun _ s6 eK q6 F6 J6 T6 _=> ?_)
   have a6:At c m sc A e X3 gU s6 eK h3:=⟨a.ao,J6,((a.low.step MB).step T5).step T6,F6,a.sc⟩
   refine weak (ay (hb a6 q6) fun f s7 w=> ?_)
   have R6:=R5.keep J5 a.ao.dm rr T6 F5.bc uI
   have MD:Step (aV e++N) X2 bl s2 X3 gU s6:=(T3.trans T5.inr).trans T6.inl
   induction f with
   |next=>
    obtain⟨jC,h7,rg,X7,q7,F7,J7,T7⟩:=w
    exact⟨j,jV _,Nw,jC,h7,rg,X7,q7,F7,R6.keep J6 a.ao.dm rr T7 F6.bc uI,J7,MD.trans T7.inl⟩
   |ret y=>
    obtain⟨V7,h7,rg,X7,q7,r7,J7,T7⟩:=w
    exact⟨V7,h7,rg,X7,q7,r7,J7,((T2.nil.trans MD).trans T7.inl).C4 hn⟩
   |brk=>exact w.elim
   |cont=>exact w.elim
end
end
section
section
variable{prog:Program} {R:Result→Shared→Prop}
noncomputable abbrev tests(env:Env)(ifs:List PySem.Expr):Sem Bool:=forIn ifs true fun c r=>if r=true then do let ok←isTrue c env (eval c env);pure (ForInStep.yield ok) else pure (ForInStep.yield r)
theorem O2{elt target iter:PySem.Expr}{scope:Scope}{it acc:Value}{env:Env}(I:Nat→Shared→Prop)
  (turn:∀n s,I n s→wpAny (model prog w) A (pyNext it) (fun r s₁=>match r with
   |none=>R (.ok .next) s₁
   |some v=>wpAny (model prog w) A (letOwnedTupleGo target it v) (fun _ ko=>wpAny (model prog w) A (assign target env v) (fun _ s₂=>wpAny (model prog w) A (tests env ifs) (fun ok s₃=>
     if ok=true then wpAny (model prog w) A (eval elt env) (fun x s₄=>wpAny (model prog w) A (call (.builtin "list.append") [acc,x]) (fun _ s₅=>∃m,m<n∧I m s₅) NE s₄) NE s₃
     else∃m,m<n∧I m s₃) NE s₂) NE ko) NE s₁) NE s)
  (n:Nat)(h:I n s):codeAny (model prog w) A (.compLoop (.ListComp elt [⟨target,iter,ifs,0⟩] scope pos) 0 it acc env) R s:=by
 refine codeAny_loop rfl I (fun n s hI=> ?_) n h
 show wpAny _ A ((compTurn (.ListComp elt [⟨target,iter,ifs,0⟩] scope pos) 0 it acc env).onRaise (fun x=>do noteFrame x env;theTreesLotGoes x)) _ _ s
 refine wpAny_noted ?_
 rw[compTurn_list]
 refine wpAny_mono (E:=NE) ?_ (fun _ _ x=>x) fun _ _ x=>x.elim
 refine wpAny_bind (wpAny_standAt (wpAny_bind (ay (turn n s hI) fun r s₁ h₁=> ?_)))
 induction r with
 |none=>exact wpAny_pure h₁
 |some v=>
  refine wpAny_bind (ay h₁ fun _ ko tF=> ?_)
  refine wpAny_bind (ay tF fun _ s₂ h₂=>wpAny_bind (ay h₂ fun ok s₃ h₃=> ?_))
  induction ok with
  |false=>exact wpAny_pure ⟨rfl,h₃⟩
  |true=>exact wpAny_bind (wpAny_bind (ay h₃ fun x s₄ h₄=>wpAny_bind (ay h₄ fun _ s₅ h₅=>wpAny_pure (wpAny_pure ⟨rfl,h₅⟩))))
end
noncomputable def eM(e:Env):List (Str×NameKind)→List (Str×Addr)→List (Str×Addr)
 | [],acc=>acc
 |x::r,acc=>eM e r (if x.2== .free then(x.1,(e.cells.lookup x.1).getD 0)::acc else acc)
noncomputable def wc(e:Env)(x:Str×NameKind)(r:List (Str×Addr)):Sem (ForInStep (List (Str×Addr))):=match x with
 |(name,kind)=>if kind== .free then do let a←cellOf e name;pure (ForInStep.yield ((name,a)::r)) else pure (ForInStep.yield r)
theorem OU{scope:Scope}(h:∀x∈scope.names,x.2= .free→∃a,e.cells.lookup x.1=some a):closureFor scope e=pure (eM e scope.names []):=by
 have key:∀(names:List (Str×NameKind))(acc:List (Str×Addr)),(∀x∈names,x.2= .free→∃a,e.cells.lookup x.1=some a)→forIn (m:=Sem) names acc (wc e)=pure (eM e names acc):=by
  intro names
  induction names with
  |nil=>intro acc _;rfl
  |cons x names ih=>
   intro acc hx
   obtain⟨name,kind⟩:=x
   have e1:wc e (name,kind) acc=pure (ForInStep.yield (if kind== .free then(name,(e.cells.lookup name).getD 0)::acc else acc)):=by
    unfold wc
    dsimp only
    by_cases q:(kind== .free)=true
    ·refine av (hx (name,kind) (.head _) (beq_iff_eq.mp q)) fun a ha=> ?_
     have e1:cellOf e name=pure a:=by unfold cellOf;rw[ha]
     have ha:e.cells.lookup name=some a:=ha
     rw[if_pos q,if_pos q,e1,ha];rfl
    ·rw[if_neg q,if_neg q]
   rw[List.forIn_cons,e1,pure_bind]
   exact ih _ fun y m=>hx y (.tail _ m)
 have e2:closureFor scope e=(forIn (m:=Sem) scope.names ([]:List (Str×Addr)) (wc e)>>=fun x=>pure x):=rfl
 rw[e2,key _ _ h,pure_bind]
theorem we:∀{names:List (Str×NameKind)}{acc:List (Str×Addr)},(∀x∈names,x.2= .free→∃a,e.cells.lookup x.1=some a)→(∀p∈acc,e.cells.lookup p.1=some p.2)→∀p∈eM e names acc,e.cells.lookup p.1=some p.2
 | [],acc,_,h=>h
 |x::r,acc,hx,h=>by
  refine we (names:=r) (fun y m=>hx y (.tail _ m)) fun p m=> ?_
  split at m
  ·rename_i q
   rcases aE.mp m with e1|m
   ·refine av (hx x (.head _) (beq_iff_eq.mp q)) fun a ha=> ?_
    subst e1
    show e.cells.lookup x.1=some ((e.cells.lookup x.1).getD 0)
    rw[ha];rfl
   ·exact h p m
  ·exact h p m
theorem zM{α:Type}:∀{l:List (Str×α)}{p:Str×α},p∈l→∃a,l.lookup p.1=some a
 | [],p,h=>by exact(aP h).elim
 |q::r,p,h=>by
  by_cases z:(p.1==q.1)=true
  ·exact⟨q.2,by rw[zD,z]⟩
  ·rcases aE.mp h with rfl|h
   ·exact absurd (beq_self_eq_true _) z
   ·refine av (zM h) fun a ha=> ?_
    exact⟨a,by rw[zD];simp only[Bool.not_eq_true] at z;rw[z];exact ha⟩
theorem HA:∀{names:List (Str×NameKind)}{acc:List (Str×Addr)}{x:Str},((x,NameKind.free)∈names∨∃a,(x,a)∈acc)→∃a,(x,a)∈eM e names acc
 | [],acc,x,h=>h.elim (fun m=>by exact(aP m).elim) id
 |y::r,acc,x,h=>by
  refine HA (names:=r) ?_
  rcases h with h|⟨a,h⟩
  ·rcases aE.mp h with e1|h
   ·subst e1
    exact .inr ⟨_,.head _⟩
   ·exact .inl h
  ·refine .inr ⟨a,?_⟩
   split
   ·exact .tail _ h
   ·exact h
theorem Gu{names:List (Str×NameKind)}(hx:∀x∈names,x.2= .free→∃a,e.cells.lookup x.1=some a){x:Str}(h:(eM e names []).lookup x=some a):e.cells.lookup x=some a:=
 we hx (fun _ m=>by exact(aP m).elim) (x,a) (mem_of_lookup h)
theorem Gs{names:List (Str×NameKind)}(hx:∀x∈names,x.2= .free→∃a,e.cells.lookup x.1=some a){x:Str}(h:(x,NameKind.free)∈names):(eM e names []).lookup x=e.cells.lookup x:=by
 refine av (HA (e:=e) (acc:=[]) (.inl h)) fun a m=> ?_
 refine av (zM m) fun b hb=> ?_
 have hb:(eM e names []).lookup x=some b:=hb
 rw[hb,Gu hx hb]
noncomputable def tn(k:NameKind):NameKind:=if k== .free then .cell else k
noncomputable def ba(sc:List (Nat×NameKind)):List (Nat×NameKind):=sc.map fun p=>(p.1,tn p.2)
theorem vH:∀(sc:List (Nat×NameKind))(x:Nat),ck (ba sc) x=(ck sc x).map tn
 | [],_=>rfl
 |p::r,x=>by
  show(if p.1=x then some (tn p.2) else ck (ba r) x)=(if p.1=x then some p.2 else ck r x).map tn
  split
  ·rfl
  ·exact vH r x
theorem nX:∀{sc:List (Nat×NameKind)}{x:Nat}{k:NameKind},ck sc x=some k→(x,k)∈sc
 | [],_,_,h=>by(exfalso;injection h)
 |p::r,x,k,h=>by
  unfold ck at h
  split at h
  ·rename_i e;(injection h with e1;subst e1);subst e;exact .head _
  ·exact .tail _ (nX h)
theorem sd(C:ax c):∀(sc:List (Nat×NameKind))(x:Nat),(dz c.S.nm sc).lookup (c.S.nm x)=ck sc x
 | [],_=>rfl
 |p::r,x=>by
  show Pn (c.S.nm x) ((c.S.nm p.1,p.2)::dz c.S.nm r)=if p.1=x then some p.2 else ck r x
  rw[zD]
  by_cases z:p.1=x
  ·rw[if_pos z,z,beq_self_eq_true]
  ·have:(c.S.nm x==c.S.nm p.1)=false:=by
    rw[beq_eq_false_iff_ne]
    exact fun e=>z (C.inj _ _ e).symm
   rw[this,if_neg z]
   exact sd C r x
noncomputable def eX(sc scC:List (Nat×NameKind)):Bool:=scC.all fun p=>match p.2 with
 | .local=>ck scC p.1==some .local
 | .free=>ck sc p.1==some .cell
 | .globalImplicit=>true
 |_=>false
theorem HR:∀sc:List (Nat×NameKind),bL sc=(sc.filter fun p=>w4 p.2).map (·.1)
 | []=>rfl
 |p::r=>by
  show cond (w4 p.2) (p.1::bL r) (bL r)=_
  rw[HR r,zC]
  cases w4 p.2<;>rfl
theorem GW{x:Nat}:x∈bL sc↔(x,NameKind.local)∈sc:=by
 rw[HR,bz]
 constructor
 ·rintro⟨p,hp,rfl⟩
  refine ai (vw.mp hp) fun h1 h2=> ?_
  have:p.2= .local:=by revert h2;cases p.2<;>intro h2<;>first|rfl|exact nf h2
  rw[←this];exact h1
 ·intro h
  exact⟨_,vw.mpr ⟨h,rfl⟩,rfl⟩
noncomputable def drops(ls:List Nat)(env:En):En:=env.filter fun p=> !e7 p.1 ls
theorem Ap(ls:List Nat):∀(env:En)(k:En→Res),kg ls env k=k (drops ls env)
 | [],k=>rfl
 |p::r,k=>by
  show cond (e7 p.1 ls) (kg ls r k) (kg ls r fun r=>k (p::r))=k (List.filter _ (p::r))
  rw[Ap ls r k,Ap ls r,zC]
  cases e7 p.1 ls<;>rfl
theorem qb{x:Nat}:∀{ls:List Nat},e7 x ls=true↔x∈ls
 | []=>⟨fun h=>(nomatch h),fun h=>nomatch h⟩
 |a::r=>by
  show cond (ag a x) true (e7 x r)=true↔_
  rw[aE]
  induction q:ag a x using Bool.casesOn with
  |true=>exact⟨fun _=> .inl (aZ q).symm,fun _=>rfl⟩
  |false=>
   show e7 x r=true↔_
   rw[qb]
   exact⟨.inr,fun h=>h.elim (fun e=>by rw[e,mB] at q;exact nf q.symm) id⟩
theorem vJ{ls:List Nat}{x:Nat}:∀{env:En},look (drops ls env) x=some V→x∉ls∧look env x=some V
 | [],h=>by
  have h:look [] x=some V:=h
  have e:look [] x=none:=rfl
  rw[e] at h;(exfalso;injection h)
 |p::r,h=>by
  unfold drops at h
  rw[zC] at h
  induction q:e7 p.1 ls using Bool.casesOn with
  |true=>
   rw[q] at h
   obtain⟨h1,h2⟩:=vJ (env:=r) h
   refine⟨h1,?_⟩
   rw[eB]
   have:p.1≠x:=fun e=>h1 (by rw[←e];exact qb.mp q)
   rw[if_neg this];exact h2
  |false=>
   rw[q] at h
   have h:look (p::drops ls r) x=some V:=h
   rw[eB] at h⊢
   split at h
   ·rename_i e
    rw[if_pos e]
    refine⟨fun m=> ?_,h⟩
    rw[←e] at m
    rw[qb.mpr m] at q
    exact nf q.symm
   ·rename_i e
    rw[if_neg e]
    exact vJ h
end
section
section
variable{m:Nat}
theorem p8(wf:eX sc scC=true){p:Nat×NameKind}(h:p∈scC):(p.2= .local∧ck scC p.1=some .local)∨(p.2= .free∧ck sc p.1=some .cell)∨p.2= .globalImplicit:=by
 have:=aM.mp wf p h
 obtain⟨x,k⟩:=p
 induction k<;>first|exact .inl ⟨rfl,beq_iff_eq.mp this⟩|exact .inr (.inl ⟨rfl,beq_iff_eq.mp this⟩)|exact .inr (.inr rfl)|exact nf this
theorem PF(S:gN c e sc)(hk:e.scope.kind= .function)(wf:eX sc scC=true):relabel (dP c.S.nm scC) e=dP c.S.nm (ba scC):=by
 have key:(dz c.S.nm scC).map (fun(x:Str×NameKind)=>match x with|(n,k)=>if(k== .free&&e.scope.kind== .function&&e.kindOf n==some .cell)=true then(n,NameKind.cell) else(n,k))=dz c.S.nm (ba scC):=by
  unfold dz ba
  rw[iN,iN]
  refine p4 fun p hp=> ?_
  show(if(p.2== .free&&e.scope.kind== .function&&e.kindOf (c.S.nm p.1)==some .cell)=true then(c.S.nm p.1,NameKind.cell) else(c.S.nm p.1,p.2))=(c.S.nm p.1,tn p.2)
  rw[hk,S.kind]
  rcases p8 wf hp with⟨h1,h2⟩|⟨h1,h2⟩|h1
  ·rw[h1];rfl
  ·rw[h1,h2];rfl
  ·rw[h1];rfl
 unfold relabel
 show({dP c.S.nm scC with names:=_}:Scope)=_
 rw[show(dP c.S.nm scC).names=dz c.S.nm scC from rfl,key]
 rfl
theorem vF(S:gN c e sc)(wf:eX sc scC=true):∀x∈dz c.S.nm scC,x.2= .free→∃a,e.cells.lookup x.1=some a:=by
 intro x hx hf
 refine ak (bz.mp hx) fun p hp af=> ?_;subst af
 rcases p8 wf hp with⟨h1,h2⟩|⟨h1,h2⟩|h1
 ·rw[h1] at hf;(exfalso;injection hf)
 ·exact S.cell p.1 h2
 ·rw[h1] at hf;(exfalso;injection hf)
noncomputable def fJ(c:Cx)(e:Env)(scC:List (Nat×NameKind))(C:Addr):Env:=
 {scope:=dP c.S.nm (ba scC),locals:=C,globals:=e.globals,cells:=eM e (dz c.S.nm scC) [],qual:=e.qual,func:=none,code:=e.code,frame:=e.frame,builtins:=e.builtins}
theorem zW(C:ax c){Cc:Addr}(x:Nat):(fJ c e scC Cc).kindOf (c.S.nm x)=ck (ba scC) x:=sd C (ba scC) x
theorem Ac(wf:eX sc scC=true){x:Nat}(h:ck (ba scC) x=some .cell):ck scC x=some .free∧ck sc x=some .cell:=by
 rw[vH] at h
 induction q:ck scC x using Option.casesOn with
 |none=>rw[q] at h;(exfalso;injection h)
 |some k=>
  rw[q] at h
  have:=p8 wf (nX q)
  rcases this with⟨h1,h2⟩|⟨h1,h2⟩|h1
  ·have h1:k= .local:=h1
   subst h1;cases h
  ·have h1:k= .free:=h1
   subst h1;exact⟨rfl,h2⟩
  ·have h1:k= .globalImplicit:=h1
   subst h1;cases h
theorem Rk(C:ax c)(S:gN c e sc)(wf:eX sc scC=true)(Cc:Addr):gN c (fJ c e scC Cc) (ba scC) where
 kind:=zW C
 cell:=fun x h=>by
  obtain⟨h1,h2⟩:=Ac wf h
  obtain⟨a,ha⟩:=S.cell x h2
  refine⟨a,?_⟩
  show(eM e (dz c.S.nm scC) []).lookup (c.S.nm x)=some a
  rw[Gs (vF S wf) (bz.mpr ⟨_,nX h1,rfl⟩)]
  exact ha
theorem Rj(C:ax c){g':Heap}(R:bC c e X ad g env)(S:gN c e sc)(wf:eX sc scC=true){Cc:Addr}(hX:∀a∈X,a∈X')(hn:Cc∈X'∧¬Mt ad Cc)(hC:Cc∉X)(eN:g'.Ns Cc mm)
  (hk:∀b o,g.get? b=some o→g'.get? b=some o)(hv:∀v V,c.VR X ad g v V→c.VR X' ad g' v V):bC c (fJ c e scC Cc) X' ad g' (drops (bL scC) env):=by
 have fc:=vF S wf
 have lk:∀{x a},(eM e (dz c.S.nm scC) []).lookup x=some a→e.cells.lookup x=some a:=fun q=>Gu fc q
 have cm:∀a∈(eM e (dz c.S.nm scC) []).map (·.2),a∈aV e:=fun a m=>by
  refine ak (bz.mp m) fun p hp af=> ?_;subst af
  exact .tail _ (lookup_mem (we fc (fun _ m=>by exact(aP m).elim) p hp))
 refine⟨rfl,R.glob,R.blt,⟨mm,eN,fun x V q vk=> ?_⟩,fun x a q=> ?_,fun a m=> ?_,fun a m=> ?_,fun x y a q1 q2=>R.apart x y a (lk q1) (lk q2),fun x a q z=> ?_⟩
 ·refine ai (vJ q) fun nl q=> ?_
  have kx:=zW (e:=e) (scC:=scC) (Cc:=Cc) C x
  have kc:ck (ba scC) x=some .cell:=by
   rcases vk with vk|vk|vk
   ·rw[kx,vH] at vk
    exfalso
    induction z:ck scC x using Option.casesOn with
    |none=>rw[z] at vk;(exfalso;injection vk)
    |some k=>
     rw[z] at vk
     have:k= .local:=by revert vk;induction k<;>intro vk<;>first|rfl|cases vk
     rw[this] at z
     exact nl (GW.mpr (nX z))
   ·rw[kx] at vk;exact vk
   ·rw[kx,vH] at vk
    exfalso
    induction z:ck scC x using Option.casesOn with
    |none=>rw[z] at vk;(exfalso;injection vk)
    |some k=>rw[z] at vk;revert vk;induction k<;>intro vk<;>cases vk
  refine ai (Ac wf kc) fun h1 h2=> ?_
  refine ak R.vars fun m0 _ D1=> ?_
  have ke:e.kindOf (c.S.nm x)=some .cell:=by rw[S.kind,h2]
  rcases D1 x V q (.inr (.inl ke)) with⟨k1,_⟩|⟨_,a,v,ha,⟨o,ho,hd⟩,hr⟩
  ·rw[ke] at k1;cases k1
  ·refine .inr ⟨.inl (by rw[kx];exact kc),a,v,?_,⟨o,hk a o ho,hd⟩,hv _ _ hr⟩
   show(eM e (dz c.S.nm scC) []).lookup (c.S.nm x)=some a
   rw[Gs fc (bz.mpr ⟨_,nX h1,rfl⟩)]
   exact ha
 ·refine eP (R.cell x a (lk q)) fun v o ho hd=> ?_
  exact⟨v,o,hk a o ho,hd⟩
 ·rcases aE.mp m with rfl|m
  ·exact hn.1
  ·exact hX a (R.bc a (cm a m))
 ·rcases aE.mp m with rfl|m
  ·exact hn.2
  ·exact R.fT a (cm a m)
 ·have z:a=Cc:=z
  subst z
  exact hC (R.bc a (.tail _ (lookup_mem (lk q))))
end
inductive w9 (c:Cx) (X:List Addr) (ad:Ad) (s:Shared) (k:K) (acc:Value) (C:Addr) (s':Shared):Prop
 |mk:∀l h' ae X',c.Ok (k (.ar l) h')→c.VR X' ae s'.heap acc (.ar l)→Inv c X' ae h' s'→Step [C] X ad s X' ae s'→C∈X'→¬Mt ae C→s.heap.objs.size≤C→(∃m,s'.heap.Ns C m)→w9 c X ad s k acc C s'
noncomputable def jn(c:Cx)(m:Nat)(sc:List (Nat×NameKind))(cl:aX)(n:Nat)(C:CB)(ds:List PySem.Expr):Prop:=
 ∀⦃A e X ad s env h⦄⦃k:KB⦄,At c m sc A e X ad s env h→c.Ok (C c.P cl n env h k)→wpAny c.M A (tests e ds) (jP c X ad s k) NE s
section
variable{m:Nat}
theorem Si:jn c m sc cl n (uu true) []:=fun _ _ _ _ _ _ _ _ a q=>wpAny_tests_nil ⟨_,_,_,q,a.inv,Step.refl ..⟩
theorem Sj{t:CB}(ht:jy c m sc cl n t d):jn c m sc cl n t [d]:=fun _ _ _ _ _ _ _ _ a q=>wpAny_tests_one (ht a q)
end
structure LK(c:Cx)(m:Nat)(sc:List (Nat×NameKind))(A:Around)(e:Env)(X:List Addr)(ad:Ad)(s:Shared)(env:En)(h:Hp)(D:Addr)(N:List Addr)(ns:List Nat):Prop where
 at':At c m sc A e X ad s env h
 hU:∀b∈e.locals::D::N,b∈X∧¬Mt ad b
 u2:∀b∈aV e,b∉D::N
 nv:D≠e.locals
 uZ:D∉N
 hw:∀x∈ns,Wr c e x [e.locals]
 hx:∀x∈ns,look env x=none
inductive m9 (c:Cx) (e:Env) (env:En) (dt:PySem.Expr) (D:Addr) (N X:List Addr) (ad:Ad) (s:Shared) (v:Value) (B b:Nat) (G:IT→List SV→Hp→Res) (s':Shared):Prop
 |mk (it:IT) (acc:List SV) (vs:List Value) (h':Hp) (ae:Ad) (X':List Addr):c.Ok (G it acc h')→bC c e X' ae s'.heap env→c8 c dt X' ae s'.heap v it N→s'.heap.PlainList D vs.toArray→c.VL X' ae s'.heap vs acc.reverse→Inv c X' ae h' s'→Step (e.locals::D::N) X ad s X' ae s'→vs.length+b≤B→m9 c e env dt D N X ad s v B b G s'
inductive yw (c:Cx) (m:Nat) (sc:List (Nat×NameKind)) (A:Around) (e:Env) (env:En) (dt:PySem.Expr) (D:Addr) (N X:List Addr) (ad:Ad) (s:Shared) (v:Value) (B b:Nat) (ns:List Nat) (G:En→IT→List SV→Hp→Res) (s':Shared):Prop
 |mk (it:IT) (acc:List SV) (vs:List Value) (h':Hp) (ae:Ad) (X':List Addr) (aD:En):c.Ok (G aD it acc h')→At c m sc A e X' ae s' aD h'→(∀Y a2 y,bC c e Y a2 y aD→bC c e Y a2 y env)→(∀x,x∉ns→look aD x=look env x)→c8 c dt X' ae s'.heap v it N→s'.heap.PlainList D vs.toArray→
   c.VL X' ae s'.heap vs acc.reverse→Step (e.locals::D::N) X ad s X' ae s'→vs.length+b≤B→yw c m sc A e env dt D N X ad s v B b ns G s'
section
variable{m:Nat} {D:Addr} {B b:Nat}
theorem sh{D' Y Y':List Addr}{a1 a2:Ad}{x y:Shared}{vs:Array Value}(T:Step D' Y a1 x Y' a2 y)(h1:D∉D')(h2:¬Mt a1 D)(q:x.heap.PlainList D vs):y.heap.PlainList D vs:=av q fun ep q=>⟨ep,T.keep _ _ q h1 h2⟩
theorem LK.nD(K:LK c m sc A e X ad s env h D N ns):e.locals∉N:=fun m=>K.u2 _ (.head _) (.tail _ m)
theorem A1(S:m9 c e env dt D N X ad s v B b (fun _ _ _=>bad n) s'):False:=by
 obtain⟨_,_,_,_,_,_,q,_⟩:=S
 exact q
theorem A0(K:LK c m sc A e X ad s env h D N ns){t:CT}(ht:eW c sc ns t dt){done:List SV→Hp→Res}{G:En→IT→List SV→Hp→Res}{s5:Shared}(S:m9 c e env dt D N X ad s v B b (fun it acc h=>nextK it h (done acc h) fun V it=>t c.P V env fun aD=>G aD it acc h) s5){Rn:Shared→Prop}
  (hn:∀s6 acc vs h' ae X',c.Ok (done acc h')→bC c e X' ae s5.heap env→s5.heap.PlainList D (vs:List Value).toArray→c.VL X' ae s5.heap vs acc.reverse→Inv c X' ae h' s5→Step (e.locals::D::N) X ad s X' ae s5→vs.length+b≤B→lO N s5 s6→Rn s6):
  wpAny c.M A (pyNext v) (fun r s₁=>match r with|none=>Rn s₁|some u=>wpAny c.M A (letOwnedTupleGo dt v u) (fun _ s₂=>wpAny c.M A (assign dt e u) (fun _ s₃=>yw c m sc A e env dt D N X ad s v B b ns G s₃) NE s₂) NE s₁) NE s5:=by
 obtain⟨Nw,acc,vs,h5,d8,X5,q5,F5,R5,L5,P5,J5,T5,dy⟩:=S
 have a:=K.at'
 have ph:=jj a.inv T5 K.hU
 have nA:∀b∈N,b∈X5∧¬Mt d8 b:=fun b m=>ph b (.tail _ (.tail _ m))
 refine ay (Bb J5 a.ao.dm R5 nA q5) fun r s6 w=> ?_
 induction r with
 |none=>exact ai w fun q6 G=>hn s6 acc vs h5 d8 X5 q6 F5 L5 P5 J5 T5 dy G
 |some u=>
  refine ay w fun _ s7 S7=> ?_
  obtain⟨V,rG,q7,J7,T7,r7,R7⟩:=S7
  have F7:=F5.tH J5 T7 (fun b m=>(nA b m).1) fun b m z=>K.u2 b m (.tail _ z)
  have DP:∀b∈ [e.locals],b∈X5:=fun b m=>by rw[bx.mp m];exact(ph _ (.head _)).1
  refine nL (ht.run K.hw DP a.ao.dm J7 F7 a.sc r7 q7) fun _ s8 xQ q8 F8 J8 T8 yN=> ?_
  have MF:Step (e.locals::D::N) X ad s X5 d8 s8:=(T5.trans (T7.mono fun b m=> .tail _ (.tail _ m))).trans (T8.mono fun b m=>by rw[bx.mp m];exact .head _)
  have nM:=(ph _ (.tail _ (.head _))).2
  refine⟨rG,acc,vs,h5,d8,X5,xQ,q8,⟨a.ao,J8,a.low.step MF,F8,a.sc⟩,fun Y a2 y F=> ?_,yN,R7.keep J7 a.ao.dm nA T8 DP fun b m z=>K.nD (bx.mp z▸m),sh T8 (fun m=>K.nv (bx.mp m)) nM (sh T7 K.uZ nM L5),
   Paired.imp (fun _ _ r=>J7.vr T8 DP (J5.vr T7 (fun b m=>(nA b m).1) r)) P5,MF,dy⟩
  refine ak F.vars fun m hn hv=>⟨F.kind,F.glob,F.blt,⟨m,hn,fun x V q vk=>hv x V ?_ vk⟩,F.cell,F.bc,F.fT,F.apart,F.locs⟩
  rw[yN x fun m=> ?_]
  ·exact q
  ·rw[K.hx x m] at q;exact nn q
theorem Jn(K:LK c m sc A e X ad s env h D N ns){body:Internal.C}{test:CB}{db:PySem.Expr}(hb:aO c m sc cl n body db)(gY:jn c m sc cl n test dJ)(hB:B≤100000){G:IT→List SV→Hp→Res}{s8:Shared}{Rl:Shared→Prop}
  (S:yw c m sc A e env dt D N X ad s v B (b+1) ns (fun aD it acc h=>test c.P cl n aD h fun b h=>cond b (body c.P cl n aD h fun v h=>G it (v::acc) h) (G it acc h)) s8)(hR:∀s',m9 c e env dt D N X ad s v B b G s'→Rl s'):
  wpAny c.M A (tests e dJ) (fun ok s9=>if ok=true then wpAny c.M A (eval db e) (fun x s₄=>wpAny c.M A (call (.builtin "list.append") [.ref D,x]) (fun _ s₅=>Rl s₅) NE s₄) NE s9 else Rl s9) NE s8:=by
 obtain⟨rG,acc,vs,h8,Z7,X8,xQ,q8,a8,back,_,R8,L8,P8,T8,dy⟩:=S
 have a:=K.at'
 have pj:=jj a.inv T8 K.hU
 refine pV (gY a8 q8) fun ok s9 h9 Z8 X9 q9 J9 T9=> ?_
 have a9:=a8.next J9 T9
 have R9:=R8.keep a8.inv a.ao.dm (fun b m=>pj b (.tail _ (.tail _ m))) T9 (fun _ m=>nomatch m) fun _ _ m=>nomatch m
 have L9:=sh T9 aP (pj _ (.tail _ (.head _))).2 L8
 have Dt:=T8.trans (T9.mono fun _ m=>absurd m aP)
 have P9:=a8.inv.g6 T9 P8
 induction ok with
 |false=>
  rw[if_neg eQ]
  exact hR _ ⟨rG,acc,vs,h9,Z8,X9,q9,back _ _ _ a9.fr,R9,L9,P9,J9,Dt,cx (nU _) dy⟩
 |true=>
  rw[if_pos rfl]
  refine bX (hb a9 q9) fun y El W DN xE uC Ei r10 m8 jO=> ?_
  have Du:=a9.next m8 jO
  have Na:=jj a.inv Dt K.hU
  have x9:=R9.keep J9 a.ao.dm (fun b m=>Na b (.tail _ (.tail _ m))) jO (fun _ m=>nomatch m) fun _ _ m=>nomatch m
  have ZY:=sh jO aP (Na _ (.tail _ (.head _))).2 L9
  have KY:=Dt.trans (jO.mono fun _ m=>absurd m aP)
  have t9:=jj a.inv KY K.hU
  refine wpAny_list_append_plain ZY (fun h' ew cR=> ?_) (by have:=iP;rw[cW];lia)
  have M7:∀b∈ [D],b∈uC∧¬Mt xE b:=fun b m=>by rw[bx.mp m];exact t9 _ (.tail _ (.head _))
  refine ai (m8.heap (D:=[D]) (g:=h') (t:=El.toks) (fun b o q nb=>(cR.2 b fun z=>nb (by rw[z];exact .head _)).trans q) (mC cR.1.symm) M7 fun b m=>by rw[bx.mp m];exact av ew fun ep ho=>⟨_,ho⟩) fun Dp nh=> ?_
  have yI:∀b∈ [D],b∈uC:=fun b m=>(M7 b m).1
  refine hR _ ⟨rG,W::acc,vs++ [y],DN,xE,uC,Ei,back _ _ _ (Du.fr.tH m8 nh yI fun b m z=>K.u2 b m (bx.mp z▸ .head _)),
   x9.keep m8 a.ao.dm (fun b m=>t9 b (.tail _ (.tail _ m))) nh yI (fun b m z=>K.uZ (bx.mp z▸m)),by simpa using ew,?_,Dp,KY.trans (nh.mono fun b m=>by rw[bx.mp m];exact .tail _ (.head _)),by rw[cH,EC,gB,EV 1];exact dy⟩
  rw[mu]
  exact Internal.Paired.append (Paired.imp (fun _ _ r=>m8.vr nh yI r) (J9.g6 jO P9)) (.cons (m8.vr nh yI r10) .nil)
end
structure CK(c:Cx)(m:Nat)(sc scC:List (Nat×NameKind))(A:Around)(e:Env)(X:List Addr)(ad:Ad)(s:Shared)(dt:PySem.Expr)(v:Value)(it:IT)(h2:Hp)(X4:List Addr)(bl:Ad)(s4:Shared)(Cc D:Addr)(N:List Addr)(iZ:En)(ns:List Nat):Prop where
 lk:LK c m (ba scC) A (fJ c e scC Cc) X4 bl s4 iZ h2 D N ns
 uJ:∀b∈Cc::D::N,s.heap.objs.size≤b
 fE:∀b∈aV (fJ c e scC Cc),b=Cc∨b<s.heap.objs.size
 R4:c8 c dt X4 bl s4.heap v it N
 L4:s4.heap.PlainList D ([]:List Value).toArray
 MC:Step [] X ad s X4 bl s4
section
variable{m:Nat}
theorem HD(C:ax c)(wf:eX sc scC=true){Cc:Addr}(eN:∀x∈ns,x∈bL scC):∀x∈ns,Wr c (fJ c e scC Cc) x [Cc]:=fun x m=>⟨fun _=> .head _,fun b _ z=>by
 have z:ck (ba scC) x=some .cell:=(zW C x).symm.trans z
 refine ai (Ac wf z) fun z1 _=> ?_
 rcases p8 wf (GW.mp (eN x m)) with⟨_,z3⟩|⟨z3,_⟩|z3
 ·have z3:ck scC x=some .local:=z3
  rw[z3] at z1;exact nomatch z1
 ·exact nomatch z3
 ·exact nomatch z3⟩
theorem Fw(eN:∀x∈ns,x∈bL scC):∀x∈ns,look (drops (bL scC) env) x=none:=fun x m=>by
 induction z:look (drops (bL scC) env) x using Option.casesOn with
 |none=>rfl
 |some V=>exact absurd (eN x m) (vJ z).1
theorem Fb(C:ax c)(wf:eX sc scC=true):(∀x∈(dP c.S.nm scC).names,x.2≠ .cell)∧∀x∈(dP c.S.nm scC).names,x.2= .local→(dz c.S.nm scC).lookup x.1=some .local:=by
 refine⟨fun x hx=> ?_,fun x hx hl=> ?_⟩<;>refine ak (bz.mp hx) fun y hy af=> ?_<;>subst af
 ·rcases p8 wf hy with⟨h1,_⟩|⟨h1,_⟩|h1<;>(intro z;rw[h1] at z;exact nomatch z)
 ·rcases p8 wf hy with⟨h1,h2⟩|⟨h1,_⟩|h1
  ·show(dz c.S.nm scC).lookup (c.S.nm y.1)=_
   rw[sd C,h2]
  ·rw[h1] at hl;exact nomatch hl
  ·rw[h1] at hl;exact nomatch hl
theorem W0(C:ax c)(wf:eX sc scC=true)(eN:∀x∈ns,x∈bL scC){X2:List Addr}{bl:Ad}{s2:Shared}{h2:Hp}{fg:IT}(a:At c m sc A e X ad s env h)(J2:Inv c X2 bl h2 s2)(T2:Step [] X ad s X2 bl s2)
  (R2:c8 c dt X2 bl s2.heap v fg N)(hN:∀a∈N,a∈X2∧¬Mt bl a∧s.heap.objs.size≤a){Cc:Addr}{tk:Nat}(hC:Cc=s2.heap.objs.size+1)(hz:g.objs.size=s2.heap.objs.size+2)(old:∀b o,s2.heap.get? b=some o→g.get? b=some o)
  (M5:g.PlainList s2.heap.objs.size ([]:List Value).toArray)(Nh:g.Ns Cc mm):CK c m sc scC A e X ad s dt v fg h2 ([Cc,s2.heap.objs.size]++X2) bl {s2 with heap:=g,toks:=tk} Cc s2.heap.objs.size N (drops (bL scC) env) ns:=by
 have nv:s2.heap.objs.size≠Cc:=by rw[hC];exact jW (jV _)
 have a2:=a.next J2 T2
 have lo:s2.heap.objs.size≤Cc:=by rw[hC];exact nU _
 have Ln:∀b∈N,b<s2.heap.objs.size:=fun b m=>J2.low b (hN b m).1
 refine dq (J2.grow (N:=[Cc,s2.heap.objs.size]) (g:=g) (t:=tk) (fun b m=> ?_) a2.low old (by rw[hz];exact nS _ _)) fun J4 T4 pg=> ?_
 ·rcases aE.mp m with rfl|m
  ·exact⟨lo,let⟨o,_,_,ho,_⟩:=Nh;⟨o,ho⟩⟩
  ·rw[bx.mp m];exact⟨bb _,let⟨_,ho⟩:=M5;⟨_,ho⟩⟩
 have uJ:∀b∈Cc::s2.heap.objs.size::N,s.heap.objs.size≤b:=fun b m=>by
  rcases aE.mp m with rfl|m
  ·exact cx T2.size lo
  ·rcases aE.mp m with rfl|m
   ·exact T2.size
   ·exact(hN b m).2.2
 have fE:∀b∈aV (fJ c e scC Cc),b=Cc∨b<s.heap.objs.size:=fun b m=>by
  rcases aE.mp m with rfl|m
  ·exact .inl rfl
  ·refine ak (bz.mp m) fun p hp af=> ?_;subst af
   exact .inr (a.inv.low _ (a.fr.bc _ (.tail _ (lookup_mem (we (vF a.sc wf) (fun _ m=>(aP m).elim) p hp)))))
 have nD:Cc∉N:=fun m=>df _ (cV (Ln _ m) lo)
 refine⟨⟨⟨a.ao,J4,a2.low.step T4,Rj C a2.fr a.sc wf (fun b m=>T4.XK b m) (pg _ (.head _)) (fun m=>df _ (cV (J2.low _ m) lo)) (mm:=mm) Nh old fun v V r=>J2.cu T4 r,Rk C a.sc wf _⟩,fun b m=> ?_,fun b m z=> ?_,nv,fun m=>df _ (Ln _ m),HD C wf eN,Fw eN⟩,
  uJ,fE,R2.keep J2 a.ao.dm (fun b m=>⟨(hN b m).1,(hN b m).2.1⟩) T4 (fun _ m=>nomatch m) (fun _ _ m=>nomatch m),M5,T2.trans T4⟩
 ·rcases aE.mp m with rfl|m
  ·exact pg _ (.head _)
  ·rcases aE.mp m with rfl|m
   ·exact pg _ (.tail _ (.head _))
   ·exact⟨T4.XK b (hN b m).1,(hN b m).2.1⟩
 ·rcases fE b m with rfl|lt
  ·rcases aE.mp z with z|z
   ·exact nv z.symm
   ·exact nD z
  ·exact df _ (cV lt (uJ b (.tail _ z)))
theorem Gx(C:ax c){it:CI}{db:PySem.Expr}{gs:List Comprehension}{p:Pos}(wf:eX sc scC=true)(eN:∀x∈ns,x∈bL scC)(hi:fL c m sc cl n it di dt)(hf:∀e x,foldedSetIterable di e x=pure x)
  {use:Option (Value→Sem Unit)}(a:At c m sc A e X ad s env h){G:En→IT→Hp→Res}(q:c.Ok (it c.P cl n env h fun it h=>kg (bL scC) env fun env=>G env it h))
  (go:∀v fg h2 X4 bl s4 Cc D N,CK c m sc scC A e X ad s dt v fg h2 X4 bl s4 Cc D N (drops (bL scC) env) ns→c.Ok (G (drops (bL scC) env) fg h2)→
   codeAny c.M A (.compLoop (.ListComp db (⟨dt,di,dJ,0⟩::gs) (dP c.S.nm scC) p) 0 v (.ref D) (fJ c e scC Cc)) (compPost c.M A NE use Q (.ref D) Cc) s4):
  wpAny c.M A (comprehension (.ListComp db (⟨dt,di,dJ,0⟩::gs) (dP c.S.nm scC) p) (dP c.S.nm scC) e pos (newList []) false (eval di e) use) Q NE s:=by
 refine wpAny_comprehension_free (g:=⟨dt,di,dJ,0⟩) (gs:=gs) (cl:=eM e (dz c.S.nm scC) []) rfl (hf e) (OU (vF a.sc wf)) rfl (Fb C wf).2
  (ay (hi a q) fun x s1 w=>y5 w fun v s2 fg h2 bl X2 N q2 R2 J2 T2 hN=> ?_)
 rw[Ap] at q2
 refine wpAny_newObj_type (wpAny_newFunctionEnv (Fb C wf).1 (by intro y hy;simp at hy) (fun h1 Cy xT=> ?_) rfl)
 dsimp only at Cy xT⊢
 rw[PF a.sc a.fr.kind wf]
 generalize DO:s2.heap.push {cls:= .type "list",dict:=none,data:= .seq ([]:List Value).toArray}=H2 at Cy xT⊢
 have hC:H2.objs.size=s2.heap.objs.size+1:=by rw[←DO,Heap.size_push]
 have hz1:h1.objs.size=s2.heap.objs.size+2:=by rw[xT.1,Heap.size_push,hC]
 have old:∀b o,H2.get? b=some o→h1.get? b=some o:=fun b o q=>xT.extBut b o (jW (Heap.lt_size q)) (Heap.get?_push_of_some _ q)
 have K:=W0 C wf eN a J2 T2 R2 hN hC hz1 (fun b o q=>old b o (DO▸Heap.get?_push_of_some _ q)) ⟨_,old _ _ (DO▸Heap.get?_push_size _ rfl)⟩ Cy (tk:=s2.toks+([]:List (Str×Value)).length)
 have loop:=go _ _ _ _ _ _ _ _ _ K q2
 exact codeAny_compStart_list loop (wpAny_mono (E:=NE) (K.R4.self a.ao.dm loop) (fun _ _ x=>x) fun _ _ x=>x.elim)
theorem Gw{X4 X5:List Addr}{bl d8:Ad}{s4 s5 s6:Shared}{iZ:En}{h2 h5:Hp}{fg:IT}{Cc D:Addr}{k:K}{acc:List SV}(low:∀b∈X,b<s.heap.objs.size)(K:CK c m sc scC A e X ad s dt v fg h2 X4 bl s4 Cc D N iZ ns)
  (q:c.Ok (k (.ar (jJ acc)) h5))(F5:bC c (fJ c e scC Cc) X5 d8 s5.heap iZ)(L5:s5.heap.PlainList D vs.toArray)(P5:c.VL X5 d8 s5.heap vs acc.reverse)(J5:Inv c X5 d8 h5 s5)(T5:Step (Cc::D::N) X4 bl s4 X5 d8 s5)(G:lO N s5 s6):w9 c X ad s k (.ref D) Cc s6:=by
 rw[wC] at q
 have ph:=jj K.lk.at'.inv T5 K.lk.hU
 have nv:=K.lk.nv
 have nD:=K.lk.nD
 have G':lO (D::N) s5 s6:=⟨fun b o q nb=>G.1 b o q fun m=>nb (.tail _ m),G.2⟩
 have M6:∀b∈D::N,b∈X5∧¬Mt d8 b:=fun b m=>ph b (.tail _ m)
 refine av L5 fun ep hL=>ak F5.vars fun m5 hn5 _=> ?_
 refine⟨acc.reverse,h5,d8,without X5 (D::N),q,lE (Paired.imp (fun _ _ r=>qd G' (fun b m=>(M6 b m).1) r) P5) (G.1 _ _ hL K.lk.uZ) (fun m=>(jY.mp m).2 (.head _)),J5.gone G' M6,Step.gone (D:=[Cc]) (N:=D::N) (K.MC.nil.trans T5) G' (fun b m=>K.uJ b (.tail _ m)) low,jY.mpr ⟨(ph _ (.head _)).1,fun m=> ?_⟩,(ph _ (.head _)).2,K.uJ _ (.head _),m5,hn5.at' fun o q=>G.1 _ o q nD⟩
 rcases aE.mp m with z|m
 ·exact nv z.symm
 ·exact nD m
theorem HC(C:ax c)(hn:n≤100000){it:CI}{t:CT}{body:Internal.C}{test:CB}{db:PySem.Expr}{p:Pos}(wf:eX sc scC=true)(eN:∀x∈ns,x∈bL scC)(hi:fL c m sc cl n it di dt)(ht:eW c (ba scC) ns t dt)
  (hb:aO c m (ba scC) cl n body db)(gY:jn c m (ba scC) cl n test dJ)(hf:∀e x,foldedSetIterable di e x=pure x)
  {k:K}{use:Option (Value→Sem Unit)}(a:At c m sc A e X ad s env h)(q:c.Ok (lK (bL scC) it t body test c.P cl n env h k))
  (fin:∀acc Cc s',w9 c X ad s k acc Cc s'→compPost c.M A NE use Q acc Cc (.ok .next) s'):
  wpAny c.M A (comprehension (.ListComp db [⟨dt,di,dJ,0⟩] (dP c.S.nm scC) p) (dP c.S.nm scC) e pos (newList []) false (eval di e) use) Q NE s:=
 Gx C (gs:=[]) (G:=fun env it h=>d0 t body test c.P cl n env k n it [] h) wf eN hi hf a q fun v fg h2 X4 bl s4 Cc D N K q2=>by
  refine O2 (fun j s'=>m9 c (fJ c e scC Cc) (drops (bL scC) env) dt D N X4 bl s4 v n j (d0 t body test c.P cl n (drops (bL scC) env) k j) s') (fun j s5 S=> ?_) n ⟨fg,[],[],h2,bl,X4,q2,K.lk.at'.fr,K.R4,K.L4,.nil,K.lk.at'.inv,Step.refl ..,mC (cZ n)⟩
  induction j using Nat.casesAuxOn with
  |zero=>exact(A1 S).elim
  |succ j=>
   refine ay (A0 K.lk ht (done:=fun acc h=>k (.ar (jJ acc)) h) (G:=fun aD it acc h=>test c.P cl n aD h fun b h=>cond b (body c.P cl n aD h fun v h=>d0 t body test c.P cl n (drops (bL scC) env) k j it (v::acc) h) (d0 t body test c.P cl n (drops (bL scC) env) k j it acc h)) S
    fun s6 acc vs h' ae X' q F L P J T _ G=>fin _ _ _ (Gw a.inv.low K q F L P J T G)) fun r s1 w=> ?_
   induction r with
   |none=>exact w
   |some u=>exact ay w fun _ s2 w=>ay w fun _ s3 T=>Jn K.lk hb gY hn T fun s' S=>⟨j,jV _,S⟩
end
end
section
section
variable{m:Nat}
theorem Ar{C:Addr}{h':Heap}(hs:Heap.SameBut C s.heap h'):lO [C] s {s with heap:=h'}:=
 ⟨fun b o q nb=>(hs.2 b fun z=>nb (by rw[z];exact .head _)).trans q,mC hs.1.symm,h',s.toks,rfl⟩
structure AG(c:Cx)(m:Nat)(sc scC:List (Nat×NameKind))(cl:aX)(n:Nat)(ns:List Nat)(it:CI)(t:CT)(body:Internal.C)(test:CB)(di dt db:PySem.Expr)(dJ:List PySem.Expr):Prop where
 wf:eX sc scC=true
 eN:∀x∈ns,x∈bL scC
 hi:fL c m sc cl n it di dt
 ht:eW c (ba scC) ns t dt
 hb:aO c m (ba scC) cl n body db
 gY:jn c m (ba scC) cl n test dJ
 hf:∀e x,foldedSetIterable di e x=pure x
variable{it:CI} {t:CT} {body:Internal.C} {test:CB} {db:PySem.Expr} {p:Pos}
theorem G9(C:ax c)(hn:n≤100000)(H:AG c m sc scC cl n ns it t body test di dt db dJ):aO c m sc cl n (lK (bL scC) it t body test) (.ListComp db [⟨dt,di,dJ,0⟩] (dP c.S.nm scC) p):=fun{A e X ad s env h k}a q=>by
 rw[eval_ListComp]
 refine HC C hn H.wf H.eN H.hi H.ht H.hb H.gY H.hf a q fun acc Cc s'⟨l,h',ae,X',q',r',J,T,c1,c2,c3,mm,c4⟩=>⟨mm,c4,fun g hs=> ?_⟩
 have G:=Ar hs
 have hN:∀b∈ [Cc],b∈X'∧¬Mt ae b:=fun b m=>by rw[bx.mp m];exact⟨c1,c2⟩
 exact⟨_,h',ae,without X' [Cc],q',qd G (fun b m=>(hN b m).1) r',J.gone G hN,Step.gone (D:=[]) T G (fun b m=>by rw[bx.mp m];exact c3) a.inv.low⟩
theorem Pq(C:ax c)(hn:n≤100000)(H:AG c m sc scC cl n ns it t body test di dt db dJ){y:Nat}{py sp:Pos}(hy:ef sc y=true):de c m sc cl n (km (jM y) (lK (bL scC) it t body test)) (.Assign [.Name (c.S.nm y) py] (.ListComp db [⟨dt,di,dJ,0⟩] (dP c.S.nm scC) p) sp):=fun{A e X ad s env h k kr}a q=>by
 obtain⟨b,hb⟩:∃b,swapsWithSole [.Name (c.S.nm y) py] (.ListComp db [⟨dt,di,dJ,0⟩] (dP c.S.nm scC) p) sp.line e=pure b:=⟨_,rfl⟩
 have hx:aO c m sc cl n (lK (bL scC) it t body test) (.ListComp db [⟨dt,di,dJ,0⟩] (dP c.S.nm scC) p):=G9 C hn H
 have Nm:=tm (p:=py) C hy
 induction b with
 |false=>exact vD (Nm.one e []) (bX (hx a q) fun v s1 V h1 aK X1 q1 r1 J1 T1=>nL (Nm.run (D:=aV e) (fun _ _=>Wr.aV) (a.next J1 T1).fr.bc a.ao.dm J1 (a.next J1 T1).fr a.sc r1 q1) fun _ s2 jB q2 R2 J2 T2 _=>dR.iE q2 R2 J2 (T1.to.trans T2)) hb rfl
 |true=>
  rw[PyProof.Rows.exec_Assign]
  refine wpAny_bind (wpAny_standAt ?_)
  rw[hb]
  refine wpAny_bind (wpAny_pure ?_)
  rw[if_pos rfl]
  refine wpAny_bind (wpAny_mono (Q:=fun _=>dR c e X ad s k kr .next) ?_ (fun _ s' w=>wpAny_pure w) fun _ _ x=>x)
  rw[arm_evalThenUse_ListComp]
  refine wpAny_bind (wpAny_mono (Q:=fun _=>dR c e X ad s k kr .next) ?_ (fun _ s' w=>wpAny_pure w) fun _ _ x=>x)
  have q:c.Ok (lK (bL scC) it t body test c.P cl n env h fun v h=>jM y c.P v env fun env=>k env h):=q
  refine HC C hn H.wf H.eN H.hi H.ht H.hb H.gY H.hf a q fun acc Cc s'⟨l,h',ae,X',q',r',J,T,c1,c2,c3,mm,c4⟩=> ?_
  have hN:∀b∈ [Cc],b∈X'∧¬Mt ae b:=fun b m=>by rw[bx.mp m];exact⟨c1,c2⟩
  have nf:∀b∈aV e,b∉ [Cc]:=fun b m z=>by
   rw[bx.mp z] at m
   exact df _ (cV (a.inv.low _ (a.fr.bc _ m)) c3)
  have F':=a.fr.tH a.inv (T.C4 (D:=[]) fun b m=>by rw[bx.mp m];exact c3) (fun _ m=>absurd m aP) fun _ _ m=>absurd m aP
  show wpAny c.M A (assign (.Name (c.S.nm y) py) e acc) _ NE s'
  refine wpAny_assign_Name (ay (v8 C J F' (D:=aV e) Wr.aV r' (p7 a.sc hy)) fun _ s2⟨F2,J2,T2⟩=> ?_)
  have c5:s2.heap.Ns Cc mm:=c4.at' fun o q=>T2.keep Cc o q (fun m=>nf _ m (.head _)) c2
  refine⟨mm,c5,fun g hs=> ?_⟩
  have G:=Ar hs
  refine dR.iE (n4 q') (F2.gone G (fun b m=>(hN b m).1) nf) (J2.gone G hN) ?_
  refine Step.gone (D:=aV e) (N:=[Cc]) ?_ G (fun b m=>by rw[bx.mp m];exact c3) a.inv.low
  exact Step.trans (Step.inr T) (Step.inl T2)
end
end
section
section
variable{prog:Program}
theorem Tp{R:Result→Shared→Prop}{o:Obj}{fd:FuncData}{vals:List Value}{binds:List (Str×Value)}
  (Xe:A.depth<recursionLimit)(ho:s.heap.get? a=some o)(Kf:o.data= .func fd)(YK:s.heap.NoLimit)(hcd:s.heap.CodeRec fd.code fd.qualname)
  (BV:fd.body= .stmts body)(W9:BindsTo s fd ⟨vals,[]⟩ binds)(YI:fd.closure= [])
  (Xd:∀x∈binds,fd.scope.names.lookup x.1=some .local∨(fd.scope.names.lookup x.1=some .cell∧((cellsFrom (s.heap.objs.size+1) fd.scope.names []).lookup x.1).isSome=true))
  (h:∀s₁,InCallC s (callEnvC fd s.heap.objs.size a).locals (bindL (callEnvC fd s.heap.objs.size a).kindOf binds fun _=>none) (callEnvC fd s.heap.objs.size a).cells
    (bindC (callEnvC fd s.heap.objs.size a).kindOf binds fun _=>none) s₁→
   wpAny (model prog w) (A.deeper (callEnvC fd s.heap.objs.size a)) (execs body (callEnvC fd s.heap.objs.size a)) (fun f s'=>R (.ok (.ret (match f with| .ret v=>v|_=> .none))) s') NE s₁)
  (hco:fd.scope.isCoroutine=false)(YJ:fd.scope.isGenerator=false)(hk:fd.scope.kind= .function):
  codeAny (model prog w) A (.call (.ref a) ⟨vals,[]⟩) R s:=by
 refine codeAny_call_function Xe ho Kf hco YJ BV hcd (W9 _ _ _ _ ?_)
 rw[YI]
 refine wpAny_newFunctionEnv_cells hk Xd fun env he s' x=> ?_
 subst he
 exact⟨YK.keeps x.toInCall.keep,codeAny_func (weak (h s' x))⟩
end
theorem vK:∀{names:List (Str×NameKind)}{k:Nat}{acc:List (Str×Addr)}{x:Str},((x,NameKind.cell)∈names∨∃a,(x,a)∈acc)→∃a,(x,a)∈cellsFrom k names acc
 | [],k,acc,x,h=>h.elim (fun m=>by exact(aP m).elim) id
 |(y,kd)::r,k,acc,x,h=>by
  unfold cellsFrom
  split
  ·refine vK (names:=r) ?_
   rcases h with h|⟨a,h⟩
   ·rcases aE.mp h with e1|h
    ·(injection e1 with e1 e2;subst e1;subst e2);exact .inr ⟨_,.head _⟩
    ·exact .inl h
   ·exact .inr ⟨a,.tail _ h⟩
  ·rename_i q
   refine vK (names:=r) ?_
   rcases h with h|h
   ·rcases aE.mp h with e1|h
    ·(injection e1 with e1 e2;subst e1;subst e2);exact absurd rfl q
    ·exact .inl h
   ·exact .inr h
theorem Fq{kd:Str→Option NameKind}:∀{b:List (Str×Value)}{m:Str→Option Value}{x:Str},(∀p∈b,p.1≠x)→bindL kd b m x=m x
 | [],_,_,_=>rfl
 |(y,v)::r,m,x,h=>by
  unfold bindL
  rw[Fq fun p hp=>h p (.tail _ hp)]
  split
  ·exact if_neg fun z=>h _ (.head _) z.symm
  ·rfl
theorem Fp{kd:Str→Option NameKind}:∀{b:List (Str×Value)}{m:Str→Option Value}{x:Str},(∀p∈b,p.1≠x)→bindC kd b m x=m x
 | [],_,_,_=>rfl
 |(y,v)::r,m,x,h=>by
  unfold bindC
  rw[Fp fun p hp=>h p (.tail _ hp)]
  split
  ·rfl
  ·exact if_neg fun z=>h _ (.head _) z.symm
noncomputable def Bc(b:List (Str×Value)):Prop:=b.Pairwise fun p q=>p.1≠q.1
theorem Gl{kd:Str→Option NameKind}:∀{b:List (Str×Value)}{m:Str→Option Value}{x:Str}{v:Value},Bc b→(x,v)∈b→kd x=some .local→bindL kd b m x=some v
 | [],_,_,_,_,h,_=>by exact(aP h).elim
 |(y,u)::r,m,x,v,nd,h,hk=>by
  refine ai (ml.mp nd) fun n1 n2=> ?_
  unfold bindL
  rcases aE.mp h with e|h
  ·(injection e with e1 e2;subst e1;subst e2)
   rw[Fq fun p hp z=>n1 p hp z.symm,if_pos hk]
   exact if_pos rfl
  ·exact Gl n2 h hk
theorem Gk{kd:Str→Option NameKind}:∀{b:List (Str×Value)}{m:Str→Option Value}{x:Str}{v:Value},Bc b→(x,v)∈b→kd x≠some .local→bindC kd b m x=some v
 | [],_,_,_,_,h,_=>by exact(aP h).elim
 |(y,u)::r,m,x,v,nd,h,hk=>by
  refine ai (ml.mp nd) fun n1 n2=> ?_
  unfold bindC
  rcases aE.mp h with e|h
  ·(injection e with e1 e2;subst e1;subst e2)
   rw[Fp fun p hp z=>n1 p hp z.symm,if_neg hk]
   exact if_pos rfl
  ·exact Gk n2 h hk
noncomputable def NV(nm:Nat→Str)(sc:List (Nat×NameKind))(more:List (Str×Const)):Scope:={dP nm sc with more:=more}
structure Yl(c:Cx)(fd:FuncData)(sc:List (Nat×NameKind))(body:List PySem.Stmt):Prop where
 body:fd.body= .stmts body
 names:fd.scope.names=dz c.S.nm sc
 kind:fd.scope.kind= .function
 co:fd.scope.isCoroutine=false
 gen:fd.scope.isGenerator=false
 eM:fd.closure= []
 glob:fd.globals=mainGlobals
 blt:fd.builtins=builtinsNs
 code:codeIn c.K fd.code fd.qualname=true
structure qC(c:Cx)(f:Nat)(ps:List Nat)(sc:List (Nat×NameKind))(body:List PySem.Stmt):Prop where
 obj:∃fd oc od pL,c.K.lookup (c.S.fa f)=some ⟨oc,od,.func fd,pL⟩∧Yl c fd sc body∧∀(s:Shared)(vs:List Value),c.K.In s.heap→vs.length=ps.length→BindsTo s fd ⟨vs,[]⟩ ((ps.map c.S.nm).zip vs)
 loc:∀x∈ps,ef sc x=true
 nd:ps.Nodup
 Eb:(sc.map (·.1)).Nodup
theorem FL:∀{ps:List Nat}{as:List SV}{k:En→Res},Ok ρ F (IY ps as k)→ps.length=as.length∧Ok ρ F (k (ps.zip as))
 | [],as,k,q=>by
  induction as using List.casesOn with
  |nil=>exact⟨rfl,q⟩
  |cons _ _=>exact(a0 q).elim
 |x::ps,as,k,q=>by
  induction as using List.casesOn with
  |nil=>exact(a0 q).elim
  |cons V as=>
   refine ai (FL (ps:=ps) (as:=as) (k:=fun e=>k ((x,V)::e)) q) fun h1 h2=> ?_
   exact⟨by rw[cw,cw,h1],h2⟩
theorem GS:∀{ps:List Nat}{as:List SV}{x:Nat}{V:SV},look (ps.zip as) x=some V→∃i:Nat,ps[i]? =some x∧as[i]? =some V
 | [],as,x,V,h=>by
  rw[OA] at h;(exfalso;injection h)
 |p::ps,[],x,V,h=>by
  rw[Ox] at h;(exfalso;injection h)
 |p::ps,W::as,x,V,h=>by
  rw[rT,eB] at h
  split at h
  ·rename_i e
   have e:p=x:=e
   (injection h with e1;subst e1);subst e;exact⟨0,rfl,rfl⟩
  ·refine ak (GS h) fun i h1 h2=> ?_
   exact⟨i+1,h1,h2⟩
theorem JQ{α β:Type}:∀{ps:List α}{vs:List β}{i:Nat}{x:α}{v:β},ps[i]? =some x→vs[i]? =some v→(x,v)∈ps.zip vs
 | [],_,i,_,_,h,_=>by simp at h
 |_::_,[],i,_,_,_,h=>by simp at h
 |p::ps,u::vs,0,x,v,h1,h2=>by(injection h1 with e1;subst e1);(injection h2 with e1;subst e1);rw[rT];exact .head _
 |p::ps,u::vs,i+1,x,v,h1,h2=>by rw[rT];exact .tail _ (JQ (i:=i) h1 h2)
theorem FK(C:ax c):∀{ps:List Nat}{vs:List Value},ps.Nodup→Bc ((ps.map c.S.nm).zip vs)
 | [],vs,_=>by rw[rW,OA];exact .nil
 |p::ps,[],_=>by rw[Ox];exact .nil
 |p::ps,v::vs,nd=>by
  refine ai (mA.mp nd) fun n1 n2=> ?_
  rw[fo,rT]
  refine ml.mpr ⟨fun q hq z=> ?_,FK C n2⟩
  have:=(OM (a:=q.1) (b:=q.2) hq).1
  refine ak (bz.mp this) fun y hy e=> ?_
  have z:c.S.nm p=q.1:=z
  rw[←e] at z
  exact n1 (C.inj _ _ z▸hy)
theorem Am:∀{names:List (Str×NameKind)}{k:Nat}{acc:List (Str×Addr)},(names.map (·.1)).Nodup→(∀p∈acc,p.1∉names.map (·.1))→(acc.map (·.1)).Nodup→((cellsFrom k names acc).map (·.1)).Nodup
 | [],_,_,_,_,h=>h
 |(y,kd)::r,k,acc,h1,h2,h3=>by
  refine ai (mA.mp h1) fun n1 n2=> ?_
  unfold cellsFrom
  split
  ·refine Am n2 (fun p hp=> ?_) (mA.mpr ⟨fun m=> ?_,h3⟩)
   ·rcases aE.mp hp with rfl|hp
    ·exact n1
    ·exact fun m=>h2 p hp (.tail _ m)
   ·refine ak (bz.mp m) fun p hp e=> ?_
    exact h2 p hp (by rw[e];exact .head _)
  ·exact Am n2 (fun p hp m=>h2 p hp (.tail _ m)) h3
theorem FG{α:Type}:∀{l:List (Str×α)}{p:Str×α},(l.map (·.1)).Nodup→p∈l→l.lookup p.1=some p.2
 | [],p,_,h=>by exact(aP h).elim
 |q::r,p,nd,h=>by
  obtain⟨n1,n2⟩:=mA.mp nd
  rw[zD]
  rcases aE.mp h with rfl|h
  ·rw[beq_self_eq_true]
  ·have:(p.1==q.1)=false:=by
    rw[beq_eq_false_iff_ne]
    exact fun e=>n1 (bz.mpr ⟨p,h,e⟩)
   rw[this]
   exact FG n2 h
theorem Jz(C:ax c):∀{sc:List (Nat×NameKind)},(sc.map (·.1)).Nodup→((dz c.S.nm sc).map (·.1)).Nodup
 | [],_=> .nil
 |p::r,h=>by
  refine ai (mA.mp h) fun n1 n2=> ?_
  refine mA.mpr ⟨fun m=> ?_,Jz C n2⟩
  refine ak (bz.mp m) fun q hq e=> ?_
  refine ak (bz.mp hq) fun y hy af=> ?_;subst af
  have e:c.S.nm y.1=c.S.nm p.1:=e
  exact n1 (bz.mpr ⟨y,hy,C.inj _ _ e⟩)
end
section
section
structure BodyOk(c:Cx)(n:Nat)(f:Nat)(d:Fn):Prop where
 ok:∃sc ds,qC c f d.ps sc ds∧∀m cl,br c m cl→gH c m sc cl n d.body ds
theorem Fi:∀{l:List (Str×Addr)}{p q:Str×Addr},l.Pairwise (fun x y=>x.2≠y.2)→p∈l→q∈l→p.2=q.2→p=q
 | [],_,_,_,h,_,_=>by exact(aP h).elim
 |x::r,p,q,h,hp,hq,e=>by
  refine ai (ml.mp h) fun n1 n2=> ?_
  rcases aE.mp hp with z1|Nk
  ·rcases aE.mp hq with z2|rF
   ·rw[z1,z2]
   ·rw[z1] at e;exact absurd e (n1 q rF)
  ·rcases aE.mp hq with z2|rF
   ·rw[z2] at e;exact absurd e.symm (n1 p Nk)
   ·exact Fi n2 Nk rF e
theorem TJ{K:Frag}{f:Addr}{oc:Value}{od:Option Addr}{fd:FuncData}{pL:Array (Option Value)}(h:K.lookup f=some ⟨oc,od,.func fd,pL⟩):fnIn K f=true:=by unfold fnIn;rw[h]
theorem PW(C:ax c)(ub:∀x∈ps,ef sc x=true):∀x∈(ps.map c.S.nm).zip vs,(dz c.S.nm sc).lookup x.1=some .local∨((dz c.S.nm sc).lookup x.1=some .cell∧((cellsFrom n (dz c.S.nm sc) []).lookup x.1).isSome=true):=fun x hx=>by
 refine ak (bz.mp (OM (a:=x.1) (b:=x.2) hx).1) fun y hy e=> ?_
 have hs:=ub y hy
 rw[←e,sd C sc]
 unfold ef at hs
 induction z:ck sc y using Option.casesOn with
 |none=>rw[z] at hs;exact nf hs
 |some kd=>
  rw[z] at hs
  induction kd with
  |«local»=>exact .inl rfl
  |cell=>
   refine .inr ⟨rfl,?_⟩
   refine av (vK (names:=dz c.S.nm sc) (k:=n) (acc:=[]) (.inl (bz.mpr ⟨_,nX z,rfl⟩))) fun a ha=> ?_
   refine av (zM ha) fun b hb=> ?_
   rw[show(cellsFrom n (dz c.S.nm sc) []).lookup (c.S.nm y)=some b from hb];rfl
  |_=>exact nf hs
structure JR(c:Cx)(e:Env)(sc:List (Nat×NameKind))(n:Nat):Prop where
 cells:e.cells=cellsFrom n (dz c.S.nm sc) []
 kindOf:∀y,e.kindOf y=(dz c.S.nm sc).lookup y
 kind:e.scope.kind= .function
 glob:e.globals=mainGlobals
 blt:e.builtins=builtinsNs
theorem Tj(C:ax c)(E:JR c e sc n){s1:Shared}(ub:∀x∈ps,ef sc x=true)(nd:ps.Nodup)(SC:gN c e sc)(x:InCallC s e.locals (bindL e.kindOf ((ps.map c.S.nm).zip vs) fun _=>none) e.cells (bindC e.kindOf ((ps.map c.S.nm).zip vs) fun _=>none) s1)
  (hN:∀a∈aV e,a∈aV e++X∧¬Mt ad a)(P1:c.VL (aV e++X) ad s1.heap vs as):bC c e (aV e++X) ad s1.heap (ps.zip as):=by
 have nz:=FK C nd (vs:=vs)
 refine⟨E.kind,E.glob,E.blt,⟨_,x.toInCall.ns,fun y V hy vk=> ?_⟩,fun y a q=>⟨_,x.cell y a q⟩,fun a m=>(hN a m).1,fun a m=>(hN a m).2,fun y y' a q1 q2=>congrArg (·.1) (Fi x.apart (mem_of_lookup q1) (mem_of_lookup q2) rfl),fun y a q z=>df _ (z▸x.above _ _ (mem_of_lookup q))⟩
 refine ak (GS hy) fun i h1 h2=> ?_
 refine ak (Internal.Paired.get P1 h2) fun v hv rv=> ?_
 have mz:(c.S.nm y,v)∈(ps.map c.S.nm).zip vs:=JQ (i:=i) (by rw[b0,h1];rfl) hv
 rcases p7 SC (ub y (cf h1)) with k1|⟨k1,a,ha⟩
 ·exact .inl ⟨k1,v,Gl nz mz k1,rv⟩
 ·refine .inr ⟨.inl k1,a,v,ha,?_,rv⟩
  have:=x.cell _ _ ha
  rwa [Gk nz mz (by rw[k1];intro z;cases z)] at this
theorem RA(C:ax c){m:Nat}(ub:∀x∈ps,ef sc x=true)(nd:ps.Nodup)(Eb:(sc.map (·.1)).Nodup){s1:Shared}
  (E:JR c e sc (s.heap.objs.size+1))(ao:cp A m)(I:Inv c X ad h s)(hl:bY c s)(P:c.VL X ad s.heap vs as)(x:InCallC s e.locals (bindL e.kindOf ((ps.map c.S.nm).zip vs) fun _=>none) e.cells (bindC e.kindOf ((ps.map c.S.nm).zip vs) fun _=>none) s1)
  {Q:Prop}(H:(At c n sc A e (aV e++X) ad s1 (ps.zip as) h↔cp A (4*n+2))→Step [] X ad s (aV e++X) ad s1→(∀b o,s.heap.get? b=some o→s1.heap.get? b=some o)→(∀a∈aV e,s.heap.objs.size≤a)→Q):Q:=by
 refine gA x.toInCall.same fun hp tk es=> ?_
 have cnd:(e.cells.map (·.1)).Nodup:=by rw[E.cells];exact Am (Jz C Eb) (fun p hp=>absurd hp aP) .nil
 have cat:∀p∈e.cells,e.cells.lookup p.1=some p.2:=fun p hp=>FG cnd hp
 have fr:=x.toInCall.fresh
 have live:∀a∈aV e,s.heap.objs.size≤a∧∃o,s1.heap.get? a=some o:=fun a m=>by
  rcases aE.mp m with rfl|m
  ·exact⟨fr,iI x.toInCall.ns fun o _ _ z _=>⟨o,z⟩⟩
  ·refine ak (bz.mp m) fun p hp af=> ?_;subst af
   exact ak (x.cell _ _ (cat p hp)) fun o z _=>⟨dU (p5 fr (x.above _ _ hp)),o,z⟩
 have sz:s.heap.objs.size≤s1.heap.objs.size:=iI x.toInCall.ns fun o _ _ z _=>dU (p5 fr (Heap.lt_size z))
 refine dq (I.grow (N:=aV e) (g:=s1.heap) (t:=tk) live hl x.toInCall.keep sz) fun J T hN=> ?_
 have es':({s with heap:=s1.heap,toks:=tk}:Shared)=s1:=by rw[es]
 rw[es'] at J T
 have SC:gN c e sc:=⟨fun y=>by rw[E.kindOf,sd C sc],fun y z=>av (vK (names:=dz c.S.nm sc) (k:=s.heap.objs.size+1) (acc:=[]) (.inl (bz.mpr ⟨_,nX z,rfl⟩))) fun a ha=>⟨a,cat _ (by rw[E.cells];exact ha)⟩⟩
 exact H ⟨fun a=>a.ao,fun ao=>⟨ao,J,hl.step T,Tj C E ub nd SC x hN (I.g6 T P),SC⟩⟩ T x.toInCall.keep fun a m=>(live a m).1
theorem zY(C:ax c){m:Nat}{ds:List PySem.Stmt}(hF:qC c f ps sc ds)
  (ao:cp A (4*m+3))(I:Inv c X ad h s)(hl:bY c s)(P:c.VL X ad s.heap vs as)(el:ps.length=as.length)
  (body:∀e s1,At c m sc (A.deeper e) e (aV e++X) ad s1 (ps.zip as) h→Step [] X ad s (aV e++X) ad s1→(∀b o,s.heap.get? b=some o→s1.heap.get? b=some o)→(∀a∈aV e,s.heap.objs.size≤a)→
   wpAny c.M (A.deeper e) (execs ds e) (fun f s'=>match f with| .next=>Q .none s'| .ret v=>Q v s'|_=>False) NE s1):
  fnIn c.K (c.S.fa f)=true∧codeAny c.M A (.call (.ref (c.S.fa f)) ⟨vs,[]⟩) (wants Q NE) s:=by
 obtain⟨fd,oc,od,pL,ho,D,hbt⟩:=hF.obj
 have K1:=I.eA C
 refine⟨TJ ho,Tp (by have:=ao.dep;lia) (K1 _ _ ho) rfl (C.lim.keeps I.base) (codeRec_of K1 D.code) D.body (hbt s vs K1 ((j8 P).trans el.symm)) D.eM (by rw[D.names];exact PW C hF.loc) (fun s1 x=> ?_) D.co D.gen D.kind⟩
 have a2:cp (A.deeper (callEnvC fd s.heap.objs.size (c.S.fa f))) (4*m+2):=cp.deeper (m:=4*m+2) ao _
 refine RA C (n:=m) hF.loc hF.nd hF.Eb ⟨congrArg (fun z=>cellsFrom (s.heap.objs.size+1) z []) D.names,fun y=>congrArg (fun z=>Pn y z) D.names,D.kind,D.glob,D.blt⟩ a2 I hl P x fun a T keep fresh=> ?_
 refine ay (body _ s1 (a.mpr a2) T keep fresh) fun f s' w=> ?_
 induction f with
 |next=>exact w
 |ret v=>exact w
 |brk=>exact w.elim
 |cont=>exact w.elim
theorem Fs(C:ax c){m:Nat}{d:Fn}(B:BodyOk c n f d){ih:aX}(Y:br c m ih){k:K}
  (ao:cp A (4*(m+1)))(I:Inv c X ad h s)(hl:bY c s)(P:c.VL X ad s.heap vs as)(q:c.Ok (lX c.P n ih (some d) as h k)):
  fnIn c.K (c.S.fa f)=true∧codeAny c.M A (.call (.ref (c.S.fa f)) ⟨vs,[]⟩) (wants (aF c X ad s k) NE) s:=by
 refine eP B.ok fun sc ds F BV=> ?_
 refine ai (FL q) fun el q=> ?_
 refine zY C (m:=m) F (ao.less (by lia)) I hl P el fun e s1 a T _ fresh=> ?_
 have fin:∀{v:Value}{s':Shared}{V:SV}{h':Hp}{ae:Ad}{X':List Addr},c.Ok (k V h')→c.VR X' ae s'.heap v V→Inv c X' ae h' s'→Step (aV e) (aV e++X) ad s1 X' ae s'→aF c X ad s k v s':=fun q r J' T'=>
  ⟨_,_,_,_,q,r,J',Step.C4 (D:=[]) (T.nil.trans T') fresh⟩
 refine ay (BV m ih Y a q) fun f s' w=> ?_
 induction f with
 |next=>obtain⟨aD,h',ae,X',q',F',J',T'⟩:=w;exact fin q' .none J' T'
 |ret v=>obtain⟨V,h',ae,X',q',r',J',T'⟩:=w;exact fin q' r' J' T'
 |brk=>exact w.elim
 |cont=>exact w.elim
end
end
section
section
variable{m:Nat}
theorem UW(b:Bool)(p:Pos):aO c m sc cl n (K7 b) (.Dict [] [] p):=fun{A e X ad s env h k}a q=>by
 refine wpAny_Dict_empty ?_
 have q:=n3 q
 rw[len_eq] at q
 have hx:(s.heap.push {cls:= .type "dict",data:= .dict #[]}).get? s.heap.objs.size=some {cls:= .type "dict",data:= .dict #[]}:=gE rfl
 have z:=fI s {cls:= .type "dict",data:= .dict #[]}
 induction b with
 |true=>
  obtain⟨J,T,hp⟩:=a.inv.new (p:=(s.heap.objs.size,s.heap.objs.size)) (o:= .cb []) (g:=s.heap.push {cls:= .type "dict",data:= .dict #[]}) (t:=s.toks) (bb _) (bb _) z z a.low (fun b o e=>ec e)
   ⟨rfl,[],Heap.DictOf.new _,fun x V e=>(by(exfalso;injection e)),fun _ _=>rfl⟩
  exact⟨_,_,_,_,q,.ref hp,J,T⟩
 |false=>
  obtain⟨J,T,hp⟩:=a.inv.new (p:=(s.heap.objs.size,s.heap.objs.size)) (o:= .cz true []) (g:=s.heap.push {cls:= .type "dict",data:= .dict #[]}) (t:=s.toks) (bb _) (bb _) z z a.low (fun b o e=>ec e)
   ⟨rfl,[],Heap.DictOf.new _,fun x e=>(by exact(aP e).elim),fun _ _ _=>rfl⟩
  exact⟨_,_,_,_,q,.ref hp,J,T⟩
end
end
section
noncomputable abbrev Sc:=List (Nat×NameKind)
structure Pm where
 gp:Nat→Nat→Bool
 ia:Nat→Bool
 bi:Nat→Nat→Bool
structure WM where
 e:Bool
 t:Bool
 i:Bool→Bool
 g:Bool
structure Z2 where
 l:Bool
 t:Bool
 a:Bool
 q:List CmpOp→Bool
 g:Bool
noncomputable section
noncomputable def dh(v:ME):Bool:=ag v.ctorIdx 24
noncomputable def oneOf(l:List Nat)(n:Nat):Bool:=List.rec false (fun a _ ih=>Bool.rec ih true (ag a n)) l
noncomputable def isVal(v:ME):Bool:= !oneOf [6,8,10,15,23] v.ctorIdx
noncomputable def jq(v:ME):Bool:=ag v.ctorIdx 11
noncomputable def Cm(v:ME):Bool:=oneOf [4,5,19] v.ctorIdx
noncomputable def xG:ME→Bool
 | .call f as _=> !dh f&& !as.isEmpty
 | .iter .. =>false
 | .raw _=>false
 |_=>true
noncomputable def n9(v:ME):Bool:=ag v.ctorIdx 14
mutual
noncomputable def lb:ME→List Nat
 | .loc x _=>[x]
 | .tup ts _ _=>Dd ts
 |_=>[]
noncomputable def Dd:List ME→List Nat
 | []=>[]
 |t::r=>lb t++Dd r
end
variable(Q:Pm)
mutual
noncomputable def wM:ME→Sc→WM
 | .none _ _,sc=>⟨true,true,fun _=>true,false⟩
 | .bool _ _ _,sc=>⟨true,true,fun _=>true,false⟩
 | .int _ _ _,sc=>⟨true,true,fun _=>true,false⟩
 | .str _ _ _,sc=>⟨true,true,fun _=>true,false⟩
 | .loc x _,sc=>⟨qY sc x,qY sc x,fun _=>qY sc x,ef sc x⟩
 | .eG x g _,sc=>let b:=Q.gp x g&&ck sc x==some .globalImplicit;⟨b,b,fun _=>b,false⟩
 | .o4 a es _,sc=>⟨(dB es sc).l&& !es.isEmpty,(dB es sc).t,fun _=>false,false⟩
 | .bin _ _ l r _,sc=>let b:=(wM l sc).e&&(wM r sc).e;⟨b,b,fun _=>b,false⟩
 | .not e _,sc=>⟨(wM e sc).e&&isVal e,(wM e sc).t,fun _=>false,false⟩
 | .neg e _,sc=>let b:=(wM e sc).e;⟨b,b,fun _=>b,false⟩
 | .pF t b o _,sc=>⟨(wM t sc).t&&(wM b sc).e&&(wM o sc).e,false,fun _=>(wM t sc).t&&(wM b sc).e&&(wM o sc).e,false⟩
 | .tup es _ _,sc=>let b:=(dB es sc).l&&decide (es.length≤1000);⟨b,b,fun _=>b,(dB es sc).g⟩
 | .lst _ es _,sc=>let b:=(dB es sc).l&&decide (es.length≤1000);⟨b,b,fun _=>b,false⟩
 | .f3 _ _,sc=>⟨true,true,fun _=>true,false⟩
 | .comp elt t it ifs scC _,sc=>
  let b:=eX sc scC&&(lb t).all (fun x=>(bL scC).contains x)&&(wM it sc).i (jq t)&&(wM t (ba scC)).g&&(wM elt (ba scC)).e&&(dB ifs (ba scC)).a
  ⟨b,b,fun _=>b,false⟩
 | .cmp l ops rs _,sc=>let b:=(wM l sc).e&&(dB rs sc).q ops;⟨b,b,fun _=>false,false⟩
 | .call f as _,sc=>let b:=Cm f&&(wM f sc).e&&(dB as sc).l;⟨b,b,fun _=>b,false⟩
 | .oO o x ap as p,sc=>let b:=xG o&&(wM o sc).e&&Q.ia x&&(dB as sc).l&&decide (as.length<30)&&ap.endLine==p.line;⟨b,b,fun _=>b,false⟩
 | .fZ o x _,sc=>let b:=xG o&&(wM o sc).e&&Q.ia x;⟨b,b,fun _=>b,false⟩
 | .sub o i _,sc=>let b:=(wM o sc).e&&(wM i sc).e&& !dh i;⟨b,b,fun _=>b,false⟩
 | .fj _ o l u s _ _,sc=>let b:=(wM o sc).e&&(wM l sc).e&&(wM u sc).e&&(wM s sc).e;⟨b,b,fun _=>b,false⟩
 | .rep _ _ es _ _ r _,sc=>let b:=(dB es sc).l&&decide (es.length≤1000)&&(wM r sc).e;⟨b,b,fun _=>b,false⟩
 | .absent,sc=>⟨true,true,fun _=>true,false⟩
 | .iter b x g as _ _,sc=>⟨false,false,fun tu=>Q.gp x g&&Q.bi g b&&ck sc x==some .globalImplicit&&(dB as sc).l&&(tu|| !(b==5||b==6)),false⟩
 | .raw _,sc=>⟨true,false,fun _=>false,false⟩
noncomputable def dB:List ME→Sc→Z2
 | [],sc=>⟨true,true,true,fun _=>false,true⟩
 |e::r,sc=>⟨(wM e sc).e&&(dB r sc).l&& !dh e,(wM e sc).t&&(dB r sc).t,(wM e sc).t&&r.isEmpty,
   fun ops=>match ops with
    | []=>false
    |op::ops=>(wM e sc).e&&(cond ops.isEmpty r.isEmpty ((dB r sc).q ops))&& !dh e,(wM e sc).g&&(dB r sc).g⟩
end
end
end
section
noncomputable def CA(v:SV)(b:Nat):Bool:=match v with
 | .bi b'=>b'==b
 |_=>false
noncomputable def dH(c:Cx):Pm:=⟨c.S.gp,c.S.ia,fun g b=>CA (c.P.eG g) b⟩
theorem TU{v:SV}{b:Nat}(h:CA v b=true):v= .bi b:=by
 induction v using SV.casesOn<;>first|exact nf h|skip
 rename_i b'
 have:b'=b:=beq_iff_eq.mp h
 rw[this]
noncomputable def uw(v:ME):Bool:=oneOf [4,11,18,19] v.ctorIdx
section
variable{P:ME→Prop} {v:ME}
theorem kE(v:ME)(h0:∀x,P (.raw x))(h1:∀elt t it ifs sc p,P (.comp elt t it ifs sc p))(h2:P .absent)(h3:∀ts k q,P (.tup ts k q))(h4:∀x q,P (.loc x q))(h5:∀o x q,P (.fZ o x q))(h6:∀o i q,P (.sub o i q))
  (h7:dh v=false→n9 v=false→qw v=false→jq v=false→uw v=false→P v):P v:=by
 induction v using ME.casesOn<;>first|exact h0 _|exact h1 _ _ _ _ _ _|exact h2|exact h3 _ _ _|exact h4 _ _|exact h5 _ _ _|exact h6 _ _ _|exact h7 rfl rfl rfl rfl rfl
theorem ft{P:Prop}(h:b=true)(z:b=false):P:=by subst h;exact nf z.symm
@[elab_as_elim] theorem LS(h:dh v=true)(k:∀x,P (.raw x)):P v:=
 kE (P:=fun v=>dh v=true→P v) v (fun x _=>k x) (fun _ _ _ _ _ _=>nf) nf (fun _ _ _=>nf) (fun _ _=>nf) (fun _ _ _=>nf) (fun _ _ _=>nf) (fun z _ _ _ _ h=>ft h z) h
@[elab_as_elim] theorem Mk(h:jq v=true)(k:∀vs k p,P (.tup vs k p)):P v:=
 kE (P:=fun v=>jq v=true→P v) v (fun _=>nf) (fun _ _ _ _ _ _=>nf) nf (fun _ _ _ _=>k _ _ _) (fun _ _=>nf) (fun _ _ _=>nf) (fun _ _ _=>nf) (fun _ _ _ z _ h=>ft h z) h
@[elab_as_elim] theorem Yw(h:n9 v=true)(k:∀elt t it ifs sc p,P (.comp elt t it ifs sc p)):P v:=
 kE (P:=fun v=>n9 v=true→P v) v (fun _=>nf) (fun _ _ _ _ _ _ _=>k _ _ _ _ _ _) nf (fun _ _ _=>nf) (fun _ _=>nf) (fun _ _ _=>nf) (fun _ _ _=>nf) (fun _ z _ _ _ h=>ft h z) h
@[elab_as_elim] theorem KZ(h:qw v=true)(k:P .absent):P v:=
 kE (P:=fun v=>qw v=true→P v) v (fun _=>nf) (fun _ _ _ _ _ _=>nf) (fun _=>k) (fun _ _ _=>nf) (fun _ _=>nf) (fun _ _ _=>nf) (fun _ _ _=>nf) (fun _ _ z _ _ h=>ft h z) h
@[elab_as_elim] theorem Mj(v:ME)(h1:∀x q,P (.loc x q))(h2:∀ts k q,P (.tup ts k q))(h3:∀o x q,P (.fZ o x q))(h4:∀o i q,P (.sub o i q))(h5:uw v=false→P v):P v:=
 kE (P:=fun v=>(uw v=false→P v)→P v) v (fun _ k=>k rfl) (fun _ _ _ _ _ _ k=>k rfl) (fun k=>k rfl) (fun _ _ _ _=>h2 _ _ _) (fun _ _ _=>h1 _ _) (fun _ _ _ _=>h3 _ _ _) (fun _ _ _ _=>h4 _ _ _) (fun _ _ _ _ z k=>k z) h5
end
theorem LO{a:Bool}(e:a=false)(h:(a||b)=true):b=true:=by subst e;exact h
theorem Iu{Q:Pm}{it:ME}{sc:Sc}(h:(wM Q it sc).i b=true):dh it=false:=by
 induction it using ME.casesOn<;>first|rfl|exact nf h
section
variable(nm:Nat→Str)
theorem AF{x:ME}(h:dh x=false)(ds:List PySem.Expr)(e:Env):starEach (az nm x::ds) e=(false,eval (az nm x) e)::starEach ds e:=by
 induction x using ME.casesOn<;>first|exact nf h|exact nf (Eq.symm h)|cases h;done|rfl
theorem PB{x:ME}(h:isVal x=true)(hr:dh x=false)(e:Env)(w:Sem Value):isTrue (az nm x) e w=(do let v←w;standAt (az nm x).pos;holding [v] (truthy v)):=by
 induction x using ME.casesOn<;>first|exact nf hr|exact nf (Eq.symm hr)|exact nf h|exact nf (Eq.symm h)|cases hr;done|cases h;done|rfl
theorem Gi{x:ME}(h:xG x=true)(a:Str)(e:Env)(w:Sem Value):attributeBase (az nm x) a e w=w:=by
 induction x using ME.casesOn<;>first|rfl|exact nf h|exact nf (Eq.symm h)|exact nn h|(cases h;done)|skip
 rename_i f as p
 induction as using List.casesOn with
 |nil=>revert h;unfold xG;simp
 |cons b r=>induction f using ME.casesOn<;>first|rfl|(exact nf h;done)
theorem PM{x:ME}(h:dh x=false)(v u:Value):subscripted (az nm x) false v u=operate [v,u] (getItem v u):=by
 induction x using ME.casesOn<;>first|exact nf h|exact nf (Eq.symm h)|exact nn h|(cases h;done)|rfl
theorem Pu{x:ME}(h:dh x=false)(op:CmpOp):behindInMarks op (az nm x)=false:=by
 induction x using ME.casesOn<;>first|exact nf h|exact nf (Eq.symm h)|exact nn h|(cases h;done)|rfl
theorem r9{x:ME}(h:dh x=false)(e:Env)(v:Value):foldedSetIterable (az nm x) e v=pure v:=by
 induction x using ME.casesOn<;>first|exact nf h|exact nf (Eq.symm h)|exact nn h|(cases h;done)|rfl
theorem Al{f:ME}(h:Cm f=true)(as:List PySem.Expr)(p:Pos)(e:Env):eval (.Call (az nm f) as [] p) e=(do callWith p (←eval (az nm f) e) [] (backTo p (starEach as e)) []):=by
 induction f using ME.casesOn<;>first|rfl|exact nf h
end
theorem IE{nm:Nat→Str}{t:ME}(z:jq t=true):hS (az nm t)=true:=Mk z fun _ _ _=>rfl
theorem Ul{x:Str}{ap p:Pos}(hb:∀w,attributeBase d x e w=w)(hr:Rows ds)(hl:ds.length<30)(hp:(ap.endLine==p.line)=true):
  ∃pl,eval (.Call (.Attribute d x ap) ds [] p) e=(do
   let ov←eval d e
   standAt ap.atName
   let(f,first)←holding [ov] (getMethod ov x pl)
   callWith p f first (backTo p (starEach ds e)) []):=by
 refine⟨(do return (←importBound d e).getD true),?_⟩
 rw[arm_eval_Call,hb]
 have Xb:methodCallForm (ds.length+([]:List Keyword).length) (backTo p (starEach ds e)) (backToKw p (keywordEach [] e))=true:=by
  unfold methodCallForm
  have h1:=hr.all e p
  have h2:(backTo p (starEach ds e)).all (fun x=> !x.1)=true:=by
   rw[aM]
   intro x hx
   have:=List.any_eq_false.mp h1 x hx
   simpa using this
  rw[h2]
  show(true&&true&&decide (ds.length+0+0<30))=true
  simpa using hl
 have YM:methodCallPos true d e ap p=pure p:=by unfold methodCallPos;simp[hp]
 unfold methodCall
 rw[Xb,YM]
 rfl
end
section
section
variable(c:Cx) (m:Nat) (cl:aX) (n:Nat)
structure SM(x:ME)(sc:Sc):Prop where
 e:(wM (dH c) x sc).e=true→aO c m sc cl n (cM x).e (az c.S.nm x)
 t:(wM (dH c) x sc).t=true→jy c m sc cl n (cM x).t (az c.S.nm x)
 i:∀aH tu,(wM (dH c) x sc).i tu=true→(tu=true→hS aH=true)→fL c m sc cl n (cM x).i (az c.S.nm x) aH
 g:(wM (dH c) x sc).g=true→eW c sc (lb x) (cT x) (az c.S.nm x)
structure Mz(xs:List ME)(sc:Sc):Prop where
 l:(dB (dH c) xs sc).l=true→ij c m sc cl n (cQ xs).l (bO c.S.nm xs)∧Rows (bO c.S.nm xs)
 o:∀a,(dB (dH c) xs sc).l=true→xs≠ []→tX c m sc cl n a ((cQ xs).o a) (bO c.S.nm xs)
 t:∀a,(dB (dH c) xs sc).t=true→tV c m sc cl n a ((cQ xs).t a) (bO c.S.nm xs)
 a:(dB (dH c) xs sc).a=true→jn c m sc cl n (cQ xs).all (bO c.S.nm xs)
 q:∀ops,(dB (dH c) xs sc).q ops=true→oH c m sc cl n ((cQ xs).q ops) ops (bO c.S.nm xs)∧lastMarks ops (bO c.S.nm xs)=false
 g:(dB (dH c) xs sc).g=true→qj c sc (Dd xs) (nr xs) (bO c.S.nm xs)
end
section
variable{c:Cx} {m:Nat} {cl:aX} {n:Nat}
theorem sH(nm:Nat→Str):∀xs:List ME,(bO nm xs).length=xs.length
 | []=>rfl
 |x::r=>by show(bO nm r).length+1=_;rw[sH nm r];rfl
theorem UR{sc:Sc}:aO c m sc cl n mQ d:=fun _ _ _ _ _ _ _ _ a q=>(a0 q).elim
theorem SM.val(C:ax c){x:ME}{sc:Sc}{D:Internal.C}(hc:cM x=d9 D)(hw:wM (dH c) x sc=⟨b,b,fun _=>b,false⟩)(hv:isVal x=true)(hr:dh x=false)(he:b=true→aO c m sc cl n D (az c.S.nm x)):SM c m cl n x sc where
 e:=by rw[hc,hw];exact he
 t:=by rw[hc,hw];exact fun h=>AE (he h) fun e w=>PB c.S.nm hv hr e w
 i:=by rw[hc,hw];exact fun aH tu h _=>v7 C (he h)
 g:=by rw[hw];exact fun h=>nomatch h
theorem aQ{a:Bool}(h:(a&&b)=true):a=true∧b=true:=by simpa using h
theorem a1{a b:Bool}{P:Prop}(q:(a&&b)=true)(H:a=true→b=true→P):P:=H (aQ q).1 (aQ q).2
theorem gS{a b c:Bool}{P:Prop}(q:(a&&b&&c)=true)(H:a=true→b=true→c=true→P):P:=a1 (aQ q).1 fun xa xb=>H xa xb (aQ q).2
theorem MH{a b c:Bool}(q:(a&&(b&&c))=true)(H:a=true→b=true→c=true→P):P:=a1 (aQ q).2 (H (aQ q).1)
theorem yA{a b c d:Bool}(q:(a&&b&&c&&d)=true)(H:a=true→b=true→c=true→d=true→P):P:=gS (aQ q).1 fun xa xb xc=>H xa xb xc (aQ q).2
theorem MI{a b c d:Bool}(q:(a&&(b&&(c&&d)))=true)(H:a=true→b=true→c=true→d=true→P):P:=MH (aQ q).2 (H (aQ q).1)
theorem Dv{a b c d e:Bool}(q:(a&&b&&c&&d&&e)=true)(H:a=true→b=true→c=true→d=true→e=true→P):P:=yA (aQ q).1 fun xa xb xc xd=>H xa xb xc xd (aQ q).2
theorem Dw{a b c d e:Bool}(q:(a&&(b&&(c&&(d&&e))))=true)(H:a=true→b=true→c=true→d=true→e=true→P):P:=MI (aQ q).2 (H (aQ q).1)
theorem MG{a b c d e f:Bool}(q:(a&&b&&c&&d&&e&&f)=true)(H:a=true→b=true→c=true→d=true→e=true→f=true→P):P:=Dv (aQ q).1 fun xa xb xc xd xe=>H xa xb xc xd xe (aQ q).2
theorem Z4{a b c d e f:Bool}(q:(a&&(b&&(c&&(d&&(e&&f)))))=true)(H:a=true→b=true→c=true→d=true→e=true→f=true→P):P:=Dw (aQ q).2 (H (aQ q).1)
theorem Z5{a b c d e f g:Bool}(q:(a&&(b&&(c&&(d&&(e&&(f&&g))))))=true)(H:a=true→b=true→c=true→d=true→e=true→f=true→g=true→P):P:=Z4 (aQ q).2 (H (aQ q).1)
theorem Z6{a b c d e f g h:Bool}(q:(a&&(b&&(c&&(d&&(e&&(f&&(g&&h)))))))=true)(H:a=true→b=true→c=true→d=true→e=true→f=true→g=true→h=true→P):P:=Z5 (aQ q).2 (H (aQ q).1)
theorem MJ{a b c d e f g h i:Bool}{P:Prop}(q:(a&&(b&&(c&&(d&&(e&&(f&&(g&&(h&&i))))))))=true)(H:a=true→b=true→c=true→d=true→e=true→f=true→g=true→h=true→i=true→P):P:=Z6 (aQ q).2 (H (aQ q).1)
theorem Se:Rows ([]:List PySem.Expr):=⟨fun _ _=>rfl,fun _ _ _ h=>by(exfalso;injection h)⟩
theorem QG{x:ME}{nm:Nat→Str}(h:dh x=false)(hr:Rows ds):Rows (az nm x::ds) where
 all:=fun e p=>by
  rw[AF nm h]
  show(List.any _ _:Bool)=false
  unfold backTo
  rw[fo,vy]
  exact(OW _).trans (hr.all e p)
 cons:=fun e d r z=>by
  (injection z with e1 e2;subst e1;subst e2)
  exact⟨_,AF nm h ds e⟩
theorem part_of{sc:Sc}{x:ME}(h:SM c m cl n x sc)(w:(wM (dH c) x sc).e=true):qE c m sc cl n (cM x).e (mX x (az c.S.nm x)):=by
 unfold mX
 induction q:qw x using Bool.casesOn with
 |true=>exact KZ q (PK (cl:=cl) (n:=n))
 |false=>exact Sm (h.e w)
theorem Q0{a b:List Nat}(h:a.all (fun x=>b.contains x)=true):∀x∈a,x∈b:=fun x m=>by
 have:=aM.mp h x m
 simpa using this
theorem Je{it t elt:ME}{ifs:List ME}{sc scC:Sc}(H1:SM c m cl n it sc)(H2:SM c m cl n t (ba scC))(H3:SM c m cl n elt (ba scC))(H4:Mz c m cl n ifs (ba scC))
  (h:(eX sc scC&&(lb t).all (fun x=>(bL scC).contains x)&&(wM (dH c) it sc).i (jq t)&&(wM (dH c) t (ba scC)).g&&(wM (dH c) elt (ba scC)).e&&(dB (dH c) ifs (ba scC)).a)=true):
  AG c m sc scC cl n (lb t) (cM it).i (cT t) (cM elt).e (cQ ifs).all (az c.S.nm it) (az c.S.nm t) (az c.S.nm elt) (bO c.S.nm ifs):=
 MG h fun h1 h2 h3 h4 h5 h6=>⟨h1,Q0 h2,H1.i _ _ h3 IE,H2.g h4,H3.e h5,H4.a h6,r9 c.S.nm (Iu h3)⟩
mutual
theorem sM(C:ax c)(Y:br c m cl)(hn:n≤100000):∀(x:ME)(sc:Sc),SM c m cl n x sc
 | .none k p,sc=>SM.val C rfl rfl rfl rfl fun _=>Hb k p
 | .bool b k p,sc=>SM.val C rfl rfl rfl rfl fun _=>Sk b k p
 | .int i k p,sc=>SM.val C rfl rfl rfl rfl fun _=>UZ i k p
 | .str i k p,sc=>SM.val C rfl rfl rfl rfl fun _=>U6 i k p
 | .absent,sc=>SM.val C rfl rfl rfl rfl fun _=>Hb _ _
 | .f3 b p,sc=>SM.val C rfl rfl rfl rfl fun _=>UW b p
 | .loc x p,sc=>⟨fun h=>A9 (cl:=cl) (n:=n) C x p h,fun h=>AE (A9 (cl:=cl) (n:=n) C x p h) fun e w=>rfl,fun aH tu h _=>v7 (cl:=cl) (n:=n) C (A9 (cl:=cl) (n:=n) C x p h),fun h=>tm C h⟩
 | .eG x g p,sc=>SM.val C rfl rfl rfl rfl fun h=>UX C p (aQ h).1 (beq_iff_eq.mp (aQ h).2)
 | .bin op b l r p,sc=>SM.val C rfl rfl rfl rfl fun h=>US C ((sM C Y hn l sc).e (aQ h).1) ((sM C Y hn r sc).e (aQ h).2)
 | .neg x p,sc=>SM.val C rfl rfl rfl rfl fun h=>U1 ((sM C Y hn x sc).e h)
 | .lst b es p,sc=>SM.val C rfl rfl rfl rfl fun h=>U0 C ((gw C Y hn es sc).l (aQ h).1).1 (by rw[sH];exact of_decide_eq_true (aQ h).2)
 | .tup es k p,sc=>by
  have he:((dB (dH c) es sc).l&&decide (es.length≤1000))=true→aO c m sc cl n (Ck (cQ es).l) (.Tuple (bO c.S.nm es) k p):=fun h=>U8 ((gw C Y hn es sc).l (aQ h).1).1 (by rw[sH];exact of_decide_eq_true (aQ h).2)
  exact⟨he,fun h=>AE (he h) fun e w=>rfl,fun aH tu h _=>v7 C (he h),fun h=>JK C ((gw C Y hn es sc).g h)⟩
 | .sub o i p,sc=>SM.val C rfl rfl rfl rfl fun h=>by
   refine gS h fun h1 h2 h3=> ?_
   exact U7 C ((sM C Y hn o sc).e h1) ((sM C Y hn i sc).e h2) fun v u=>PM c.S.nm (by simpa using h3) v u
 | .fj b o l u st sp p,sc=>SM.val C rfl rfl rfl rfl fun h=>by
   refine yA h fun h1 h2 h3 h4=> ?_
   exact U5 C ((sM C Y hn o sc).e h1) (part_of (sM C Y hn l sc) h2) (part_of (sM C Y hn u sc) h3) (part_of (sM C Y hn st sc) h4)
 | .rep t b es k lp r p,sc=>SM.val C rfl rfl rfl rfl fun h=>by
   refine gS h fun h1 h2 h3=> ?_
   exact U3 C ((gw C Y hn es sc).l h1).1 (by rw[sH];exact of_decide_eq_true h2) ((sM C Y hn r sc).e h3)
 | .fZ o x p,sc=>SM.val C rfl rfl rfl rfl fun h=>by
   refine gS h fun h1 h2 h3=> ?_
   exact UQ C ((sM C Y hn o sc).e h2) h3 fun e w=>Gi c.S.nm h1 _ e w
 | .call f as p,sc=>SM.val C rfl rfl rfl rfl fun h=>by
   refine gS h fun h1 h2 h3=> ?_
   refine ai ((gw C Y hn as sc).l h3) fun l1 l2=> ?_
   exact G8 C Y ((sM C Y hn f sc).e h2) l1 l2 fun e=>Al c.S.nm h1 _ p e
 | .oO o x ap as p,sc=>SM.val C rfl rfl rfl rfl fun h=>by
   refine MG h fun h1 h2 h3 h4 h5 h6=> ?_
   refine ai ((gw C Y hn as sc).l h4) fun l1 l2=> ?_
   exact Sl C Y ((sM C Y hn o sc).e h2) l1 l2 h3 fun e=>Ul (fun w=>Gi c.S.nm h1 _ e w) l2 (by rw[sH];exact of_decide_eq_true h5) h6
 | .comp elt t it ifs scC p,sc=>SM.val C rfl rfl rfl rfl fun h=>by
   exact G9 C hn (Je (sM C Y hn it sc) (sM C Y hn t (ba scC)) (sM C Y hn elt (ba scC)) (gw C Y hn ifs (ba scC)) h)
 | .o4 a es p,sc=>by
  refine⟨fun h=> ?_,fun h=>Sw ((gw C Y hn es sc).t a h),fun _ _ h _=>absurd h eQ,fun h=>absurd h eQ⟩
  refine a1 h fun h1 h2=> ?_
  exact UT ((gw C Y hn es sc).o a h1 (by intro z;rw[z] at h2;exact nf h2))
 | .not x p,sc=>by
  refine⟨fun h=> ?_,fun h=>Sz ((sM C Y hn x sc).t h),fun _ _ h _=>absurd h eQ,fun h=>absurd h eQ⟩
  refine a1 h fun h1 h2=> ?_
  exact U2 ((sM C Y hn x sc).e h1) (by induction x using ME.casesOn<;>first|rfl|exact nf h2)
 | .pF t b o p,sc=>by
  have he:((wM (dH c) t sc).t&&(wM (dH c) b sc).e&&(wM (dH c) o sc).e)=true→aO c m sc cl n (xJ (cM t).t (cM b).e (cM o).e) (.IfExp (az c.S.nm t) (az c.S.nm b) (az c.S.nm o) p):=fun h=>by
   refine gS h fun h1 h2 h3=> ?_
   exact UY ((sM C Y hn t sc).t h1) ((sM C Y hn b sc).e h2) ((sM C Y hn o sc).e h3)
  exact⟨he,fun h=>absurd h eQ,fun aH tu h _=>v7 C (he h),fun h=>absurd h eQ⟩
 | .cmp l ops rs p,sc=>by
  have key:((wM (dH c) l sc).e&&(dB (dH c) rs sc).q ops)=true→aO c m sc cl n (cM l).e (az c.S.nm l)∧oH c m sc cl n ((cQ rs).q ops) ops (bO c.S.nm rs)∧lastMarks ops (bO c.S.nm rs)=false:=fun h=>⟨(sM C Y hn l sc).e (aQ h).1,(gw C Y hn rs sc).q ops (aQ h).2⟩
  exact⟨fun h=>UU (key h).1 (key h).2.1 (key h).2.2,fun h=>Sx (key h).1 (key h).2.1 (key h).2.2,fun _ _ h _=>absurd h eQ,fun h=>absurd h eQ⟩
 | .iter b x g as q p,sc=>by
  refine⟨fun h=>absurd h eQ,fun h=>absurd h eQ,fun aH tu h ht=> ?_,fun h=>absurd h eQ⟩
  refine Dv h fun h1 h2 h3 h4 h5=> ?_
  refine ai ((gw C Y hn as sc).l h4) fun l1 l2=> ?_
  refine QP C h1 (TU h2) (beq_iff_eq.mp h3) l1 l2 fun z=>ht ?_
  rcases z with z|z<;>(rw[z] at h5;simpa using h5)
 | .raw x,sc=>⟨fun _=>UR (cl:=cl) (n:=n),fun h=>absurd h eQ,fun _ _ h _=>absurd h eQ,fun h=>absurd h eQ⟩
theorem gw(C:ax c)(Y:br c m cl)(hn:n≤100000):∀(xs:List ME)(sc:Sc),Mz c m cl n xs sc
 | [],sc=>⟨fun _=>⟨Iq (cl:=cl) (n:=n),Se⟩,fun _ _ z=>absurd rfl z,fun a _=>Sy (cl:=cl) (n:=n) a,fun _=>Si (cl:=cl) (n:=n),fun _ h=>absurd h eQ,fun _=>JJ⟩
 |x::r,sc=>by
  have X:=sM C Y hn x sc
  have R:=gw C Y hn r sc
  refine⟨fun h=> ?_,fun a h _=> ?_,fun a h=> ?_,fun h=> ?_,fun ops h=> ?_,fun h=> ?_⟩
  ·refine gS h fun h1 h2 h3=> ?_
   have h3:dh x=false:=by simpa using h3
   refine ai (R.l h2) fun l1 l2=> ?_
   exact⟨Ha (X.e h1) l1 fun e=>AF c.S.nm h3 _ e,QG h3 l2⟩
  ·refine gS h fun h1 h2 h3=> ?_
   induction r using List.casesOn with
   |nil=>exact QM (X.e h1)
   |cons y r=>exact QN (X.e h1) (R.o a h2 (by simp))
  ·refine a1 h fun h1 h2=> ?_
   exact QT (X.t h1) (R.t a h2)
  ·refine a1 h fun h1 h2=> ?_
   induction r using List.casesOn with
   |nil=>exact Sj (X.t h1)
   |cons y r=>exact nf h2
  ·induction ops using List.casesOn with
   |nil=>exact nf h
   |cons op ops=>
    refine gS h fun h1 h2 h3=> ?_
    have h3:dh x=false:=by simpa using h3
    induction ops using List.casesOn with
    |nil=>
     induction r using List.casesOn with
     |nil=>exact⟨QQ C (X.e h1),Pu c.S.nm h3 op⟩
     |cons y r=>exact nf h2
    |cons yS ops=>
     refine ai (R.q (yS::ops) h2) fun q1 q2=> ?_
     induction r using List.casesOn with
     |nil=>exact nf h2
     |cons y r=>exact⟨QR C (X.e h1) q1,q2⟩
  ·refine a1 h fun h1 h2=> ?_
   exact IB (X.g h1) (R.g h2)
end
end
end
section
noncomputable def ik:Nat→ME→Bool
 |_,.loc .. =>true
 |_,.eG .. =>true
 |_,.call .. =>true
 |_,.oO .. =>true
 |_,.fZ .. =>true
 |_,.cmp .. =>true
 |_,.pF .. =>true
 |_,.lst .. =>true
 |_,.o4 .. =>true
 |_,.comp .. =>true
 |n+1,.bin _ _ l r _=>ik n l||ik n r
 |n+1,.neg e _=>ik n e
 |n+1,.not e _=>ik n e
 |n+1,.sub o i _=>ik n o||ik n i
 |_,_=>false
noncomputable def Ka(v:ME):Bool:=bq v.ctorIdx 4
theorem n8{nm:Nat→Str}(hd:∀x,(nm x==("__debug__":Str))=false):∀(n:Nat)(x:ME),ik n x=true→constantsAlone n (az nm x)=false
 |0,x,h=>by
  induction x using ME.casesOn<;>first|exact nf h|exact nf (Eq.symm h)|exact nn h|(cases h;done)|exact hd _|rfl
 |n+1,x,h=>by
  induction x using ME.casesOn<;>first|exact nf h|exact nf (Eq.symm h)|exact nn h|(cases h;done)|exact hd _|rfl|skip
  ·rename_i op b l r p
   have h:(ik n l||ik n r)=true:=h
   show(constantsAlone n (az nm l)&&constantsAlone n (az nm r))=false
   rcases vn.mp h with h|h
   ·rw[n8 hd n l h];rfl
   ·rw[n8 hd n r h,zJ]
  ·rename_i e p
   exact n8 hd n e h
  ·rename_i e p
   exact n8 hd n e h
  ·rename_i o i p
   have h:(ik n o||ik n i)=true:=h
   show(constantsAlone n (az nm o)&&constantsAlone n (az nm i))=false
   rcases vn.mp h with h|h
   ·rw[n8 hd n o h];rfl
   ·rw[n8 hd n i h,zJ]
theorem HH{nm:Nat→Str}(hd:∀x,(nm x==("__debug__":Str))=false):∀(xs:List ME),xs.any (ik 8)=true→(bO nm xs).all (constantsAlone 8)=false
 | [],h=>by exact nf h
 |x::r,h=>by
  rw[vy] at h
  show(az nm x::bO nm r).all _=false
  rw[rU]
  rcases vn.mp h with h|h
  ·rw[n8 hd 8 x h];rfl
  ·rw[HH hd r h,zJ]
theorem GG{nm:Nat→Str}:∀(xs:List ME),xs.all Ka=true→(bO nm xs).all (foldedForSure 8)=true
 | [],_=>rfl
 |x::r,h=>by
  rw[rU] at h
  refine a1 h fun h1 h2=> ?_
  show(az nm x::bO nm r).all _=true
  rw[rU,GG r h2]
  induction x using ME.casesOn<;>first|rfl|(exact nf h1;done)
theorem Jc{f:PySem.Expr→Option Str}{nm:Nat→Str}(hf:∀x p y,f (.Name x p)=some y→y=x):∀{xs:List (Nat×Pos)},((eZ nm xs).filterMap f).length=(eZ nm xs).length→(eZ nm xs).filterMap f=xs.map fun x=>nm x.1
 | [],_=>rfl
 |x::xs,h=>by
  have e1:eZ nm (x::xs)= .Name (nm x.1) x.2::eZ nm xs:=rfl
  rw[e1] at h⊢
  rw[ED] at h⊢
  induction q:f (.Name (nm x.1) x.2) using Option.casesOn with
  |none=>
   rw[q] at h
   have:=List.length_filterMap_le f (eZ nm xs)
   have h:((eZ nm xs).filterMap f).length=(eZ nm xs).length+1:=h
   lia
  |some y=>
   rw[q] at h
   have h:((eZ nm xs).filterMap f).length+1=(eZ nm xs).length+1:=h
   show y::_=nm x.1::_
   rw[hf _ _ _ q,Jc hf (xs:=xs) (by lia)]
theorem PN{nm:Nat→Str}{xs:List (Nat×Pos)}{k k':Nat}{tp p:Pos}(h:ds.all (foldedForSure 8)=true∨ds.all (constantsAlone 8)=false):
  swappedStores [.Tuple (eZ nm xs) k tp] (.Tuple ds k' p) e=pure none∨swappedStores [.Tuple (eZ nm xs) k tp] (.Tuple ds k' p) e=pure (some (xs.map fun x=>nm x.1)):=by
 unfold swappedStores
 dsimp only
 split
 ·exact .inl rfl
 split
 ·exact .inl rfl
 split
 ·exact .inl rfl
 rename_i h1 h2 h3
 split
 ·exact .inl rfl
 rename_i h4
 split
 ·rename_i h5
  rcases h with h|h
  ·exact absurd h h4
  ·rw[h] at h5;exact nf h5
 refine .inr ?_
 show pure (some _)=pure (some _)
 congr 2
 refine Jc (fun x p y z=> ?_) ?_
 ·dsimp only at z
  split at z
  ·exact(Option.some.inj z).symm
  ·(exfalso;injection z)
 ·simp only[zI,bne_iff_ne,ne_eq,not_or,Decidable.not_not] at h3
  exact h3.1
end
section
noncomputable def tf:List ME→Option (List (Nat×Pos))
 | []=>some []
 | .loc x p::r=>(tf r).map ((x,p)::·)
 |_=>none
noncomputable def qO:List Nat→Bool
 | []=>true
 |x::r=> !r.contains x&&qO r
theorem sO:∀{l:List Nat},qO l=true→l.Nodup
 | [],_=> .nil
 |x::r,h=>by
  refine @a1 _ _ _ h fun h1 h2=> ?_
  exact mA.mpr ⟨by simpa using h1,sO h2⟩
theorem FD:∀{ts:List ME}{xs:List (Nat×Pos)},tf ts=some xs→ts=xs.map fun x=> .loc x.1 x.2
 | [],xs,h=>by(injection h with e1;subst e1);rfl
 |t::r,xs,h=>by
  induction t using ME.casesOn<;>first|exact nf h|exact nf (Eq.symm h)|exact nn h|(cases h;done)|skip
  rename_i x p
  obtain⟨ys,h1,h2⟩:=jf.mp (show(tf r).map ((x,p)::·)=some xs from h)
  subst h2
  rw[FD h1];rfl
theorem HS:∀xs:List (Nat×Pos),nr (xs.map fun x=> .loc x.1 x.2)=locs xs
 | []=>rfl
 |x::r=>by
  show qA (jM x.1) (nr (r.map fun x=> .loc x.1 x.2))=_
  rw[HS r];rfl
theorem GQ(nm:Nat→Str):∀xs:List (Nat×Pos),bO nm (xs.map fun x=> .loc x.1 x.2)=eZ nm xs
 | []=>rfl
 |x::r=>by
  show .Name (nm x.1) x.2::bO nm (r.map fun x=> .loc x.1 x.2)=_
  rw[GQ nm r];rfl
noncomputable def C8(sc:Sc)(ts vs:List ME):Bool:=match tf ts with
 |some xs=>xs.all (fun x=>ef sc x.1)&&qO (xs.map (·.1))&&(vs.all Ka||vs.any (ik 8))
 |none=>false
variable(Q:Pm)
noncomputable def ZK:ME→List ME
 | .tup vs _ _=>vs
 |_=>[]
noncomputable def wTp(t v:ME)(sc:Sc):Bool:=match t with
 | .loc x _=>ef sc x&&(wM Q v sc).e
 | .tup ts k q=>cond (jq v) (C8 sc ts (ZK v)) (wM Q (.tup ts k q) sc).g&&(wM Q v sc).e
 | .fZ o x _=>(wM Q o sc).e&&Q.ia x&&(wM Q v sc).e
 | .sub o i _=>(wM Q o sc).e&&(wM Q i sc).e&&(wM Q v sc).e
 |_=>true
noncomputable def Mn(t v:ME)(sc:Sc):Bool:=dh v||wTp Q t v sc
mutual
noncomputable def wS:MS→Sc→Bool
 | .asg t v _,sc=>Mn Q t v sc
 | .aug x _ _ v _,sc=>(wM Q v sc).e&&ef sc x
 | .ret v _,sc=>(wM Q v sc).e
 | .iff t b o _,sc=>(wM Q t sc).t&&wSs b sc&&wSs o sc
 | .cj t b _,sc=>(wM Q t sc).t&&wSs b sc
 | .for t it b _,sc=>(wM Q t sc).g&&(wM Q it sc).i (jq t)&&wSs b sc
 | .exp e _,sc=>dh e||((wM Q e sc).e&& !n9 e)
 | .raw _,_=>true
noncomputable def wSs:List MS→Sc→Bool
 | [],_=>true
 |s::r,sc=>wS s sc&&wSs r sc
end
theorem Vn{t v:ME}(h:uw t=false):oJ t v=uk:=by induction t using ME.casesOn<;>first|rfl|exact nf h.symm
variable{m:Nat}
theorem SA{nm:Nat→Str}{t v:ME}(hv:n9 v=false)(hr:dh v=false)(l:Nat)(e:Env):swapsWithSole [az nm t] (az nm v) l e=pure false:=by
 induction v using ME.casesOn<;>first|exact nf hv|exact nf (Eq.symm hv)|exact nn hv|(cases hv;done)|exact nf hr|exact nf (Eq.symm hr)|exact nn hr|(cases hr;done)|rfl
theorem SG{nm:Nat→Str}{v:ME}(hr:dh v=false)(o:PySem.Expr)(x:Str)(q:Pos)(l:Nat)(e:Env):swapsWith (az nm v) (some (.Attribute o x q)) l e=pure false:=by
 induction v using ME.casesOn<;>first|exact nf hr|exact nf (Eq.symm hr)|exact nn hr|(cases hr;done)|rfl
theorem SH{nm:Nat→Str}{v:ME}(hr:dh v=false)(o i:PySem.Expr)(q:Pos)(l:Nat)(e:Env):swapsWith (az nm v) (some (.Subscript o i q)) l e=pure false:=by
 induction v using ME.casesOn<;>first|exact nf hr|exact nf (Eq.symm hr)|exact nn hr|(cases hr;done)|rfl
theorem Q1{nm:Nat→Str}{v:ME}(hv:n9 v=false)(hr:dh v=false)(l:Nat)(e:Env):swapsWith (az nm v) none l e=pure false:=by
 induction v using ME.casesOn<;>first|exact nf hv|exact nf (Eq.symm hv)|exact nn hv|(cases hv;done)|exact nf hr|exact nf (Eq.symm hr)|exact nn hr|(cases hr;done)|rfl
theorem Hf{nm:Nat→Str}{v:ME}(hr:dh v=false)(ts:List PySem.Expr)(k:Nat)(q:Pos)(l:Nat)(e:Env):swapsWithSole [.Tuple ts k q] (az nm v) l e=pure false:=by
 induction v using ME.casesOn<;>first|exact nf hr|exact nf (Eq.symm hr)|exact nn hr|(cases hr;done)|rfl
theorem PL{nm:Nat→Str}{v:ME}(hv:jq v=false)(hr:dh v=false)(ts:List PySem.Expr)(k:Nat)(q:Pos)(e:Env):swappedStores [.Tuple ts k q] (az nm v) e=pure none:=by
 induction v using ME.casesOn<;>first|exact nf hv|exact nf (Eq.symm hv)|exact nn hv|(cases hv;done)|exact nf hr|exact nf (Eq.symm hr)|exact nn hr|(cases hr;done)|rfl
theorem Sp{sc:Sc}{d:PySem.Stmt}:de c m sc cl n uk d:=fun _ _ _ _ _ _ _ _ _ a q=>(a0 q).elim
theorem sD{sc:Sc}{d:PySem.Stmt}{C:CS}(i:Nat)(h:∀P cl n env h k kr,C P cl n env h k kr=bad i):de c m sc cl n C d:=fun _ _ _ _ _ _ _ _ _ a q=>(a0 ((h ..).symm▸q)).elim
theorem Vl(C:ax c){sc:Sc}{ts vs:List ME}{x:Internal.C}{k k':Nat}{p q pp:Pos}(h:C8 sc ts vs=true)(V:aO c m sc cl n x (az c.S.nm (.tup vs k' pp)))
  (hs:∀e,swapsWithSole [.Tuple (bO c.S.nm ts) k q] (az c.S.nm (.tup vs k' pp)) p.line e=pure false):de c m sc cl n (km (qT (nr ts)) x) (.Assign [.Tuple (bO c.S.nm ts) k q] (az c.S.nm (.tup vs k' pp)) p):=by
 unfold C8 at h
 induction hx:tf ts using Option.casesOn with
 |none=>rw[hx] at h;exact nf h
 |some xs=>
  rw[hx] at h
  refine @gS _ _ _ _ h fun h3 h4 h5=> ?_
  have e:=FD hx
  subst e
  rw[HS]
  rw[GQ] at hs⊢
  have z:=fun e=>PN (e:=e) (nm:=c.S.nm) (xs:=xs) (k:=k) (k':=k') (tp:=q) (p:=pp) ((vn.mp h5).imp (GG vs) (HH C.o8 vs))
  exact fun{A e X ad s env h K kr}a q=>Su C (fun x m=>aM.mp h3 x m) (sO h4) V hs (fun e _=>z e) a q
theorem Ir{t v:ME}{sc:Sc}{d:PySem.Stmt}(h:uw t=false):de c m sc cl n (oJ t v) d:=fun _ _ _ _ _ _ _ _ _ a q=>by rw[Vn h] at q;exact(a0 q).elim
theorem UC{t:ME}{x:PySem.Expr}{sc:Sc}{d:PySem.Stmt}:de c m sc cl n (oJ t (.raw x)) d:=by
 refine Mj t ?_ ?_ ?_ ?_ fun h=> ?_
 ·exact fun _ _=>sD (cl:=cl) (n:=n) 41 fun _ _ _ _ _ _ _=>rfl
 ·exact fun _ _ _=>sD (cl:=cl) (n:=n) 41 fun _ _ _ _ _ _ _=>rfl
 ·exact fun _ _ _=>sD (cl:=cl) (n:=n) 41 fun _ _ _ _ _ _ _=>rfl
 ·exact fun _ _ _=>sD (cl:=cl) (n:=n) 41 fun _ _ _ _ _ _ _=>rfl
 ·exact Ir h
theorem Zs(C:ax c)(Y:br c m cl)(hn:n≤100000)(t v:ME)(p:Pos)(sc:Sc)(h:Mn (dH c) t v sc=true):de c m sc cl n (oJ t v) (.Assign [az c.S.nm t] (az c.S.nm v) p):=by
 induction hr:dh v using Bool.casesOn with
 |true=>exact LS hr fun _=>UC
 |false=>
  have V:=(sM C Y hn v sc).e
  have h:=LO hr h
  revert h
  refine Mj t ?_ ?_ ?_ ?_ fun z h=> ?_
  ·intro x q h
   refine @a1 _ _ _ h fun h1 h2=> ?_
   induction hc:n9 v using Bool.casesOn with
   |false=>
    show de _ _ _ _ _ (km (jM x) (cM v).e) (.Assign [.Name _ q] _ p)
    exact FY (tm C h1) (V h2) (fun e=>SA (t:= .loc x q) hc hr _ e) fun e=>rfl
   |true=>
    clear V hr h
    revert h2
    refine Yw hc fun elt t it ifs scC pp h2=> ?_
    show de _ _ _ _ _ (km (jM x) (lK _ _ _ _ _)) (.Assign [.Name _ q] (.ListComp _ _ _ _) p)
    exact Pq C hn (Je (sM C Y hn it sc) (sM C Y hn t _) (sM C Y hn elt _) (gw C Y hn ifs _) h2) h1
  ·intro ts k q h
   refine @a1 _ _ _ h fun h1 h2=> ?_
   induction hv:jq v using Bool.casesOn with
   |true=>
    have V:aO _ _ _ _ _ _ _:=V h2
    rw[hv] at h1
    clear h h2
    revert hr h1 V
    refine Mk hv fun vs k' pp hr h1 V=> ?_
    show de _ _ _ _ _ (km (qT (nr ts)) _) (.Assign [.Tuple _ _ _] (az c.S.nm (.tup vs k' pp)) p)
    exact Vl C h1 V fun e=>Hf hr _ k q _ e
   |false=>
    rw[hv] at h1
    show de _ _ _ _ _ (km (cT (.tup ts k q)) (cM v).e) _
    exact FY ((sM C Y hn (.tup ts k q) sc).g h1) (V h2) (fun e=>Hf hr _ k q _ e) fun e=>PL hv hr _ k q e
  ·intro o x q h
   refine @gS _ _ _ _ h fun h1 h2 h3=> ?_
   show de _ _ _ _ _ (CW (cM o).e x (cM v).e) (.Assign [.Attribute _ _ q] _ _)
   exact Sn C ((sM C Y hn o sc).e h1) (V h3) h2 fun e=>SG hr _ _ q _ e
  ·intro o i q h
   refine @gS _ _ _ _ h fun h1 h2 h3=> ?_
   show de _ _ _ _ _ (CY (cM o).e (cM i).e (cM v).e) (.Assign [.Subscript _ _ q] _ _)
   exact Ss C ((sM C Y hn o sc).e h1) ((sM C Y hn i sc).e h2) (V h3) fun e=>SH hr _ _ q _ e
  ·show de _ _ _ _ _ (oJ t v) _
   exact Ir z
mutual
theorem sS(C:ax c)(Y:br c m cl)(hn:n≤100000):∀(x:MS)(sc:Sc),wS (dH c) x sc=true→de c m sc cl n (cS x) (cn c.S.nm x)
 | .asg t v p,sc,h=>Zs C Y hn t v p sc h
 | .aug x np op v p,sc,h=>So C ((sM C Y hn v sc).e (aQ h).1) (aQ h).2
 | .ret v p,sc,h=>by
  induction q:qw v using Bool.casesOn with
  |true=>exact KZ q (QS (cl:=cl) (n:=n))
  |false=>
   have key:de c m sc cl n (oR (cM v).e) (.Return (mX v (az c.S.nm v)) p):=by
    unfold mX
    rw[q]
    exact Hd ((sM C Y hn v sc).e h)
   exact key
 | .iff t b o p,sc,h=>by
  refine @gS _ _ _ _ h fun h1 h2 h3=> ?_
  exact U4 ((sM C Y hn t sc).t h1) (pP C Y hn b sc h2) (pP C Y hn o sc h3)
 | .cj t b p,sc,h=>Sv ((sM C Y hn t sc).t (aQ h).1) (pP C Y hn b sc (aQ h).2)
 | .for t it b p,sc,h=>by
  refine @gS _ _ _ _ h fun h1 h2 h3=> ?_
  exact Sr ((sM C Y hn it sc).i (az c.S.nm t) (jq t) h2 IE) ((sM C Y hn t sc).g h1) (pP C Y hn b sc h3) (r9 c.S.nm (Iu h2))
 | .exp e p,sc,h=>by
  induction hr:dh e using Bool.casesOn with
  |true=>exact LS hr fun x=>sD (cl:=cl) (n:=n) 41 fun _ _ _ _ _ _ _=>rfl
  |false=>
   refine @a1 _ _ _ (LO hr h) fun h1 h2=> ?_
   exact Sq ((sM C Y hn e sc).e h1) fun en=>Q1 (by simpa using h2) hr _ en
 | .raw x,sc,h=>Sp (cl:=cl) (n:=n)
theorem pP(C:ax c)(Y:br c m cl)(hn:n≤100000):∀(xs:List MS)(sc:Sc),wSs (dH c) xs sc=true→gH c m sc cl n (e9 xs) (eg c.S.nm xs)
 | [],sc,_=>Hc (cl:=cl) (n:=n)
 |x::r,sc,h=>He (sS C Y hn x sc (aQ h).1) (pP C Y hn r sc (aQ h).2)
end
end
section
noncomputable section
noncomputable abbrev gJ:NameKind:= .globalImplicit
noncomputable def scA:List Sc:=[
 [(73,.local),(74,gJ),(75,gJ),(76,gJ)],
 [(28,.local),(77,.local),(78,.local),(79,gJ)],
 [(80,.local)],
 [(81,.local),(82,.local),(83,.local)],
 [(84,.local),(85,.local),(86,.local),(87,.local),(88,.local),(89,.local),(90,gJ),(91,gJ),(92,gJ),(93,gJ),(94,gJ)],
 [(81,.local),(95,.local)],
 [(73,.local),(95,.local),(81,.local),(74,gJ),(75,gJ),(94,gJ),(76,gJ),(96,gJ),(97,gJ)],
 [(73,.local),(86,.local),(74,gJ),(75,gJ),(94,gJ),(76,gJ),(98,gJ)],
 [(73,.local),(80,.local),(95,.local),(86,.local),(99,gJ),(100,gJ),(101,gJ),(102,gJ)],
 [(73,.local),(74,gJ),(75,gJ),(94,gJ),(76,gJ)],
 [(73,.local),(103,gJ)],
 [(104,.local)],
 [(73,.local),(87,.local),(74,gJ),(75,gJ),(94,gJ),(76,gJ)],
 [(105,.local),(106,.local),(86,.local),(98,gJ)],
 [(73,.local),(74,gJ),(75,gJ),(94,gJ),(76,gJ)],
 [(81,.local),(95,.local),(86,.local),(97,gJ),(98,gJ)],
 [(107,.local),(105,.local),(106,.local),(95,.local),(86,.local),(108,gJ)],
 [(105,.local),(106,.local),(109,.local),(94,gJ),(90,gJ)],
 [(105,.local),(106,.local),(110,gJ)],
 [(107,.local),(105,.local),(106,.local),(95,.local),(86,.local),(111,.local),(112,.local),(113,.local),(114,.local),(115,.local),(116,gJ),(117,gJ),(110,gJ),(118,gJ),(108,gJ),(101,gJ),(119,gJ),(102,gJ),(120,gJ),(121,gJ),(122,gJ),(123,gJ)],
 [(105,.local),(95,.local),(86,.local),(116,gJ),(108,gJ)],
 [(105,.local),(106,.local),(74,gJ),(75,gJ),(94,gJ),(116,gJ),(124,gJ),(76,gJ)],
 [(125,.local),(126,.local)],
 [(127,.local),(128,.local),(79,gJ),(94,gJ)],
 [(129,.local),(130,.local),(131,gJ),(79,gJ)],
 [(129,.local),(80,.local),(28,.local),(130,.local),(131,gJ),(79,gJ),(132,gJ)],
 [(127,.local),(82,.local)],
 [(73,.local),(133,.local),(134,.local),(135,.local),(136,gJ)],
 [(127,.local),(28,.local),(137,.local),(133,.local),(134,.local),(130,.local),(138,gJ),(139,gJ),(140,gJ)],
 [(127,.local),(28,.local),(130,.local),(138,gJ),(94,gJ)],
 [(127,.local),(28,.local),(73,.local),(141,.local),(135,.local),(130,.local),(80,.local),(142,.local),(137,.local),(133,.local),(134,.local),(138,gJ),(94,gJ),(143,gJ),(139,gJ)],
 [(127,.local),(137,.cell),(129,.cell),(144,.local),(131,gJ),(132,gJ),(79,gJ),(139,gJ),(140,gJ)],
 [(127,.local),(137,.cell),(129,.cell),(144,.local),(131,gJ),(132,gJ),(79,gJ),(139,gJ)],
 [(127,.local),(137,.local),(130,.local),(138,gJ),(94,gJ),(139,gJ)],
 [(127,.local),(137,.local),(140,gJ)],
 [(127,.local),(82,.local),(137,.local),(132,gJ),(94,gJ),(139,gJ)],
 [(81,.local),(82,.local),(145,gJ),(94,gJ)],
 [(125,.local)],
 [(146,.local),(147,.local),(148,.local),(79,gJ)],
 [(146,.local),(147,.local),(148,.local),(149,.local),(150,.local),(151,gJ),(152,gJ),(79,gJ)],
 [(146,.local),(147,.local),(153,.local),(148,.local),(154,gJ),(151,gJ)],
 [(146,.local),(155,.local),(156,.local),(157,.local),(130,.local),(158,.local),(147,.local),(148,.local),(142,.local),(33,.local),(159,gJ),(160,gJ),(161,gJ),(162,gJ),(79,gJ)],
 [(146,.local),(163,.local),(130,.local),(164,.local),(79,gJ)],
 [(146,.local),(156,.local),(130,.local),(82,.local),(165,.local),(131,gJ),(79,gJ)],
 [(166,.local),(146,.local),(147,.local),(153,.local),(167,gJ),(79,gJ),(152,gJ),(151,gJ),(168,gJ)],
 [(146,.local),(147,.local),(94,gJ)],
 [(146,.local),(169,.local),(94,gJ),(170,gJ)],
 [(146,.local),(169,.local),(94,gJ),(170,gJ)],
 [(171,.local),(130,.local),(148,.local),(172,gJ),(173,gJ),(174,gJ)],
 [(171,.local),(130,.local),(148,.local),(142,.local),(137,.local),(147,.local),(165,.local),(175,.local),(176,gJ),(177,gJ),(178,gJ),(179,gJ),(79,gJ),(180,gJ)],
 [(171,.local),(130,.local),(148,.local),(142,.local),(181,gJ),(182,gJ),(79,gJ),(183,gJ),(184,gJ),(176,gJ),(185,gJ),(186,gJ)],
 [(171,.local),(130,.local),(148,.local),(142,.local),(28,.local),(89,.local),(78,.local),(187,.local),(164,.local),(133,.local),(134,.local),(73,.local),(169,.local),(165,.local),(188,.local),(74,gJ),(75,gJ),(94,gJ),(143,gJ),(189,gJ),(190,gJ),(191,gJ),(182,gJ)],
 [(171,.local),(130,.local),(188,.local),(192,.local),(28,.local),(73,.local),(137,.local),(193,gJ),(194,gJ),(189,gJ)],
 [(125,.local),(80,.local),(195,.local),(196,.local),(197,gJ),(198,gJ),(199,gJ),(79,gJ)],
 [(195,.local),(196,.local),(109,.local),(200,.local)],
 [(201,.local),(142,.local),(202,gJ)],
 [(201,.local),(195,.local),(200,.local),(79,gJ),(94,gJ),(199,gJ)],
 [(201,.local),(142,.local),(195,.local),(94,gJ),(203,gJ),(204,gJ),(205,gJ)],
 [(201,.local),(142,.local),(82,.local),(206,gJ),(207,gJ)],
 [(208,.local),(209,.local),(109,.local),(210,.local),(200,.local),(79,gJ),(94,gJ),(211,gJ)],
 [(201,.local),(142,.local),(209,.local),(208,.local),(212,gJ),(79,gJ),(213,gJ)],
 [(201,.local),(142,.local),(209,.local),(73,.local),(208,.local),(137,.local),(212,gJ),(79,gJ),(213,gJ),(214,gJ)],
 [(125,.local),(95,.local),(86,.local),(215,.local),(216,.local),(217,.local)],
 [(201,.local),(28,.local),(202,gJ)],
 [(201,.local),(28,.local),(198,gJ),(218,gJ)],
 [(201,.local),(28,.local),(73,.local),(214,gJ),(218,gJ)],
 [(171,.cell),(130,.local),(148,.local),(219,.local),(209,.local)],
 [(171,.local),(219,.local),(208,.local),(218,gJ)],
 [(171,.cell),(219,.local),(209,.local)],
 [(171,.local),(137,.local)],
 [(171,.local),(137,.local),(73,.local)],
 [(171,.local),(148,.local),(114,.local),(115,.local),(201,.local),(80,.local),(220,.local),(221,.local),(222,gJ),(94,gJ),(223,gJ),(224,gJ),(214,gJ),(225,gJ)],
 [(201,.local),(28,.local),(226,.local),(130,.local),(82,.local)],
 [(201,.local),(28,.local)],
 [(201,.local),(142,.local),(192,.local),(227,gJ),(228,gJ),(229,gJ)],
 [(201,.local),(142,.local),(73,.local),(230,gJ),(231,gJ)],
 [(232,.local)],
 [(107,.local),(135,.local),(233,gJ)],
 [(107,.local),(114,.local),(115,.local),(95,.local),(86,.local),(234,.local),(94,gJ),(235,gJ),(236,gJ),(237,gJ),(189,gJ),(238,gJ),(239,gJ),(240,gJ)],
 [(107,.local),(73,.local),(95,.local),(86,.local),(241,gJ),(94,gJ),(242,gJ),(243,gJ)],
 [(232,.local),(95,.local),(86,.local),(80,.local),(73,.local),(97,gJ),(102,gJ)],
 [(232,.local),(244,.local),(245,.local),(80,.local),(246,gJ),(247,gJ),(248,gJ)],
 [(232,.local),(245,.local),(249,.local),(250,.local),(220,.local),(251,.local),(244,.local),(164,.local),(109,.local),(79,gJ),(252,gJ),(253,gJ),(254,gJ)],
 [(125,.local),(201,.local),(146,.local),(255,.local),(256,gJ),(257,gJ)],
 [(125,.local),(232,.local),(258,gJ)],
 [(125,.local),(232,.local),(101,gJ),(258,gJ)],
 [(125,.local),(142,.local),(259,gJ)],
 [(125,.cell),(142,.local),(209,.local),(260,.local),(261,gJ)],
 [(125,.local),(142,.local),(73,.local),(262,gJ)],
 [(125,.cell),(142,.local),(209,.local),(73,.local),(263,gJ)],
 [(125,.local),(73,.local),(88,.local),(240,gJ)],
 [(264,.local),(82,.local),(265,.local),(79,gJ),(90,gJ)],
 [(266,.local),(74,gJ),(75,gJ),(76,gJ)],
 [(114,.local),(107,.local),(115,.local),(267,gJ)],
 [(142,.local),(266,.local),(267,gJ)],
 [(266,.local),(267,gJ)],
 [(268,.local),(269,.local),(270,.local),(271,.local),(272,gJ),(273,gJ),(274,gJ)],
 [(264,.cell),(275,.local),(276,.local),(277,.local),(278,.local),(279,gJ),(274,gJ),(131,gJ),(159,gJ),(79,gJ)],
 [(280,.local),(87,.local),(146,.local),(201,.cell),(171,.local),(281,.local),(130,.local),(282,.local),(148,.local),(283,.local),(284,gJ),(285,gJ),(286,gJ),(131,gJ),(287,gJ),(288,gJ),(289,gJ),(290,gJ)],
 [(105,.cell),(106,.cell),(131,gJ)],
 [(276,.local),(281,.local),(291,.cell),(292,.cell),(293,.local),(294,.local),(76,gJ),(295,gJ),(131,gJ),(79,gJ)],
 [(276,.cell),(281,.local),(109,.local),(296,.local),(131,gJ),(79,gJ)],
 [(81,.cell),(82,.local),(131,gJ)],
 [(276,.local),(281,.local),(130,.local),(142,.local),(188,.local),(283,.local),(159,gJ),(297,gJ),(79,gJ),(75,gJ)],
 [(169,.cell),(79,gJ),(131,gJ)],
 [(276,.cell),(281,.local),(278,.cell),(277,.local),(130,.local),(169,.cell),(298,.local),(299,.local),(200,.local),(131,gJ),(79,gJ),(300,gJ),(301,gJ),(159,gJ)],
 [(302,.local),(264,.cell),(165,.local),(275,.local),(192,.cell),(280,.local),(130,.local),(31,.local),(281,.local),(129,.local),(303,.local),(304,.cell),(305,.cell),(279,gJ),(159,gJ),(306,gJ),(307,gJ),(79,gJ),(308,gJ),(309,gJ),(310,gJ),(311,gJ)]]
noncomputable def fF(i:Nat):Sc:=match aS scA i with|some s=>s|none=>[]
noncomputable def fU:Sc:=fF 98
noncomputable def gL:Sc:=fF 104
noncomputable def cJ:Sc:=fF 106
noncomputable def DM:List Nat:=[74,75,76,79,90,91,92,93,96,97,98,99,100,101,102,103,108,110,116,117,118,119,120,121,122,123,124,131,132,136,138,139,140,143,145,151,152,154,159,160,161,162,167,168,172,173,174,176,177,178,179,180,181,182,183,184,185,186,189,190,191,193,194,197,198,199,202,203,204,205,206,207,211,212,213,214,218,222,223,224,225,227,228,229,230,231,233,241,235,236,237,238,239,240,242,243,246,247,248,252,253,254,256,257,258,259,261,262,263,267,272,273,274,279,284,285,286,287,288,289,290,295,297,300,301,347,306,307,308,309,310,311]
noncomputable def Nr:List Nat:=[1,2,3,4,5,25,31,32,77,80,86,95,126,127,129,146,169,188,195,196,201,215,216,217,255,260,265,277,283,291,312,314,315,316,320,321,322,323,324,325,326,327,328,329,330,331,332,333,334,335,336,337,338,339,340,341,345]
noncomputable def uH(x g:Nat):Bool:=match aS DM g with|some y=>ag x y|none=>false
noncomputable def Nt(x:Nat):Bool:=e7 x Nr
noncomputable def biT(g b:Nat):Bool:=CA (aG.eG g) b
noncomputable def eO:Pm:=⟨uH,Nt,biT⟩
end
end
section
noncomputable section
noncomputable def aw(i:Nat):Str:=match aS rI i with
 |some s=>Str.ofString s
 |none=>⟨(eR (Hs i 1000) 126).toArray⟩
noncomputable def iD:Nat:=349
theorem A3:rI.length=iD:=by kernel_rfl
theorem Xr(h:i<iD):∃s,rI[i]? =some s∧aw i=Str.ofString s:=by
 have h':i<rI.length:=by rw[A3];exact h
 refine⟨rI[i],cA h',?_⟩
 unfold aw
 rw[dc,cA h']
theorem B5(h:iD≤i):aw i=⟨(eR (i+1000) 126).toArray⟩:=by
 unfold aw
 rw[dc,jg (by rw[A3];exact h)]
theorem HE:(rI.map fun s=>(Str.ofString s).cps.toList)=mR:=by kernel_rfl
theorem wV(h:i<iD):mR[i]? =some (aw i).cps.toList:=by
 refine ak (Xr h) fun s h1 h2=> ?_
 rw[←HE,b0,h1,h2];rfl
theorem VN(i:Nat):aG.cps i=(aw i).cps.toList:=by
 show getD (aS mR i) (eR (i+1000) 126)=_
 rw[dc]
 rcases fq i iD with h|h
 ·rw[wV h];rfl
 ·have:mR.length=iD:=by rw[←HE,aT,A3]
  rw[jg (by rw[this];exact h),B5 h];rfl
noncomputable def keyOf(l:List Nat):Nat:=List.rec 1 (fun a _ k=>Hs (Nat.mul k 2097152) a) l
noncomputable def aad(k:Nat)(l:List (List Nat)):Nat:=List.rec 0 (fun a _ ih=>cond (ag (keyOf a) k) 0 (Nat.succ ih)) l
noncomputable def uf:List Nat:=mR.map keyOf
noncomputable def VZ(k:Nat)(l:List Nat):Nat:=List.rec 0 (fun a _ ih=>cond (ag a k) 0 (Nat.succ ih)) l
noncomputable def BK(f:Nat→Nat→Bool)(l:List Nat):Bool:=List.rec (motive:=fun _=>Nat→Bool) (fun _=>true) (fun a _ ih i=>cond (f i a) (ih (Nat.succ i)) false) l 0
theorem Gh{f:Nat→Nat→Bool}:∀(l:List Nat)(n:Nat),(List.rec (motive:=fun _=>Nat→Bool) (fun _=>true) (fun a _ ih i=>cond (f i a) (ih (Nat.succ i)) false) l n)=true→∀i a,l[i]? =some a→f (n+i) a=true
 | [],n,_,i,a,h=>by simp at h
 |b::l,n,h,i,a,e=>by
  have h:cond (f n b) (List.rec (motive:=fun _=>Nat→Bool) (fun _=>true) (fun a _ ih i=>cond (f i a) (ih (Nat.succ i)) false) l (n+1)) false=true:=h
  induction q:f n b using Bool.casesOn with
  |false=>rw[q] at h;exact nf h
  |true=>
   rw[q] at h
   induction i using Nat.casesAuxOn with
   |zero=>(injection e with e1;subst e1);exact q
   |succ i=>
    have:=Gh l (n+1) h i a e
    rwa [show n+1+i=n+(i+1) by lia] at this
theorem Ai{f:Nat→Nat→Bool}{l:List Nat}(h:BK f l=true)(i a:Nat)(e:l[i]? =some a):f i a=true:=by
 have:=Gh l 0 h i a e
 rwa [cZ] at this
theorem Ff:BK (fun i a=>ag (VZ a uf) i) uf=true:=by kernel_rfl
theorem Bw(h:i<iD):uf[i]? =some (keyOf (aw i).cps.toList):=by
 unfold uf
 rw[b0,wV h];rfl
theorem QK:(mR.all fun l=>bq l.length 1000)=true:=by kernel_rfl
theorem GX(h:i<iD):(aw i).cps.toList.length<1000:=by
 have:=aM.mp QK _ (cf (wV h))
 exact blt_iff.mp this
theorem sN(h:iD≤i):(aw i).cps.toList.length=i+1000:=by rw[B5 h];simp
theorem Wl(i j:Nat)(h:aw i=aw j):i=j:=by
 rcases fq i iD with hi|hi<;>rcases fq j iD with hj|hj
 ·have e1:=Ai Ff i _ (Bw hi)
  have e2:=Ai Ff j _ (Bw hj)
  rw[h] at e1
  have e1:=aZ e1
  have e2:=aZ e2
  lia
 ·have:=GX hi;rw[h,sN hj] at this;lia
 ·have:=GX hj;rw[←h,sN hi] at this;lia
 ·have e1:=sN hi;rw[h,sN hj] at e1;lia
theorem QY:(mR.all fun l=>l.all fun a=>bq a 1114112)=true:=by kernel_rfl
theorem Wm(i:Nat):PyData.strOk (aw i)=true:=by
 unfold PyData.strOk
 rw[←Array.all_toList,aM]
 intro a ha
 rw[decide_eq_true_eq]
 rcases fq i iD with hi|hi
 ·have:=aM.mp (aM.mp QY _ (cf (wV hi))) a ha
  exact blt_iff.mp this
 ·rw[B5 hi] at ha
  have:a=126:=N8 (n:=i+1000) ha
  lia
noncomputable def Wn(k:Nat):Bool:=uf.all fun a=> !ag a k
theorem KA{s:Str}(hk:Wn (keyOf s.cps.toList)=true)(hs:s.cps.toList.length<1000)(i:Nat):(aw i==s)=false:=by
 rw[beq_eq_false_iff_ne]
 intro e
 rcases fq i iD with hi|hi
 ·have:=aM.mp hk _ (cf (Bw hi))
  rw[e,mB] at this
  exact nf this
 ·have:=sN hi;rw[e] at this;lia
theorem Wk(i:Nat):(aw i==("__debug__":Str))=false:=KA (by kernel_rfl) (by decide+kernel) i
theorem Wj(i:Nat):(aw i==("__classdict__":Str))=false:=KA (by kernel_rfl) (by decide+kernel) i
noncomputable def DB:List Value:=[.builtin "len",.builtin "len",.builtin "abs",.builtin "isinstance",.type "range",.type "enumerate",.type "zip",.type "reversed",.builtin "max",.builtin "len",.builtin "sorted",.type "str",.type "tuple",.type "list",.type "dict"]
noncomputable def nq(i:Nat):Value:=getD (aS DB i) (.builtin "len")
theorem Aj{p:Value→Bool}(h:DB.all p=true)(i:Nat):p (nq i)=true:=by
 unfold nq
 rw[dc]
 induction e:DB[i]? using Option.casesOn with
 |none=>exact aM.mp h _ (.head _)
 |some v=>exact aM.mp h v (cf e)
theorem S9(i:Nat):handedIn (nq i)=true:=Aj (by decide+kernel) i
theorem Ta(i:Nat):nq i≠ .none:=fun e=>by
 have h:=Aj (p:=fun v=> !ag v.ctorIdx (Value.none).ctorIdx) (by decide+kernel) i
 rw[e] at h;exact nf h
theorem Vy(i:Nat)(a:Addr):nq i≠ .ref a:=fun e=>by
 have h:=Aj (p:=fun v=> !ag v.ctorIdx (Value.ref 0).ctorIdx) (by decide+kernel) i
 rw[e] at h;exact nf h
noncomputable def Yu:Bool:=Le.all fun p=>aw p.2==⟨#[p.1]⟩
theorem Tv:Yu=true:=by decide+kernel
theorem FF:∀{l:List (Nat×Nat)}{x i:Nat},B3 x l=some i→(x,i)∈l
 | [],x,i,h=>by(exfalso;injection h)
 |p::r,x,i,h=>by
  have h:cond (ag p.1 x) (some p.2) (B3 x r)=some i:=h
  induction q:ag p.1 x using Bool.casesOn with
  |true=>rw[q] at h;(injection h with e1;subst e1);rw[←aZ q];exact .head _
  |false=>rw[q] at h;exact .tail _ (FF h)
theorem VG(n i:Nat)(h:aG.chr n=some i):aw i=⟨#[n]⟩:=by
 have:=aM.mp Tv _ (FF h)
 exact beq_iff_eq.mp this
end
end
end
set_option maxRecDepth 1000000
variable{a:Addr}{p:Addr×Addr}{A:Around}{b:Bool}{e:Env}{g hh:Heap}{key:Int}{sc scC:List (Nat×NameKind)}{X X' D N:List Addr}{x:List Int}{ns ps π kp:List Nat}{ds elts ifs dJ:List PySem.Expr}{db body rest:List PySem.Stmt}{vs:List Value}{n t i f r j J r0 sp:Nat}{pos:Pos}{q P:Prop}{d dt di aH:PySem.Expr}{s s' fD:Shared}{m mm:Str→Option Value}{v u:Value}{E Q:Value→Shared→Prop}{w:World}
variable{k:Bool→Res}{cl:aX}{cs:Cs}{env aD:En}{h:Hp}{names kn:List (Nat×SV)}{l as L0:List SV}{F F':Nat→SV→En→Hp→Prop}{done:Res}{V:SV}{R R':Value→SV→Prop}
variable{ρ ρ':Val}
variable{ad:Ad}{c:Cx}
section
noncomputable def mI(ok:Thread→Bool)(st:SharedT→Thread→Option (SharedT×Thread)):Nat→SharedT→Thread→Option SharedT
 |0,_,_=>none
 |n+1,s,t=>match through t with
  |true=>some s
  |false=>match ok t with
   |false=>none
   |true=>match st s t with
    |some r=>mI ok st n r.1 r.2
    |none=>none
theorem Fo{tb:String→Option Builtin}{p:Program}{n₀:Nat}{ann:Option Value}:∀{n:Nat}{s s':SharedT}{t:Thread},mI (stepOk n₀ ann) (stepT (denote tb) p w) n s t=some s'→topRun tb p w n₀ ann n s.abs t=some s'.abs
 |0,_,_,_,h=>by(exfalso;injection h)
 |n+1,s,s',t,h=>by
  unfold mI at h
  unfold topRun
  induction he:through t using Bool.casesOn with
  |true=>rw[he] at h;(injection h with e1;subst e1);rfl
  |false=>
   rw[he] at h
   induction hk:stepOk n₀ ann t using Bool.casesOn with
   |false=>rw[hk] at h;(exfalso;injection h)
   |true=>
    rw[hk] at h
    induction hs:stepT (denote tb) p w s t using Option.casesOn with
    |none=>rw[hs] at h;(exfalso;injection h)
    |some r=>obtain⟨s₂,t₂⟩:=r;rw[hs] at h;rw[stepT_spec hs];exact Fo h
noncomputable abbrev rJ:Nat→Option Value→Thread→Bool:=PySem.W.Fast.tw6613529449190102663
noncomputable abbrev rM(p:Program)(w:World):SharedT→Thread→Option (SharedT×Thread):=PySem.W.Fast.tw10156331382660048174 (PySem.W.Fast.tw11892475500146522536 PySem.W.Fast.tw14364793385576792824) p w
theorem Ws:stepOk=rJ:=PySem.W.Fast.te6613529449190102663
theorem WJ(p:Program)(w:World):stepT (denote treeTable) p w=rM p w:=by
 rw[PySem.W.Fast.te10156331382660048174,PySem.W.Fast.te11892475500146522536,PySem.W.Fast.te14364793385576792824]
theorem PQ{p:Program}{n₀:Nat}{ann:Option Value}{s s':SharedT}{t:Thread}(h:mI (rJ n₀ ann) (rM p w) n s t=some s'):topRun treeTable p w n₀ ann n s.abs t=some s'.abs:=by
 refine Fo ?_
 rw[Ws,WJ]
 exact h
noncomputable def BL(P:Params):BT:=((boot_heap P).objs.toList.foldl (fun(r:BT×Nat)o=>(r.1.ins r.2 o,r.2+1)) (.nil,0)).1
theorem boot_abs(P:Params):absHeap (BL P) 11 (boot_heap P).life=boot_heap P:=by kernel_rfl
noncomputable def u7(w:World)(os:OsState):SharedT:=⟨BL w.params,11,(boot_heap w.params).life,Array.mk [],boot_drawn,boot_toks,os⟩
theorem WE(w:World)(os:OsState):(u7 w os).abs=⟨boot_heap w.params,Array.mk [],boot_drawn,boot_toks,os⟩:=by
 show(⟨absHeap (BL w.params) 11 (boot_heap w.params).life,_,_,_,_⟩:Shared)=_
 rw[boot_abs]
 rfl
noncomputable abbrev seenQ:= @PySem.W.Fast.tw4187177175401517315
theorem Sg: @openSeen= @seenQ:=PySem.W.Fast.te4187177175401517315
noncomputable def tj(p:Program)(P:Params)(s:Shared):Bool:=staticsOk (importedModules p.main.body) (boot_heap P) s.heap&&namesBound p s.heap&&gensDone s&&laidKept (boot_heap P) s.heap
theorem Px(P:Params):((boot_heap P).isNs mainGlobals,(boot_heap P).objs.size,(boot_heap P).nsMap mainGlobals "__annotations__")=(true,11,some (.ref 6)):=by kernel_rfl
theorem RU{p q:Program}{loose:List Str}{Xt:Shared→Bool}{α:Type}{Yf:Shared→α}{Ya:World→α}{N M:Nat}(hM:M≤N)(hb:opening p=plainProg p.main.scope.names)(hN:dW 600 N=true)(hf:∀s,fenceModules? p s=some s)
  (h:∀(w:World)(os:OsState),(mI (rJ 11 (some (.ref 6))) (rM p w) M (u7 w os) (topStub p)).map (fun s=>(tj p w.params s.abs,seenQ q loose (importedModules p.main.body) Xt true s.abs,Yf s.abs))=some (true,openGood q loose,Ya w)):
  LeftO p q loose Xt Yf Ya N:=fun w=>by
 obtain⟨⟨hp,gs,d,k,os⟩,e,e'⟩:=jf.mp (boot_open hb hN hf w)
 obtain⟨rfl,rfl,rfl,rfl⟩:hp=boot_heap w.params∧gs=Array.mk []∧d=boot_drawn∧k=boot_toks:=by simpa using e'
 obtain⟨s₁,r,l⟩:=jf.mp (h w os)
 have r:=PQ r
 rw[WE] at r
 have r:=topRun_mono (N-M) _ _ _ _ r
 rw[show M+(N-M)=N by lia] at r
 obtain⟨z1,z2,z3⟩:_∧_∧_:=by simpa only[Prod.mk.injEq] using Px w.params
 obtain⟨l1,l2⟩:=Prod.mk.inj l
 have t:topFrom treeTable p w N ⟨boot_heap w.params,Array.mk [],boot_drawn,boot_toks,os⟩=some s₁.abs:=by
  unfold topFrom
  dsimp only
  rw[z1,z2,z3,r]
  show(match tj p w.params s₁.abs with|true=>_|false=>_)=_
  rw[l1]
 unfold openEnds
 rw[e]
 show(topFrom treeTable p w N _).map _=_
 rw[t,Sg]
 exact congrArg some l2
end
section
set_option maxHeartbeats 0
noncomputable def Wh:List String:=["_wall","MOST_TEXT","MOST_EXPONENT","BasicError","error_codes","number_of_error","code_of_error","kind_of","kind_of_name","first_value","figures_of","rounded_by","made","whole_near","fits","whole_of","decimal_of","text_of","checked_text","suited","is_nought","is_true","truth","sign_of","ONE","MOST_POWER","d_negated","alike","d_add","d_sub","d_mul","with_rest","d_div","d_compare","d_power","square_or_end","is_whole","settled","whole_reckoned","cut_quotient","cut_rest","exponent_of","whole_power","raised","reckoned","negated","order_of","inverted","logic","MOST_NUMBER","Control","put_upon","floor_of","found_at","cut_to","is_past","for_begin","for_name","for_next","while_begin","while_end","wend_place","gosub","return_place","chosen","error_number","Flat","put_row_of","put_if","put_all","gather","join_rows","end_loops","flatten","place_of","place_of_flatten","line_of","end_of_while","next_of_for","JUMPS","do_flow","do_jump","do_loop","do_for","next_from","USUAL_HIGH","Grid","count_of","kind_in","check_highs","dim","grid_of","place_of_arrays","get_item","set_item","World","kind_here","get_name","set_name","do_let","kind_of_target","place_told","value_at","put_at","do_swap","field_text","no_field","hide_fields","lay_fields","variable_value","give_variable","fn_called","parts_of_tree","LOGIC","COMPARISONS","order_of_texts","compared","worth_of_texts","worth_of_two","worth_of_one","worth_of_leaf","worth_of_tree","worth","worth_worth","MOST_PILE","WorkRun","_law_sown","_law_tree","_law_two","_law_let","_law_item","_law_parts","_law_data","_law_gone","_law_divisors","_law_euclid","_law_power","_law_figures","_law_turned","_law_wrong","_law_sorted"]
noncomputable def j7:List Str:=Wh.map Str.ofString
noncomputable def qV:Program:=view pw_sm0015_01 [157]
end
section
set_option maxHeartbeats 0
noncomputable abbrev LL:=rw_sm0015_01
theorem lo1:(sreFenced pw_sm0015_01.main&&((moduleNames pw_sm0015_01.main.body).isEmpty||lookedIntoSs (moduleNames pw_sm0015_01.main.body) pw_sm0015_01.main.body))=true:=by kernel_rfl
theorem YY:PySem.W.Fast.tw8377067652309620493 pw_sm0015_01=true:=by kernel_rfl
theorem lo2:namesResolve pw_sm0015_01=true:=by rw[PySem.W.Fast.te8377067652309620493];exact YY
theorem lo3:pw_sm0015_01.boundNames.all (fun n=> !worldNames.contains n)=true:=by kernel_rfl
theorem YZ:PySem.W.Fast.tw8326940854005059898 {strict:= !(importedModules pw_sm0015_01.main.body).all cThrough.contains,foot:=none,bare:=(["vars","dir","locals"]:List Str).filter (readsOut pw_sm0015_01 pw_sm0015_01.main.body)} pw_sm0015_01.main.body=true:=by kernel_rfl
theorem lo4:noRoadLSs {strict:= !(importedModules pw_sm0015_01.main.body).all cThrough.contains,foot:=none,bare:=(["vars","dir","locals"]:List Str).filter (readsOut pw_sm0015_01 pw_sm0015_01.main.body)} pw_sm0015_01.main.body=true:=by rw[PySem.W.Fast.te8326940854005059898];exact YZ
theorem lo5:(namesMeet pw_sm0015_01 pw_sm0015_01.main.body fun _ n=>attrL n)=true:=by kernel_rfl
theorem lo:looksOpen pw_sm0015_01=true:=look_both (look_both (look_both (look_both lo1 lo2) lo3) lo4) lo5
theorem lr:(LL.row.prog.boundNames.contains LL.row.name&& !startupNames.contains LL.row.name)=true:=by kernel_rfl
theorem ls0:LL.row.wellSaid=true:=by
 have h:LL.row.partSaid=true:=by
  unfold OpenRow.partSaid
  rw[show looksOpen LL.row.prog=true from lo]
  kernel_rfl
 unfold OpenRow.wellSaid
 rw[h]
 exact lr
theorem ls1:(decide (LL.foot≤(behindTheImports LL.prog).length))=true:=by kernel_rfl
theorem ls2:(LL.footing.all footLine)=true:=by kernel_rfl
theorem ls3:(noClassBlock LL.prog LL.footing)=true:=by kernel_rfl
theorem ls4:(LL.most.all (fun n=>decide (63≤n)))=true:=by kernel_rfl
theorem ls5:(LL.bound.all (fun n=>decide (2^63≤n)))=true:=by kernel_rfl
theorem ls6:(noRoadLSs {strict:=true,foot:=some LL.bound',writes:=LL.writes,may:=LL.may} LL.footing)=true:=by kernel_rfl
theorem ls7:(defStands LL.about LL.above)=true:=by kernel_rfl
theorem ls8:(LL.namesIt)=true:=by kernel_rfl
theorem ls9:((["type","isinstance","issubclass","getattr","hasattr"]:List Str).all (fun n=>LL.about != [n]))=true:=by kernel_rfl
theorem Y4:(LL.bound'.all (fun n=> !builtinNamed n||LL.about== [n]|| !LL.reads n))=true:=by kernel_rfl
theorem Y5:(!LL.writes||(LL.prog.main.body.flatMap importedNames).all fun n=> !LL.reads n)=true:=by kernel_rfl
theorem Y6:((LL.prog.main.body.flatMap importedNames).all (fun n=> !LL.reads n||(drawsOf n LL.prog.main.body).all fun mn=>mn.2 != ("attrgetter":Str)&&mn.2 != ("methodcaller":Str)))=true:=by kernel_rfl
theorem Y7:(namesMeet LL.prog LL.footing (fun sc n=>(!(["type","isinstance","issubclass","getattr","hasattr"]:List Str).contains n||sc.names.lookup n==some .globalImplicit)&&(LL.may != some n||sc.kind== .module||sc.names.lookup n==some .globalImplicit)))=true:=by kernel_rfl
theorem Y8:(LL.own.contains LL.name)=true:=by kernel_rfl
theorem Y9:(LL.own.eraseDups.length==LL.own.length)=true:=by kernel_rfl
theorem Za:(LL.own.all (fun n=> !builtinNamed n))=true:=by kernel_rfl
theorem Zb:(namesMeet LL.prog LL.above (fun _ n=> !LL.own.contains n))=true:=by kernel_rfl
theorem Zc:(namesMeet LL.prog LL.footing fun sc n=>sc.kind== .module||sc.names.lookup n != some .globalExplicit)=true:=by kernel_rfl
theorem RR:rw_sm0015_01.wellSaid=true:=(look_both (look_both (look_both (look_both (look_both (look_both (look_both (look_both (look_both (look_both (look_both (look_both (look_both (look_both (look_both (look_both (look_both (look_both ls0 ls1) ls2) ls3) ls4) ls5) ls6) ls7) ls8) ls9) Y4) Y5) Y6) Y7) Y8) Y9) Za) Zb) Zc)
end
section
set_option maxHeartbeats 0
noncomputable def lV:DefRec:=match defOf qV rw_sm0015_01.row.name with|some r=>r.1|none=>⟨"",⟨[],[],none,[],[],none,[]⟩,[],⟨.function,[],false,false,[]⟩,⟨0,0,0,0⟩⟩
theorem Uc:defOf qV rw_sm0015_01.row.name=some (lV,[]):=by kernel_rfl
theorem Xn:rw_sm0015_01.row.prog.theDef rw_sm0015_01.row.name=some (lV.params,lV.body,lV.scope):=by kernel_rfl
theorem Xm:kwWritten? lV.params.kwonlyargs lV.params.kw_defaults=some []:=by kernel_rfl
theorem Wf:(chainsOk qV&&opensWell rw_sm0015_01.row.prog&&(frees rw_sm0015_01.row.toRowW&&rw_sm0015_01.row.toRowW.within.isEmpty))=true:=by kernel_rfl
theorem RN:rw_sm0015_01.row.prog.bare:=⟨rfl,rfl,rfl,rfl,rfl,by decide+kernel⟩
noncomputable abbrev yz(s:Shared):Bool:=xlAt qV [] s&&recOk (RowW.records (rw_sm0015_01.row.toRowW)) s
theorem Xa(H:Hook)(h:∀(w:World)(os:OsState),(mI (rJ 11 (some (.ref 6))) (rM pw_sm0015_01 w) 6200 (u7 w os) (topStub pw_sm0015_01)).map (fun s=>(tj pw_sm0015_01 w.params s.abs,seenQ qV j7 (importedModules pw_sm0015_01.main.body) yz true s.abs,H.obs s.abs))=some (true,openGood qV j7,H.val w))
  (call:WalkO qV j7 (XL qV []) H.says rw_sm0015_01.row.toRowW lV [] fun f vs=>PySem.call f vs)(hw:rw_sm0015_01.row.toRowW.promised):rw_sm0015_01.Holds:=by
 refine holds_law RR fun Zv=> ?_
 exact holds_open (q:=qV) (loose:=j7) (Xt:=yz) (XP:=XL qV []) (Yf:=H.obs) (Ya:=H.val) (YP:=H.says) (N:=7000) (RU (by decide) rfl rfl (fun s=>rfl) h) H.of H.keeps (fun s e=>xl_of s (Og.mp e).1) XL.keeps Uc Xn Xm (fun s e=>recFacts_of (Og.mp e).2) rfl Zv Wf RN hw call
end
section
noncomputable section
noncomputable def vS(s:String)(t:Nat):Value:= .str (Str.ofString s) t
noncomputable def kI(n:Int):Value:= .int n 0
noncomputable def dE(P:Params)(s:String)(t:Nat)(v:Value):DictEntry:=⟨PyData.keyHash P (Str.ofString s),.str (Str.ofString s) t,v⟩
noncomputable def pS(l:List PySem.Stmt)(i:Nat):Arguments×List PySem.Stmt×Scope:=match l[i]? with
 |some (.FunctionDef _ a b _ _ _ sc _ _ _)=>(a,b,sc)
 |_=>(⟨[],[],none,[],[],none,[]⟩,[],⟨.function,[],false,false,[]⟩)
noncomputable def pC(i:Nat):List PySem.Stmt:=match pw_sm0015_01.main.body[i]? with
 |some (.ClassDef _ _ _ b _ _ _ _ _ _ _)=>b
 |_=>[]
noncomputable def pA(i:Nat):Arguments:=(pS pw_sm0015_01.main.body i).1
noncomputable def pM(i j:Nat):Arguments:=(pS (pC i) j).1
noncomputable def pB(i j:Nat):List PySem.Stmt×Scope:=(pS (pC i) j).2
noncomputable def fR(n q:String)(i j:Nat)(pm:Value)(cd:Addr):Obj:=⟨.type "function",none,.func (fnOf (Str.ofString n) (Str.ofString q) (pM i j) (pB i j).1 (pB i j).2 .none .none .none pm none (.ref cd) .none),#[]⟩
noncomputable def fO(n q:String)(ps:Arguments)(b:List MS)(sc:Sc)(dV pm:Value)(cd:Addr)(mo:List Nat):Obj:=⟨.type "function",none,.func (fnOf (Str.ofString n) (Str.ofString q) ps (eg aw b) (NV aw sc (mo.map fun i=>(Str.ofString "fast",Const.str (aw i)))) dV .none .none pm none (.ref cd) .none),#[]⟩
noncomputable def cD(n q:String)(t line Yq flags w u:Nat)(a:Addr):Obj:=⟨.type "code",none,.fields #[vS n t,vS q (t+1),vS "/claim/cut.py" (t+2),kI line,kI Yq,kI 0,kI 0,kI flags,.ref (a-5),.bool true,kI w,.ref (a-4),.none,.ref (a-3),.ref (a-2),.ref (a-1),kI u,kI line,vS "/claim/cut.py" (u+1)],#[]⟩
noncomputable def cF(n:String)(t l c f w u:Nat)(a:Addr):Addr×Obj:=(a,cD n n t l c f w u a)
noncomputable def cG(a:Addr)(n:String)(t l c f x w y z u v:Nat):Addr×Obj:=(a,⟨.type "code",none,.fields #[vS n t,vS n (t+1),vS "/claim/cut.py" (t+2),kI l,kI c,kI 0,kI 0,kI f,.ref x,.bool true,kI w,.ref y,.none,.none,.none,.ref z,kI u,kI l,vS "/claim/cut.py" v],#[]⟩)
noncomputable def pd:List Addr:=[72,79,86,93,107,121,128,135,156,163,170,177,184,220,262,269,276,283,290,318,325,332,360,374,381,388,395,402,409,416,423,428,433,441,448,455,462,483,497,504,511,518,525,532,539,546,560,567,575,582,589,596,603,617,631,638,645,652,659,666,673,680,695,709,716,723,728,735,740,747,754,761,768,775,796,803,815,831,843,850,857,864,869,883,890,897,904,909,951,956,977,991,998,1005,1012,1019,1026,1031,1036,1041,1046,1051,1056,1063,1068,1073,1078,916,923]
noncomputable def caL:List Addr:=[363,486,620,698,980]
structure lH where
 n:String
 q:String
 ps:Arguments
 b:List MS
 sc:Sc
 dV:Value
 pm:Value
 cd:Addr
 mo:List Nat
noncomputable def lH.obj(r:lH):Obj:=fO r.n r.q r.ps r.b r.sc r.dV r.pm r.cd r.mo
noncomputable def iG:Value:=vS "basicplus.values" 194
noncomputable def vM1:Value:=vS "basicplus.decimals" 402
noncomputable def nH:Value:=vS "basicplus.arith" 509
noncomputable def iH:Value:=vS "basicplus.control" 636
noncomputable def lg:Value:=vS "basicplus.flatten" 807
noncomputable def ve:Value:=vS "basicplus.flow" 952
noncomputable def nJ:Value:=vS "basicplus.arrays" 1028
noncomputable def Er:Value:=vS "basicplus.world" 1146
noncomputable def rO:Value:=vS "basicplus.rundo" 1238
noncomputable def N0:Value:=vS "basicplus.files" 1292
noncomputable def Ml:Value:=vS "basicplus.asked" 1333
noncomputable def ZS:Value:=vS "basicplus.exprread" 1359
noncomputable def qX:Value:=vS "basicplus.worth" 1368
noncomputable def fY:Value:=vS "law_sm0015_01" 1608
noncomputable def rA(n:String)(i j:Nat)(v:Value)(c:Nat)(mo:List Nat):lH:=⟨n,n,pA i,bN j,fF j,.none,v,c,mo⟩
noncomputable def gk:List lH:=[
 rA "kind_of" 8 0 iG 71 [],
 rA "kind_of_name" 9 1 iG 78 [],
 rA "first_value" 10 2 iG 85 [],
 rA "figures_of" 11 3 iG 92 [],
 rA "made" 13 4 iG 106 [],
 rA "fits" 15 5 iG 120 [],
 rA "whole_of" 16 6 iG 127 [],
 rA "decimal_of" 17 7 iG 134 [],
 rA "suited" 20 8 iG 155 [],
 rA "is_nought" 21 9 iG 162 [],
 rA "is_true" 22 10 iG 169 [],
 rA "truth" 23 11 iG 176 [],
 rA "sign_of" 24 12 iG 183 [],
 rA "d_mul" 32 13 vM1 219 [],
 rA "is_whole" 39 14 nH 261 [],
 rA "settled" 40 15 nH 268 [],
 rA "whole_reckoned" 41 16 nH 275 [],
 rA "cut_quotient" 42 17 nH 282 [],
 rA "cut_rest" 43 18 nH 289 [],
 rA "reckoned" 47 19 nH 317 [],
 rA "negated" 48 20 nH 324 [],
 rA "order_of" 49 21 nH 331 [],
 ⟨"__init__","Control.__init__",(pM 54 0),bN 22,fF 22,Value.none,vS "basicplus.control" 636,359,[]⟩,
 rA "put_upon" 55 23 iH 373 [],
 rA "floor_of" 56 24 iH 380 [],
 rA "found_at" 57 25 iH 387 [],
 rA "cut_to" 58 26 iH 394 [],
 rA "is_past" 59 27 iH 401 [],
 rA "for_begin" 60 28 iH 408 [],
 rA "for_name" 61 29 iH 415 [],
 rA "for_next" 62 30 iH 422 [],
 rA "while_begin" 63 31 iH 427 [127,137,129,130,144],
 rA "while_end" 64 32 iH 432 [127,137,129,130,144],
 ⟨"wend_place","wend_place",(pA 65),bN 33,fF 33,Value.ref 434,vS "basicplus.control" 636,440,[]⟩,
 rA "gosub" 66 34 iH 447 [],
 rA "return_place" 67 35 iH 454 [],
 rA "chosen" 68 36 iH 461 [],
 ⟨"__init__","Flat.__init__",(pM 71 0),bN 37,fF 37,Value.none,vS "basicplus.flatten" 807,482,[]⟩,
 rA "put_row_of" 72 38 lg 496 [],
 rA "put_if" 73 39 lg 503 [],
 rA "put_all" 74 40 lg 510 [],
 rA "gather" 75 41 lg 517 [],
 rA "join_rows" 76 42 lg 524 [],
 rA "end_loops" 77 43 lg 531 [],
 rA "flatten" 78 44 lg 538 [],
 rA "place_of" 79 45 lg 545 [],
 rA "end_of_while" 82 46 lg 559 [],
 rA "next_of_for" 83 47 lg 566 [],
 rA "do_flow" 86 48 ve 574 [],
 rA "do_jump" 87 49 ve 581 [],
 rA "do_loop" 88 50 ve 588 [],
 rA "do_for" 89 51 ve 595 [],
 rA "next_from" 90 52 ve 602 [],
 ⟨"__init__","Grid.__init__",(pM 93 0),bN 53,fF 53,Value.none,vS "basicplus.arrays" 1028,616,[]⟩,
 rA "count_of" 94 54 nJ 630 [],
 rA "kind_in" 95 55 nJ 637 [],
 rA "check_highs" 96 56 nJ 644 [],
 rA "dim" 97 57 nJ 651 [],
 rA "grid_of" 98 58 nJ 658 [],
 rA "place_of" 99 59 nJ 665 [],
 rA "get_item" 101 60 nJ 672 [],
 rA "set_item" 102 61 nJ 679 [],
 ⟨"__init__","World.__init__",(pM 104 0),bN 62,fF 62,Value.ref 688,vS "basicplus.world" 1146,694,[]⟩,
 rA "kind_here" 105 63 Er 708 [],
 rA "get_name" 106 64 Er 715 [],
 rA "set_name" 107 65 Er 722 [],
 rA "do_let" 109 66 rO 727 [171,130,148,219,210,209],
 rA "kind_of_target" 110 67 rO 734 [],
 rA "place_told" 111 68 rO 739 [171,219,210,209],
 rA "value_at" 112 69 rO 746 [],
 rA "put_at" 113 70 rO 753 [],
 rA "do_swap" 114 71 rO 760 [],
 rA "field_text" 116 72 N0 767 [],
 rA "no_field" 117 73 N0 774 [],
 rA "variable_value" 121 74 Ml 795 [],
 rA "give_variable" 122 75 Ml 802 [],
 rA "parts_of_tree" 125 76 ZS 814 [],
 rA "compared" 130 77 qX 830 [],
 rA "worth_of_two" 132 78 qX 842 [107,114,115,95,86,73,234],
 rA "worth_of_one" 133 79 qX 849 [],
 rA "worth_of_leaf" 134 80 qX 856 [],
 rA "worth_of_tree" 135 81 qX 863 [],
 rA "worth" 136 82 qX 868 [232,245,249,250,220,251,244,164,109,266],
 ⟨"__init__","WorkRun.__init__",(pM 140 0),bN 83,fF 83,Value.none,vS "basicplus.workrun" 1452,882,[]⟩,
 ⟨"worth","WorkRun.worth",(pM 140 1),bN 84,fF 84,Value.none,vS "basicplus.workrun" 1452,889,[]⟩,
 ⟨"whole","WorkRun.whole",(pM 140 2),bN 85,fF 85,Value.none,vS "basicplus.workrun" 1452,896,[]⟩,
 ⟨"value_of_name","WorkRun.value_of_name",(pM 140 3),bN 86,fF 86,Value.none,vS "basicplus.workrun" 1452,903,[]⟩,
 ⟨"item_of","WorkRun.item_of",(pM 140 4),bN 87,fF 87,Value.none,vS "basicplus.workrun" 1452,908,[125,142,209,210,260]⟩,
 ⟨"store","WorkRun.store",(pM 140 10),bN 88,fF 88,Value.none,vS "basicplus.workrun" 1452,950,[]⟩,
 ⟨"put","WorkRun.put",(pM 140 11),bN 89,fF 89,Value.none,vS "basicplus.workrun" 1452,955,[125,142,209,73,210]⟩,
 ⟨"plus","WorkRun.plus",(pM 140 14),bN 90,fF 90,Value.none,vS "basicplus.workrun" 1452,976,[]⟩,
 rA "_law_sown" 142 91 fY 990 [],
 rA "_law_tree" 143 92 fY 997 [],
 rA "_law_two" 144 93 fY 1004 [],
 rA "_law_let" 145 94 fY 1011 [],
 rA "_law_item" 146 95 fY 1018 [],
 rA "_law_parts" 147 96 fY 1025 [],
 rA "_law_data" 148 97 fY 1030 [264,275,276,130,81,277,278],
 rA "_law_gone" 149 98 fY 1035 [280,87,146,201,171,281,130,282,148,265,283],
 rA "_law_divisors" 150 99 fY 1040 [105,106,81],
 rA "_law_euclid" 151 100 fY 1045 [276,281,142,188,283,291,292,158,293,130,294],
 rA "_law_power" 152 101 fY 1050 [276,281,142,188,283,28,109,192,296,130],
 rA "_law_figures" 153 102 fY 1055 [81,82,130],
 rA "_law_turned" 154 103 fY 1062 [],
 rA "_law_wrong" 155 104 fY 1067 [169,130,265],
 rA "_law_sorted" 156 105 fY 1072 [276,281,142,188,283,278,277,130,169,298,114,299,200],
 rA "law" 157 106 fY 1077 [302,264,165,275,192,280,130,31,281,129,348,303,304,305]]
noncomputable def uE:List Addr:=[72,79,86,93,107,121,128,135,156,163,170,177,184,220,262,269,276,283,290,318,325,332,360,374,381,388,395,402,409,416,423,428,433,441,448,455,462,483,497,504,511,518,525,532,539,546,560,567,575,582,589,596,603,617,631,638,645,652,659,666,673,680,695,709,716,723,728,735,740,747,754,761,768,775,796,803,815,831,843,850,857,864,869,883,890,897,904,909,951,956,977,991,998,1005,1012,1019,1026,1031,1036,1041,1046,1051,1056,1063,1068,1073,1078,3,363,362,486,485,620,619,698,697,980,979,434,688,568,816,817,71,78,85,92,106,120,127,134,155,162,169,176,183,219,261,268,275,282,289,317,324,331,359,373,380,387,394,401,408,415,422,427,432,440,447,454,461,482,496,503,510,517,524,531,538,545,559,566,574,581,588,595,602,616,630,637,644,651,658,665,672,679,694,708,715,722,727,734,739,746,753,760,767,774,795,802,814,830,842,849,856,863,868,882,889,896,903,908,950,955,976,990,997,1004,1011,1018,1025,1030,1035,1040,1045,1050,1055,1062,1067,1072,1077,916,923]
noncomputable def KT(P:Params):Frag:=(pd.zip gk).map (fun p=>(p.1,p.2.obj))++ [
 (3,⟨Value.type "dict",none,Data.dict #[dE P "__name__" 165 (vS "law_sm0015_01" 1608),dE P "__doc__" 166 Value.none,dE P "__package__" 167 Value.none,dE P "__loader__" 168 (Value.builtin "__main__.__loader__#opaque"),dE P "__spec__" 169 Value.none,dE P "__annotations__" 170 (Value.ref 6),dE P "__builtins__" 171 (Value.ref 4),dE P "__file__" 173 (vS "/claim/cut.py" 172),dE P "__cached__" 174 Value.none,dE P "_wall" 193 (Value.ref 21),dE P "MOST_TEXT" 197 (Value.int 255 196),dE P "MOST_EXPONENT" 199 (Value.int 99 198),dE P "BasicError" 233 (Value.ref 41),dE P "error_codes" 240 (Value.ref 51),dE P "number_of_error" 250 (Value.ref 58),dE P "code_of_error" 258 (Value.ref 65),dE P "kind_of" 265 (Value.ref 72),dE P "kind_of_name" 274 (Value.ref 79),dE P "first_value" 281 (Value.ref 86),dE P "figures_of" 290 (Value.ref 93),dE P "rounded_by" 301 (Value.ref 100),dE P "made" 313 (Value.ref 107),dE P "whole_near" 323 (Value.ref 114),dE P "fits" 331 (Value.ref 121),dE P "whole_of" 340 (Value.ref 128),dE P "decimal_of" 348 (Value.ref 135),dE P "text_of" 355 (Value.ref 142),dE P "checked_text" 362 (Value.ref 149),dE P "suited" 372 (Value.ref 156),dE P "is_nought" 379 (Value.ref 163),dE P "is_true" 386 (Value.ref 170),dE P "truth" 393 (Value.ref 177),dE P "sign_of" 401 (Value.ref 184),dE P "ONE" 406 (Value.ref 185),dE P "MOST_POWER" 408 (Value.int 9999 407),dE P "d_negated" 415 (Value.ref 192),dE P "alike" 424 (Value.ref 199),dE P "d_add" 436 (Value.ref 206),dE P "d_sub" 445 (Value.ref 213),dE P "d_mul" 454 (Value.ref 220),dE P "with_rest" 463 (Value.ref 227),dE P "d_div" 477 (Value.ref 234),dE P "d_compare" 488 (Value.ref 241),dE P "d_power" 500 (Value.ref 248),dE P "square_or_end" 508 (Value.ref 255),dE P "is_whole" 517 (Value.ref 262),dE P "settled" 526 (Value.ref 269),dE P "whole_reckoned" 537 (Value.ref 276),dE P "cut_quotient" 546 (Value.ref 283),dE P "cut_rest" 554 (Value.ref 290),dE P "exponent_of" 561 (Value.ref 297),dE P "whole_power" 571 (Value.ref 304),dE P "raised" 582 (Value.ref 311),dE P "reckoned" 598 (Value.ref 318),dE P "negated" 607 (Value.ref 325),dE P "order_of" 615 (Value.ref 332),dE P "inverted" 623 (Value.ref 339),dE P "logic" 635 (Value.ref 346),dE P "MOST_NUMBER" 639 (Value.int 255 638),dE P "Control" 670 (Value.ref 363),dE P "put_upon" 678 (Value.ref 374),dE P "floor_of" 686 (Value.ref 381),dE P "found_at" 696 (Value.ref 388),dE P "cut_to" 704 (Value.ref 395),dE P "is_past" 714 (Value.ref 402),dE P "for_begin" 726 (Value.ref 409),dE P "for_name" 735 (Value.ref 416),dE P "for_next" 752 (Value.ref 423),dE P "while_begin" 758 (Value.ref 428),dE P "while_end" 764 (Value.ref 433),dE P "wend_place" 774 (Value.ref 441),dE P "gosub" 782 (Value.ref 448),dE P "return_place" 791 (Value.ref 455),dE P "chosen" 799 (Value.ref 462),dE P "error_number" 806 (Value.ref 469),dE P "Flat" 841 (Value.ref 486),dE P "put_row_of" 850 (Value.ref 497),dE P "put_if" 861 (Value.ref 504),dE P "put_all" 871 (Value.ref 511),dE P "gather" 887 (Value.ref 518),dE P "join_rows" 897 (Value.ref 525),dE P "end_loops" 908 (Value.ref 532),dE P "flatten" 918 (Value.ref 539),dE P "place_of" 926 (Value.ref 666),dE P "place_of_flatten" 927 (Value.ref 546),dE P "line_of" 935 (Value.ref 553),dE P "end_of_while" 943 (Value.ref 560),dE P "next_of_for" 951 (Value.ref 567),dE P "JUMPS" 960 (Value.ref 568),dE P "do_flow" 969 (Value.ref 575),dE P "do_jump" 983 (Value.ref 582),dE P "do_loop" 993 (Value.ref 589),dE P "do_for" 1014 (Value.ref 596),dE P "next_from" 1027 (Value.ref 603),dE P "USUAL_HIGH" 1031 (Value.int 10 1030),dE P "Grid" 1066 (Value.ref 620),dE P "count_of" 1076 (Value.ref 631),dE P "kind_in" 1084 (Value.ref 638),dE P "check_highs" 1093 (Value.ref 645),dE P "dim" 1102 (Value.ref 652),dE P "grid_of" 1111 (Value.ref 659),dE P "place_of_arrays" 1123 (Value.ref 666),dE P "get_item" 1133 (Value.ref 673),dE P "set_item" 1145 (Value.ref 680),dE P "World" 1212 (Value.ref 698),dE P "kind_here" 1220 (Value.ref 709),dE P "get_name" 1228 (Value.ref 716),dE P "set_name" 1237 (Value.ref 723),dE P "do_let" 1245 (Value.ref 728),dE P "kind_of_target" 1254 (Value.ref 735),dE P "place_told" 1260 (Value.ref 740),dE P "value_at" 1268 (Value.ref 747),dE P "put_at" 1277 (Value.ref 754),dE P "do_swap" 1291 (Value.ref 761),dE P "field_text" 1304 (Value.ref 768),dE P "no_field" 1312 (Value.ref 775),dE P "hide_fields" 1322 (Value.ref 782),dE P "lay_fields" 1332 (Value.ref 789),dE P "variable_value" 1343 (Value.ref 796),dE P "give_variable" 1352 (Value.ref 803),dE P "fn_called" 1358 (Value.ref 808),dE P "parts_of_tree" 1367 (Value.ref 815),dE P "LOGIC" 1375 (Value.ref 816),dE P "COMPARISONS" 1382 (Value.ref 817),dE P "order_of_texts" 1390 (Value.ref 824),dE P "compared" 1398 (Value.ref 831),dE P "worth_of_texts" 1407 (Value.ref 838),dE P "worth_of_two" 1413 (Value.ref 843),dE P "worth_of_one" 1423 (Value.ref 850),dE P "worth_of_leaf" 1434 (Value.ref 857),dE P "worth_of_tree" 1444 (Value.ref 864),dE P "worth" 1450 (Value.ref 869),dE P "worth_worth" 1451 (Value.ref 869),dE P "MOST_PILE" 1455 (Value.int 20 1454),dE P "WorkRun" 1607 (Value.ref 980),dE P "_law_sown" 1618 (Value.ref 991),dE P "_law_tree" 1625 (Value.ref 998),dE P "_law_two" 1634 (Value.ref 1005),dE P "_law_let" 1642 (Value.ref 1012),dE P "_law_item" 1649 (Value.ref 1019),dE P "_law_parts" 1659 (Value.ref 1026),dE P "_law_data" 1665 (Value.ref 1031),dE P "_law_gone" 1671 (Value.ref 1036),dE P "_law_divisors" 1677 (Value.ref 1041),dE P "_law_euclid" 1683 (Value.ref 1046),dE P "_law_power" 1689 (Value.ref 1051),dE P "_law_figures" 1695 (Value.ref 1056),dE P "_law_turned" 1707 (Value.ref 1063),dE P "_law_wrong" 1713 (Value.ref 1068),dE P "_law_sorted" 1719 (Value.ref 1073),dE P "law" 1725 (Value.ref 1078)] 151,#[]⟩),
 (363,⟨Value.type "type",none,Data.cls (ClassData.mk (Str.ofString "Control") [Value.type "object"] [Value.ref 363,Value.type "object"] 362 (Str.ofString "Control") true [] [] false none false),#[none,none,some (vS "Control" 640),some (vS "Control" 648),some (Value.builtin "object.__new__"),some (Value.bool true)]⟩),
 (362,⟨Value.type "dict",none,Data.dict #[dE P "__module__" 647 (vS "basicplus.control" 636),dE P "__firstlineno__" 651 (Value.int 232 650),dE P "__init__" 659 (Value.ref 360),dE P "__static_attributes__" 663 (Value.ref 361),dE P "__dict__" 665 (Value.ref 364),dE P "__weakref__" 667 (Value.ref 365),dE P "__doc__" 668 Value.none] 4,#[]⟩),
 (486,⟨Value.type "type",none,Data.cls (ClassData.mk (Str.ofString "Flat") [Value.type "object"] [Value.ref 486,Value.type "object"] 485 (Str.ofString "Flat") true [] [] false none false),#[none,none,some (vS "Flat" 809),some (vS "Flat" 817),some (Value.builtin "object.__new__"),some (Value.bool true)]⟩),
 (485,⟨Value.type "dict",none,Data.dict #[dE P "__module__" 816 (vS "basicplus.flatten" 807),dE P "__firstlineno__" 820 (Value.int 311 819),dE P "__init__" 827 (Value.ref 483),dE P "__static_attributes__" 834 (Value.ref 484),dE P "__dict__" 836 (Value.ref 487),dE P "__weakref__" 838 (Value.ref 488),dE P "__doc__" 839 Value.none] 4,#[]⟩),
 (620,⟨Value.type "type",none,Data.cls (ClassData.mk (Str.ofString "Grid") [Value.type "object"] [Value.ref 620,Value.type "object"] 619 (Str.ofString "Grid") true [] [] false none false),#[none,none,some (vS "Grid" 1032),some (vS "Grid" 1040),some (Value.builtin "object.__new__"),some (Value.bool true)]⟩),
 (619,⟨Value.type "dict",none,Data.dict #[dE P "__module__" 1039 (vS "basicplus.arrays" 1028),dE P "__firstlineno__" 1043 (Value.int 454 1042),dE P "__init__" 1053 (Value.ref 617),dE P "__static_attributes__" 1059 (Value.ref 618),dE P "__dict__" 1061 (Value.ref 621),dE P "__weakref__" 1063 (Value.ref 622),dE P "__doc__" 1064 Value.none] 4,#[]⟩),
 (698,⟨Value.type "type",none,Data.cls (ClassData.mk (Str.ofString "World") [Value.type "object"] [Value.ref 698,Value.type "object"] 697 (Str.ofString "World") true [] [] false none false),#[none,none,some (vS "World" 1148),some (vS "World" 1156),some (Value.builtin "object.__new__"),some (Value.bool true)]⟩),
 (697,⟨Value.type "dict",none,Data.dict #[dE P "__module__" 1155 (vS "basicplus.world" 1146),dE P "__firstlineno__" 1159 (Value.int 504 1158),dE P "__init__" 1176 (Value.ref 695),dE P "__static_attributes__" 1205 (Value.ref 696),dE P "__dict__" 1207 (Value.ref 699),dE P "__weakref__" 1209 (Value.ref 700),dE P "__doc__" 1210 Value.none] 4,#[]⟩),
 (980,⟨Value.type "type",none,Data.cls (ClassData.mk (Str.ofString "WorkRun") [Value.type "object"] [Value.ref 980,Value.type "object"] 979 (Str.ofString "WorkRun") true [] [] false none false),#[none,none,some (vS "WorkRun" 1456),some (vS "WorkRun" 1464),some (Value.builtin "object.__new__"),some (Value.bool true)]⟩),
 (979,⟨Value.type "dict",none,Data.dict #[dE P "__module__" 1463 (vS "basicplus.workrun" 1452),dE P "__firstlineno__" 1467 (Value.int 705 1466),dE P "__init__" 1477 (Value.ref 883),dE P "worth" 1485 (Value.ref 890),dE P "whole" 1493 (Value.ref 897),dE P "value_of_name" 1501 (Value.ref 904),dE P "item_of" 1507 (Value.ref 909),dE P "call" 1516 (Value.ref 916),dE P "fn" 1525 (Value.ref 923),dE P "rows_worth" 1534 (Value.ref 930),dE P "answered" 1543 (Value.ref 937),dE P "assign" 1552 (Value.ref 944),dE P "store" 1561 (Value.ref 951),dE P "put" 1567 (Value.ref 956),dE P "next_data" 1575 (Value.ref 963),dE P "number_told" 1583 (Value.ref 970),dE P "plus" 1592 (Value.ref 977),dE P "__static_attributes__" 1600 (Value.ref 978),dE P "__dict__" 1602 (Value.ref 981),dE P "__weakref__" 1604 (Value.ref 982),dE P "__doc__" 1605 Value.none] 4,#[]⟩),
 (434,⟨Value.type "tuple",none,Data.seq #[vS "" 765],#[]⟩),
 (688,⟨Value.type "tuple",none,Data.seq #[Value.int 16 1160,Value.int 9 1161,Value.int 2000 1162,Value.int 20 1163,Value.int 2000 1164],#[]⟩),
 (568,⟨Value.type "tuple",none,Data.seq #[vS "IFNOT" 954,vS "JUMP" 955,vS "GOTO" 956,vS "GOSUB" 957,vS "ONGO" 958,vS "RETURN" 959],#[]⟩),
 (816,⟨Value.type "tuple",none,Data.seq #[vS "AND" 1370,vS "OR" 1371,vS "XOR" 1372,vS "EQV" 1373,vS "IMP" 1374],#[]⟩),
 (817,⟨Value.type "tuple",none,Data.seq #[vS "=" 1376,vS "<>" 1377,vS "<" 1378,vS ">" 1379,vS "<=" 1380,vS ">=" 1381],#[]⟩),
 cF "kind_of" 259 27 1 3 181 263 71,
 cF "kind_of_name" 266 31 2 3 181 272 78,
 cF "first_value" 275 38 1 3 181 279 85,
 cF "figures_of" 282 42 1 3 181 288 92,
 cF "made" 302 58 3 3 181 311 106,
 cF "fits" 324 79 2 3 181 329 120,
 cF "whole_of" 332 81 2 3 181 338 127,
 cF "decimal_of" 341 88 2 3 181 346 134,
 cF "suited" 363 100 4 3 181 370 155,
 cF "is_nought" 373 104 1 3 181 377 162,
 cF "is_true" 380 108 1 3 181 384 169,
 cF "truth" 387 110 1 3 181 391 176,
 cF "sign_of" 394 112 1 3 181 399 183,
 cF "d_mul" 446 130 3 3 181 452 219,
 cF "is_whole" 511 162 1 3 181 515 261,
 cF "settled" 518 166 3 3 181 524 268,
 cF "whole_reckoned" 527 168 5 3 181 535 275,
 cF "cut_quotient" 538 172 2 3 181 544 282,
 cF "cut_rest" 547 177 2 3 181 552 289,
 cF "reckoned" 583 196 5 3 181 596 317,
 cF "negated" 599 211 3 3 181 605 324,
 cF "order_of" 608 213 2 3 181 613 331,
 (359,cD "__init__" "Control.__init__" 652 234 2 3 181 657 359),
 cF "put_upon" 671 238 2 3 181 676 373,
 cF "floor_of" 679 242 1 3 181 684 380,
 cF "found_at" 687 247 3 3 181 694 387,
 cF "cut_to" 697 252 2 3 181 702 394,
 cF "is_past" 705 254 4 3 181 712 401,
 cF "for_begin" 715 256 5 3 181 724 408,
 cF "for_name" 727 261 2 3 181 733 415,
 cF "for_next" 736 266 5 3 181 750 422,
 cG 427 "while_begin" 753 277 2 3 424 181 425 426 756 757,
 cG 432 "while_end" 759 284 2 3 429 181 430 431 762 763,
 cF "wend_place" 766 289 2 3 181 772 440,
 cF "gosub" 775 295 2 3 181 780 447,
 cF "return_place" 783 297 1 3 181 789 454,
 cF "chosen" 792 304 2 3 181 797 461,
 (482,cD "__init__" "Flat.__init__" 821 313 1 3 181 825 482),
 cF "put_row_of" 842 320 3 3 181 848 496,
 cF "put_if" 851 323 3 3 181 859 503,
 cF "put_all" 862 333 3 3 181 869 510,
 cF "gather" 872 339 1 3 181 885 517,
 cF "join_rows" 888 361 3 3 181 895 524,
 cF "end_loops" 898 366 4 3 181 906 531,
 cF "flatten" 909 370 1 3 181 916 538,
 cF "place_of" 919 379 2 3 181 924 545,
 cF "end_of_while" 936 386 2 3 181 941 559,
 cF "next_of_for" 944 390 2 3 181 949 566,
 cF "do_flow" 961 396 3 3 181 967 574,
 cF "do_jump" 970 398 3 3 181 981 581,
 cF "do_loop" 984 417 3 3 181 991 588,
 cF "do_for" 994 430 3 3 181 1012 595,
 cF "next_from" 1015 444 3 3 181 1025 602,
 (616,cD "__init__" "Grid.__init__" 1044 456 4 3 181 1051 616),
 cF "count_of" 1067 462 2 3 181 1074 630,
 cF "kind_in" 1077 467 2 3 181 1082 637,
 cF "check_highs" 1085 469 2 3 181 1091 644,
 cF "dim" 1094 477 3 3 181 1100 651,
 cF "grid_of" 1103 482 3 3 181 1109 658,
 cF "place_of" 1112 486 2 3 181 1120 665,
 cF "get_item" 1124 496 3 3 181 1131 672,
 cF "set_item" 1134 499 4 3 181 1143 679,
 (694,cD "__init__" "World.__init__" 1165 506 6 3 181 1174 694),
 cF "kind_here" 1213 535 2 3 181 1218 708,
 cF "get_name" 1221 537 2 3 181 1226 715,
 cF "set_name" 1229 539 3 3 181 1235 722,
 cG 727 "do_let" 1240 542 3 3 724 181 725 726 1243 1244,
 cF "kind_of_target" 1246 550 2 3 181 1252 734,
 cG 739 "place_told" 1255 553 2 3 736 181 737 738 1258 1259,
 cF "value_at" 1261 559 2 3 181 1266 746,
 cF "put_at" 1269 561 3 3 181 1275 753,
 cF "do_swap" 1278 566 2 3 181 1289 760,
 cF "field_text" 1294 578 2 3 181 1302 767,
 cF "no_field" 1305 583 2 3 181 1310 774,
 cF "variable_value" 1335 597 2 3 181 1341 795,
 cF "give_variable" 1344 604 3 3 181 1350 802,
 cF "parts_of_tree" 1361 633 1 3 181 1365 814,
 cF "compared" 1391 644 2 3 181 1396 830,
 cG 842 "worth_of_two" 1408 656 5 3 839 181 840 841 1411 1412,
 cF "worth_of_one" 1414 667 4 3 181 1421 849,
 cF "worth_of_leaf" 1424 671 3 3 181 1432 856,
 cF "worth_of_tree" 1435 676 3 3 181 1442 863,
 cG 868 "worth" 1445 689 2 3 865 181 866 867 1448 1449,
 (882,cD "__init__" "WorkRun.__init__" 1468 707 4 3 181 1475 882),
 (889,cD "worth" "WorkRun.worth" 1478 716 2 3 181 1483 889),
 (896,cD "whole" "WorkRun.whole" 1486 719 2 3 181 1491 896),
 (903,cD "value_of_name" "WorkRun.value_of_name" 1494 722 2 3 181 1499 903),
 (908,⟨.type "code",none,Data.fields #[vS "item_of" 1502,vS "WorkRun.item_of" 1503,vS "/claim/cut.py" 1504,kI 726,kI 3,kI 0,kI 0,kI 3,Value.ref 905,Value.bool true,kI 181,Value.ref 906,Value.none,Value.none,Value.none,Value.ref 907,kI 1505,kI 726,vS "/claim/cut.py" 1506],#[]⟩),
 (950,cD "store" "WorkRun.store" 1553 751 3 3 181 1559 950),
 (955,⟨.type "code",none,Data.fields #[vS "put" 1562,vS "WorkRun.put" 1563,vS "/claim/cut.py" 1564,kI 754,kI 4,kI 0,kI 0,kI 3,Value.ref 952,Value.bool true,kI 181,Value.ref 953,Value.none,Value.none,Value.none,Value.ref 954,kI 1565,kI 754,vS "/claim/cut.py" 1566],#[]⟩),
 (976,cD "plus" "WorkRun.plus" 1584 763 3 3 181 1590 976),
 cF "_law_sown" 1610 766 2 3 181 1616 990,
 cF "_law_tree" 1619 770 1 3 181 1623 997,
 cF "_law_two" 1626 776 3 3 181 1632 1004,
 cF "_law_let" 1635 778 2 3 181 1640 1011,
 cF "_law_item" 1643 780 1 3 181 1647 1018,
 cF "_law_parts" 1650 782 0 3 181 1657 1025,
 cG 1030 "_law_data" 1660 788 2 3 1027 181 1028 1029 1663 1664,
 cG 1035 "_law_gone" 1666 802 2 3 1032 181 1033 1034 1669 1670,
 cG 1040 "_law_divisors" 1672 821 2 3 1037 181 1038 1039 1675 1676,
 cG 1045 "_law_euclid" 1678 823 2 3 1042 181 1043 1044 1681 1682,
 cG 1050 "_law_power" 1684 831 2 3 1047 181 1048 1049 1687 1688,
 cG 1055 "_law_figures" 1690 837 2 3 1052 181 1053 1054 1693 1694,
 cF "_law_turned" 1696 839 2 3 181 1705 1062,
 cG 1067 "_law_wrong" 1708 846 1 3 1064 181 1065 1066 1711 1712,
 cG 1072 "_law_sorted" 1714 848 2 3 1069 181 1070 1071 1717 1718,
 cG 1077 "law" 1720 865 1 3 1074 181 1075 1076 1723 1724,
 (916,fR "call" "WorkRun.call" 140 5 (vS "basicplus.workrun" 1452) 915),
 (923,fR "fn" "WorkRun.fn" 140 6 (vS "basicplus.workrun" 1452) 922)]
end
end
section
set_option maxHeartbeats 0
noncomputable def x5(T:BT)(n a:Nat):Option Obj:=match bq a n with
 |true=>alive ((T.get a).getD default)
 |false=>none
theorem Ut(s:SharedT)(a:Nat):s.abs.heap.get? a=x5 s.tree s.n a:=by
 unfold x5
 induction e:bq a s.n using Bool.casesOn with
 |false=>exact abs_get_none (by intro h;rw[Pw.mpr h] at e;(exfalso;injection e))
 |true=>
  have e:=Pw.mp e
  show(absHeap s.tree s.n s.life).get? a=_
  unfold Heap.get?
  rw[absHeap_at,if_pos e]
  show(match some ((s.tree.get a).getD default) with|some ⟨_,_,.freed,_⟩=>none|o=>o)=alive _
  generalize(s.tree.get a).getD default=o
  obtain⟨c,d,dt,sl⟩:=o
  cases dt<;>rfl
theorem IV(P:Params):uE=(KT P).map (·.1):=by kernel_rfl
noncomputable def qv:Hook:=kHook KT uE IV
theorem Wo(s:SharedT):qv.obs s.abs=uE.map (x5 s.tree s.n):=by
 show uE.map s.abs.heap.get?=_
 exact p4 fun a _=>Ut s a
theorem Uu(w:World)(os:OsState):(mI (rJ 11 (some (.ref 6))) (rM pw_sm0015_01 w) 6200 (u7 w os) (topStub pw_sm0015_01)).map (fun s=>(tj pw_sm0015_01 w.params s.abs,seenQ qV j7 (importedModules pw_sm0015_01.main.body) yz true s.abs,uE.map (x5 s.tree s.n)))=some (true,openGood qV j7,(KT w.params).map fun p=>some p.2):=by kernel_rfl
theorem Wq(w:World)(os:OsState):(mI (rJ 11 (some (.ref 6))) (rM pw_sm0015_01 w) 6200 (u7 w os) (topStub pw_sm0015_01)).map (fun s=>(tj pw_sm0015_01 w.params s.abs,seenQ qV j7 (importedModules pw_sm0015_01.main.body) yz true s.abs,qv.obs s.abs))=some (true,openGood qV j7,qv.val w):=by
 simp only[Wo]
 exact Uu w os
end
section
noncomputable section
noncomputable def aN:oX:=⟨aw,fun i=>getD (aS pd i) 0,fun i=>getD (aS caL i) 0,nq,25,26,fun c=>bq c 5,Nt,uH⟩
noncomputable def aj(w:World)(s₁:Shared)(ρ:Val)(F:Nat→SV→En→Hp→Prop):Cx:=⟨pw_sm0015_01,w,aN,ρ,aG,KT w.params,s₁.heap,s₁,F⟩
noncomputable def C7(v:Value)(V:SV):Bool:=match V with| .str i=>(match v with| .str s _=>decide (s=aw i)|_=>false)|_=>false
theorem Vf(h:C7 v V=true):∃t j,V=SV.str j∧v=Value.str (aw j) t:=by
 induction V using SV.casesOn with
 |str i=>
  induction v using Value.casesOn with
  |str s t=>exact⟨t,i,rfl,congrArg (Value.str · t) (of_decide_eq_true h)⟩
  |_=>exact nf h
 |_=>exact nf h
noncomputable def xu:List Value→List SV→Bool
 | [],[]=>true
 |v::r,V::q=>C7 v V&&xu r q
 |_,_=>false
noncomputable def CP(v:Value)(a:Addr):Bool:=match v with| .ref b=>ag b a|_=>false
theorem Ic(h:CP v a=true):v= .ref a:=by induction v using Value.casesOn<;>first|exact nf h|exact congrArg Value.ref (aZ h)
noncomputable def Ly(v:Value)(m:Int):Bool:=match v with| .int n _=>bV n m|_=>false
theorem TR{m:Int}(h:Ly v m=true):∃t,v= .int m t:=by induction v using Value.casesOn<;>first|exact nf h|exact⟨_,congrArg (Value.int · _) (ib h)⟩
noncomputable def Ma(d:Data)(l:List SV):Bool:=match d with| .seq vs _=>xu vs.toList l|_=>false
noncomputable def Dh(v:Value):Bool:=match v with| .type t=>decide (t="tuple")|_=>false
theorem Vo(h:Dh v=true):v= .type "tuple":=by induction v using Value.casesOn<;>first|exact nf h|exact congrArg Value.type (of_decide_eq_true h)
noncomputable def ZJ(K:Frag)(v:Value)(l:List SV):Bool:=match v with
 | .ref a=>(match K.lookup a with
  |some o=>Dh o.cls&&Ma o.data l
  |none=>false)
 |_=>false
noncomputable def Mm(K:Frag)(v:Value)(V:SV):Bool:=match V with
 | .fn i=>CP v (aN.fa i)
 | .cls i=>CP v (aN.ca i)
 | .lit m=>Ly v m
 | .au=>true
 | .tup l=>ZJ K v l
 |_=>false
noncomputable def Ll(K:Frag)(g x:Nat):Bool:=match nsIn K mainGlobals (aw x) with
 |some (some v)=>Mm K v (aG.eG g)
 |some none=>(match aG.eG g with
  | .bi b=>decide (bootBuiltins (aw x)=some (nq b))&&decide (aw x≠"__name__")
  |_=>false)
 |none=>false
theorem TM(P:Params):BK (Ll (KT P)) DM=true:=by kernel_rfl
theorem Hh:∀{vs:List Value}{l:List SV},xu vs l=true→vs.length=l.length∧∀(i:Nat)(V:SV),l[i]? =some V→∃(v:Value)(t:Tok),vs[i]? =some v∧∃j,V=SV.str j∧v=Value.str (aw j) t
 | [],[],_=>⟨rfl,fun i V h=>by simp at h⟩
 |v::r,V::q,h=>by
  refine ai (aQ (show(C7 v V&&xu r q)=true from h)) fun h1 h2=> ?_
  refine ai (Hh h2) fun h3 h4=> ?_
  refine eP (Vf h1) fun t i af jS=> ?_;subst af;subst jS
  refine⟨by rw[cw,cw,h3],fun k W e=> ?_⟩
  induction k using Nat.casesAuxOn with
  |zero=>(injection e with e1;subst e1);exact⟨_,t,rfl,i,rfl,rfl⟩
  |succ k=>exact h4 k W e
 | [],_::_,h=>nf h
 |_::_,[],h=>nf h
structure Base(w:World)(s₁:Shared):Prop where
 eA:(KT w.params).In s₁.heap
 top:∃mg mb,TopRead pw_sm0015_01 [] mg mb s₁.heap∨(s₁.heap.Ns mainGlobals mg∧s₁.heap.Ns builtinsNs mb∧s₁.heap.NoLimit∧∀x:Str,x≠"__name__"→mb x=bootBuiltins x)
 sys:∃o,s₁.heap.get? sysModules=some o
variable{s₁:Shared}
theorem Vp{h:Heap}(X:(KT w.params).In h)(e:Mm (KT w.params) v V=true):VR pw_sm0015_01 w aN ρ [] [] h v V:=by
 induction V using SV.casesOn with
 |au=>exact .au v
 |lit m=>obtain⟨t,rfl⟩:=TR e;exact .lit _ _
 |fn i=>rw[Ic e];exact .fn i
 |cls i=>rw[Ic e];exact .cls i
 |tup l=>
  induction v using Value.casesOn with
  |ref a=>
   have e:(match(KT w.params).lookup a with|some o=>Dh o.cls&&Ma o.data l|none=>false)=true:=e
   induction q:(KT w.params).lookup a using Option.casesOn with
   |none=>rw[q] at e;exact nf e
   |some o=>
    rw[q] at e
    refine a1 e fun h1 h2=> ?_
    obtain⟨cl,od,dt,sl⟩:=o
    induction dt using Data.casesOn with
    |seq vs ep=>
     refine ai (Hh h2) fun h3 h4=> ?_
     refine .tup (f:=fun i=>(vs.toList[i]?).getD .none) (ep:=ep) (X _ _ q) (Vo h1) (congrArg (Data.seq · ep) ?_) aP fun i V hV=> ?_
     ·rw[←h3]
      apply Array.ext'
      apply EI
      intro i
      rw[b0]
      rcases fq i vs.toList.length with z|z
      ·rw[lq z,OK,cA z];rfl
      ·rw[jg z,jg (by simpa using z)];rfl
     ·obtain⟨v,t,h5,j,h6,h7⟩:=h4 i V hV
      rw[h5,h6,h7]
      exact .str j t
    |_=>exact nf h2
  |_=>exact nf e
 |_=>exact nf e
theorem W8{x g:Nat}(h:uH x g=true):DM[g]? =some x:=by
 unfold uH at h
 split at h
 ·rename_i y q
  rw[←dc]
  rw[q,aZ h]
 ·exact nf h
theorem TN(B:Base w s₁)(x g:Nat)(h:uH x g=true):∃v,Ge s₁.heap (aw x) v∧VR pw_sm0015_01 w aN ρ [] [] s₁.heap v (aG.eG g):=by
 have e:=Ai (TM w.params) g x (W8 h)
 refine gA B.top fun mg mb T=> ?_
 have T:s₁.heap.Ns mainGlobals mg∧s₁.heap.Ns builtinsNs mb∧s₁.heap.NoLimit∧∀x:Str,x≠"__name__"→mb x=bootBuiltins x:=T.elim (fun T=>⟨T.g,T.b,T.nolimit,T.builtins⟩) id
 refine pW T fun Tg Tb Tl Tn=> ?_
 unfold Ll at e
 split at e
 ·rename_i v q
  exact⟨v,⟨mg,mb,Tg,Tb,.inl (mg_of B.eA Tg q)⟩,Vp B.eA e⟩
 ·rename_i q
  split at e
  ·rename_i b q2
   refine a1 e fun e1 e2=> ?_
   refine⟨nq b,⟨mg,mb,Tg,Tb,.inr ⟨mg_none_of B.eA Tg q,?_⟩⟩,?_⟩
   ·rw[Tn _ (of_decide_eq_true e2)];exact of_decide_eq_true e1
   ·rw[q2];exact .bi b
  ·exact nf e
 ·exact nf e
end
end
section
noncomputable section
noncomputable def Ce(K:Frag)(cc x:Nat):Bool:=match aG.f6 cc x with
 |none=>decide (findIn K (.ref (aN.ca cc)) (aw x)=some none)
 |some f=>decide (findIn K (.ref (aN.ca cc)) (aw x)=some (some (.ref (aN.fa f))))&&(decide (specialIn K (.ref (aN.fa f)) "__get__"=some (some (.builtin "function.__get__")))&&
  (decide (takesIn K (.ref (aN.fa f))=some false)&&(decide (typeIn K (.ref (aN.fa f))=some (.type "function"))&& !copiedNames.contains (aw x))))
noncomputable def Yv(K:Frag)(cc:Nat):Bool:=(match clsIn K (aN.ca cc) with
 |some cd=>cd.hasDict&&onlyObject cd.mro
 |none=>false)&&(decide (findIn K (.ref (aN.ca cc)) "__getattribute__"=some (some (.builtin "object.__getattribute__")))&&(decide (findIn K (.ref (aN.ca cc)) "__getattr__"=some none)&&decide (findIn K (.ref (aN.ca cc)) "__setattr__"=some (some (.builtin "object.__setattr__")))))
noncomputable def NB(K:Frag)(cc:Nat):Bool:=match aG.init cc with
 |none=>true
 |some i=>bq cc 5&&(makesIn K (aN.ca cc)&&(decide (findIn K (.ref (aN.ca cc)) "__init__"=some (some (.ref (aN.fa i))))&&(decide (typeIn K (.ref (aN.fa i))=some (.type "function"))&&keepIn K (.ref (aN.ca cc)))))
theorem S4(P:Params):(Nr.all fun x=>[0,1,2,3,4].all fun cc=>Ce (KT P) cc x)=true:=by kernel_rfl
theorem HB(P:Params):([0,1,2,3,4].all fun cc=>Yv (KT P) cc&&NB (KT P) cc)=true:=by kernel_rfl
theorem Bi{cc:Nat}(h:aN.ic cc=true):cc∈ [0,1,2,3,4]:=by
 have h:cc<5:=blt_iff.mp h
 have:cc=0∨cc=1∨cc=2∨cc=3∨cc=4:=by lia
 rcases this with rfl|rfl|rfl|rfl|rfl<;>simp
theorem GV:∀{l:List Nat}{x:Nat},e7 x l=true→x∈l
 | [],x,h=>by exact nf h
 |a::r,x,h=>by
  have h:cond (ag a x) true (e7 x r)=true:=h
  induction q:ag a x using Bool.casesOn with
  |true=>rw[aZ q];exact .head _
  |false=>rw[q] at h;exact .tail _ (GV h)
theorem TP{cc:Nat}(h:aG.init cc=some i):cc<5:=by
 have h:aS Km cc=some i:=h
 rw[dc] at h
 have:=(dM.mp h).1
 exact this
variable{s₁:Shared}
theorem fP(B:Base w s₁):ax (aj w s₁ ρ F) where
 sys:=B.sys
 NX:=Wm
 inj:=Wl
 lim:=let⟨mg,mb,T⟩:=B.top;T.elim (fun T=>T.nolimit) fun T=>T.2.2.1
 bin:=Ta
 eA:=B.eA
 Ci:=Vy
 o8:=Wk
 DC:=Wj
 glob:=fun x g h=>TN B x g h
 b1:=rfl
 b2:=rfl
 b3:=rfl
 b4:=rfl
 b5:=rfl
 b6:=rfl
 b7:=rfl
 b8:=rfl
 MK:=rfl
 uF:=rfl
 DA:=rfl
 ML:=rfl
 MM:=rfl
 NI:=by show aw 1=_;decide+kernel
 NJ:=by show aw 2=_;decide+kernel
 NL:=by show aw 3=_;decide+kernel
 NM:=by show aw 4=_;decide+kernel
 NN:=by show aw 5=_;decide+kernel
 hand:=S9
 fZ:=fun cc x h1 h2=>by
  have e:=aM.mp (S4 w.params) x (GV h2)
  have e:=aM.mp e cc (Bi h1)
  have e2:=(aQ (aM.mp (HB w.params) cc (Bi h1))).1
  refine MI e2 fun e3 e4 e5 e6=> ?_
  refine⟨?_,of_decide_eq_true e4,of_decide_eq_true e5,of_decide_eq_true e6,fun n=> ?_,fun f n=> ?_⟩
  ·split at e3
   ·rename_i cd q
    exact⟨cd,q,(aQ e3).1,(aQ e3).2⟩
   ·exact nf e3
  ·have n:aG.f6 cc x=none:=n
   unfold Ce at e
   rw[n] at e
   exact of_decide_eq_true e
  ·have n:aG.f6 cc x=some f:=n
   unfold Ce at e
   rw[n] at e
   refine Dw e fun a1 a2 a3 a4 a5=> ?_
   exact⟨of_decide_eq_true a1,of_decide_eq_true a2,of_decide_eq_true a3,of_decide_eq_true a4,by show copiedNames.contains (aw x)=false;simpa using a5⟩
 ND:=fun cc i h=>by
  have h5:=TP h
  have m:aN.ic cc=true:=blt_iff.mpr h5
  have e:=(aQ (aM.mp (HB w.params) cc (Bi m))).2
  have h:aG.init cc=some i:=h
  unfold NB at e
  rw[h] at e
  refine Dw e fun a1 a2 a3 a4 a5=> ?_
  exact⟨m,a2,of_decide_eq_true a3,of_decide_eq_true a4,a5⟩
 sw:=rfl
 sn:=rfl
 cps:=VN
 chr:=VG
end
end
section
noncomputable section
variable{s₁:Shared}
theorem V1(P:Params):(pd.take 107).map (fun a=>(KT P).lookup a)=gk.map fun r=>some r.obj:=by kernel_rfl
theorem Rc:(gk.map fun r=>e9 r.b)=iB.map Fn.body:=by kernel_rfl
theorem w_tab:(gk.all fun r=>wSs eO r.b r.sc)=true:=by kernel_rfl
noncomputable def BD(ps:List Nat)(as:List Arg):Bool:=match ps,as with
 | [],[]=>true
 |p::ps,a::as=>decide (a.arg=aw p)&&BD ps as
 |_,_=>false
theorem SF:∀{ps:List Nat}{as:List Arg},BD ps as=true→as.map (·.arg)=ps.map aw
 | [],[],_=>rfl
 |p::ps,a::as,h=>by
  refine a1 h fun h1 h2=> ?_
  rw[fo,fo,SF h2,of_decide_eq_true h1]
 | [],_::_,h=>by exact nf h
 |_::_,[],h=>by exact nf h
noncomputable def LV(P:Params)(r:lH)(f:Fn):Bool:=codeIn (KT P) (.ref r.cd) (Str.ofString r.q)&&(r.ps.posonlyargs.isEmpty&&(r.ps.kwonlyargs.isEmpty&&(r.ps.vararg.isNone&&(r.ps.kwarg.isNone&&(BD f.ps r.ps.args&&(f.ps.all (fun x=>ef r.sc x)&&(qO f.ps&&qO (r.sc.map (·.1)))))))))
noncomputable def Dn{α β:Type}(f:α→β→Bool):List α→List β→Bool
 |a::l,b::m=>f a b&&Dn f l m
 |_,_=>true
theorem IP{α β:Type}{f:α→β→Bool}:∀{l:List α}{m:List β},Dn f l m=true→∀(i:Nat)a b,l[i]? =some a→m[i]? =some b→f a b=true
 | [],_,_,i,a,b,h,_=>by simp at h
 |_::_,[],_,i,a,b,_,h=>by simp at h
 |x::l,y::m,h,i,a,b,h1,h2=>by
  refine a1 h fun h3 h4=> ?_
  induction i using Nat.casesAuxOn with
  |zero=>(injection h1 with e1;subst e1);(injection h2 with e1;subst e1);exact h3
  |succ i=>exact IP h4 i a b h1 h2
theorem UI(P:Params):Dn (LV P) gk iB=true:=by kernel_rfl
theorem len_tab:(gk.length,iB.length,pd.length)=(107,107,109):=by kernel_rfl
end
end
section
noncomputable section
variable{w:World} {s₁:Shared} {ρ:Val} {F:Nat→SV→En→Hp→Prop}
noncomputable def fdOf(r:lH):FuncData:=fnOf (Str.ofString r.n) (Str.ofString r.q) r.ps (eg aw r.b) (NV aw r.sc (r.mo.map fun i=>(Str.ofString "fast",Const.str (aw i)))) r.dV .none .none r.pm none (.ref r.cd) .none
noncomputable def MN(vs:List Value):List (lH×Fn):=(gk.zip iB).filter fun p=>ag p.2.ps.length vs.length
noncomputable def nj(P:Params)(S:Setting)(vs:List Value):List (Option (List (Str×Value))):=(MN vs).map fun p=>peek (KT P) S (bindArgs (fdOf p.1) ⟨vs,[]⟩)
noncomputable def nk(vs:List Value):List (Option (List (Str×Value))):=(MN vs).map fun p=>some ((p.2.ps.map aw).zip vs)
theorem Ys:(iB.all fun f=>dW f.ps.length 6)=true:=by kernel_rfl
theorem Z9(P:Params)(S:Setting):nj P S []=nk []:=by kernel_rfl
theorem bd1(P:Params)(S:Setting)(a:Value):nj P S [a]=nk [a]:=by kernel_rfl
theorem bd2(P:Params)(S:Setting)(a b:Value):nj P S [a,b]=nk [a,b]:=by kernel_rfl
theorem bd3(P:Params)(S:Setting)(a b c:Value):nj P S [a,b,c]=nk [a,b,c]:=by kernel_rfl
theorem bd4(P:Params)(S:Setting)(a b c d:Value):nj P S [a,b,c,d]=nk [a,b,c,d]:=by kernel_rfl
theorem bd5(P:Params)(S:Setting)(a b c d e:Value):nj P S [a,b,c,d,e]=nk [a,b,c,d,e]:=by kernel_rfl
theorem bd6(P:Params)(S:Setting)(a b c d e f:Value):nj P S [a,b,c,d,e,f]=nk [a,b,c,d,e,f]:=by kernel_rfl
theorem Vw(P:Params)(S:Setting):∀(vs:List Value),dW vs.length 6=true→nj P S vs=nk vs
 | [],_=>Z9 P S
 | [a],_=>bd1 P S a
 | [a,b],_=>bd2 P S a b
 | [a,b,c],_=>bd3 P S a b c
 | [a,b,c,d],_=>bd4 P S a b c d
 | [a,b,c,d,e],_=>bd5 P S a b c d e
 | [a,b,c,d,e,f],_=>bd6 P S a b c d e f
 |_::_::_::_::_::_::_::_,h=>nf h
theorem VA{P:Params}{r:lH}{f:Fn}(hr:gk[i]? =some r)(hf:iB[i]? =some f)(K:(KT P).In s.heap)(hl:vs.length=f.ps.length):BindsTo s (fdOf r) ⟨vs,[]⟩ ((f.ps.map aw).zip vs):=
 kp_binds K fun S=>fk.mp (Vw P S vs (by rw[hl];exact aM.mp Ys f (cf hf))) (r,f) (vw.mpr ⟨cf (N7.mpr ⟨hr,hf⟩),Nat.beq_eq.mpr hl.symm⟩)
theorem xi{r:lH}{f:Fn}(hr:gk[i]? =some r)(hf:iB[i]? =some f):qC (aj w s₁ ρ F) i f.ps r.sc (eg aw r.b):=by
 have e:=IP (UI w.params) i r f hr hf
 unfold LV at e
 refine MJ e fun a1 a2 a3 a4 a5 a6 a7 a8 a9=> ?_
 have hi:i<107:=by
  have:=(dM.mp hr).1
  have l:=congrArg (·.1) len_tab
  have l:gk.length=107:=l
  assumption
 have lk:(KT w.params).lookup (aN.fa i)=some r.obj:=by
  have:=congrArg (·[i]?) (V1 w.params)
  simp only[b0,hr] at this
  rw[List.getElem?_take_of_lt hi] at this
  have l:pd.length=109:=congrArg (·.2.2) len_tab
  have hx:pd[i]? =some (aN.fa i):=by
   show _=some (getD (aS pd i) 0)
   rw[dc,cA (by lia)];rfl
  rw[hx] at this
  exact Option.some.inj this
 exact⟨⟨fdOf r,_,_,_,lk,⟨rfl,rfl,rfl,rfl,rfl,rfl,rfl,rfl,a1⟩,fun s vs K hl=>VA hr hf K hl⟩,fun x m=>aM.mp a7 x m,sO a8,sO a9⟩
theorem Ti(C:ax (aj w s₁ ρ F))(hn:n≤100000){f:Fn}(hf:iB[i]? =some f):BodyOk (aj w s₁ ρ F) n i f:=by
 have hi:i<107:=by
  have:=(dM.mp hf).1
  have l:iB.length=107:=congrArg (·.2.1) len_tab
  assumption
 have hr:∃r,gk[i]? =some r:=by
  have l:gk.length=107:=congrArg (·.1) len_tab
  exact⟨_,cA (by assumption)⟩
 obtain⟨r,hr⟩:=hr
 have hb:f.body=e9 r.b:=by
  have:=congrArg (·[i]?) Rc
  simp only[b0,hr,hf] at this
  exact(Option.some.inj this).symm
 refine⟨⟨r.sc,eg aw r.b,xi hr hf,fun m cl Y=> ?_⟩⟩
 rw[hb]
 exact pP C Y hn r.b r.sc (aM.mp w_tab r (cf hr))
theorem Sf{hook:aX→aX}:br c 0 (run aG dS hook n 0):=fun _ _ _ _ _ _ _ _ _ _ _ _ _ q=>(a0 q).elim
theorem G7(C:ax (aj w s₁ ρ F)){n:Nat}(hn:n≤100000){ih:aX}{m:Nat}(Y:br (aj w s₁ ρ F) m ih):br (aj w s₁ ρ F) (m+1) fun f as h k=>lX aG n ih (dS f) as h k:=fun{A X ad s h f as vs k}ao I hl P q=>by
 have q:(aj w s₁ ρ F).Ok (lX aG n ih (dS f) as h k):=q
 induction e:dS f using Option.casesOn with
 |none=>rw[e] at q;exact(a0 q).elim
 |some d=>
  rw[e] at q
  refine Fs C (Ti C hn ?_) Y ao I hl P q
  rw[←dc];exact e
theorem BB(C:ax (aj w s₁ ρ F)){n:Nat}(hn:n≤100000){hook:aX→aX}(hk:∀m cl,br (aj w s₁ ρ F) m cl→br (aj w s₁ ρ F) m (hook cl)):∀m,br (aj w s₁ ρ F) m (run aG dS hook n m)
 |0=>Sf
 |m+1=>hk _ _ (G7 C hn (BB C hn hk m))
end
end
section
noncomputable abbrev aR:=List (IX×IX)
noncomputable def l6(a b:Option aR):Option aR:=match a with
 |some x=>(match b with|some y=>some (x++y)|none=>none)
 |none=>none
theorem si{a b:Option aR}{e:aR}(h:l6 a b=some e):∃x y,a=some x∧b=some y∧e=x++y:=by
 unfold l6 at h
 split at h
 ·split at h
  ·(injection h with e1;subst e1);exact⟨_,_,rfl,rfl,rfl⟩
  ·(exfalso;injection h)
 ·(exfalso;injection h)
noncomputable def cy(ρ' ρ:Val)(e:aR):Prop:=∀p∈e,p.1.eval ρ'=p.2.eval ρ
theorem nZ{a b:aR}(h:cy ρ' ρ (a++b)):cy ρ' ρ a∧cy ρ' ρ b:=⟨fun p m=>h p (bj.mpr (.inl m)),fun p m=>h p (bj.mpr (.inr m))⟩
noncomputable def pU(f:SV→SV→Option aR):List SV→List SV→Option aR
 | [],[]=>some []
 |V::l,V'::l'=>l6 (f V V') (pU f l l')
 |_,_=>none
noncomputable def nK(f:SV→SV→Option aR)(l:List (Nat×SV)):List (Nat×SV)→Option aR
 | []=>some []
 |(x,V')::l'=>l6 (match cX V' with
  |true=>some []
  |false=>(match look l x with
   |some V=>(match cX V with|true=>none|false=>f V V')
   |none=>none)) (nK f l l')
section
variable{α β:Type} {x y:Option α} {e:α}
theorem cO(h:cond b x y=some e)(f:b=true→x=some e→P)(g:b=false→y=some e→P):P:=by
 induction b with
 |true=>exact f rfl h
 |false=>exact g rfl h
theorem cN(h:cond b x none=some e)(f:b=true→x=some e→P):P:=cO h f fun _ h=>nn h
noncomputable def ob(o:Option β)(f:β→Option α):Option α:=Option.rec none f o
theorem oB{o:Option β}{f:β→Option α}(h:ob o f=some e)(g:∀a,o=some a→f a=some e→P):P:=by
 induction o using Option.casesOn with
 |none=>exact nn h
 |some a=>exact g a rfl h
noncomputable def CE(o:SO)(f:List SV→Option α):Option α:=SO.rec f (fun _ _=>none) (fun _=>none) (fun _=>none) (fun _ _=>none) (fun _ _=>none) o
noncomputable def C0(o:SO)(f:List (Nat×SV)→Option α):Option α:=SO.rec (fun _=>none) (fun _ _=>none) (fun _=>none) f (fun _ _=>none) (fun _ _=>none) o
theorem HV{o:SO}{f:List SV→Option α}(h:CE o f=some e)(g:∀l,o= .lst l→f l=some e→P):P:=by
 induction o using SO.casesOn with
 |lst l=>exact g l rfl h
 |_=>exact nn h
theorem Il{o:SO}{f:List (Nat×SV)→Option α}(h:C0 o f=some e)(g:∀l,o= .cb l→f l=some e→P):P:=by
 induction o using SO.casesOn with
 |cb l=>exact g l rfl h
 |_=>exact nn h
end
theorem cB{b x y:Bool}(h:cond b x y=true)(f:b=true→x=true→P)(g:b=false→y=true→P):P:=by
 induction b with
 |true=>exact f rfl h
 |false=>exact g rfl h
noncomputable def uj(o:Option Nat)(n:Nat):Bool:=Option.rec false (fun m=>ag m n) o
theorem H7{o:Option Nat}(h:uj o n=true):o=some n:=by induction o using Option.casesOn<;>first|exact nf h|exact congrArg some (aZ h)
theorem xq(h:neg b=true):b=false:=by
 induction b with
 |true=>exact nf h
 |false=>rfl
noncomputable def oU(V:SV):IX:=match V with| .tree e _=>e|_=> .lit 0
theorem qU(h:aL V 14=true):∃n,V= .tree (oU V) n:=by
 induction V using SV.casesOn with
 |tree e n=>exact⟨n,rfl⟩
 |_=>exact nf h
noncomputable def KP(V V':SV):Bool:=cond (aL V' 0) (aL V 0) (cond (aL V' 1) (ah (aL V 1) (qk (rn V) (rn V'))) (cond (aL V' 2) (ah (aL V 2) (bV (pX V) (pX V')))
 (cond (aL V' 4) (ah (aL V 4) (ag (ct V) (ct V'))) (cond (aL V' 8) (ah (aL V 8) (ag (ct V) (ct V'))) (cond (aL V' 9) (ah (aL V 9) (ag (ct V) (ct V'))) false)))))
noncomputable def CG{α:Type}(π:List Nat)(hs:Hp)(V:SV)(f:SO→Option α):Option α:=cond (ah (aL V 12) (neg (e7 (ct V) π))) (ob (aS hs (ct V)) f) none
noncomputable def dY(π:List Nat)(hs:Hp)(n:Nat):SV→SV→Option aR:=Nat.rec (fun _ _=>none) (fun _ f V V'=>cond (aL V' 17) (some [])
 (cond (KP V V') (some [])
 (cond (ah (bQ V) (bQ V')) (some [(aC V',aC V)])
 (cond (ah (aL V' 5) (aL V 5)) (pU f (bU V) (bU V'))
 (cond (aL V' 6) (cond (aL V 6) (pU f (bU V) (bU V')) (CG π hs V fun o=>CE o fun l=>pU f l (bU V')))
 (cond (aL V' 7) (cond (aL V 7) (nK f (iA V) (iA V')) (CG π hs V fun o=>C0 o fun l=>nK f l (iA V')))
 (cond (ah (aL V' 14) (aL V 14)) (some [(oU V',oU V)])
 (cond (ah (aL V' 12) (ah (aL V 12) (uj (aS π (ct V')) (ct V)))) (some []) none)))))))) n
theorem BH{f:SV→SV→Option aR}:∀{l l':List SV}{e:aR}{vs:List Value},(∀V∈l,∀V' v e,f V V'=some e→cy ρ' ρ e→R v V→R' v V')→pU f l l'=some e→cy ρ' ρ e→Paired R vs l→Paired R' vs l'
 | [],[],e,vs,_,_,_,P=>by cases P;exact .nil
 |V::l,V'::l',e,vs,hf,h,q,P=>by
  refine dK (si h) fun x y h1 h2 af=> ?_;subst af
  refine ai (nZ q) fun q1 q2=> ?_
  cases P with
  |cons r P=>exact .cons (hf V (.head _) V' _ x h1 q1 r) (BH (fun V m=>hf V (.tail _ m)) h2 q2 P)
 | [],_::_,e,vs,_,h,_,_=>by(exfalso;injection h)
 |_::_,[],e,vs,_,h,_,_=>by(exfalso;injection h)
theorem mE:∀{l:List (Nat×SV)}{x:Nat}{V:SV},look l x=some V→(x,V)∈l
 | [],x,V,h=>by(exfalso;injection h)
 |(y,U)::l,x,V,h=>by
  rw[eB] at h
  split at h
  ·rename_i e;(injection h with e1;subst e1);subst e;exact .head _
  ·exact .tail _ (mE h)
theorem BG{f:SV→SV→Option aR}{l:List (Nat×SV)}:∀{l':List (Nat×SV)}{e:aR},nK f l l'=some e→cy ρ' ρ e→∀x V',(x,V')∈l'→cX V'=false→∃V e1,look l x=some V∧cX V=false∧f V V'=some e1∧cy ρ' ρ e1
 | [],e,_,_,x,V',m,_=>by exact(aP m).elim
 |(y,U)::l',e,h,q,x,V',m,u=>by
  refine dK (si h) fun a b h1 h2 af=> ?_;subst af
  refine ai (nZ q) fun q1 q2=> ?_
  rcases aE.mp m with z|m
  ·(injection z with e1 e2;subst e1;subst e2)
   rw[u] at h1
   dsimp only at h1
   split at h1
   ·rename_i V hl
    induction hu:cX V using Bool.casesOn with
    |true=>rw[hu] at h1;(exfalso;injection h1)
    |false=>rw[hu] at h1;exact⟨V,a,hl,hu,h1,q1⟩
   ·(exfalso;injection h1)
  ·exact BG h2 q2 x V' m u
noncomputable def Cx.to(c:Cx)(ρ:Val)(F:Nat→SV→En→Hp→Prop):Cx:={c with ρ:=ρ,F:=F}
structure lR(π:List Nat)(X X':List Addr)(ad ae:Ad):Prop where
 sub:∀a∈X',a∈X
 at':∀(j i:Nat),aS π j=some i→∃p,ad[i]? =some p∧ae[j]? =some p
 out:∀(i:Nat)p,ad[i]? =some p→e7 i π=false→p.1∉X'
section
variable{ae:Ad} {hs:Hp}
theorem Df{a a':SV}(sub:∀a∈X',a∈X)(r:c.VR X ad hh v (.tup [.str i,a]))(f:∀u,c.VR X ad hh u a→(c.to ρ' F').VR X' ae hh u a'):(c.to ρ' F').VR X' ae hh v (.tup [.str i,a']):=by
 obtain⟨x,o,vs,ep,e,ho,hc,hd,hx,P⟩:=lG r
 subst e
 revert hd
 refine p1 P fun u vs r0 P=>p1 P fun u1 vs r1 P=>p0 P fun hd=> ?_
 exact j4 (c:=c.to ρ' F') (.cons (av (VR.i7 r0) fun t e=>e▸ .str i t) (.cons (f _ r1) .nil)) ho hc hd fun m=>hx (sub _ m)
theorem IH{e e':IX}{n n':Int}(q:e'.eval ρ'=e.eval c.ρ)(r:c.VR X ad hh v (.sym e n)):(c.to ρ' F').VR X' ae hh v (.sym e' n'):=by
 refine av (VR.fS r) fun t ev=> ?_
 rw[ev,←q];exact .sym e' n' t
theorem v9{e e':IX}{n n':Int}(q:e'.eval ρ'=e.eval c.ρ)(r:c.VR X ad hh v (.tree e n))(sub:∀a∈X',a∈X):(c.to ρ' F').VR X' ae hh v (.tree e' n'):=by
 rcases r.inv with⟨h1,r⟩|⟨h1,m,r⟩
 ·exact .oE (by show 0≤e'.eval ρ';rw[q];exact h1) (Df sub r fun u r=>IH q r)
 ·exact .oC (m:=n') (by show e'.eval ρ'<0;rw[q];exact h1) (Df sub r fun u r=>Df sub r fun u r=>IH (by show _-_=_-_;rw[q];rfl) r)
theorem UJ{V':SV}(h:KP V V'=true)(r:c.VR X ad hh v V):(c.to ρ' F').VR X' ae hh v V':=by
 refine cB h (fun e h=> ?_) fun _ h=>cB h (fun e h=>d1 h fun a b=> ?_) fun _ h=>cB h (fun e h=>d1 h fun a b=> ?_) fun _ h=>cB h (fun e h=>d1 h fun a b=> ?_) fun _ h=>cB h (fun e h=>d1 h fun a b=> ?_) fun _ h=>cB h (fun e h=>d1 h fun a b=> ?_) fun _ h=>nf h
 all_goals refine bg (c:=c.to ρ' F') (bh e).symm ?_
 ·rw[VR.kl (bg (bh h) r)];exact .none
 ·rw[Ft] at b
  rw[VR.lM (bg (bh a) r),beq_iff_eq.mp b];exact .bool _
 ·refine av (VR.dj (bg (bh a) r)) fun t ev=> ?_
  rw[ev,ib b];exact .lit _ t
 ·refine av (VR.i7 (bg (bh a) r)) fun t ev=> ?_
  rw[ev,aZ b];exact .str _ t
 ·rw[VR.D3 (bg (bh a) r),aZ b];exact .fn _
 ·rw[VR.Lw (bg (bh a) r),aZ b];exact .cls _
theorem TS{V':SV}(h:bQ V=true)(h':bQ V'=true)(q:(aC V').eval ρ'=(aC V).eval c.ρ)(r:c.VR X ad hh v V):(c.to ρ' F').VR X' ae hh v V':=by
 refine av (eU h r) fun t ev=> ?_
 rw[ev,←q]
 exact YR (P:=(c.to ρ' F').VR X' ae hh (.int ((aC V').eval ρ') t) V') h' (fun n e=>by rw[e];exact .lit n t) fun x n e=>by rw[e];exact .sym x n t
theorem Ja{l:List (Nat×SV)}(ho:∃o,g.get? a=some o)(hm:g.MapOf (strKind c.prog c.w) a m)(hx:a∉X)(w:∀x V,look l x=some V→cX V=false→∃v,m (c.S.nm x)=some v∧c.VR X ad g v V):c.VR X ad g (.ref a) (.bu l):=by
 refine av ho fun o ho=> ?_
 refine .bu (f:=fun x=>(m (c.S.nm x)).getD .none) ho hm hx (fun x V e u=>ak (w x V e u) fun v h _=>by rw[h];rfl) fun x V e=> ?_
 induction u:cX V using Bool.casesOn with
 |true=>rw[Au u];exact .au _
 |false=>
  refine ak (w x V e u) fun v h r=> ?_
  rw[h];exact r
theorem H6(I:Inv c X ad hs s)(T:lR π X X' ad ae){α:Type}{f:SO→Option α}{e:α}(h:CG π hs V f=some e)(r:c.VR X ad s.heap v V)(g:∀(p:Addr×Addr)o,v= .ref p.1→p.1∉X'→c.OR X ad s.heap p o→f o=some e→P):P:=
 cN h fun z h=>d1 z fun z1 z2=>oB h fun o ho h=>by
  refine ak (VR.uc (i:=ct V) (bg (bh z1) r)) fun p hp ev=>ak (I.fit _ _ ho) fun p' gn R=> ?_
  obtain rfl:=Option.some.inj (hp.symm.trans gn)
  exact g p o ev (T.out _ _ hp (xq z2)) R h
theorem qt(I:Inv c X ad hs s)(T:lR π X X' ad ae):∀(n:Nat)(V V':SV)(v:Value)(e:aR),dY π hs n V V'=some e→cy ρ' c.ρ e→c.VR X ad s.heap v V→(c.to ρ' F').VR X' ae s.heap v V'
 |0,V,V',v,e,h,_,_=>nn h
 |n+1,V,V',v,e,h,q,r=>by
  have ih:=qt I T n
  have lists:∀{vs:List Value}{l l':List SV},pU (dY π hs n) l l'=some e→Paired (c.VR X ad s.heap) vs l→Paired ((c.to ρ' F').VR X' ae s.heap) vs l':=fun h P=>BH (fun V _ V' v e h q r=>ih V V' v e h q r) h q P
  have tx:∀{a:Addr}{m:Str→Option Value}{l l':List (Nat×SV)},nK (dY π hs n) l l'=some e→(∃o,s.heap.get? a=some o)→s.heap.MapOf (strKind c.prog c.w) a m→a∉X'→(∀x V,look l x=some V→cX V=false→∃v,m (c.S.nm x)=some v∧c.VR X ad s.heap v V)→(c.to ρ' F').VR X' ae s.heap (.ref a) (.bu l'):=fun h ho hm hx w=>
   Ja (c:=c.to ρ' F') ho hm hx fun x V' e u=>ll (BG h q x V' (mE e) u) fun V e1 a1 a2 a3 a4=>ak (w x V a1 a2) fun v b1 b2=>⟨v,b1,ih V V' v e1 a3 a4 b2⟩
  have to:∀{W},V'=W→(c.to ρ' F').VR X' ae s.heap v W→(c.to ρ' F').VR X' ae s.heap v V':=fun e r=>e▸r
  have one:∀{x y},some [(x,y)]=some e→x.eval ρ'=y.eval c.ρ:=fun{x y}h=>q (x,y) (by rw[←Option.some.inj h];exact .head _)
  refine cO h (fun z _=>to (bh z) (.au v)) fun _ h=>cO h (fun z _=>UJ z r) fun _ h=>cO h (fun z h=>d1 z fun z1 z2=>TS z1 z2 (one h) r) fun _ h=>cO h (fun z h=>d1 z fun z1 z2=>to (bh z1) ?_) fun _ h=>cO h (fun z h=>to (bh z) ?_) fun _ h=>cO h (fun z h=>to (bh z) ?_) fun _ h=>cO h (fun z h=>d1 z fun z1 z2=> ?_) fun _ h=>cN h fun z _=>gj z fun z1 z2 z3=>to (bh z1) ?_
  ·obtain⟨_,_,vs,_,ev,h1,h2,h3,h4,P⟩:=lG (l:=bU V) (bg (bh z2) r)
   rw[ev];exact j4 (c:=c.to ρ' F') (lists h P) h1 h2 h3 fun m=>h4 (T.sub _ m)
  ·refine cO h (fun z h=>eL (l:=bU V) (bg (bh z) r) fun a vs ev ho hx P=>av ho fun ep ho=> ?_) fun _ h=>H6 I T h r fun p o ev hx R h=>HV h fun l eo h=> ?_
   ·rw[ev];exact lE (c:=c.to ρ' F') (lists h P) ho fun m=>hx (T.sub _ m)
   ·subst eo
    obtain⟨_,vs,⟨ep,hl⟩,P⟩:=R
    rw[ev];exact lE (c:=c.to ρ' F') (lists h P) hl hx
  ·refine cO h (fun z h=> ?_) fun _ h=>H6 I T h r fun p o ev hx R h=>Il h fun l eo h=> ?_
   ·obtain⟨_,o,f,m,h1,h2,h3,h4,h5,ev⟩:=VR.qK (l:=iA V) (bg (bh z) r)
    rw[ev];exact tx h ⟨o,h1⟩ h2 (fun m=>h3 (T.sub _ m)) fun x V a b=>⟨f x,h4 x V a b,h5 x V a⟩
   ·subst eo
    obtain⟨_,aU,hd,h4,h5⟩:=R
    rw[ev];exact tx h (iI (id hd) fun o _ _ uN _=>⟨o,uN⟩) hd.mapOf hx h4
  ·refine av (qU z1) fun n1 e1=>av (qU z2) fun n2 e2=>to e1 ?_
   exact v9 (one h) (bg e2 r) T.sub
  ·refine ak (T.at' _ _ (H7 z3)) fun p h1 h2=>ak (VR.uc (i:=ct V) (bg (bh z2) r)) fun p' hp ev=> ?_
   obtain rfl:=Option.some.inj (hp.symm.trans h1)
   rw[ev];exact .ref h2
end
end
variable{eqs:aR}
section
noncomputable def ju(V:SV):Bool:=e7 V.ctorIdx [0,1,2,4,8,9,17]
noncomputable def fy(n:Nat):SV→Bool:=Nat.rec (fun _=>false) (fun _ f V=>cond (ju V) true (cond (aL V 5) ((bU V).all f) (cond (aL V 6) ((bU V).all f) (cond (aL V 7) ((iA V).all fun p=>f p.2) (cond (aL V 14) (tc (oU V)) false))))) n
noncomputable def nt(f:SV→SV)(l:List (Nat×SV)):List (Nat×SV):=l.map fun p=>(p.1,f p.2)
noncomputable def MT(f:SV→SV)(o:Option SO):SV:=Option.rec .au (fun o=>SO.rec (fun l=> .ar (l.map f)) (fun _ _=> .au) (fun _=> .au) (fun l=> .bu (nt f l)) (fun _ _=> .au) (fun _ _=> .au) o) o
noncomputable def bG(ρ:Val)(π:List Nat)(hs:Hp)(n:Nat):SV→SV:=Nat.rec (fun _=> .au) (fun _ f V=>cond (ju V) V (cond (aL V 3) (.lit ((aC V).eval ρ)) (cond (aL V 14) (.tree (.lit ((oU V).eval ρ)) 0)
 (cond (aL V 5) (.tup ((bU V).map f)) (cond (aL V 6) (.ar ((bU V).map f)) (cond (aL V 7) (.bu (nt f (iA V))) (cond (ah (aL V 12) (neg (e7 (ct V) π))) (MT f (aS hs (ct V))) .au))))))) n
theorem cP{α:Type}{Q:α→Prop}{x y:α}(f:b=true→Q x)(g:b=false→Q y):Q (cond b x y):=by
 induction b with
 |true=>exact f rfl
 |false=>exact g rfl
theorem Fv{f:SV→SV}{Q:SV→Prop}(o:Option SO)(a:∀l,o=some (.lst l)→Q (.ar (l.map f)))(b:∀l,o=some (.cb l)→Q (.bu (nt f l)))(u:Q .au):Q (MT f o):=by
 induction o using Option.casesOn with
 |none=>exact u
 |some o=>induction o using SO.casesOn with
  |lst l=>exact a l rfl
  |cb l=>exact b l rfl
  |_=>exact u
theorem all_map{α β:Type}{f:β→Bool}{g:α→β}{l:List α}(h:∀a∈l,f (g a)=true):(l.map g).all f=true:=by
 rw[aM]
 intro b m
 refine ak (bz.mp m) fun a m2 af=> ?_;subst af
 exact h a m2
theorem Tw{g:SV→Bool}{f:SV→SV}{l:List (Nat×SV)}(h:∀V,g (f V)=true):(nt f l).all (fun p=>g p.2)=true:=by
 rw[aM]
 intro b m
 refine ak (bz.mp m) fun a m af=> ?_;subst af
 exact h _
theorem AL(ρ:Val)(π:List Nat)(hs:Hp):∀(n:Nat)(V:SV),fy (n+1) (bG ρ π hs n V)=true
 |0,V=>rfl
 |n+1,V=>by
  have ih:=AL ρ π hs n
  have L:∀l:List SV,(l.map (bG ρ π hs n)).all (fy (n+1))=true:=fun l=>all_map fun a _=>ih a
  have D:∀l:List (Nat×SV),(nt (bG ρ π hs n) l).all (fun p=>fy (n+1) p.2)=true:=fun l=>Tw ih
  refine cP (Q:=fun W=>fy (n+2) W=true) (fun e=> ?_) fun _=>cP (Q:=fun W=>fy (n+2) W=true) (fun _=>rfl) fun _=>cP (Q:=fun W=>fy (n+2) W=true) (fun _=>rfl) fun _=>cP (Q:=fun W=>fy (n+2) W=true) (fun _=>L _) fun _=>cP (Q:=fun W=>fy (n+2) W=true) (fun _=>L _) fun _=>
   cP (Q:=fun W=>fy (n+2) W=true) (fun _=>D _) fun _=>cP (Q:=fun W=>fy (n+2) W=true) (fun _=>Fv (Q:=fun W=>fy (n+2) W=true) _ (fun l _=>L l) (fun l _=>D l) rfl) fun _=>rfl
  show cond (ju V) true _=true
  rw[e];rfl
theorem GR{f:SV→SV}:∀{l:List (Nat×SV)}{x:Nat}{V':SV},look (nt f l) x=some V'→∃V,look l x=some V∧V'=f V
 | [],x,V',h=>by(exfalso;injection h)
 |(y,U)::l,x,V',h=>by
  have h:look ((y,f U)::nt f l) x=some V':=h
  rw[eB] at h
  rw[eB]
  split at h
  ·rename_i e;(injection h with e1;subst e1);exact⟨U,if_pos e,rfl⟩
  ·rename_i e
   refine ak (GR h) fun V h1 h2=> ?_
   exact⟨V,by rw[if_neg e];exact h1,h2⟩
theorem Bz{f:SV→SV}(h:∀v V,R v V→R' v (f V))(P:Paired R vs l):Paired R' vs (l.map f):=by
 induction P with
 |nil=>exact .nil
 |cons r P ih=>exact .cons (h _ _ r) ih
section
variable{ae:Ad} {hs:Hp}
theorem Qf{e:IX}(h:tc e=true)(ρ' ρ:Val):e.eval ρ'=e.eval ρ:=by induction e using IX.casesOn<;>first|rfl|exact nf h
theorem HJ{h:Heap}(r:c.VR X ad h v V)(e:ju V=true):(c.to ρ' F').VR X' ae h v V:=by
 induction r using VR.casesOn with
 |none=>exact .none
 |bool b=>exact .bool b
 |lit m t=>exact .lit m t
 |str i t=>exact .str i t
 |fn i=>exact .fn i
 |cls i=>exact .cls i
 |au v=>exact .au v
 |_=>exact nf e
theorem wR(sub:∀a∈X',a∈X){h:Heap}:∀(n:Nat)(V:SV)(v:Value),fy n V=true→c.VR X ad h v V→(c.to ρ' F').VR X' ae h v V
 |0,V,v,h,_=>nf h
 |n+1,V,v,hb,r=>by
  have ih:=wR sub (h:=h) n
  have to:∀{W},V=W→(c.to ρ' F').VR X' ae h v W→(c.to ρ' F').VR X' ae h v V:=fun e r=>e▸r
  refine cB hb (fun e _=>HJ r e) fun _ hb=>cB hb (fun e hb=> ?_) fun _ hb=>cB hb (fun e hb=> ?_) fun _ hb=>cB hb (fun e hb=> ?_) fun _ hb=>cB hb (fun e hb=> ?_) fun _=>nf
  ·have hb:=aM.mp hb
   obtain⟨_,_,_,_,h1,h2,h3,h4,h5,ev⟩:=VR.jG (l:=bU V) (bg (bh e) r)
   exact to (bh e) (ev▸ .tup h1 h2 h3 (fun m=>h4 (sub _ m)) fun i V e=>ih V _ (hb V (cf e)) (h5 i V e))
  ·have hb:=aM.mp hb
   obtain⟨_,_,_,h1,h4,h5,ev⟩:=VR.mT (l:=bU V) (bg (bh e) r)
   exact to (bh e) (ev▸ .ar h1 (fun m=>h4 (sub _ m)) fun i V e=>ih V _ (hb V (cf e)) (h5 i V e))
  ·have hb:=aM.mp hb
   obtain⟨_,_,_,_,h1,h2,h3,h4,h5,ev⟩:=VR.qK (l:=iA V) (bg (bh e) r)
   exact to (bh e) (ev▸ .bu h1 h2 (fun m=>h3 (sub _ m)) h4 fun x V e=>ih V _ (hb (x,V) (mE e)) (h5 x V e))
  ·refine av (qU e) fun n e=>to e ?_
   exact v9 (Qf hb _ _) (bg e r) sub
theorem Tx(ρ:Val)(n:Nat):bG ρ π hs n .au= .au:=by induction n using Nat.casesAuxOn<;>rfl
theorem Bj(I:Inv c X ad hs s)(T:lR π X X' ad ae):∀(n:Nat)(V:SV)(v:Value),c.VR X ad s.heap v V→(c.to ρ' F').VR X' ae s.heap v (bG c.ρ π hs n V)
 |0,V,v,_=> .au v
 |n+1,V,v,r=>by
  have ih:=Bj I T n
  have lists:∀{vs:List Value}{l:List SV},Paired (c.VR X ad s.heap) vs l→Paired ((c.to ρ' F').VR X' ae s.heap) vs (l.map (bG c.ρ π hs n)):=fun P=>Bz (fun v V r=>ih V v r) P
  have tx:∀{a:Addr}{m:Str→Option Value}{l:List (Nat×SV)},(∃o,s.heap.get? a=some o)→s.heap.MapOf (strKind c.prog c.w) a m→a∉X'→(∀x V,look l x=some V→cX V=false→∃v,m (c.S.nm x)=some v∧c.VR X ad s.heap v V)→(c.to ρ' F').VR X' ae s.heap (.ref a) (.bu (nt (bG c.ρ π hs n) l)):=fun ho hm hx w=>
   Ja (c:=c.to ρ' F') ho hm hx fun x V' e u=>ak (GR e) fun V h1 h2=>by
    induction z:cX V using Bool.casesOn with
    |true=>rw[h2,Au z,Tx] at u;exact nf u.symm
    |false=>exact ak (w x V h1 z) fun v b1 b2=>⟨v,b1,h2▸ih V v b2⟩
  refine cP (fun e=>HJ r e) fun _=>cP (fun e=> ?_) fun _=>cP (fun e=> ?_) fun _=>cP (fun e=> ?_) fun _=>cP (fun e=> ?_) fun _=>cP (fun e=> ?_) fun _=>cP (fun e=>d1 e fun e1 e2=> ?_) fun _=> .au v
  ·exact av (VR.fS (bg (qf e) r)) fun t ev=>ev▸ .lit _ t
  ·exact av (qU e) fun k e=>v9 (e':= .lit ((oU V).eval c.ρ)) rfl (bg e r) T.sub
  ·obtain⟨_,_,vs,_,ev,h1,h2,h3,h4,P⟩:=lG (l:=bU V) (bg (bh e) r)
   rw[ev];exact j4 (c:=c.to ρ' F') (lists P) h1 h2 h3 fun m=>h4 (T.sub _ m)
  ·refine eL (l:=bU V) (bg (bh e) r) fun a vs ev ho hx P=>av ho fun ep ho=> ?_
   rw[ev];exact lE (c:=c.to ρ' F') (lists P) ho fun m=>hx (T.sub _ m)
  ·obtain⟨_,o,f,m,h1,h2,h3,h4,h5,ev⟩:=VR.qK (l:=iA V) (bg (bh e) r)
   rw[ev];exact tx ⟨o,h1⟩ h2 (fun m=>h3 (T.sub _ m)) fun x V a b=>⟨f x,h4 x V a b,h5 x V a⟩
  ·refine ak (VR.uc (i:=ct V) (bg (bh e1) r)) fun p hp ev=> ?_
   have hx:=T.out _ _ hp (xq e2)
   rw[ev]
   refine Fv _ (fun l ho=> ?_) (fun l ho=> ?_) (.au _)<;>refine ak (I.fit _ _ ho) fun p' gn R=> ?_<;>obtain rfl:=Option.some.inj (hp.symm.trans gn)
   ·obtain⟨_,vs,⟨ep,hl⟩,P⟩:=R
    exact lE (c:=c.to ρ' F') (lists P) hl hx
   ·obtain⟨_,aU,hd,h4,h5⟩:=R
    exact tx (iI (id hd) fun o _ _ uN _=>⟨o,uN⟩) hd.mapOf hx h4
end
end
section
noncomputable def eH:IX→Bool
 | .lit _=>true
 | .var i=>ag i 0
 | .add a b=>ah (eH a) (eH b)
 | .sub a b=>ah (eH a) (eH b)
 | .f2 0 a b=>ah (eH a) (eH b)
 |_=>false
theorem jr(h0:ρ'.i 0=ρ.i 0)(hd:ρ'.d=ρ.d):∀{e:IX},eH e=true→e.eval ρ'=e.eval ρ
 | .lit n,_=>rfl
 | .var i,h=>by
  have:i=0:=aZ h
  subst this;exact h0
 | .add a b,h=>by
  refine d1 h fun h1 h2=> ?_
  show a.eval ρ'+b.eval ρ'=a.eval ρ+b.eval ρ
  rw[jr h0 hd h1,jr h0 hd h2]
 | .sub a b,h=>by
  refine d1 h fun h1 h2=> ?_
  show a.eval ρ'-b.eval ρ'=a.eval ρ-b.eval ρ
  rw[jr h0 hd h1,jr h0 hd h2]
 | .f2 0 a b,h=>by
  refine d1 h fun h1 h2=> ?_
  show ρ'.d (a.eval ρ') (b.eval ρ')=ρ.d (a.eval ρ) (b.eval ρ)
  rw[jr h0 hd h1,jr h0 hd h2,hd]
 | .f2 (n+1) a b,h=>by exact nf h
 | .mul _ _,h=>by exact nf h
 | .neg _,h=>by exact nf h
 | .abs _,h=>by exact nf h
 | .fdiv _ _,h=>by exact nf h
 | .fmod _ _,h=>by exact nf h
 | .pow _ _,h=>by exact nf h
 | .f1 _ _,h=>by exact nf h
noncomputable def jA(n:Nat):SV→Bool:=Nat.rec (fun _=>false) (fun _ f V=>cond (ju V) true (cond (aL V 3) true (cond (aL V 14) true (cond (aL V 5) ((bU V).all f) (cond (aL V 6) ((bU V).all f) false))))) n
noncomputable def md(n:Nat):SV→Bool:=Nat.rec (fun _=>false) (fun _ f V=>cond (ju V) true (cond (aL V 3) (eH (aC V)) (cond (aL V 14) (eH (oU V)) (cond (aL V 5) ((bU V).all f) (cond (aL V 6) ((bU V).all f) false))))) n
theorem vU(ρ:Val)(π:List Nat)(hs:Hp)(n:Nat)(e:ju V=true):bG ρ π hs (n+1) V=V:=by
 show cond (ju V) V _=V
 rw[e];rfl
theorem Lg{P:SV→Prop}(h:jA (n+1) V=true)(f:ju V=true→P V)(s:∀e k,P (.sym e k))(t:∀e k,P (.tree e k))(u:∀l,(∀a∈l,jA n a=true)→P (.tup l))(w:∀l,(∀a∈l,jA n a=true)→P (.ar l)):P V:=
 have to:∀{W},V=W→P W→P V:=fun e r=>e▸r
 cB h (fun e _=>f e) fun _ h=>cB h (fun e _=>to (qf e) (s _ _)) fun _ h=>cB h (fun e _=>av (qU e) fun _ e=>to e (t _ _)) fun _ h=>cB h (fun e h=>to (bh e) (u _ (aM.mp h))) fun _ h=>cB h (fun e h=>to (bh e) (w _ (aM.mp h))) fun _=>nf
theorem LM{P:SV→Prop}(h:md (n+1) V=true)(f:ju V=true→P V)(s:∀e k,eH e=true→P (.sym e k))(t:∀e k,eH e=true→P (.tree e k))(u:∀l,(∀a∈l,md n a=true)→P (.tup l))(w:∀l,(∀a∈l,md n a=true)→P (.ar l)):P V:=
 have to:∀{W},V=W→P W→P V:=fun e r=>e▸r
 cB h (fun e _=>f e) fun _ h=>cB h (fun e h=>to (qf e) (s _ _ h)) fun _ h=>cB h (fun e h=>av (qU e) fun _ e=>to e (t _ _ h)) fun _ h=>cB h (fun e h=>to (bh e) (u _ (aM.mp h))) fun _ h=>cB h (fun e h=>to (bh e) (w _ (aM.mp h))) fun _=>nf
theorem th(h0:ρ'.i 0=ρ.i 0)(hd:ρ'.d=ρ.d){π':List Nat}{hs cR:Hp}:∀(n:Nat)(V:SV),md n V=true→bG ρ' π hs n V=bG ρ π' cR n V
 |0,V,h=>nf h
 |n+1,V,h=>LM (P:=fun V=>bG ρ' π hs (n+1) V=bG ρ π' cR (n+1) V) h (fun e=>(vU _ _ _ n e).trans (vU _ _ _ n e).symm) (fun e k h=>congrArg SV.lit (jr h0 hd h)) (fun e k h=>congrArg (fun x=>SV.tree (.lit x) 0) (jr h0 hd h))
  (fun l h=>congrArg SV.tup (p4 fun a m=>th h0 hd n a (h a m))) fun l h=>congrArg SV.ar (p4 fun a m=>th h0 hd n a (h a m))
theorem A6:∀(n:Nat)(V:SV),md n V=true→jA n V=true
 |0,V,h=>nf h
 |n+1,V,h=>LM (P:=fun V=>jA (n+1) V=true) h (fun e=>by show cond (ju V) true _=true;rw[e];rfl) (fun _ _ _=>rfl) (fun _ _ _=>rfl) (fun l h=>aM.mpr fun a m=>A6 n a (h a m)) fun l h=>aM.mpr fun a m=>A6 n a (h a m)
section
variable{ad:List (Addr×Addr)} {h:Heap} {hs:Hp}
theorem FH{g:SV→SV}(e:(l.map g)[i]? =some V):∃U,l[i]? =some U∧V=g U:=by
 rw[b0] at e
 refine ak (jf.mp e) fun U h1 h2=> ?_
 exact⟨U,h1,h2.symm⟩
theorem ID{e e':IX}{n n':Int}(he:e'.eval c.ρ=e.eval c.ρ)(r:c.VR X ad h v (.tree e n)):c.VR X ad h v (.tree e' n'):=v9 (ρ':=c.ρ) (F':=c.F) he r fun _ m=>m
theorem JW:∀(n:Nat)(V:SV)(v:Value),jA n V=true→c.VR X ad h v V→c.VR X ad h v (bG c.ρ π hs n V)
 |0,V,v,hb,_=>nf hb
 |n+1,V,v,hb,r=>by
  have ih:=JW n
  refine Lg (P:=fun V=>c.VR X ad h v V→c.VR X ad h v (bG c.ρ π hs (n+1) V)) hb (fun e r=>(vU _ _ _ n e).symm▸r) (fun e k r=>av (VR.fS r) fun t e=>e▸ .lit _ t) (fun e k r=>ID (e:=e) (e':= .lit (e.eval c.ρ)) rfl r) (fun l hb r=> ?_) (fun l hb r=> ?_) r
  ·obtain⟨_,_,f,_,ho,hc,hd,hx,hf,ev⟩:=VR.jG r
   rw[ev]
   refine .tup (f:=f) ho hc (by rw[aT];exact hd) hx fun i V q=> ?_
   refine ak (FH q) fun U q1 af=> ?_;subst af
   exact ih U _ (hb U (cf q1)) (hf i U q1)
  ·refine vh (VR.mT r) fun _ f _ ho hx hf af=> ?_;subst af
   refine .ar (f:=f) (by rw[aT];exact ho) hx fun i V q=> ?_
   refine ak (FH q) fun U q1 af=> ?_;subst af
   exact ih U _ (hb U (cf q1)) (hf i U q1)
theorem KV:∀(n:Nat)(V:SV)(v:Value),jA n V=true→c.VR X ad h v (bG c.ρ π hs n V)→c.VR X ad h v V
 |0,V,v,hb,_=>nf hb
 |n+1,V,v,hb,r=>by
  have ih:=KV n
  refine Lg (P:=fun V=>c.VR X ad h v (bG c.ρ π hs (n+1) V)→c.VR X ad h v V) hb (fun e r=>vU _ _ _ n e▸r) (fun e k r=>av (VR.dj (n:=e.eval c.ρ) r) fun t ev=>ev▸ .sym e k t) (fun e k r=>ID (e:= .lit (e.eval c.ρ)) (n:=0) rfl r) (fun l hb r=> ?_) (fun l hb r=> ?_) r
  ·obtain⟨_,_,f,_,ho,hc,hd,hx,hf,ev⟩:=VR.jG (l:=l.map (bG c.ρ π hs n)) r
   rw[ev]
   refine .tup (f:=f) ho hc (by rw[aT] at hd;exact hd) hx fun i V q=> ?_
   exact ih V _ (hb V (cf q)) (hf i _ (by rw[b0,q];rfl))
  ·refine vh (VR.mT (l:=l.map (bG c.ρ π hs n)) r) fun _ f _ ho hx hf af=> ?_;subst af
   refine .ar (f:=f) (by rw[aT] at ho;exact ho) hx fun i V q=> ?_
   exact ih V _ (hb V (cf q)) (hf i _ (by rw[b0,q];rfl))
end
end
section
noncomputable abbrev d7:=List (Nat×Option Nat×List SV)
noncomputable def DL{α:Type}(g:d7)(f:Nat×Option Nat×List SV→Nat×Option Nat×List SV→Nat×Option Nat×List SV→Option α):Option α:=match g with
 | []=>none
 |p::g=>(match g with
  | []=>none
  |q::g=>(match g with
   | []=>none
   |r::g=>cond (ag (len g) 0) (f p q r) none))
theorem Jd{α:Type}{g:d7}{f:Nat×Option Nat×List SV→Nat×Option Nat×List SV→Nat×Option Nat×List SV→Option α}{a:α}(h:DL g f=some a):∃p q r,g= [p,q,r]∧f p q r=some a:=by
 induction g using List.casesOn with
 |nil=>exact nn h
 |cons p g=>induction g using List.casesOn with
  |nil=>exact nn h
  |cons q g=>induction g using List.casesOn with
   |nil=>exact nn h
   |cons r g=>
    have h:cond (ag (len g) 0) (f p q r) none=some a:=h
    induction z:ag (len g) 0 using Bool.casesOn with
    |false=>rw[z] at h;exact nn h
    |true=>rw[z] at h;rw[len0 z];exact⟨p,q,r,rfl,h⟩
noncomputable def oy(o:Option Nat):Bool:=match o with|some _=>false|none=>true
theorem RY{o:Option Nat}(h:oy o=true):o=none:=by induction o using Option.casesOn<;>first|rfl|exact nf h
theorem RX{o:Option Nat}(h:neg (oy o)=true):∃b,some b=o:=by induction o using Option.casesOn<;>first|exact⟨_,rfl⟩|exact nf h
theorem Kd{p:Nat×Option Nat×List SV}{a b:Nat}(h:ah (ag p.1 a) (uj p.2.1 b)=true):p=(a,some b,p.2.2):=by
 rw[←H7 (bJ.mp h).2,←aZ (bJ.mp h).1]
theorem AV{p:Nat×Option Nat×List SV}{a:Nat}(h:ah (ag p.1 a) (oy p.2.1)=true):p=(a,none,p.2.2):=by
 rw[←RY (bJ.mp h).2,←aZ (bJ.mp h).1]
noncomputable def xo(l l':List (Nat×SV)):Bool:=l.all fun p=>e7 p.1 (l'.map (·.1))
noncomputable def litOk(e:IX)(k:Int):Bool:=match e with| .lit n=>bV n k|_=>true
noncomputable def findS(s:Int):List (IX×Int×SV)→Option (IX×SV)
 | []=>none
 |q::r=>cond (bV q.2.1 s) (some (q.1,q.2.2)) (findS s r)
noncomputable def lj(f:SV→SV→Option aR)(g:Int→Option (IX×SV)):List (IX×Int×SV)→Option aR
 | []=>some []
 |q::r=>cond (litOk q.1 q.2.1) (ob (g q.2.1) fun p=>l6 (some [(q.1,p.1)]) (l6 (f p.2 q.2.2) (lj f g r))) none
noncomputable def Dz(l:List SV)(k:Int):Option (IX×SV):=match k with
 | .ofNat j=>cond (bq j 1000000) ((aS l j).map fun V=>(.lit k,V)) none
 | .negSucc _=>none
section
variable{α:Type} {e:α} {P:Prop}
noncomputable def uo(o:SO)(f:List SV→Option α)(g:Nat→List SV→Option α)(k:List (IX×Int×SV)→Option α):Option α:=SO.rec f g k (fun _=>none) (fun _ _=>none) (fun _ _=>none) o
noncomputable def Cp(o:SO)(g:List (IX×Int×SV)→Option α)(k:Nat→List (Nat×SV)→Option α):Option α:=SO.rec (fun _=>none) (fun _ _=>none) (fun _=>none) (fun _=>none) (fun _=>g) k o
theorem Im{o:SO}{f:List SV→Option α}{g:Nat→List SV→Option α}{k:List (IX×Int×SV)→Option α}(h:uo o f g k=some e)(A:∀l,o= .lst l→f l=some e→P)(B:∀g0 l,o= .fb g0 l→g g0 l=some e→P)(C:∀l,o= .iF l→k l=some e→P):P:=by
 induction o using SO.casesOn with
 |lst l=>exact A l rfl h
 |fb g0 l=>exact B g0 l rfl h
 |iF l=>exact C l rfl h
 |_=>exact nn h
theorem HG{o:SO}{g:List (IX×Int×SV)→Option α}{k:Nat→List (Nat×SV)→Option α}(h:Cp o g k=some e)(B:∀x l,o= .cz x l→g l=some e→P)(C:∀n l,o= .ins n l→k n l=some e→P):P:=by
 induction o using SO.casesOn with
 |cz x l=>exact B x l rfl h
 |ins n l=>exact C n l rfl h
 |_=>exact nn h
end
noncomputable def emp(o:Option aR)(g:d7):Option (aR×d7):=ob o fun e=>some (e,g)
theorem qm{o:Option aR}{g:d7}{r:aR×d7}{P:Prop}(h:emp o g=some r)(f:∀e,o=some e→r=(e,g)→P):P:=oB h fun e h1 h2=>f e h1 (Option.some.inj h2).symm
noncomputable def Et(π:List Nat)(hs:Hp)(o o':SO):Option (aR×d7):=SO.rec
 (fun l'=>CE o fun l=>emp (pU (dY π hs 20) l l') [])
 (fun g l'=>cond (ah (isNil l') (neg (ag g 1000))) (uo o (fun l=>some ([],[(g,none,l)])) (fun g0 l=>some ([],[(g,some g0,l)])) fun _=>none) none)
 (fun l'=>uo o (fun l=>emp (lj (dY π hs 20) (Dz l) l') [(1000,none,l)]) (fun _ _=>none) fun l=>emp (lj (dY π hs 20) (fun s=>findS s l) l') [(1000,some 0,[])])
 (fun l'=>C0 o fun l=>cond (xo l l') (emp (nK (dY π hs 20) l l') []) none)
 (fun ex l'=>cond (neg ex) (Cp o (fun l=>emp (lj (dY π hs 20) (fun s=>findS s l) l') []) fun _ _=>none) none)
 (fun c' l'=>Cp o (fun _=>none) fun cc l=>cond (ah (ag cc c') (xo l l')) (emp (nK (dY π hs 20) l l') []) none) o'
noncomputable def lI(ρ' ρ:Val)(π:List Nat)(hs:Hp)(g:d7):Prop:=∀p∈g,
 if p.1=1000 then(match p.2.1 with
  |some _=>ρ'.r=ρ.r
  |none=>∀q∈ρ'.r,∃(j:Nat)(V V':SV)(e:aR),j<1000000∧aS p.2.2 j=some V∧dY π hs 20 V V'=some e∧cy ρ' ρ e∧jA 12 V'=true∧q=(.lit (aq j),aq j,bG ρ' [] [] 12 V'))
 else ρ'.g p.1=(match p.2.1 with|some g0=>ρ.g g0|none=>[])++p.2.2.map (bG ρ π hs 12)
noncomputable def iw(ρ:Val):Prop:=(∀g,∀V∈ρ.g g,fy 13 V=true)∧∀q∈ρ.r,(∃n,q.1= .lit n)∧fy 13 q.2.2=true
theorem GD:∀{l:List (IX×Int×SV)}{s:Int}{p:IX×SV},findS s l=some p→(p.1,s,p.2)∈l
 | [],s,p,h=>nn h
 |q::r,s,p,h=>cO (h:cond (bV q.2.1 s) (some (q.1,q.2.2)) (findS s r)=some p) (fun z h=>by rw[←Option.some.inj h,←ib z];exact .head _) fun _ h=> .tail _ (GD h)
theorem BI{f:SV→SV→Option aR}{g:Int→Option (IX×SV)}{ρ' ρ:Val}:∀{l':List (IX×Int×SV)}{e:aR},lj f g l'=some e→cy ρ' ρ e→∀q∈l',(∀n,q.1=IX.lit n→q.2.1=n)∧∃p e1,g q.2.1=some p∧q.1.eval ρ'=p.1.eval ρ∧f p.2 q.2.2=some e1∧cy ρ' ρ e1
 | [],e,_,_,q,m=>nomatch m
 |q0::r,e,h,k,q,m=>cN (h:cond (litOk q0.1 q0.2.1) (ob (g q0.2.1) fun p=>l6 (some [(q0.1,p.1)]) (l6 (f p.2 q0.2.2) (lj f g r))) none=some e) fun z h=>oB h fun p hp h=>by
  refine dK (si h) fun x y h1 h2 af=> ?_;subst af
  refine dK (si h2) fun x2 y2 h3 h4 af=> ?_;subst af
  refine ai (nZ k) fun k1 k2=> ?_
  refine ai (nZ k2) fun k2 k3=> ?_
  rcases aE.mp m with rfl|m
  ·refine⟨fun n e=> ?_,p,x2,hp,k1 (q.1,p.1) (Option.some.inj h1▸ .head _),h3,k2⟩
   rw[e] at z
   exact(ib z).symm
  ·exact BI h4 k3 q m
theorem RM{l l':List (Nat×SV)}(h:xo l l'=true){x:Nat}{V:SV}(e:look l x=some V):∃V',look l' x=some V':=by
 have:=aM.mp h (x,V) (mE e)
 have:=qb.mp this
 refine ak (bz.mp this) fun p m e=> ?_
 have:∀{l:List (Nat×SV)}{p:Nat×SV},p∈l→∃V',look l p.1=some V':=by
  intro l
  induction l with
  |nil=>intro p m;exact(aP m).elim
  |cons q r ih=>
   intro p m
   rw[show q=(q.1,q.2) from rfl,eB]
   by_cases z:q.1=p.1
   ·exact⟨q.2,if_pos z⟩
   ·rcases aE.mp m with y|m
    ·exact absurd (by rw[y]) z
    ·obtain⟨V',w⟩:=ih m;exact⟨V',by rw[if_neg z];exact w⟩
 have e:p.1=x:=e
 rw[←e];exact this m
section
variable{c:Cx} {π:List Nat} {X X':List Addr} {ad ae:Ad} {hs:Hp} {s:Shared} {ρ':Val} {F':Nat→SV→En→Hp→Prop}
theorem FI{α β:Type}{o:Option α}{f:α→β}{b:β}(h:o.map f=some b):∃a,o=some a∧f a=b:=jf.mp h
section
variable(vr:∀{V V' v e},dY π hs 20 V V'=some e→cy ρ' c.ρ e→c.VR X ad s.heap v V→(c.to ρ' F').VR X' ae s.heap v V')
include vr
theorem Hm{m:Str→Option Value}{l l':List (Nat×SV)}{e:aR}(h:nK (dY π hs 20) l l'=some e)(q:cy ρ' c.ρ e)(z:xo l l'=true)(h4:∀x V,look l x=some V→cX V=false→∃v,m (c.S.nm x)=some v∧c.VR X ad s.heap v V)
  (h5:∀s,(∀x V,look l x=some V→s≠c.S.nm x)→m s=none):(∀x V,look l' x=some V→cX V=false→∃v,m (c.S.nm x)=some v∧(c.to ρ' F').VR X' ae s.heap v V)∧∀s,(∀x V,look l' x=some V→s≠c.S.nm x)→m s=none:=
 ⟨fun x V' e u=>ll (BG h q x V' (mE e) u) fun V e1 a1 a2 a3 a4=>ak (h4 x V a1 a2) fun v b1 b2=>⟨v,b1,vr a3 a4 b2⟩,fun s hn=>h5 s fun x V e=>av (RM z e) fun V' w=>hn x V' w⟩
theorem JO{l l':List (IX×Int×SV)}{e:aR}(h:lj (dY π hs 20) (fun s=>findS s l) l'=some e)(q:cy ρ' c.ρ e){y:IX×Int×SV}(hy:y∈l'){Q:Int→Value→Prop}(R:∀z∈l,∃v,Q (z.1.eval c.ρ) v∧c.VR X ad s.heap v z.2.2):
  (∀n,y.1=IX.lit n→y.2.1=n)∧∃v,Q (y.1.eval ρ') v∧(c.to ρ' F').VR X' ae s.heap v y.2.2:=by
 obtain⟨a1,p',e2,a2,a3,a4,a5⟩:=BI h q y hy
 refine ak (R _ (GD a2)) fun v b1 b2=>⟨a1,v,?_,vr a4 a5 b2⟩
 rw[a3];exact b1
theorem Yi{vs:List Value}{l:List SV}{l':List (IX×Int×SV)}{e:aR}(P:c.VL X ad s.heap vs l)(h:lj (dY π hs 20) (Dz l) l'=some e)(q:cy ρ' c.ρ e){y:IX×Int×SV}(hy:y∈l'):
  (∀n,y.1=IX.lit n→y.2.1=n)∧(0≤y.1.eval ρ'∧y.1.eval ρ'<2^63)∧∃v,vs[(y.1.eval ρ').toNat]? =some v∧(c.to ρ' F').VR X' ae s.heap v y.2.2:=by
 obtain⟨a1,p,e2,a2,a3,a4,a5⟩:=BI h q y hy
 refine⟨a1,?_⟩
 rw[a3]
 generalize y.2.1=k at a2
 induction k with
 |negSucc k=>exact nn a2
 |ofNat j=>
  refine cN a2 fun z a2=>ak (FI a2) fun W b1 b2=> ?_
  rw[←b2] at a4
  rw[←b2]
  rw[dc] at b1
  exact ak (Internal.Paired.get P b1) fun v c1 c2=>⟨⟨iK _,EX (jX.mpr (blt_iff.mp z)) (by decide)⟩,v,c1,vr a4 a5 c2⟩
end
theorem JN(I:Inv c X ad hs s)(T:lR π X X' ad ae):∀{a b:List SV}{vs:List Value},(∀V∈a,fy 13 V=true)→Paired (c.VR X ad s.heap) vs (a++b)→Paired ((c.to ρ' F').VR X' ae s.heap) vs (a++b.map (bG c.ρ π hs 12))
 | [],_,_,_,P=>Bz (fun v V r=>Bj I T 12 V v r) P
 |V::a,_,_,hc,P=>p1 P fun v vs r P=> .cons (wR T.sub 13 V _ (hc V (.head _)) r) (JN I T (fun V m=>hc V (.tail _ m)) P)
theorem WU(I:Inv c X ad hs s)(T:lR π X X' ad ae)(G:iw c.ρ){g:Nat}{l':List SV}{p:Addr×Addr}{o:SO}{r:aR×d7}(h:cond (ah (isNil l') (neg (ag g 1000))) (uo o (fun l=>some (([]:aR),[(g,none,l)])) (fun g0 l=>some ([],[(g,some g0,l)])) fun _=>none) none=some r)
  (gq:lI ρ' c.ρ π hs r.2)(R:c.OR X ad s.heap p o):(c.to ρ' F').OR X' ae s.heap p (.fb g l'):=by
 refine cN h fun z k=>d1 z fun z1 zg=> ?_
 obtain rfl:=su z1
 have ng:g≠1000:=fun z=>by rw[z] at zg;exact nf zg
 have go:∀{b l},(g,b,l)∈r.2→ρ'.g g=(match b with|some g0=>c.ρ.g g0|none=>[])++l.map (bG c.ρ π hs 12):=fun m=>by
  have z:=gq _ m
  rw[if_neg ng] at z
  exact z
 refine Im k (fun l e hk=> ?_) (fun g0 l e hk=> ?_) (fun _ _=>nn)<;>subst e<;>obtain⟨e1,vs,hl,P⟩:=R<;>refine⟨e1,vs,hl,?_⟩<;>show Paired _ vs (ρ'.g g++ [])<;>rw[iM]
 ·rw[go (b:=none) (l:=l) (by rw[←Option.some.inj hk];exact .head _)]
  exact Bz (fun v V r=>Bj I T 12 V v r) P
 ·rw[go (b:=some g0) (l:=l) (by rw[←Option.some.inj hk];exact .head _)]
  exact JN I T (fun V m=>G.1 g0 V m) P
theorem WV(I:Inv c X ad hs s)(T:lR π X X' ad ae)(G:iw c.ρ){l':List (IX×Int×SV)}{p:Addr×Addr}{o:SO}{r:aR×d7}(h:uo o (fun l=>emp (lj (dY π hs 20) (Dz l) l') [(1000,none,l)]) (fun _ _=>none) (fun l=>emp (lj (dY π hs 20) (fun s=>findS s l) l') [(1000,some 0,[])])=some r)
  (q:cy ρ' c.ρ r.1)(gq:lI ρ' c.ρ π hs r.2)(R:c.OR X ad s.heap p o):(c.to ρ' F').OR X' ae s.heap p (.iF l'):=by
 have vr:=fun{V V' v e}(h:dY π hs 20 V V'=some e)(q:cy ρ' c.ρ e)(r:c.VR X ad s.heap v V)=>qt (F':=F') I T 20 V V' v e h q r
 refine Im h (fun l e h=>qm h fun ee h1 af=> ?_) (fun _ _ _=>nn) fun l e h=>qm h fun ee h1 af=> ?_<;>subst e<;>subst af
 ·obtain⟨e1,vs,hl,P⟩:=R
  refine⟨e1,vs,hl,fun y hy=>(bj.mp hy).elim (Yi vr P h1 q) fun hy=> ?_⟩
  have g1:=gq _ (.head _)
  rw[if_pos rfl] at g1
  obtain⟨j,V,V',e',hj,hV,hw,yK,kO,ey⟩:=g1 y hy
  subst ey
  rw[dc] at hV
  refine ak (Internal.Paired.get P hV) fun v c1 c2=> ?_
  have g3:(c.to ρ' F').VR X' ae s.heap v (bG ρ' [] [] 12 V'):=JW (c:=c.to ρ' F') (π:=[]) (hs:=[]) 12 V' v kO (vr hw yK c2)
  exact⟨fun n e=>by cases e;rfl,⟨iK _,EX (jX.mpr hj) (by decide)⟩,v,c1,g3⟩
 ·obtain⟨e1,vs,hl,P⟩:=R
  refine⟨e1,vs,hl,fun y hy=>(bj.mp hy).elim (fun hy=> ?_) fun hy=> ?_⟩
  ·refine ai (JO vr h1 q hy (Q:=fun k v=>(0≤k∧k<2^63)∧vs[k.toNat]? =some v) fun z hz=> ?_) fun a b=>ak b fun v b1 b2=>⟨a,b1.1,v,b1.2,b2⟩
   obtain⟨_,b2,v,b3,b4⟩:=P z (bj.mpr (.inl hz))
   exact⟨v,⟨b2,b3⟩,b4⟩
  ·have g1:=gq _ (.head _)
   rw[if_pos rfl] at g1
   have g1:ρ'.r=c.ρ.r:=g1
   have hy:y∈c.ρ.r:=g1▸hy
   refine ai (G.2 y hy) fun e1 e2=>av e1 fun n e1=> ?_
   obtain⟨b1,b2,v,b3,b4⟩:=P y (bj.mpr (.inr hy))
   have ev:y.1.eval c.ρ=y.1.eval (c.to ρ' F').ρ:=by rw[e1];rfl
   rw[ev] at b2 b3
   exact⟨b1,b2,v,b3,wR T.sub 13 _ _ e2 b4⟩
theorem WT(I:Inv c X ad hs s)(T:lR π X X' ad ae)(G:iw c.ρ){p:Addr×Addr}{o o':SO}{r:aR×d7}(h:Et π hs o o'=some r)(q:cy ρ' c.ρ r.1)(gq:lI ρ' c.ρ π hs r.2)(R:c.OR X ad s.heap p o):(c.to ρ' F').OR X' ae s.heap p o':=by
 have vr:=fun{V V' v e}(h:dY π hs 20 V V'=some e)(q:cy ρ' c.ρ e)(r:c.VR X ad s.heap v V)=>qt (F':=F') I T 20 V V' v e h q r
 induction o' using SO.casesOn with
 |lst l'=>
  refine HV h fun l e h=>qm h fun ee h1 af=> ?_;subst e;subst af
  obtain⟨e1,vs,hl,P⟩:=R
  exact⟨e1,vs,hl,BH (R:=c.VR X ad s.heap) (R':=(c.to ρ' F').VR X' ae s.heap) (fun V _ V' v e h q r=>vr h q r) h1 q P⟩
 |fb g l'=>exact WU I T G h gq R
 |iF l'=>exact WV I T G h q gq R
 |cb l'=>
  refine Il h fun l e h=>cN h fun z h=>qm h fun ee h1 af=> ?_;subst e;subst af
  obtain⟨e1,aU,hd,h4,h5⟩:=R
  exact ai (Hm vr h1 q z h4 h5) fun a b=>⟨e1,aU,hd,a,b⟩
 |cz ex l'=>
  refine cN h fun z h=>HG h (fun ex0 l e h=>qm h fun ee h1 af=> ?_) fun _ _ _=>nn;subst e;subst af
  obtain⟨e1,aU,hd,h4,h5⟩:=R
  exact⟨e1,aU,hd,fun y hy=>JO vr h1 q hy (Q:=fun k v=>valueAt aU k=some v) fun z hz=>(h4 z hz).2,fun y=>by rw[xq z] at y;exact nf y⟩
 |ins c' l'=>
  refine HG h (fun _ _ _=>nn) fun cc l e h=>cN h fun z0 h=>d1 z0 fun y z=>qm h fun ee h1 af=> ?_;subst e;subst af
  obtain⟨sl,m,od,b1,b2,b3,b4,h4,h5⟩:=R
  have y:=aZ y
  rw[y] at b1 b4
  exact ai (Hm vr h1 q z h4 h5) fun a b=>⟨sl,m,od,b1,b2,b3,b4,a,b⟩
end
end
section
noncomputable def Dl(π:List Nat)(hs:Hp):List Nat→Hp→Option (aR×d7)
 | [],[]=>some ([],[])
 |i::p,o'::cR=>ob (aS hs i) fun o=>ob (Et π hs o o') fun r=>ob (Dl π hs p cR) fun r2=>some (r.1++r2.1,r.2++r2.2)
 |_,_=>none
noncomputable def Dk(f:SV→SV→Option aR)(env:En):En→Option aR
 | []=>some []
 |p::aD=>ob (look env p.1) fun V=>l6 (f V p.2) (Dk f env aD)
noncomputable def hW(π:List Nat)(env:En)(hs:Hp)(aD:En)(cR:Hp):Option (aR×d7):=cond (qO π) (ob (Dk (dY π hs 20) env aD) fun e=>ob (Dl π hs π cR) fun r=>some (e++r.1,r.2)) none
theorem IK{f:SV→SV→Option aR}:∀{aD:En}{e:aR},Dk f env aD=some e→cy ρ' ρ e→∀x V',(x,V')∈aD→∃V e1,look env x=some V∧f V V'=some e1∧cy ρ' ρ e1
 | [],e,_,_,x,V',m=>nomatch m
 |p::aD,e,h,q,x,V',m=>oB h fun V hV h=>by
  refine dK (si h) fun a b h1 h2 af=> ?_;subst af
  refine ai (nZ q) fun q1 q2=> ?_
  rcases aE.mp m with z|m
  ·rw[←z] at hV h1;exact⟨V,a,hV,h1,q1⟩
  ·exact IK h2 q2 x V' m
theorem IL{hs:Hp}:∀{p:List Nat}{cR:Hp}{r:aR×d7},Dl π hs p cR=some r→cy ρ' ρ r.1→lI ρ' ρ π hs r.2→
  p.length=cR.length∧∀(j:Nat)(o':SO),aS cR j=some o'→∃i o r1,aS p j=some i∧aS hs i=some o∧Et π hs o o'=some r1∧cy ρ' ρ r1.1∧lI ρ' ρ π hs r1.2
 | [],[],r,h,_,_=>⟨rfl,fun j o' e=>by induction j using Nat.casesAuxOn<;>exact nn e⟩
 |i::p,o::cR,r,h,q,g=>oB h fun o1 ho h=>oB h fun r1 h1 h=>oB h fun r2 h2 h=>by
  have h:=Option.some.inj h
  rw[←h] at q g
  refine ai (nZ q) fun q1 q2=> ?_
  refine ai (IL h2 q2 fun p m=>g p (bj.mpr (.inr m))) fun l w=>⟨by rw[cw,cw,l],fun j o' e=> ?_⟩
  induction j using Nat.casesAuxOn with
  |zero=>rw[←Option.some.inj e];exact⟨i,o1,r1,rfl,ho,h1,q1,fun p m=>g p (bj.mpr (.inl m))⟩
  |succ j=>exact w j o' e
 | [],_::_,r,h,_,_=>nn h
 |_::_,[],r,h,_,_=>nn h
section
variable{hs cR:Hp} {m:Nat}
theorem Qm{l:List Nat}(h:l.Nodup){a:Nat}(h1:aS l i=some a)(h2:aS l j=some a):i=j:=by
 rw[dc] at h1 h2
 refine av (dM.mp h1) fun x1 e1=> ?_
 refine av (dM.mp h2) fun x2 e2=> ?_
 exact(List.getElem_inj h).mp (e1.trans e2.symm)
noncomputable def dI(π:List Nat)(ad:Ad):Ad:=π.map fun i=>(ad[i]?).getD (0,0)
theorem IU(h:aS π j=some i)(e:ad[i]? =some p):(dI π ad)[j]? =some p:=by
 unfold dI
 rw[b0,←dc,h,OK,e];rfl
theorem vR(w:∀j i,aS π j=some i→∃p,ad[i]? =some p)(h:(dI π ad)[j]? =some p):∃i,aS π j=some i∧ad[i]? =some p:=by
 unfold dI at h
 rw[b0] at h
 refine ak (FI h) fun i b1 b2=> ?_
 rw[←dc] at b1
 refine av (w j i b1) fun q e=> ?_
 rw[e] at b2
 exact⟨i,b1,e.trans (congrArg some b2)⟩
theorem wJ(w:∀j i,aS π j=some i→∃p,ad[i]? =some p){b:Addr}(h:Mt (dI π ad) b):Mt ad b:=by
 obtain⟨p,m,z⟩:=h
 refine av (y8 m) fun j hj=>ak (vR w hj) fun i b1 b2=> ?_
 exact⟨p,cf b2,z⟩
noncomputable def xN(f N:List Addr)(ad:Ad):List Addr:=f++(N++(ad.map (·.1)++ad.map (·.2)))
theorem Hn{f:List Addr}{b:Addr}(m:b∈xN f N ad):b∈f∨b∈N∨Mt ad b:=by
 rcases bj.mp m with m|m
 ·exact .inl m
 ·rcases bj.mp m with m|m
  ·exact .inr (.inl m)
  ·rcases bj.mp m with m|m<;>refine ak (bz.mp m) fun p m2 e=> ?_
   ·exact .inr (.inr ⟨p,m2,.inl e.symm⟩)
   ·exact .inr (.inr ⟨p,m2,.inr e.symm⟩)
theorem Yj{f:List Addr}{b:Addr}(m:Mt ad b):b∈xN f N ad:=by
 obtain⟨p,m,w⟩:=m
 refine bj.mpr (.inr (bj.mpr (.inr (bj.mpr ?_))))
 exact w.elim (fun w=> .inl (w▸Oo m)) fun w=> .inr (w▸Oo m)
theorem Q9(a:At c m sc A e X ad s env hs)(nd:π.Nodup)(w:∀j i,aS π j=some i→∃p,ad[i]? =some p)(hN:∀a∈N,a∈X∧¬Mt ad a):lR π X (xN (aV e) N (dI π ad)) ad (dI π ad):=
 ⟨fun b m=>(Hn m).elim (a.fr.bc b) fun m=>m.elim (fun m=>(hN b m).1) fun m=>a.inv.bc b (wJ w m),fun j i h=>av (w j i h) fun p e=>⟨p,e,IU h e⟩,fun i p hp z m=>by
  have mm:Mt ad p.1:=⟨p,cf hp,.inl rfl⟩
  rcases Hn m with m|m|⟨p2,m,w2⟩
  ·exact a.fr.fT _ m mm
  ·exact(hN _ m).2 mm
  ·refine av (y8 m) fun j hj=>ak (vR w hj) fun i2 b1 b2=> ?_
   have ne:i≠i2:=fun z2=>by
    rw[z2,qb.mpr (cf (by rw[←dc];exact b1))] at z;exact nf z.symm
   exact pW (a.inv.sep i i2 p p2 hp b2 ne) fun s1 s2 s3 s4=>w2.elim s1 s2⟩
theorem FT(a:At c m sc A e X ad s env hs)(G:iw c.ρ){r:aR×d7}(h:hW π env hs aD cR=some r)(q:cy ρ' c.ρ r.1)(gq:lI ρ' c.ρ π hs r.2)(hN:∀a∈N,a∈X∧¬Mt ad a):
  ∃X' ae,At (c.to ρ' F') m sc A e X' ae s aD cR∧(∀a∈X',a∈X)∧(∀b,Mt ae b→Mt ad b)∧(∀a∈N,a∈X'∧¬Mt ae a):=by
 refine cN h fun nd h=>oB h fun e1 h1 h=>oB h fun r2 h2 h=> ?_
 have h:=Option.some.inj h
 rw[←h] at q gq
 have nd:=sO nd
 refine ai (nZ q) fun q1 q2=>ai (IL h2 q2 gq) fun hl hw=> ?_
 have I:=a.inv
 have w:∀j i,aS π j=some i→∃p,ad[i]? =some p:=fun j i hj=>by
  have hj2:j<cR.length:=by rw[←hl];rw[dc] at hj;exact(dM.mp hj).1
  refine vj (hw j (cR[j]) (by rw[dc];exact cA hj2)) fun i2 o r1 b1 b2 _ _ _=> ?_
  obtain rfl:=Option.some.inj (hj.symm.trans b1)
  exact ak (I.fit i o b2) fun p hp _=>⟨p,hp⟩
 have T:=Q9 a nd w hN
 have J:Inv (c.to ρ' F') (xN (aV e) N (dI π ad)) (dI π ad) cR s:=by
  refine⟨I.base,by unfold dI;rw[aT,hl],fun j o' kR=> ?_,fun i j p p2 h1 h2 ne=> ?_,fun b m=>Yj m,fun b m=>I.live b (T.sub b m),fun b m=>I.own b (T.sub b m),I.rest⟩
  ·refine vj (hw j o' kR) fun i o r1 b1 b2 b3 b4 b5=>ak (I.fit i o b2) fun p d1 d2=> ?_
   exact⟨p,IU b1 d1,WT I T G b3 b4 b5 d2⟩
  ·refine ak (vR w h1) fun i1 b1 b2=>ak (vR w h2) fun i2 d1 d2=> ?_
   exact I.sep i1 i2 p p2 b2 d2 fun z=>ne (Qm nd b1 (z▸d1))
 have R:=a.fr
 have FR:bC (c.to ρ' F') e (xN (aV e) N (dI π ad)) (dI π ad) s.heap aD:=by
  refine ak R.vars fun mm hn hv=>⟨R.kind,R.glob,R.blt,⟨mm,hn,fun x V' e' vk=> ?_⟩,R.cell,fun b m=>bj.mpr (.inl m),fun b m z=>R.fT b m (wJ w z),R.apart,R.locs⟩
  refine dK (IK h1 q1 x V' (mE e')) fun V e2 b1 b2 b3=> ?_
  rcases hv x V b1 vk with⟨k,v,c1,c2⟩|⟨k,ca,v,c1,c2,c3⟩
  ·exact .inl ⟨k,v,c1,qt I T 20 V V' v e2 b2 b3 c2⟩
  ·exact .inr ⟨k,ca,v,c1,c2,qt I T 20 V V' v e2 b2 b3 c3⟩
 exact⟨_,_,⟨a.ao,J,a.low,FR,⟨a.sc.kind,a.sc.cell⟩⟩,T.sub,fun b=>wJ w,fun b m=>⟨bj.mpr (.inr (bj.mpr (.inl m))),fun z=>(hN b m).2 (wJ w z)⟩⟩
end
end
section
noncomputable def Turn(M:Model)(A:Around)(aH:PySem.Expr)(it:Value)(body:List PySem.Stmt)(e:Env)(R:Result→Shared→Prop)(K:Shared→Prop)(s:Shared):Prop:=
 wpAny M A (pyNext it) (fun r s₁=>match r with
  |none=>wpAny M A (execs [] e) (fun f s₃=>R (.ok f) s₃) (notedBy M A e fun x s'=>R (.error x) s') s₁
  |some v=>wpAny M A (letOwnedTupleGo aH it v) (fun _ ko=>
    wpAny M A (assign aH e v) (fun _ s₂=>wpAny M A (execs body e) (fun f s₃=>match f with
     | .next| .cont=>K s₃
     | .brk=>R (.ok .next) s₃
     | .ret v=>R (.ok (.ret v)) s₃) (notedBy M A e fun x s'=>R (.error x) s') s₂) (notedBy M A e fun x s'=>R (.error x) s') ko) (notedBy M A e fun x s'=>R (.error x) s') s₁) (notedBy M A e fun x s'=>R (.error x) s') s
noncomputable def Good(M:Model)(A:Around)(aH:PySem.Expr)(it:Value)(body:List PySem.Stmt)(e:Env)(R:Result→Shared→Prop):Nat→Shared→Prop
 |0,_=>False
 |n+1,s=>Turn M A aH it body e R (Good M A aH it body e R n) s
theorem Qd{it:Value}{R:Result→Shared→Prop}(h:Good c.M A aH it body e R n s):codeAny c.M A (.forLoop aH it body [] e) R s:=by
 refine codeAny_forLoop_any (Good c.M A aH it body e R) (fun n s g=> ?_) n h
 induction n using Nat.casesAuxOn with
 |zero=>exact g.elim
 |succ n=>
  refine ay g fun r s1 w=> ?_
  induction r with
  |none=>exact w
  |some v=>
   refine ay w fun _ s2 w=>ay w fun _ s3 w=>ay w fun f s4 w=> ?_
   induction f with
   |next=>exact⟨n,jV _,w⟩
   |cont=>exact⟨n,jV _,w⟩
   |brk=>exact w
   |ret v=>exact w
noncomputable def segGo(x:Nat)(b:CS)(P:Prog)(cl:aX)(n:Nat)(k:En→Hp→Res)(kr:K)(t:Nat):En→Hp→Res:=Nat.rec (fun env h=>k env h) (fun _ ih env h=>putK env x .au fun env=>b P cl n env h ih kr) t
structure kH(c:Cx)(m:Nat)(sc:List (Nat×NameKind))(A:Around)(e:Env)(it:Value)(aH:PySem.Expr)(N Y:List Addr)(s₀:Shared)(env:En)(h:Hp)(j:Nat)(s:Shared)(X:List Addr)(ad:Ad):Prop where
 at':At c m sc A e X ad s env h
 uU:c8 c aH X ad s.heap it (.items (eR j .au)) N
 own:∀a∈N,a∈X∧¬Mt ad a
 apart:∀a∈aV e,a∉N
 mW:∀a∈aV e,s₀.heap.objs.size≤a
 qN:∀a∈N,s₀.heap.objs.size≤a
 ui:∀b,Mt ad b→s₀.heap.objs.size≤b
 keep:∀b o,s₀.heap.get? b=some o→s.heap.get? b=some o
 size:s₀.heap.objs.size≤s.heap.objs.size
 ext:∀a∈Y,a∈X∧¬Mt ad a
section
variable{m:Nat} {it:Value} {Y:List Addr} {s₀:Shared} {h':Hp} {ae:Ad}
theorem wo{c':Cx}(hp:c'.prog=c.prog)(hw:c'.w=c.w)(hT:hS aH=false)(sub:∀a∈X',a∈X)(R:c8 c aH X ad hh it (.items l) N):c8 c' aH X' ae hh it (.items (eR l.length .au)) N:=by
 generalize e0:IT.items l=Nv at R
 induction R using c8.casesOn with
 |walk h1 h2 h3 h4 h5 h6=>
  injection e0 with e0
  subst e0
  refine .walk (fun A z=>by rw[hp,hw];exact h1 A z) h2 (fun b m=>(h3 b m).imp id fun q=>⟨q.1,fun m=>q.2 (sub b m)⟩) h4 (by rw[y7];exact h5) fun j V e u _=> ?_
  have:=N8 (cf e)
  rw[this];exact .au u
 |oG z=>rw[hT] at z;exact nf z
 |ref=>exact nomatch e0
 |enum=>exact nomatch e0
 |gG=>exact nomatch e0
theorem vN(T:Step D X ad s X' ae s')(hD:∀a∈D,s₀.heap.objs.size≤a)(nm:∀b,Mt ad b→s₀.heap.objs.size≤b)(kp:∀b o,s₀.heap.get? b=some o→s.heap.get? b=some o)(sz:s₀.heap.objs.size≤s.heap.objs.size):
  (∀b,Mt ae b→s₀.heap.objs.size≤b)∧(∀b o,s₀.heap.get? b=some o→s'.heap.get? b=some o)∧s₀.heap.objs.size≤s'.heap.objs.size:=by
 have lt:∀b o,s₀.heap.get? b=some o→¬s₀.heap.objs.size≤b:=fun b o q z=>df _ (cV (Heap.lt_size q) z)
 exact⟨fun b z=>(T.dI b z).elim (nm b) fun q=>cx sz q,fun b o q=>T.keep b o (kp b o q) (fun m=>lt b o q (hD b m)) fun z=>lt b o q (nm b z),cx sz T.size⟩
theorem BC(C:ax c){x:Nat}{p:Pos}(hx:ef sc x=true){b:CS}(hb:gH c m sc cl n b db){R:Result→Shared→Prop}{k:En→Hp→Res}{kr:K}
  (hk:∀{s env h X ad},kH c m sc A e it (.Name (c.S.nm x) p) N Y s₀ env h j s X ad→c.Ok (k env h)→Good c.M A (.Name (c.S.nm x) p) it db e R (j+1) s)
  (hr:∀{s v V h X ad},c.Ok (kr V h)→c.VR X ad s.heap v V→Inv c X ad h s→(∀b,Mt ad b→s₀.heap.objs.size≤b)→(∀b o,s₀.heap.get? b=some o→s.heap.get? b=some o)→s₀.heap.objs.size≤s.heap.objs.size→(∀a∈Y,a∈X)→R (.ok (.ret v)) s):
  ∀{t:Nat}{s:Shared}{env:En}{h:Hp}{X:List Addr}{ad:Ad},kH c m sc A e it (.Name (c.S.nm x) p) N Y s₀ env h (t+j) s X ad→c.Ok (segGo x b c.P cl n k kr t env h)→Good c.M A (.Name (c.S.nm x) p) it db e R (t+j+1) s
 |0,s,env,h,X,ad,d,q=>by rw[cZ] at d⊢;exact hk d q
 |t+1,s,env,h,X,ad,d,q=>by
  have a:=d.at'
  have q:c.Ok (putK env x .au fun env=>b c.P cl n env h (segGo x b c.P cl n k kr t) kr):=q
  have Nv:c8 c (.Name (c.S.nm x) p) X ad s.heap it (.items (.au::eR (t+j) .au)) N:=by
   have:=d.uU
   rwa [show t+1+j=(t+j)+1 by lia,vp] at this
  have q3:c.Ok (nextK (.items (.au::eR (t+j) .au)) h (bad 0) fun V i=>match i with
   | .items l=>cond (ag l.length (t+j)) (putK env x .au fun env=>b c.P cl n env h (segGo x b c.P cl n k kr t) kr) (bad 0)
   |_=>bad 0):=by
   show c.Ok (cond (ag (eR (t+j) SV.au).length (t+j)) (putK env x .au fun env=>b c.P cl n env h (segGo x b c.P cl n k kr t) kr) (bad 0))
   rw[y7,mB]
   exact q
  rw[show t+1+j+1=(t+j+1)+1 by lia]
  show Turn c.M A (.Name (c.S.nm x) p) it db e R (Good c.M A (.Name (c.S.nm x) p) it db e R (t+j+1)) s
  refine weak (ay (Bb a.inv a.ao.dm Nv d.own q3) fun r s4 w=> ?_)
  induction r with
  |none=>exact(a0 w.1).elim
  |some u=>
   refine weak (ay w fun _ s5 S5=> ?_)
   obtain⟨V,i5,q5,J5,T5,r5,R5⟩:=S5
   have F5:=a.fr.tH a.inv T5 (fun b m=>(d.own b m).1) d.apart
   induction i5 with
   |items l5=>
    refine ai (aJ (b:=ag l5.length (t+j)) (x:=putK env x .au fun env=>b c.P cl n env h (segGo x b c.P cl n k kr t) kr) (n:=0) q5) fun e5 q5=> ?_
    have e5:=aZ e5
    have ht:=tm (p:=p) C hx
    refine weak (nL (ht.run (D:=aV e) (V:= .au) (fun _ _=>Wr.aV) F5.bc a.ao.dm J5 F5 a.sc (.au u) q5) fun _ s6 eK q6 F6 J6 T6 _=> ?_)
    have a6:At c m sc A e X ad s6 eK h:=⟨a.ao,J6,(a.low.step T5).step T6,F6,a.sc⟩
    have uI:∀a∈N,a∉aV e:=fun b m z=>d.apart b z m
    refine dq (vN T5 d.qN d.ui d.keep d.size) fun m5 k5 z5=> ?_
    refine dq (vN T6 d.mW m5 k5 z5) fun m6 k6 z6=> ?_
    have CJ:∀a∈N,a∈X∧¬Mt ad a:=d.own
    refine weak (ay (hb a6 q6) fun f s7 w=> ?_)
    have R6:=R5.keep J5 a.ao.dm CJ T6 F5.bc uI
    induction f with
    |next=>
     obtain⟨jC,h7,rg,X7,q7,F7,J7,T7⟩:=w
     obtain⟨m7,k7,z7⟩:=vN T7 d.mW m6 k6 z6
     have R7:=R6.keep J6 a.ao.dm CJ T7 F6.bc uI
     have R8:=wo (c':=c) (X':=X7) (ae:=rg) rfl rfl rfl (fun _ m=>m) R7
     rw[e5] at R8
     exact BC C hx hb hk hr (t:=t) ⟨⟨a.ao,J7,((a.low.step T5).step T6).step T7,F7,a.sc⟩,R8,jj J6 T7 CJ,d.apart,d.mW,d.qN,m7,k7,z7,jj J6 T7 d.ext⟩ q7
    |ret y=>
     obtain⟨V7,h7,rg,X7,q7,r7,J7,T7⟩:=w
     obtain⟨m7,k7,z7⟩:=vN T7 d.mW m6 k6 z6
     exact hr q7 r7 J7 m7 k7 z7 fun a m=>T7.XK a (d.ext a m).1
    |brk=>exact w.elim
    |cont=>exact w.elim
   |_=>exact(a0 q5).elim
theorem kH.hW(d:kH c m sc A e it aH N Y s₀ env h j s X ad)(hT:hS aH=false)(G:iw c.ρ){r:aR×d7}(hr:hW π env h aD h'=some r)(q:cy ρ' c.ρ r.1)(gq:lI ρ' c.ρ π h r.2):
  ∃X' ae,kH (c.to ρ' F') m sc A e it aH N Y s₀ aD h' j s X' ae:=by
 refine ll (FT (F':=F') (N:=N++Y) d.at' G hr q gq fun a m=>(bj.mp m).elim (d.own a) (d.ext a)) fun X' ae a' sub mt own=> ?_
 have R:=wo (c:=c) (X:=X) (ad:=ad) (c':=c.to ρ' F') (X':=X') (ae:=ae) rfl rfl hT sub d.uU
 rw[y7] at R
 exact⟨X',ae,a',R,fun a m=>own a (bj.mpr (.inl m)),d.apart,d.mW,d.qN,fun b z=>d.ui b (mt b z),d.keep,d.size,fun a m=>own a (bj.mpr (.inr m))⟩
end
end
section
noncomputable section
variable{w:World} {s₁:Shared} {ρ:Val} {F:Nat→SV→En→Hp→Prop}
theorem mK{a b:Int}:bH a b=true↔a<b:=by rw[j5];exact decide_eq_true_iff
theorem sR(C:ax (aj w s₁ ρ F)){n d:Nat}(hn:n≤100000){hook:aX→aX}(hk:∀m cl,br (aj w s₁ ρ F) (m+d) cl→br (aj w s₁ ρ F) (m+d) (hook cl)):∀m,br (aj w s₁ ρ F) (m+d) (run aG dS hook n m)
 |0=>fun _ _ _ _ _ _ _ _ _ _ _ _ _ q=>(a0 q).elim
 |m+1=>hk (m+1) (fun f as h k=>lX aG n (run aG dS hook n m) (dS f) as h k) (by
   have:= @G7 w s₁ ρ F C n hn (run aG dS hook n m) (m+d) (sR C hn hk m)
   rw[show m+d+1=m+1+d by lia] at this
   exact @this)
noncomputable def gc:K:=fun V h=> .ok [] 9 V [] h
noncomputable def F9(V0:SV):Nat→SV→En→Hp→Prop:=fun _ V _ _=>V=V0
theorem Inv.nil(I:Inv (aj w s₁ ρ F) X ad h s):Inv (aj w s₁ ρ' F') X [] [] s:=
 {base:=I.base,len:=rfl,fit:=fun i o e=>(by cases(show(none:Option SO)=some o from e)),sep:=fun i j p q e=>(by rw[show([]:Ad)[i]? =none from rfl] at e;(exfalso;injection e)),bc:=fun b m=>(by obtain⟨p,m,_⟩:=m;exact(aP m).elim),live:=I.live,own:=I.own,rest:=I.rest}
theorem Inv.same(I:Inv (aj w s₁ ρ F) X ad h s)(hr:∃hp tk,s'={s₁ with heap:=hp,toks:=tk})(hk:∀b o,s.heap.get? b=some o→s'.heap.get? b=some o)(hz:s.heap.objs.size≤s'.heap.objs.size):
  Inv (aj w s₁ ρ F) X ad h s'∧Step [] X ad s X ad s':=by
 refine gA I.rest fun hp tk e=> ?_
 refine gA hr fun gn tk' e'=> ?_
 have:=I.push (g:=s'.heap) (t:=s'.toks) hk hz
 have es:({s with heap:=s'.heap,toks:=s'.toks}:Shared)=s':=by rw[e,e'];rfl
 rwa [es] at this
theorem Ag(B:Base w s₁){m:Nat}(hn:n≤100000){rj:List SV}{V0:SV}(ao:cp A (4*m))(I:Inv (aj w s₁ ρ F) X ad h s)(hl:bY (aj w s₁ ρ F) s)
  (P:Paired (VR pw_sm0015_01 w aN ρ' X [] s.heap) vs rj)(q:Ok ρ' (F9 V0) (run aG dS (fun c=>c) n m f rj [] gc)):
  fnIn (KT w.params) (aN.fa f)=true∧codeAny (model pw_sm0015_01 w) A (.call (.ref (aN.fa f)) ⟨vs,[]⟩) (wants (fun v s'=>∃X' ae,(∀a∈X,a∈X')∧VR pw_sm0015_01 w aN ρ' X' ae s'.heap v V0∧Inv (aj w s₁ ρ F) X ad h s'∧Step [] X ad s X ad s') NE) s:=by
 have C:ax (aj w s₁ ρ' (F9 V0)):=fP B
 have Y:br (aj w s₁ ρ' (F9 V0)) m (run aG dS (fun c=>c) n m):= @BB w s₁ ρ' (F9 V0) C n hn (fun c=>c) (fun _ _ h=> @h) m
 have I':Inv (aj w s₁ ρ' (F9 V0)) X [] [] s:=I.nil
 obtain⟨a,b⟩:=Y (f:=f) (k:=gc) ao I' hl P q
 refine⟨a,codeAny_mono b fun r s' z=> ?_⟩
 induction r with
 |error e=>exact z
 |ok fl=>
  induction fl with
  |ret v=>
   obtain⟨V,h',ae,X',q',r',J,T⟩:=z
   have e:V=V0:=q'.2
   subst e
   obtain⟨J1,T1⟩:=I.same J.rest (fun b o e=>T.keep b o e (fun m=>by exact(aP m).elim) fun⟨p,m,_⟩=>by exact(aP m).elim) T.size
   exact⟨X',ae,T.XK,r',J1,T1⟩
  |_=>exact z
noncomputable def Ef(lo hi:Int)(c:CX):Bool:=match c with
 | .lt a b t=>cond (bW a (.abs (.var 0))) (ah (bW b (.lit b.zz)) (cond t (neg (bH b.zz hi)) (neg (bH lo b.zz)))) (ah (bW a (.var 0)) (ah (bW b (.lit 0)) (neg t)))
 | .eq a b t=>ah (bW b (.lit 0)) (cond (bW a (.abs (.var 0))) (cond t (bV hi 1) (bH 0 lo)) (ah (bW a (.fmod (.abs (.var 0)) (.lit 10))) (cond t false (bH 0 lo))))
 |_=>false
noncomputable def mV(s:Int):SV:=cond (bV s 0) (.tup [.lit 0,.lit 0]) (.tup [.sym (.abs (.var 0)) s,.lit 0])
noncomputable def x3(s:Int):Res:=run aG dS (fun c=>c) 300 4 qe [.sym (.var 0) s,.lit 0,.lit 9] [] gc
noncomputable def Nu(s:Int)(V:SV):Bool:=ah (isTup V) (ah (i9 (iY V) 2) (ah (oN (bB (iY V) 1) 0) (cond (oN (bB (iY V) 0) 0) (bV s 0) (ah (xV (bB (iY V) 0)) (ah (bW (aC (bB (iY V) 0)) (.abs (.var 0))) (ah (bV (aW (bB (iY V) 0)) s) (neg (bV s 0))))))))
noncomputable def Zi(lo hi s:Int):Bool:=match x3 s with
 | .ok cs f V e _=>ah (ag f 9) (ah (ag (len e) 0) (ah (j2 cs (Ef lo hi)) (Nu s V)))
 | .bad _=>false
noncomputable def Lf:List (Int×Int×Int):=[(0,1,0),(1,10,1),(10,100,11),(100,1000,111),(1000,10000,1111),(10000,100000,11111),(100000,1000000,111111),(1000000,10000000,1111111),(10000000,100000000,11111111),(100000000,1000000000,111111111)]
theorem Tz:(Lf.all fun p=>Zi p.1 p.2.1 p.2.2)=true:=by kernel_rfl
noncomputable def k0(x:Int):Val:=⟨fun _=>x,fun _ _=>0,fun _=>[],[]⟩
theorem Jq{a b:Int}(h:neg (bH a b)=true):¬a<b:=fun z=>by rw[mK.mpr z] at h;exact nf h
theorem Wu{x lo hi:Int}(h0:0≤lo)(h1:lo≤x)(h2:x<hi)(h3:x=0∨x%10≠0){c:CX}(h:Ef lo hi c=true):c.holds (k0 x):=by
 have xa:(x.natAbs:Int)=x:=pZ (by lia)
 induction c using CX.casesOn with
 |lt a b t=>
  have h:cond (bW a (.abs (.var 0))) (ah (bW b (.lit b.zz)) (cond t (neg (bH b.zz hi)) (neg (bH lo b.zz)))) (ah (bW a (.var 0)) (ah (bW b (.lit 0)) (neg t)))=true:=h
  induction z:bW a (.abs (.var 0)) using Bool.casesOn with
  |true=>
   rw[z] at h
   refine d1 h fun hb h=> ?_
   rw[cg z,cg hb]
   show decide (((x.natAbs:Nat):Int)<b.zz)=t
   rw[xa]
   induction t with
   |true=>exact decide_eq_true (by have z:=Jq h;lia)
   |false=>exact decide_eq_false (by have z:=Jq h;lia)
  |false=>
   rw[z] at h
   refine gj h fun ha hb h=> ?_
   rw[cg ha,cg hb]
   induction t with
   |true=>exact nf h
   |false=>exact decide_eq_false (by show¬x<0;lia)
 |eq a b t=>
  have h:ah (bW b (.lit 0)) (cond (bW a (.abs (.var 0))) (cond t (bV hi 1) (bH 0 lo)) (ah (bW a (.fmod (.abs (.var 0)) (.lit 10))) (cond t false (bH 0 lo))))=true:=h
  refine d1 h fun hb h=> ?_
  rw[cg hb]
  induction z:bW a (.abs (.var 0)) using Bool.casesOn with
  |true=>
   rw[z] at h
   rw[cg z]
   show decide (((x.natAbs:Nat):Int)=0)=t
   rw[xa]
   induction t with
   |true=>exact decide_eq_true (by have h:=ib (show bV hi 1=true from h);lia)
   |false=>exact decide_eq_false (by have h:=mK.mp (show bH 0 lo=true from h);lia)
  |false=>
   rw[z] at h
   refine d1 h fun ha h=> ?_
   rw[cg ha]
   show decide ((((x.natAbs:Nat):Int)).fmod 10=0)=t
   rw[xa,rQ _ (by decide)]
   induction t with
   |true=>exact nf h
   |false=>exact decide_eq_false (by have h:=mK.mp (show bH 0 lo=true from h);lia)
 |_=>exact nf h
theorem wa:∀{l:List CX},(∀c∈l,c.holds ρ)→cY ρ l
 | [],_=>trivial
 |c::l,h=>⟨h c (.head _),wa fun d m=>h d (.tail _ m)⟩
noncomputable def u4(r:Res)(p:CX→Bool):Bool:=match r with
 | .ok cs f V _ _=>ah (ag f 9) (ah (LA V) (j2 cs p))
 | .bad _=>false
theorem wA{r:Res}{p:CX→Bool}(h:u4 r p=true)(H:∀c,p c=true→c.holds ρ):Ok ρ (F9 (.bool true)) r:=by
 induction r using Res.casesOn with
 |bad n=>exact nf h
 |ok cs f V e hh=>
  refine gj h fun _ h1 h2=> ?_
  exact⟨wa fun c m=>H c (aM.mp h2 c m),TY h1⟩
theorem RW{x:Int}(h0:0≤x)(h1:x<1000000000)(h3:x=0∨x%10≠0):∃s V,Ok (k0 x) (F9 V) (x3 s)∧(V= .tup [.lit 0,.lit 0]∧x=0∨V= .tup [.sym (.abs (.var 0)) s,.lit 0]):=by
 have ex:∃p∈Lf,0≤p.1∧p.1≤x∧x<p.2.1∧(p.2.2=0→x=0):=by
  by_cases z0:x<1;· exact⟨_,.head _,by decide,by show(0:Int)≤x;assumption,by show x<1;assumption,fun _=>by lia⟩
  by_cases z1:x<10;· exact⟨(1,10,1),by decide,by decide,by show(1:Int)≤x;lia,z1,fun h=>by cases h⟩
  by_cases z2:x<100;· exact⟨(10,100,11),by decide,by decide,by show(10:Int)≤x;lia,z2,fun h=>by cases h⟩
  by_cases z3:x<1000;· exact⟨(100,1000,111),by decide,by decide,by show(100:Int)≤x;lia,z3,fun h=>by cases h⟩
  by_cases z4:x<10000;· exact⟨(1000,10000,1111),by decide,by decide,by show(1000:Int)≤x;lia,z4,fun h=>by cases h⟩
  by_cases z5:x<100000;· exact⟨(10000,100000,11111),by decide,by decide,by show(10000:Int)≤x;lia,z5,fun h=>by cases h⟩
  by_cases z6:x<1000000;· exact⟨(100000,1000000,111111),by decide,by decide,by show(100000:Int)≤x;lia,z6,fun h=>by cases h⟩
  by_cases z7:x<10000000;· exact⟨(1000000,10000000,1111111),by decide,by decide,by show(1000000:Int)≤x;lia,z7,fun h=>by cases h⟩
  by_cases z8:x<100000000;· exact⟨(10000000,100000000,11111111),by decide,by decide,by show(10000000:Int)≤x;lia,z8,fun h=>by cases h⟩
  exact⟨(100000000,1000000000,111111111),by decide,by decide,by show(100000000:Int)≤x;lia,h1,fun h=>by cases h⟩
 obtain⟨⟨lo,hi,s⟩,m,p0,p1,p2,p3⟩:=ex
 have e:=aM.mp Tz _ m
 dsimp only at p0 p1 p2 p3 e
 have e:(match x3 s with| .ok cs f V e _=>ah (ag f 9) (ah (ag (len e) 0) (ah (j2 cs (Ef lo hi)) (Nu s V)))| .bad _=>false)=true:=e
 induction hR:x3 s using Res.casesOn with
 |bad n=>rw[hR] at e;exact nf e
 |ok cs f V en hh=>
  rw[hR] at e
  refine jR e fun _ _ e1 e2=> ?_
  refine⟨s,V,?_,?_⟩
  ·rw[hR]
   exact⟨wa fun c m=>Wu p0 p1 p2 h3 (aM.mp e1 c m),rfl⟩
  ·refine jR e2 fun t1 t2 t3 e2=> ?_
   have eV:=GN t1
   rw[ug t2,sI t3] at eV
   rw[eV]
   induction z:oN (bB (iY V) 0) 0 using Bool.casesOn with
   |true=>
    rw[z] at e2
    rw[sI z]
    exact .inl ⟨rfl,p3 (ib e2)⟩
   |false=>
    rw[z] at e2
    refine jR e2 fun y1 y2 y3 e2=> ?_
    rw[qf y1,cg y2,ib y3]
    exact .inr rfl
end
end
section
noncomputable section
noncomputable def Jk(V:SV):Bool:=match V with| .c9=>true|_=>false
noncomputable def isNat(V:SV):Bool:=match V with| .lit m=>(match m with| .ofNat _=>true| .negSucc _=>false)|_=>false
noncomputable def Kp(o:SO):Bool:=match o with| .lst l=>ah (i9 l 2) (ah (Jk (bB l 0)) (isNat (bB l 1)))|_=>false
noncomputable def L6(o:SO):Nat:=match o with| .lst l=>(aW (bB l 1)).toNat|_=>0
theorem Qg(h:Jk V=true):V= .c9:=by induction V using SV.casesOn<;>first|rfl|exact nf h
theorem RJ(h:isNat V=true):V= .lit (aq (aW V).toNat):=by
 induction V using SV.casesOn with
 |lit m=>induction m using Int.casesOn<;>first|rfl|exact nf h
 |_=>exact nf h
theorem RK{o:SO}(h:Kp o=true):o= .lst [.c9,.lit (aq (L6 o))]:=by
 induction o using SO.casesOn with
 |lst l=>
  refine gj h fun h1 h2 h3=> ?_
  show SO.lst l= .lst [.c9,.lit (aq (aW (bB l 1)).toNat)]
  rw[←Qg h2,←RJ h3,←ug h1]
 |_=>exact nf h
noncomputable def ZD(as:List SV):Bool:=ah (i9 as 2) (ah (Lz (bB as 0)) (ah (isLit (bB as 1)) (bH (aq 0) (aW (bB as 1)))))
noncomputable def BP(D:List (Option Int))(j:Nat)(m:Int)(i:Nat)(h:Hp)(k:K):Res:=match aS D i with
 |some n=>Option.casesOn n (er h j (.lst [.c9,.lit (aq (Nat.succ i))]) fun h=>k (.sym (.f2 0 (.lit (aq i)) (.lit m)) 0) h)
  fun n=>fM (.eq (.f2 0 (.lit (aq i)) (.lit m)) (.lit n) true) (er h j (.lst [.c9,.lit (aq (Nat.succ i))]) fun h=>k (.lit n) h)
 |none=>bad 71
noncomputable def XR(D:List (Option Int))(as:List SV)(h:Hp)(k:K):Res:=cond (ZD as) (dG h (CU (bB as 0)) (bad 70) fun o=>cond (Kp o) (BP D (CU (bB as 0)) (aW (bB as 1)) (L6 o) h k) (bad 72)) (bad 73)
noncomputable def Yb(as:List SV):Bool:=ah (i9 as 1) (xV (bB as 0))
noncomputable def Yc(cl:aX)(as:List SV)(h:Hp)(k:K):Res:=cond (Yb as) (k (.tree (aC (bB as 0)) (aW (bB as 0))) h) (cl mD as h k)
noncomputable def BY(D:List (Option Int))(cl:aX):aX:=fun f as h k=>cond (ag f lu) (XR D as h k) (cond (ag f mD) (Yc cl as h k) (cl f as h k))
end
end
section
noncomputable section
noncomputable def qy(e:IX):Cs:=[.lt (.lit (-1)) e true,.lt e (.lit 1000000000) true,.lt e (.add (.mul (.fmod e (.lit 10)) (.lit 1000000000)) (.lit 1)) true]
noncomputable def Kx(as:List SV):Bool:=ah (i9 as 3) (ah (xV (bB as 0)) (ah (oN (bB as 1) 0) (oN (bB as 2) 9)))
noncomputable def Ky(cl:aX)(as:List SV)(h:Hp)(k:K):Res:=cond (Kx as)
 (fM (.lt (.lit (-1)) (aC (bB as 0)) true) (fM (.lt (aC (bB as 0)) (.lit 1000000000) true) (fM (.lt (aC (bB as 0)) (.add (.mul (.fmod (aC (bB as 0)) (.lit 10)) (.lit 1000000000)) (.lit 1)) true) (k (.tup [.sym (aC (bB as 0)) (aW (bB as 0)),.lit (aq 0)]) h))))
 (cl qe as h k)
noncomputable def xm(cl:aX):aX:=fun f as h k=>cond (ag f qe) (Ky cl as h k) (cl f as h k)
variable{s₁:Shared}
theorem BF{h:Heap}(hs:∀a∈X,a∈X')(r:VR pw_sm0015_01 w aN ρ X' ad h v V):VR pw_sm0015_01 w aN ρ X ad h v V:=
 r.mono (fun b o e hx=>⟨e,fun m=>hx (hs b m)⟩) fun _ _ e=>e
theorem mJ{ae:Ad}{h:Heap}{l':List SV}(hl:l'.length=l.length)(r:VR pw_sm0015_01 w aN ρ' X ae h v (.tup l))(hi:∀(i:Nat)(V V':SV)(u:Value),l[i]? =some V→l'[i]? =some V'→VR pw_sm0015_01 w aN ρ' X ae h u V→VR pw_sm0015_01 w aN ρ X ad h u V'):
  VR pw_sm0015_01 w aN ρ X ad h v (.tup l'):=by
 obtain⟨_,_,_,_,ho,hc,hd,hx,hf,rfl⟩:=VR.jG r
 rename_i f ep
 refine .tup (f:=f) ho hc (by rw[hl];exact hd) hx fun i V' e=> ?_
 have l9:i<l.length:=by rw[←hl];exact(dM.mp e).1
 exact hi i _ V' _ (cA l9) e (hf i _ (cA l9))
theorem Uj{ae:Ad}{e:IX}{n m:Int}{V0:SV}(h0:0≤e.eval ρ)(hV:(V0= .tup [.lit 0,.lit 0]∧e.eval ρ=0)∨V0= .tup [.sym (.abs (.var 0)) m,.lit 0])(r:VR pw_sm0015_01 w aN (k0 (e.eval ρ)) X ae g v V0):VR pw_sm0015_01 w aN ρ X ad g v (.tup [.sym e n,.lit (aq 0)]):=by
 have ze:∀{u:Value},VR pw_sm0015_01 w aN (k0 (e.eval ρ)) X ae g u (.lit 0)→VR pw_sm0015_01 w aN ρ X ad g u (.lit (aq 0)):=fun r=>av (VR.dj r) fun t e=>e▸ .lit _ t
 rcases hV with⟨e0,hx⟩|e0
 ·subst e0
  refine mJ (l:=[.lit 0,.lit 0]) (l':=[.sym e n,.lit (aq 0)]) rfl r fun i V V' u e1 e2 ru=> ?_
  match i with
  |0=>
   (injection e1 with e1;subst e1);(injection e2 with e1;subst e1)
   refine av (VR.dj ru) fun t ee=> ?_;subst ee
   have:=VR.sym (prog:=pw_sm0015_01) (w:=w) (S:=aN) (ρ:=ρ) (X:=X) (ad:=ad) (h:=g) e n t
   rwa [hx] at this
  |1=>(injection e1 with e1;subst e1);(injection e2 with e1;subst e1);exact ze ru
  |i+2=>exact nomatch e1
 ·subst e0
  refine mJ (l:=[.sym (.abs (.var 0)) m,.lit 0]) (l':=[.sym e n,.lit (aq 0)]) rfl r fun i V V' u e1 e2 ru=> ?_
  match i with
  |0=>
   (injection e1 with e1;subst e1);(injection e2 with e1;subst e1)
   refine av (VR.fS ru) fun t ee=> ?_;subst ee
   rw[show(IX.abs (.var 0)).eval (k0 (e.eval ρ))=e.eval ρ from pZ h0];exact .sym e n t
  |1=>(injection e1 with e1;subst e1);(injection e2 with e1;subst e1);exact ze ru
  |i+2=>exact nomatch e1
theorem Qk(B:Base w s₁){k:K}{e:IX}{n:Int}(ao:cp A (4*4))(I:Inv (aj w s₁ ρ F) X ad h s)(hl:bY (aj w s₁ ρ F) s)(P:(aj w s₁ ρ F).VL X ad s.heap vs [.sym e n,.lit 0,.lit 9])
  (q:(aj w s₁ ρ F).Ok (fM (.lt (.lit (-1)) e true) (fM (.lt e (.lit 1000000000) true) (fM (.lt e (.add (.mul (.fmod e (.lit 10)) (.lit 1000000000)) (.lit 1)) true) (k (.tup [.sym e n,.lit (aq 0)]) h))))):
  fnIn (KT w.params) (aN.fa qe)=true∧codeAny (model pw_sm0015_01 w) A (.call (.ref (aN.fa qe)) ⟨vs,[]⟩) (wants (aF (aj w s₁ ρ F) X ad s k) NE) s:=by
 refine ai (iR q) fun c1 q=> ?_
 refine ai (iR q) fun c2 q=> ?_
 refine ai (iR q) fun c3 q=> ?_
 have c0:0≤e.eval ρ:=of_decide_eq_true c1
 have c3:e.eval ρ<(e.eval ρ).fmod 10*1000000000+1:=of_decide_eq_true c3
 rw[rQ _ (by decide)] at c3
 refine eP (RW (x:=e.eval ρ) c0 (of_decide_eq_true c2) (by lia)) fun sm V0 ok hV=> ?_
 refine Internal.p1 P fun v0 r p0 P=> ?_
 refine Internal.p1 P fun v1 r p1 P=> ?_
 refine Internal.p1 P fun v2 r p2 P=> ?_
 refine Internal.p0 P ?_
 have P':Paired (VR pw_sm0015_01 w aN (k0 (e.eval ρ)) X [] s.heap) [v0,v1,v2] [.sym (.var 0) sm,.lit 0,.lit 9]:=
  .cons (av (VR.fS p0) fun t e=>e▸ .sym (.var 0) sm t) (.cons (av (VR.dj p1) fun t e=>e▸ .lit 0 t) (.cons (av (VR.dj p2) fun t e=>e▸ .lit 9 t) .nil))
 refine ai (Ag (F:=F) (ρ:=ρ) B (n:=300) (m:=4) (f:=qe) (by decide) ao I hl P' ok) fun a1 a2=> ?_
 refine⟨a1,codeAny_mono a2 fun r s' z=> ?_⟩
 induction r with
 |error e=>exact z
 |ok fl=>
  induction fl with
  |ret v=>exact ll z fun X' ae hX r' J T=>⟨_,h,ad,X,q,Uj c0 (hV.imp (fun z=>⟨z.1,z.2⟩) id) (BF hX r'),J,T⟩
  |_=>exact z
theorem GJ(B:Base w s₁)(m:Nat)(cl:aX)(Y:br (aj w s₁ ρ F) (m+4) cl):br (aj w s₁ ρ F) (m+4) (xm cl):=fun{A X ad s h f as vs k}ao I hl P q=>by
 refine bp q (fun z q=> ?_) fun _ q=>Y ao I hl P q
 rw[aZ z] at*
 induction y:Kx as using Bool.casesOn with
 |false=>unfold Ky at q;rw[y] at q;exact Y ao I hl P q
 |true=>
  refine jR y fun y0 y1 y2 y3=> ?_
  have e:as= [.sym (aC (bB as 0)) (aW (bB as 0)),.lit 0,.lit 9]:=by rw[LF y0,qf y1,sI y2,sI y3];rfl
  rw[e] at P q
  exact Qk B (ao.less (by lia)) I hl P q
end
end
section
noncomputable section
noncomputable def zN(k:Nat):Int:=aq k
noncomputable def ix(k:Nat):IX:= .add (.var 0) (.lit (zN k))
noncomputable def bk(k:Nat):SV:= .sym (ix k) (zN (10+k))
noncomputable def tN(i:Nat):SV:= .tup [.str 28,.str i]
noncomputable def tW(n:Nat):SV:= .tup [.str 25,.lit (zN n)]
noncomputable def t2(op:Nat)(a b:SV):SV:= .tup [.str 27,.str op,a,b]
noncomputable def tI(a:SV):SV:= .tup [.str 29,.str 13,.ar [a]]
noncomputable def c7(x:Nat)(e:SV):SV:= .tup [.str 48,tN x,e]
noncomputable def d6(w:Nat):SV:= .tup [.str 49,.str w]
noncomputable def mO:List SV:=[
 .tup [.str 50,t2 43 (tN 7) (tW 0)],d6 64,c7 8 (t2 40 (tN 6) (tN 7)),c7 6 (tN 7),c7 7 (tN 8),.tup [.str 51],d6 64,.tup [.str 58,.none],
 .tup [.str 50,t2 45 (tN 9) (tW 0)],d6 65,.tup [.str 53,t2 42 (t2 40 (tN 9) (tW 2)) (tW 1),bk 12],c7 12 (t2 37 (tN 12) (tN 11)),c7 11 (t2 37 (tN 11) (tN 11)),c7 9 (t2 39 (tN 9) (tW 2)),.tup [.str 51],d6 65,.tup [.str 58,.none],
 .tup [.str 50,t2 45 (tN 9) (tW 0)],d6 66,c7 10 (t2 35 (t2 37 (tN 10) (tW 10)) (t2 40 (tN 9) (tW 10))),c7 9 (t2 39 (tN 9) (tW 10)),.tup [.str 51],d6 66,.tup [.str 58,.none],
 .tup [.str 55,.str 14,tW 1,t2 36 (tN 16) (tW 1),.none],.tup [.str 55,.str 15,tW 0,t2 36 (t2 36 (tN 16) (tW 1)) (tN 14),.none],
 .tup [.str 53,t2 45 (tI (tN 15)) (tI (t2 35 (tN 15) (tW 1))),bk 29],.tup [.str 61,tI (tN 15),tI (t2 35 (tN 15) (tW 1))],d6 61,.tup [.str 56,.ar [.str 15,.str 14]],.tup [.str 57,.lit (zN 500)],.tup [.str 58,.none],
 c7 17 (tW 0),c7 18 (tN 16),.tup [.str 50,t2 44 (tN 17) (tN 18)],d6 67,c7 19 (t2 39 (t2 35 (tN 17) (tN 18)) (tW 2)),.tup [.str 53,t2 44 (tI (tN 19)) (tN 20),bk 40],c7 17 (t2 35 (tN 19) (tW 1)),.tup [.str 54,bk 41],c7 18 (tN 19),.tup [.str 51],d6 67,.tup [.str 58,.none]]
noncomputable def qz(a b:Nat):List (IX×Int×SV):=List.rec (motive:=fun _=>Nat→List (IX×Int×SV)) (fun _=>[]) (fun st _ ih k=>cond (ah (dW a k) (bq k b)) ((ix k,zN (10+k),.tup [.au,st])::ih (Nat.succ k)) (ih (Nat.succ k))) mO 0
noncomputable def H8:List (IX×Int×SV):=[(.lit (zN 100),zN 100,bk 0),(.lit (zN 200),zN 200,bk 8),(.lit (zN 300),zN 300,bk 17),(.lit (zN 400),zN 400,bk 24),(.lit (zN 500),zN 500,bk 32)]
noncomputable def pr(a b:Nat):IX×Int×SV:=(ix a,zN (10+a),bk b)
noncomputable def Ju:List (IX×Int×SV):=[pr 0 5,pr 5 0,pr 8 14,pr 14 8,pr 17 21,pr 21 17,pr 34 41,pr 41 34]
noncomputable def Jo:List (IX×Int×SV):=[(ix 24,zN 34,.tup [bk 29,.lit (zN 1)]),(ix 25,zN 35,.tup [bk 29,.lit (zN 0)])]
noncomputable def Yp:List Nat:=[6,7,8,9,10,11,12,14,15,16,17,18,19,20]
noncomputable def NO(l:List (Nat×SV)):List (Nat×SV):=app l (List.rec [] (fun x _ ih=>cond (e7 x (fH (·.1) l)) ih ((x,.au)::ih)) Yp)
noncomputable def fX(l:List Nat):List (Nat×SV):=fH (fun x=>(x,SV.au)) l
noncomputable def aB(at_:SV):En:=[(87,.lit (zN 4)),(146,.ref 2),(201,.ref 1),(171,.ref 0),(281,.ref 14),(130,at_)]
noncomputable def b9(rows:List (IX×Int×SV))(names:List (Nat×SV))(fA:List SV)(g:Option (List SV)):Hp:=app [
 .ins 4 (app [(201,.ref 1),(146,.ref 2),(95,.lit (zN 16)),(86,.lit (zN 9)),(127,.ref 3),(345,.ref 4)] (fX [255])),
 .ins 3 (app [(95,.lit (zN 16)),(86,.lit (zN 9)),(217,.lit (zN 100)),(188,.ref 5),(324,.ref 6),(77,.ref 7),(329,.ref 8),(196,.lit (zN 0))] (fX [215,216,316,325,169,326,327,328,314,265,330,331,332,333,334,335,336,337,338,339])),
 .ins 1 (app [(277,.ref 9),(260,.ref 10),(291,.ref 11),(315,.ref 12)] (fX [314,316])),
 .ins 0 (app [(129,.ref 13),(126,.lit (zN 20))] (fX [312])),
 .fb 1 [],.cb (NO names),.cb (match g with|some _=>[(13,.ref 15)]|none=>[]),.cb [],.cb [],
 .iF rows,.cz false H8,.cz false Ju,.cz false Jo,.lst fA,.fb 0 []]
 (match g with|some l=>[.ins 2 (app [(80,.str 25),(195,.ar [.lit (zN 10)]),(196,.lit (zN 0)),(283,.ref 16)] (fX [217])),.lst (app l (oQ [.au] 7))]|none=>[])
noncomputable def fN(h:Hp)(i x:Nat):Nat:=match aS h i with
 |some (.ins _ l)=>(match look l x with|some (.ref j)=>j|_=>1000)
 |some (.cb l)=>(match look l x with|some (.ref j)=>j|_=>1000)
 |_=>1000
noncomputable def LU(e:En)(x:Nat):Nat:=match look e x with|some (.ref j)=>j|_=>1000
noncomputable def g5(e:En)(h:Hp)(g:Bool):List Nat:=(fun(r:Nat)=>(fun(w f c:Nat)=>app [r,w,f,c,fN h r 345,fN h w 188,fN h w 324,fN h w 77,fN h w 329,fN h f 277,fN h f 260,fN h f 291,fN h f 315,fN h c 129,LU e 281]
 (cond g ((fun(q:Nat)=>[q,fN h q 283]) (fN h (fN h w 324) 13)) [])) (fN h r 201) (fN h r 146) (fN h r 127)) (LU e 171)
noncomputable def Cg:CS:=match aS rk 2 with|some (.for _ _ b _)=>e9 b|_=>uk
noncomputable def jQ:aX:=run aG dS xm 300 60
noncomputable def eJ:En→Hp→Res:=fun env h=> .ok [] 7 .none env h
noncomputable def cL:K:=fun V h=> .ok [] 8 V [] h
noncomputable def lY(t:Nat)(env:En)(h:Hp):Res:=segGo 282 Cg aG jQ 300 eJ cL t env h
noncomputable def aas(t:Nat)(env:En)(h:Hp)(aD:En)(h':Hp)(g:Bool):Option (Cs×aR×d7):=match lY t env h with
 | .ok cs f _ e2 h2=>cond (ag f 7) (match hW (g5 e2 h2 g) e2 h2 aD h' with|some r=>some (cs,r.1,r.2)|none=>none) none
 | .bad _=>none
end
end
section
noncomputable section
noncomputable def pI:IX→Option (Nat×Int)
 | .var i=>some (i,0)
 | .add a (.lit n)=>(match pI a with|some p=>some (p.1,iQ p.2 n)|none=>none)
 |_=>none
theorem te(ρ:Val):∀{e:IX}{p:Nat×Int},pI e=some p→e.eval ρ=ρ.i p.1+p.2
 | .var i,p,h=>by(injection h with e1;subst e1);exact(Int.add_zero _).symm
 | .add a (.lit n),p,h=>by
  have h:(match pI a with|some p=>some (p.1,iQ p.2 n)|none=>none)=some p:=h
  split at h
  ·rename_i q hq
   (injection h with e1;subst e1)
   have:=te ρ hq
   show a.eval ρ+n=ρ.i q.1+(q.2+n)
   rw[this];lia
  ·(exfalso;injection h)
 | .lit _,p,h=>by(exfalso;injection h)
 | .sub _ _,p,h=>by(exfalso;injection h)
 | .mul _ _,p,h=>by(exfalso;injection h)
 | .neg _,p,h=>by(exfalso;injection h)
 | .abs _,p,h=>by(exfalso;injection h)
 | .fdiv _ _,p,h=>by(exfalso;injection h)
 | .fmod _ _,p,h=>by(exfalso;injection h)
 | .pow _ _,p,h=>by(exfalso;injection h)
 | .f1 _ _,p,h=>by(exfalso;injection h)
 | .f2 _ _ _,p,h=>by(exfalso;injection h)
 | .add _ (.var _),p,h=>by(exfalso;injection h)
 | .add _ (.add _ _),p,h=>by(exfalso;injection h)
 | .add _ (.sub _ _),p,h=>by(exfalso;injection h)
 | .add _ (.mul _ _),p,h=>by(exfalso;injection h)
 | .add _ (.neg _),p,h=>by(exfalso;injection h)
 | .add _ (.abs _),p,h=>by(exfalso;injection h)
 | .add _ (.fdiv _ _),p,h=>by(exfalso;injection h)
 | .add _ (.fmod _ _),p,h=>by(exfalso;injection h)
 | .add _ (.pow _ _),p,h=>by(exfalso;injection h)
 | .add _ (.f1 _ _),p,h=>by(exfalso;injection h)
 | .add _ (.f2 _ _ _),p,h=>by(exfalso;injection h)
noncomputable def B2(a b:IX):Bool:=match pI a with
 |some p=>(match pI b with|some q=>ah (ag p.1 q.1) (bV p.2 q.2)|none=>false)
 |none=>false
theorem RV(ρ:Val){a b:IX}(h:B2 a b=true):a.eval ρ=b.eval ρ:=by
 unfold B2 at h
 split at h
 ·rename_i p hp
  split at h
  ·rename_i q hq
   refine d1 h fun h1 h2=> ?_
   rw[te ρ hp,te ρ hq,aZ h1,of_decide_eq_true ((iT _ _).symm.trans h2)]
  ·exact nf h
 ·exact nf h
noncomputable def gu:IX→Option (Int×Int)
 | .lit n=>some (n,n)
 | .var i=>cond (ah (dW 2 i) (bq i 10)) (some (-32768,32767)) none
 | .abs a=>(match gu a with|some p=>cond (ah (bH (-1000000) p.1) (bH p.2 1000000)) (some (0,1000000)) none|none=>none)
 | .sub a b=>(match gu a with|some p=>(match gu b with|some q=>some (jk p.1 q.2,jk p.2 q.1)|none=>none)|none=>none)
 | .add a b=>(match gu a with|some p=>(match gu b with|some q=>some (iQ p.1 q.1,iQ p.2 q.2)|none=>none)|none=>none)
 |_=>none
noncomputable def uz(ρ:Val):Prop:=∀i,2≤i→i<10→-32768≤ρ.i i∧ρ.i i≤32767
theorem oa(W:uz ρ):∀{e:IX}{p:Int×Int},gu e=some p→p.1≤e.eval ρ∧e.eval ρ≤p.2
 | .lit n,p,h=>by(injection h with e1;subst e1);exact⟨zT _,zT _⟩
 | .var i,p,h=>by
  have h:cond (ah (dW 2 i) (bq i 10)) (some ((-32768:Int),(32767:Int))) none=some p:=h
  induction z:ah (dW 2 i) (bq i 10) using Bool.casesOn with
  |false=>rw[z] at h;(exfalso;injection h)
  |true=>rw[z] at h;(injection h with e1;subst e1);exact W i (pY (bJ.mp z).1) (blt_iff.mp (bJ.mp z).2)
 | .abs a,p,h=>by
  have h:(match gu a with|some p=>cond (ah (bH (-1000000) p.1) (bH p.2 1000000)) (some ((0:Int),(1000000:Int))) none|none=>none)=some p:=h
  split at h
  ·rename_i q hq
   refine ai (oa W hq) fun h1 h2=> ?_
   induction z:ah (bH (-1000000) q.1) (bH q.2 1000000) using Bool.casesOn with
   |false=>rw[z] at h;(exfalso;injection h)
   |true=>
    rw[z] at h;(injection h with e1;subst e1)
    refine d1 z fun z1 z2=> ?_
    have z1:=mK.mp z1
    have z2:=mK.mp z2
    show 0≤((a.eval ρ).natAbs:Int)∧((a.eval ρ).natAbs:Int)≤1000000
    lia
  ·(exfalso;injection h)
 | .sub a b,p,h=>by
  have h:(match gu a with|some p=>(match gu b with|some q=>some (jk p.1 q.2,jk p.2 q.1)|none=>none)|none=>none)=some p:=h
  split at h
  ·rename_i q hq
   split at h
   ·rename_i r hr
    (injection h with e1;subst e1)
    refine ai (oa W hq) fun h1 h2=> ?_
    refine ai (oa W hr) fun h3 h4=> ?_
    show q.1-r.2≤a.eval ρ-b.eval ρ∧a.eval ρ-b.eval ρ≤q.2-r.1
    lia
   ·(exfalso;injection h)
  ·(exfalso;injection h)
 | .add a b,p,h=>by
  have h:(match gu a with|some p=>(match gu b with|some q=>some (iQ p.1 q.1,iQ p.2 q.2)|none=>none)|none=>none)=some p:=h
  split at h
  ·rename_i q hq
   split at h
   ·rename_i r hr
    (injection h with e1;subst e1)
    refine ai (oa W hq) fun h1 h2=> ?_
    refine ai (oa W hr) fun h3 h4=> ?_
    show q.1+r.1≤a.eval ρ+b.eval ρ∧a.eval ρ+b.eval ρ≤q.2+r.2
    lia
   ·(exfalso;injection h)
  ·(exfalso;injection h)
 | .mul _ _,p,h=>by(exfalso;injection h)
 | .neg _,p,h=>by(exfalso;injection h)
 | .fdiv _ _,p,h=>by(exfalso;injection h)
 | .fmod _ _,p,h=>by(exfalso;injection h)
 | .pow _ _,p,h=>by(exfalso;injection h)
 | .f1 _ _,p,h=>by(exfalso;injection h)
 | .f2 _ _ _,p,h=>by(exfalso;injection h)
noncomputable def xx(c:CX):Bool:=match c with
 | .eq a b t=>cond t (B2 a b) false
 | .lt a b t=>(match gu a with
  |some p=>(match gu b with|some q=>cond t (bH p.2 q.1) (neg (bH p.1 q.2))|none=>false)
  |none=>false)
 | .mc _ _ _=>false
 | .room _=>true
noncomputable def xD(ρ:Val):Prop:=∀g,(ρ.g g).length<1000000
theorem SU(W:uz ρ)(G:xD ρ){c:CX}(h:xx c=true):c.holds ρ:=by
 induction c with
 |eq a b t=>
  induction t with
  |true=>exact decide_eq_true (RV ρ h)
  |false=>exact nf h
 |mc a b t=>exact nf h
 |room g=>exact G g
 |lt a b t=>
  have h:(match gu a with
   |some p=>(match gu b with|some q=>cond t (bH p.2 q.1) (neg (bH p.1 q.2))|none=>false)
   |none=>false)=true:=h
  split at h
  ·rename_i p hp
   split at h
   ·rename_i q hq
    refine ai (oa W hp) fun h1 h2=> ?_
    refine ai (oa W hq) fun h3 h4=> ?_
    induction t with
    |true=>
     have h:=mK.mp (show bH p.2 q.1=true from h)
     exact decide_eq_true (by lia)
    |false=>
     have h:neg (bH p.1 q.2)=true:=h
     have:¬p.1<q.2:=fun z=>by rw[mK.mpr z] at h;exact nf h
     exact decide_eq_false (by lia)
   ·exact nf h
  ·exact nf h
noncomputable def jF(c:CX)(l:List CX):Bool:=List.rec false (fun d _ ih=>cond (rq c d) true ih) l
theorem vW{c:CX}:∀{l:List CX},jF c l=true→c∈l
 | [],h=>by exact nf h
 |d::l,h=>by
  have h:cond (rq c d) true (jF c l)=true:=h
  induction z:rq c d using Bool.casesOn with
  |true=>rw[I6 z];exact .head _
  |false=>rw[z] at h;exact .tail _ (vW h)
noncomputable def ja(l:Cs):Cs:=List.rec [] (fun c _ ih=>cond (xx c) ih (cond (jF c ih) ih (c::ih))) l
theorem HN{c:CX}:∀{l:Cs},jF c l=true→cY ρ l→c.holds ρ
 | [],h,_=>by exact nf h
 |d::l,h,a=>by
  have h:cond (rq c d) true (jF c l)=true:=h
  induction z:rq c d using Bool.casesOn with
  |true=>rw[I6 z];exact a.1
  |false=>rw[z] at h;exact HN h a.2
theorem wF(W:uz ρ)(G:xD ρ):∀{l:Cs},cY ρ (ja l)→cY ρ l
 | [],_=>trivial
 |c::l,h=>by
  have h:cY ρ (cond (xx c) (ja l) (cond (jF c (ja l)) (ja l) (c::ja l))):=h
  induction z:xx c using Bool.casesOn with
  |true=>rw[z] at h;exact⟨SU W G z,wF W G h⟩
  |false=>
   rw[z] at h
   have h:cY ρ (cond (jF c (ja l)) (ja l) (c::ja l)):=h
   induction y:jF c (ja l) using Bool.casesOn with
   |true=>rw[y] at h;exact⟨HN y h,wF W G h⟩
   |false=>rw[y] at h;exact⟨h.1,wF W G h.2⟩
noncomputable def xy(kp:List Nat)(p:IX×IX):Bool:=match pI p.1 with
 |some a=>(match pI p.2 with|some b=>ah (ah (ag a.1 b.1) (bV a.2 b.2)) (e7 a.1 kp)|none=>false)
 |none=>(match p.1 with
  | .lit m=>(match p.2 with| .lit n=>bV m n|_=>false)
  |_=>false)
noncomputable def qI(c:IX×IX)(l:aR):Bool:=List.rec false (fun d _ ih=>cond (ah (bW c.1 d.1) (bW c.2 d.2)) true ih) l
noncomputable def jb(kp:List Nat)(l:aR):aR:=List.rec [] (fun c _ ih=>cond (xy kp c) ih (cond (qI c ih) ih (c::ih))) l
theorem HO{c:IX×IX}:∀{l:aR},qI c l=true→c∈l
 | [],h=>by exact nf h
 |d::l,h=>by
  have h:cond (ah (bW c.1 d.1) (bW c.2 d.2)) true (qI c l)=true:=h
  induction z:ah (bW c.1 d.1) (bW c.2 d.2) using Bool.casesOn with
  |true=>
   refine d1 z fun h1 h2=> ?_
   rw[show c=d from Prod.ext (cg h1) (cg h2)];exact .head _
  |false=>rw[z] at h;exact .tail _ (HO h)
theorem wG(K:∀v∈kp,ρ'.i v=ρ.i v):∀{l:aR},cy ρ' ρ (jb kp l)→cy ρ' ρ l
 | [],_=>fun _ m=>by exact(aP m).elim
 |c::l,h=>by
  have h:cy ρ' ρ (cond (xy kp c) (jb kp l) (cond (qI c (jb kp l)) (jb kp l) (c::jb kp l))):=h
  induction z:xy kp c using Bool.casesOn with
  |true=>
   rw[z] at h
   have ih:=wG K (l:=l) h
   refine fun p m=>(aE.mp m).elim (fun e=> ?_) (ih p)
   subst e
   unfold xy at z
   split at z
   ·rename_i a ha
    split at z
    ·rename_i b hb
     refine o7 z fun z3 z4 z2=> ?_
     rw[te ρ' ha,te ρ hb,←aZ z3,K _ (qb.mp z2),of_decide_eq_true ((iT _ _).symm.trans z4)]
    ·exact nf z
   ·split at z
    ·rename_i m h1
     split at z
     ·rename_i n h2
      rw[h1,h2,of_decide_eq_true ((iT _ _).symm.trans z)];rfl
     ·exact nf z
    ·exact nf z
  |false=>
   rw[z] at h
   have h:cy ρ' ρ (cond (qI c (jb kp l)) (jb kp l) (c::jb kp l)):=h
   induction y:qI c (jb kp l) using Bool.casesOn with
   |true=>rw[y] at h;exact fun p m=>(aE.mp m).elim (fun e=>by subst e;exact h _ (HO y)) (wG K h p)
   |false=>rw[y] at h;exact fun p m=>(aE.mp m).elim (fun e=>by subst e;exact h _ (.head _)) (wG K (fun p m=>h p (.tail _ m)) p)
end
end
section
noncomputable section
noncomputable def noRef(n:Nat):SV→Bool:=Nat.rec (fun _=>false) (fun _ f V=>ah (neg (aL V 12)) (ah (cond (aL V 5) ((bU V).all f) true) (ah (cond (aL V 6) ((bU V).all f) true) (cond (aL V 7) ((iA V).all fun p=>f p.2) true)))) n
theorem vZ{α β:Type}{f g:α→β}{l:List α}(h:∀a∈l,f a=g a):l.map f=l.map g:=p4 h
theorem ql{α:Type}{x x' y y':α}(f:b=true→x=x')(g:y=y'):cond b x y=cond b x' y':=by
 induction b with
 |true=>exact f rfl
 |false=>exact g
theorem BN{x:Bool}(h:cond b x true=true)(e:b=true):x=true:=by subst e;exact h
theorem Gq(ρ:Val)(π π':List Nat)(hs cR:Hp):∀(n:Nat)(V:SV),noRef n V=true→bG ρ π hs n V=bG ρ π' cR n V
 |0,V,h=>rfl
 |n+1,V,h=>by
  have ih:=Gq ρ π π' hs cR n
  refine jR h fun h1 h2 h3 h4=> ?_
  refine ql (fun _=>rfl) (ql (fun _=>rfl) (ql (fun _=>rfl) (ql (fun e=> ?_) (ql (fun e=> ?_) (ql (fun e=> ?_) ?_)))))
  ·exact congrArg SV.tup (vZ fun a m=>ih a (aM.mp (BN h2 e) a m))
  ·exact congrArg SV.ar (vZ fun a m=>ih a (aM.mp (BN h3 e) a m))
  ·exact congrArg SV.bu (vZ fun a m=>congrArg (fun z=>(a.1,z)) (ih a.2 (aM.mp (BN h4 e) a m)))
  ·rw[xq h1];rfl
noncomputable def gi(ρ:Val)(V:SV):SV:=bG ρ [] [] 12 V
noncomputable def Lj(p q r:Nat×Option Nat×List SV):Bool:=ah (ah (ag p.1 1) (uj p.2.1 1)) (ah (ah (ag q.1 1000) (neg (oy q.2.1))) (ah (ah (ag r.1 0) (uj r.2.1 0)) (j2 r.2.2 (noRef 12))))
noncomputable def yG(g:d7):Option (List SV×List SV):=DL g fun p q r=>cond (Lj p q r) (some (p.2.2,r.2.2)) none
noncomputable def bM(kp:List Nat)(t:Nat)(env:En)(h:Hp)(aD:En)(h':Hp)(g:Bool):Option (Cs×aR×List SV×Nat):=match lY t env h with
 | .ok cs f _ e2 h2=>cond (ag f 7) (match hW (g5 e2 h2 g) e2 h2 aD h' with
  |some r=>(match yG r.2 with|some q=>some (ja cs,jb kp r.1,q.2,len q.1)|none=>none)
  |none=>none) none
 | .bad _=>none
noncomputable def t5:List PySem.Stmt:=match aS rk 2 with|some (.for _ _ b _)=>eg aw b|_=>[]
noncomputable def F0:Nat→SV→En→Hp→Prop:=fun _ _ _ _=>True
theorem eval_congr(h1:ρ'.i=ρ.i)(h2:ρ'.d=ρ.d):∀e:IX,e.eval ρ'=e.eval ρ
 | .lit n=>rfl
 | .var i=>by show ρ'.i i=ρ.i i;rw[h1]
 | .add a b=>by show _+_=_+_;rw[eval_congr h1 h2 a,eval_congr h1 h2 b]
 | .sub a b=>by show _-_=_-_;rw[eval_congr h1 h2 a,eval_congr h1 h2 b]
 | .mul a b=>by show _*_=_*_;rw[eval_congr h1 h2 a,eval_congr h1 h2 b]
 | .neg a=>by show-_= -_;rw[eval_congr h1 h2 a]
 | .abs a=>by show((_:Nat):Int)=_;rw[eval_congr h1 h2 a];rfl
 | .fdiv a b=>by show Aq _ _=Aq _ _;rw[eval_congr h1 h2 a,eval_congr h1 h2 b]
 | .fmod a b=>by show sr _ _=sr _ _;rw[eval_congr h1 h2 a,eval_congr h1 h2 b]
 | .pow a b=>by show _^_=_^_;rw[eval_congr h1 h2 a,eval_congr h1 h2 b]
 | .f1 f a=>by show F1 f _=F1 f _;rw[eval_congr h1 h2 a]
 | .f2 0 a b=>by show ρ'.d _ _=ρ.d _ _;rw[eval_congr h1 h2 a,eval_congr h1 h2 b,h2]
 | .f2 1 a b=>by show(dv _ _).getLastD 0=(dv _ _).getLastD 0;rw[eval_congr h1 h2 a,eval_congr h1 h2 b]
 | .f2 (n+2) a b=>rfl
structure Mv(ρ ρ':Val)(f:Nat→Int)(ln:List SV)(k:Nat):Prop where
 i:ρ'.i=f
 d:ρ'.d=ρ.d
 g0:ρ'.g 0=ρ.g 0++ln.map (gi ρ)
 g1:(ρ'.g 1).length=(ρ.g 1).length+k
 gx:∀n,2≤n→ρ'.g n=ρ.g n
 r:ρ'.r=ρ.r
 c:iw ρ'
theorem kH.toF{m:Nat}{it:Value}{Y:List Addr}{s₀:Shared}(hT:hS aH=false)(d:kH c m sc A e it aH N Y s₀ env h j s X ad):
  kH (c.to c.ρ F') m sc A e it aH N Y s₀ env h j s X ad:=by
 have a:=d.at'
 have I:=a.inv
 have R:=a.fr
 refine⟨⟨a.ao,⟨I.base,I.len,I.fit,I.sep,I.bc,I.live,I.own,I.rest⟩,a.low,⟨R.kind,R.glob,R.blt,R.vars,R.cell,R.bc,R.fT,R.apart,R.locs⟩,⟨a.sc.kind,a.sc.cell⟩⟩,?_,d.own,d.apart,d.mW,d.qN,d.ui,d.keep,d.size,d.ext⟩
 have:=wo (c:=c) (c':=c.to c.ρ F') (X':=X) (ae:=ad) rfl rfl hT (fun _ m=>m) d.uU
 rwa [y7] at this
section
variable{s₁:Shared} {it:Value} {p:Pos} {Y:List Addr} {s₀:Shared} {R:Result→Shared→Prop}
noncomputable abbrev yY(p:Pos):PySem.Expr:= .Name (aw 282) p
noncomputable def Ds(w:World)(s₁:Shared)(A:Around)(e:Env)(it:Value)(p:Pos)(N Y:List Addr)(s₀:Shared)(ρ:Val)(env:En)(h:Hp)(j:Nat)(s:Shared):Prop:=∃X ad,kH (aj w s₁ ρ F0) 64 fU A e it (yY p) N Y s₀ env h j s X ad
noncomputable abbrev GoodG(w:World)(A:Around)(e:Env)(it:Value)(p:Pos)(R:Result→Shared→Prop)(n:Nat)(s:Shared):Prop:=Good (model pw_sm0015_01 w) A (yY p) it t5 e R n s
theorem Hg:ef fU 282=true:=by kernel_rfl
noncomputable def qG:List MS:=match aS rk 2 with|some (.for _ _ b _)=>b|_=>[]
theorem WS:wSs eO qG fU=true:=by kernel_rfl
theorem Hx(B:Base w s₁):gH (aj w s₁ ρ F) 64 fU jQ 300 Cg t5:=by
 have C:ax (aj w s₁ ρ F):=fP B
 have Y:br (aj w s₁ ρ F) 64 jQ:= @sR w s₁ ρ F C 300 4 (by decide) xm (fun m cl y=>GJ B m cl y) 60
 have z:gH (aj w s₁ ρ F) 64 fU jQ 300 (e9 qG) (eg aw qG):=pP C Y (by decide) qG fU WS
 have e1:Cg=e9 qG:=rfl
 have e2:t5=eg aw qG:=rfl
 rw[e1,e2]
 exact @z
theorem V4{g:d7}{la ln:List SV}(h:yG g=some (la,ln)):∃b l,g= [(1,some 1,la),(1000,some b,l),(0,some 0,ln)]∧∀V∈ln,noRef 12 V=true:=by
 refine iI (Jd h) fun p q r af y=> ?_;subst af
 induction z:Lj p q r using Bool.casesOn with
 |false=>rw[z] at y;exact nn y
 |true=>
  rw[z] at y
  injection y with h
  injection h with h1 h2
  refine jR z fun z1 z2 z3 z4=> ?_
  refine av (RX (bJ.mp z2).2) fun b hb=> ?_
  refine⟨b,q.2.2,?_,fun V m=>aM.mp z4 V (by rw[h2];exact m)⟩
  rw[Kd z1,Kd z3,h1,h2,hb,←aZ (bJ.mp z2).1]
theorem P4{α:Type}{x:Option α}{a:α}(h:cond b x none=some a)(H:b=true→x=some a→P):P:=by
 induction b with
 |true=>exact H rfl h
 |false=>exact nn h
inductive MA (kp:List Nat) (t:Nat) (env:En) (h:Hp) (aD:En) (h':Hp) (g:Bool) (cs:Cs) (eqs:aR) (ln:List SV) (k:Nat):Prop
 |mk (rp:Cs) (v2:SV) (e2:En) (h2:Hp) (r:aR×d7) (la:List SV):lY t env h= .ok rp 7 v2 e2 h2→hW (g5 e2 h2 g) e2 h2 aD h'=some r→yG r.2=some (la,ln)→ja rp=cs→jb kp r.1=eqs→len la=k→MA kp t env h aD h' g cs eqs ln k
theorem UL{h':Hp}{g:Bool}{ln:List SV}{k:Nat}(hs:bM kp t env h aD h' g=some (cs,eqs,ln,k)):MA kp t env h aD h' g cs eqs ln k:=by
 unfold bM at hs
 split at hs
 ·rename_i rp fl v2 e2 h2 hR
  refine P4 hs fun z hs=> ?_
  have z:=aZ z
  subst z
  have hs:(match hW (g5 e2 h2 g) e2 h2 aD h' with
   |some r=>(match yG r.2 with|some q=>some (ja rp,jb kp r.1,q.2,len q.1)|none=>none)
   |none=>none)=some (cs,eqs,ln,k):=hs
  split at hs
  ·rename_i r hr
   split at hs
   ·rename_i q hq
    injection hs with e
    injection e with e1 e
    injection e with e2 e
    injection e with e3 e4
    subst e3
    exact⟨rp,v2,_,_,r,q.1,hR,hr,hq,e1,e2,e4⟩
   ·exact nn hs
  ·exact nn hs
 ·exact nn hs
theorem Sh(B:Base w s₁)(W:uz ρ)(G:iw ρ)(Rm:xD ρ){h':Hp}{g:Bool}{ln:List SV}{k:Nat}(hs:bM kp t env h aD h' g=some (cs,eqs,ln,k))(hc:cY ρ cs)
  {f:Nat→Int}(hk:∀v∈kp,f v=ρ.i v)(he:∀p∈eqs,p.1.eval {ρ with i:=f}=p.2.eval ρ)
  (next:∀ρ' s',Mv ρ ρ' f ln k→Ds w s₁ A e it p N Y s₀ ρ' aD h' j s'→GoodG w A e it p R (j+1) s')(d:Ds w s₁ A e it p N Y s₀ ρ env h (t+j) s):GoodG w A e it p R (t+j+1) s:=by
 obtain⟨rp,v2,e2,h2,r,la,hR,hr,hq,z1,z2,z3⟩:=UL hs
 subst z1;subst z2;subst z3
 refine eP (V4 hq) fun gb l hg hnr=> ?_
 let F':Nat→SV→En→Hp→Prop:=fun fl v e hh=>fl=7∧e=e2∧hh=h2
 obtain⟨X,ad,d⟩:=d
 have d:=d.toF (F':=F') rfl
 have C:ax (aj w s₁ ρ F'):=fP B
 have ok:(aj w s₁ ρ F').Ok (lY t env h):=by
  show Ok ρ F' (lY t env h)
  rw[hR]
  exact⟨wF W Rm hc,rfl,rfl,rfl⟩
 let ρ':Val:=⟨f,ρ.d,fun n=>if n=0 then ρ.g 0++ln.map (bG ρ (g5 e2 h2 g) h2 12) else if n=1 then ρ.g 1++la.map (bG ρ (g5 e2 h2 g) h2 12) else ρ.g n,ρ.r⟩
 have ev:∀x:IX,x.eval ρ'=x.eval {ρ with i:=f}:=fun x=>eval_congr (ρ:={ρ with i:=f}) (ρ':=ρ') rfl rfl x
 have hE:cy ρ' ρ r.1:=wG (kp:=kp) hk fun p m=>(ev p.1).trans (he p m)
 have hG:lI ρ' ρ (g5 e2 h2 g) h2 r.2:=by
  rw[hg]
  intro p m
  rcases aE.mp m with rfl|m
  ·rfl
  rcases aE.mp m with rfl|m
  ·show ρ'.r=ρ.r;rfl
  rcases aE.mp m with rfl|m
  ·rfl
  ·exact(aP m).elim
 have eM:∀{l:List SV}{V:SV},V∈l.map (bG ρ (g5 e2 h2 g) h2 12)→fy 13 V=true:=fun m=>by
  obtain⟨U,_,rfl⟩:=bz.mp m;exact AL ρ _ _ 12 U
 have nx:Mv ρ ρ' f ln (len la):=by
  refine⟨rfl,rfl,?_,?_,fun n hn=> ?_,rfl,fun n V m=> ?_,G.2⟩
  ·show ρ.g 0++_=ρ.g 0++_
   rw[vZ (g:=gi ρ) fun V m=>Gq ρ _ _ _ _ 12 V (hnr V m)]
  ·show(ρ.g 1++_).length=_
   rw[cH,aT,len_eq]
  ·show(if n=0 then _ else if n=1 then _ else ρ.g n)=ρ.g n
   rw[if_neg (by lia),if_neg (by lia)]
  ·have m:V∈(if n=0 then ρ.g 0++ln.map (bG ρ (g5 e2 h2 g) h2 12) else if n=1 then ρ.g 1++la.map (bG ρ (g5 e2 h2 g) h2 12) else ρ.g n):=m
   split at m
   ·exact(bj.mp m).elim (G.1 0 V) eM
   ·split at m
    ·exact(bj.mp m).elim (G.1 1 V) eM
    ·exact G.1 n V m
 exact BC C (x:=282) (p:=p) Hg (Hx B) (R:=R) (k:=eJ) (kr:=cL) (j:=j)
  (fun{s i6 h3 X3 gU}d3 q3=>by
   obtain⟨_,rfl,rfl⟩:7=7∧i6=e2∧h3=h2:=q3.2
   refine gA (d3.hW (F':=F0) rfl G hr hE hG) fun X4 yC d4=> ?_
   exact next ρ' s nx ⟨X4,yC,d4⟩)
  (fun{s v V h X ad}q _ _ _ _ _ _=>by
   have q:8=7∧_:=q.2
   exact absurd q.1 (by decide)) d ok
end
end
end
section
noncomputable section
structure Nums(ρ:Val)(n:Nat):Prop where
 w:uz ρ
 c:iw ρ
 l:∀g,(ρ.g g).length≤1000*n
theorem Nums.rm(h:Nums ρ n)(hn:n<999):xD ρ:=fun g=>by have:=h.l g;lia
theorem Nums.mono{m:Nat}(h:Nums ρ n)(hn:n≤m):Nums ρ m:=⟨h.w,h.c,fun g=>by have:=h.l g;lia⟩
structure bR(ρ ρ':Val)(f:Nat→Int)(ln:List SV)(n:Nat):Prop where
 nums:Nums ρ' n
 i:ρ'.i=f
 d:ρ'.d=ρ.d
 g0:ρ'.g 0=ρ.g 0++ln
 r:ρ'.r=ρ.r
theorem bR.trans{Mo:Val}{f f':Nat→Int}{ln rH:List SV}{n':Nat}(a:bR ρ ρ' f ln n)(b:bR ρ' Mo f' rH n'):bR ρ Mo f' (ln++rH) n':=⟨b.nums,b.i,b.d.trans a.d,by rw[b.g0,a.g0,mr],b.r.trans a.r⟩
structure Lp where
 w:World
 s₁:Shared
 A:Around
 e:Env
 it:Value
 p:Pos
 N:List Addr
 Y:List Addr
 s₀:Shared
 R:Result→Shared→Prop
noncomputable def Go(L:Lp)(ρ:Val)(env:En)(h:Hp)(T:Nat):Prop:=∀s,Ds L.w L.s₁ L.A L.e L.it L.p L.N L.Y L.s₀ ρ env h T s→GoodG L.w L.A L.e L.it L.p L.R (T+1) s
noncomputable def aaf{α:Type}(l:List α):Bool:=dW (len l) 1000
theorem mF{L:Lp}(B:Base L.w L.s₁)(M:Nums ρ n)(hn:n<999){h':Hp}{g:Bool}{ln:List SV}{k:Nat}(hs:bM kp t env h aD h' g=some (cs,eqs,ln,k))
  (rt:k≤1000)(nC:ln.length≤1000)(hc:cY ρ cs){f:Nat→Int}(hf:∀i,2≤i→i<10→-32768≤f i∧f i≤32767)(hk:∀v∈kp,f v=ρ.i v)(he:∀p∈eqs,p.1.eval {ρ with i:=f}=p.2.eval ρ)
  (next:∀ρ',bR ρ ρ' f (ln.map (gi ρ)) (n+1)→Go L ρ' aD h' j):Go L ρ env h (t+j):=fun s d=>by
 refine Sh B M.w M.c (M.rm hn) hs hc hk he (fun ρ' s' x d'=>next ρ' ⟨⟨fun i hi hj=>by rw[x.i];exact hf i hi hj,x.c,fun g=> ?_⟩,x.i,x.d,x.g0,x.r⟩ s' d') d
 have:=M.l g
 rcases fq g 2 with z|z
 ·rcases(show g=0∨g=1 by lia) with rfl|rfl
  ·rw[x.g0,cH,aT];lia
  ·rw[x.g1];lia
 ·rw[x.gx g z];lia
theorem TO{L:Lp}(B:Base L.w L.s₁)(M:Nums ρ n)(hn:n<999){h':Hp}{g:Bool}{ln:List SV}{k:Nat}(hs:bM kp 0 env h aD h' g=some (cs,eqs,ln,k))
  (rt:k≤1000)(nC:ln.length≤1000)(hc:cY ρ cs){f:Nat→Int}(hf:∀i,2≤i→i<10→-32768≤f i∧f i≤32767)(hk:∀v∈kp,f v=ρ.i v)(he:∀p∈eqs,p.1.eval {ρ with i:=f}=p.2.eval ρ)
  (next:∀ρ',bR ρ ρ' f (ln.map (gi ρ)) (n+1)→Go L ρ' aD h' j):Go L ρ env h j:=by
 have:=mF B M hn (t:=0) (j:=j) hs rt nC hc hf hk he next
 rwa [cZ] at this
noncomputable def bD:SV:= .tup [.str 57,.sym (.var 1) 4]
noncomputable def cj(k:Nat):SV:= .tup [.str 50,bk k]
noncomputable def g4:Option (List SV):=some [.au,.au,.au,.au]
noncomputable def hO:Hp:=b9 [] [] [] g4
noncomputable def bw:SV:= .sym (.var 1) 4
noncomputable def n6(wd:Nat)(kn:List (Nat×SV))(its:List SV)(V:SV):Prop:=∃l,V= .tup [.str wd,.bu l,.ar its]∧∀x U,(x,U)∈kn→look l x=some U
noncomputable def fV(ρ:Val)(l:List Int):Nat→Int:=fun i=>match i with
 |0=>ρ.i 0
 |1=>ρ.i 1
 |i+2=>(l[i]?).getD 0
theorem AR(ρ:Val)(l:List Int):∀v∈ [0,1],fV ρ l v=ρ.i v:=fun v m=>by
 rcases aE.mp m with rfl|m
 ·rfl
 rcases aE.mp m with rfl|m
 ·rfl
 ·exact(aP m).elim
theorem mM(ρ:Val){l:List Int}(h:∀x∈l,-32768≤x∧x≤32767):∀i,2≤i→i<10→-32768≤fV ρ l i∧fV ρ l i≤32767:=fun i hi _=>by
 obtain⟨i,rfl⟩:∃k,i=k+2:=⟨i-2,by lia⟩
 show-32768≤(l[i]?).getD 0∧(l[i]?).getD 0≤32767
 induction e:l[i]? using Option.casesOn with
 |none=>exact⟨by decide,by decide⟩
 |some x=>exact h x (cf e)
theorem xh(ρ ρ':Val){l l':List Int}(h:ρ'.i=fV ρ l):fV ρ' l'=fV ρ l':=by
 funext i
 match i with
 |0=>show ρ'.i 0=ρ.i 0;rw[h];rfl
 |1=>show ρ'.i 1=ρ.i 1;rw[h];rfl
 |i+2=>rfl
theorem bR.to{ρ1 ρ2:Val}{l l':List Int}{ln rH:List SV}{n' k:Nat}(a:bR ρ ρ1 (fV ρ l) ln n)(b:bR ρ1 ρ2 (fV ρ1 l') rH n')(h:n'≤k):bR ρ ρ2 (fV ρ l') (ln++rH) k:=
 ⟨b.nums.mono h,b.i.trans (xh ρ ρ1 a.i),b.d.trans a.d,by rw[b.g0,a.g0,mr],b.r.trans a.r⟩
theorem bR.iv{l:List Int}{ln:List SV}(a:bR ρ ρ' (fV ρ l) ln n):ρ'.i=fV ρ' l:=a.i.trans (xh ρ ρ' a.i).symm
noncomputable def lQ(x:Int):Prop:= -32768≤x∧x≤32767
theorem lZ{x:Int}(h:0≤x)(h':x≤9999):lQ x:=⟨fG (by decide) h,fG h' (by decide)⟩
theorem oq{L:Lp}(B:Base L.w L.s₁)(M:Nums ρ n)(hn:n<999){h':Hp}{g:Bool}{ln:List SV}{k:Nat}(hs:bM [0,1] t env h aD h' g=some (cs,eqs,ln,k))
  (rt:k≤1000)(nC:ln.length≤1000)(hc:cY ρ cs)(l:List Int)(hl:∀x∈l,lQ x)(he:∀p∈eqs,p.1.eval {ρ with i:=fV ρ l}=p.2.eval ρ)
  (next:∀ρ',bR ρ ρ' (fV ρ l) (ln.map (gi ρ)) (n+1)→Go L ρ' aD h' j):Go L ρ env h (t+j):=
 mF B M hn hs rt nC hc (mM ρ hl) (AR ρ l) he next
theorem jw{L:Lp}(B:Base L.w L.s₁)(M:Nums ρ n)(hn:n<999){h':Hp}{g:Bool}{ln:List SV}{k:Nat}(hs:bM [0,1] t env h aD h' g=some (cs,eqs,ln,k))
  (hk:ah (dW k 1000) (dW ln.length 1000)=true)(hc:cY ρ cs)(l:List Int)(hl:∀x∈l,lQ x)(he:∀p∈eqs,p.1.eval {ρ with i:=fV ρ l}=p.2.eval ρ)
  (next:∀ρ',bR ρ ρ' (fV ρ l) (ln.map (gi ρ)) (n+1)→Go L ρ' aD h' j):Go L ρ env h (t+j):=
 oq B M hn hs (pY (bJ.mp hk).1) (pY (bJ.mp hk).2) hc l hl he next
theorem Lm{L:Lp}(B:Base L.w L.s₁)(M:Nums ρ n)(hn:n<999){h':Hp}{g:Bool}{k:Nat}(hs:bM [0,1] 0 env h aD h' g=some (cs,eqs,[],k))
  (rt:k≤1000)(hc:cY ρ cs)(l:List Int)(hl:∀x∈l,lQ x)(he:∀p∈eqs,p.1.eval {ρ with i:=fV ρ l}=p.2.eval ρ)
  (next:∀ρ',bR ρ ρ' (fV ρ l) [] (n+1)→Go L ρ' aD h' j):Go L ρ env h j:=by
 have:=oq B M hn (j:=j) hs rt (fu _) hc l hl he next
 rwa [cZ] at this
theorem xj{L:Lp}(B:Base L.w L.s₁)(M:Nums ρ n)(hn:n<999){h':Hp}{g:Bool}{ln:List SV}{k:Nat}(hs:bM [0,1] 0 env h aD h' g=some (cs,eqs,ln,k))
  (hk:ah (dW k 1000) (dW ln.length 1000)=true)(hc:cY ρ cs)(l:List Int)(hl:∀x∈l,lQ x)(he:∀p∈eqs,p.1.eval {ρ with i:=fV ρ l}=p.2.eval ρ)
  (next:∀ρ',bR ρ ρ' (fV ρ l) (ln.map (gi ρ)) (n+1)→Go L ρ' aD h' j):Go L ρ env h j:=by
 have:=jw B M hn (j:=j) hs hk hc l hl he next
 rwa [cZ] at this
theorem eY{x K:Int}(h:0≤x)(hK:decide (K≤0)=true):decide (x<K)=false:=decide_eq_false (se.mpr (fG (of_decide_eq_true hK) h))
theorem iW{x K M:Int}(h:x≤M)(hK:decide (M<K)=true):decide (x<K)=true:=decide_eq_true (Ov h (of_decide_eq_true hK))
theorem qx{x K:Int}(h:0≤x)(hK:decide (K<0)=true):decide (K<x)=true:=decide_eq_true (EH (of_decide_eq_true hK) h)
end
end
section
noncomputable section
noncomputable def hE(a b:Int)(fA:List SV):Hp:=b9 (qz 0 8) [(6,.sym (.var 2) a),(7,.sym (.var 3) b)] fA g4
noncomputable def xC:IX:= .sub (.var 2) (.mul (.var 3) (.fdiv (.abs (.var 2)) (.abs (.var 3))))
noncomputable def DG(t:Bool):Cs:=[.eq (.var 3) (.lit 0) false,.eq (.abs (.var 3)) (.lit 0) false,.lt (.var 2) (.lit 0) false,.lt (.var 3) (.lit 0) false,.lt (.fdiv (.abs (.var 2)) (.abs (.var 3))) (.lit 18446744073709551616) true,.lt (.lit (-18446744073709551616)) (.fdiv (.abs (.var 2)) (.abs (.var 3))) true,.lt xC (.lit (-32768)) false,.lt xC (.lit 32768) true,.lt (.lit 0) xC t,.lt xC (.lit 0) false]
noncomputable def ZM:List (Nat×SV):=fX [9,10,11,12,14,15,16,17,18,19,20]
noncomputable def nE(a b c:SV):SV:= .tup [.str 64,.bu ((6,a)::(7,b)::(8,c)::ZM),.ar [.au,.au,.au,.au]]
theorem e1_:bM [0,1] 1 (aB (bk 0)) (hE 7 5 [bD]) (aB (bk 1)) (hE 7 5 [bD,cj 0]) true=some ([.lt (.lit 0) (.var 3) true,.lt (.var 3) (.lit 0) false],[(.var 2,.var 2),(.var 3,.var 3)],[],1):=by kernel_rfl
theorem e2_:bM [0,1] 6 (aB (bk 1)) (hE 7 5 [bD,cj 0]) (aB (bk 1)) (hE 7 5 [bD,cj 0]) true=some (DG true,[(.var 2,.var 3),(.var 3,xC)],[nE (.sym (.var 2) 7) (.sym (.var 3) 5) .au],5):=by kernel_rfl
theorem e3_:bM [0,1] 8 (aB (bk 1)) (hE 6 3 [bD,cj 0]) (aB bw) hO true=some (DG false,[],[nE (.sym (.var 2) 6) (.sym (.var 3) 3) .au,nE (.sym (.var 3) 3) (.sym xC 0) (.sym xC 0)],5):=by kernel_rfl
theorem e4_:bM [0,1] 3 (aB (bk 0)) (hE 6 0 [bD]) (aB bw) hO true=some ([.lt (.lit 0) (.var 3) false,.lt (.var 3) (.lit 0) false],[],[nE (.sym (.var 2) 6) (.sym (.var 3) 0) .au],1):=by kernel_rfl
theorem e5_:bM [0,1] 0 (aB (bk 0)) (hE 7 5 [bD]) (aB (bk 0)) (hE 6 0 [bD]) true=some ([],[(.var 2,.var 2),(.var 3,.var 3)],[],0):=by kernel_rfl
theorem e6_:bM [0,1] 0 (aB (bk 1)) (hE 7 5 [bD,cj 0]) (aB (bk 1)) (hE 6 3 [bD,cj 0]) true=some ([],[(.var 2,.var 2),(.var 3,.var 3)],[],0):=by kernel_rfl
noncomputable def g9:Nat→Int→Int→List (Int×Int)
 |0,a,b=>[(a,b)]
 |n+1,a,b=>if b=0 then [(a,b)] else(a,b)::g9 n b (a%b)
noncomputable def lD:Nat→Int→Int→Nat
 |0,_,_=>0
 |n+1,a,b=>if a%b=0 then 8 else 6+lD n b (a%b)
theorem rest_eq{a b:Int}(ha:0≤a)(hb:0<b):∃q,((a.natAbs:Int)).fdiv ((b.natAbs:Int))=q∧0≤q∧q≤a∧a-b*q=a%b:=by
 refine⟨_,rfl,?_⟩
 have h1:(a.natAbs:Int)=a:=pZ ha
 have h2:(b.natAbs:Int)=b:=pZ (g7 hb)
 rw[h1,h2,Ez _ (g7 hb)]
 refine⟨EN ha (g7 hb),EK _ ha,?_⟩
 have:=Od a b
 lia
theorem IM(ρ:Val):xC.eval ρ=ρ.i 2-ρ.i 3*(((ρ.i 2).natAbs:Int)).fdiv (((ρ.i 3).natAbs:Int)):=rfl
theorem I2{a b:Int}(h2:ρ.i 2=a)(h3:ρ.i 3=b)(ha:0≤a)(fe:a≤60)(hb:0<b)(eu:b≤60){t:Bool}(ht:decide (0<a%b)=t):cY ρ (DG t):=by
 refine Eu (rest_eq ha hb) fun q e q0 q1 e2=> ?_
 have pk:=g7 hb
 have m1:=vq a (rX hb)
 have m2:=fG (g7 (zh a hb)) eu
 have hc:xC.eval ρ=a%b:=by rw[IM,h2,h3,e,e2]
 have ev:(IX.fdiv (.abs (.var 2)) (.abs (.var 3))).eval ρ=q:=by rw[←e,←h2,←h3];rfl
 have q1:=fG q1 fe
 have nz:=rX hb
 have na:((b.natAbs:Int))=b:=pZ pk
 have nb:(IX.abs (.var 3)).eval ρ≠0:=by show((ρ.i 3).natAbs:Int)≠0;rw[h3,na];exact nz
 rw[←hc] at m1 m2 ht
 rw[←ev] at q0 q1
 rw[←h2] at ha
 rw[←h3] at nz pk
 exact⟨decide_eq_false nz,decide_eq_false nb,eY ha rfl,eY pk rfl,iW q1 rfl,qx q0 rfl,eY m1 rfl,iW m2 rfl,ht,eY m1 rfl,trivial⟩
noncomputable def jd(p:Int×Int):List (Nat×SV):=[(6,.lit p.1),(7,.lit p.2)]
inductive dg (wd:Nat) (its:List SV) {α:Type} (kn:α→List (Nat×SV)):List α→List SV→Prop
 |nil:dg wd its kn [] []
 |cons {a:α} {l:List α} {V:SV} {r:List SV}:n6 wd (kn a) its V→dg wd its kn l r→dg wd its kn (a::l) (V::r)
noncomputable def dw:List SV:=[.au,.au,.au,.au]
theorem wu(a b:Int)(c:SV):n6 64 (jd (a,b)) dw (nE (.lit a) (.lit b) c):=⟨_,rfl,fun x U m=>by
 rcases aE.mp m with e|m
 ·(injection e with e1 e2;subst e1;subst e2);rfl
 rcases aE.mp m with e|m
 ·(injection e with e1 e2;subst e1;subst e2);rfl
 ·exact(aP m).elim⟩
theorem aai(ρ:Val)(a b:IX)(m n:Int):gi ρ (nE (.sym a m) (.sym b n) .au)=nE (.lit (a.eval ρ)) (.lit (b.eval ρ)) .au:=rfl
theorem aae(ρ:Val)(a b c:IX)(m n k:Int):gi ρ (nE (.sym a m) (.sym b n) (.sym c k))=nE (.lit (a.eval ρ)) (.lit (b.eval ρ)) (.lit (c.eval ρ)):=rfl
variable{L:Lp}
theorem YA(m:Nat)(a b:Int):g9 (m+1) a b=if b=0 then [(a,b)] else(a,b)::g9 m b (a%b):=rfl
theorem I7:∀{m:Nat}{x y:Int},y=0→g9 m x y= [(x,y)]
 |0,_,_,_=>rfl
 |_+1,_,_,h=>if_pos h
theorem qR{x:Int}(h:0≤x)(h':x≤60):lQ x:=lZ h (fG h' (by decide))
theorem VV(B:Base L.w L.s₁):∀(m:Nat){ρ:Val}{n:Nat}{a b:Int},b≤m→Nums ρ n→n+3*m<900→ρ.i=fV ρ [a,b]→0≤a→a≤60→0<b→b≤60→∀{j:Nat},
  (∀ρ' ln,bR ρ ρ' (fV ρ []) ln (n+3*m)→dg 64 dw jd (g9 (m+1) a b) ln→Go L ρ' (aB bw) hO j)→Go L ρ (aB (bk 1)) (hE 7 5 [bD,cj 0]) (lD (m+1) a b+j):=by
 intro m
 induction m with
 |zero=>intro ρ n a b hm _ _ _ _ _ hb;exact absurd hm (Int.not_le.mpr hb)
 |succ m ih=>
  intro ρ n a b hm M hn hi ha fe hb eu j next
  have h2:ρ.i 2=a:=congrFun hi 2
  have h3:ρ.i 3=b:=congrFun hi 3
  have pk:=g7 hb
  have m1:=vq a (rX hb)
  have m2:=zh a hb
  have xe:∀{ρ1:Val},ρ1.i 2=a→ρ1.i 3=b→xC.eval ρ1=a%b:=fun i2 i3=>Eu (rest_eq ha hb) fun q e _ _ e2=>by rw[IM,i2,i3,e,e2]
  rw[YA,if_neg (rX hb)] at next
  unfold lD
  by_cases z:a%b=0
  ·rw[if_pos z]
   rw[I7 z] at next
   refine xj B M (by lia) e6_ rfl trivial [a,b] (in1 (qR ha fe) (in1 (qR pk eu) bS)) (in1 h2.symm (in1 h3.symm bS)) fun ρ1 a1=> ?_
   have i2:ρ1.i 2=a:=congrFun a1.i 2
   have i3:ρ1.i 3=b:=congrFun a1.i 3
   refine jw B a1.nums (by lia) e3_ rfl (I2 i2 i3 ha fe hb eu (by rw[z];rfl)) [] bS bS fun ρ2 a2=> ?_
   refine next ρ2 _ (a1.to a2 (by lia)) ?_
   show dg 64 dw jd _ [nE (.lit (ρ1.i 2)) (.lit (ρ1.i 3)) .au,nE (.lit (ρ1.i 3)) (.lit (xC.eval ρ1)) (.lit (xC.eval ρ1))]
   rw[i2,i3,xe i2 i3]
   exact .cons (wu _ _ _) (.cons (wu _ _ _) .nil)
  ·have m3:0<a%b:=y9.mpr ⟨m1,Ne.symm z⟩
   have m4:=fG (g7 m2) eu
   rw[if_neg z,gB]
   refine jw B M (by lia) e2_ rfl (I2 h2 h3 ha fe hb eu (decide_eq_true m3)) [b,a%b] (in1 (qR pk eu) (in1 (qR m1 m4) bS)) (in1 h3.symm (in1 (xe h2 h3).symm bS)) fun ρ1 a1=> ?_
   refine ih (Oi (EH m2 hm)) a1.nums (by lia) a1.iv pk eu m3 m4 fun ρ2 ln a2 hN=> ?_
   refine next ρ2 _ (a1.to a2 (by lia)) ?_
   show dg 64 dw jd _ (nE (.lit (ρ.i 2)) (.lit (ρ.i 3)) .au::ln)
   rw[h2,h3]
   exact .cons (wu _ _ _) hN
theorem YB(B:Base L.w L.s₁){a b:Int}(M:Nums ρ n)(hn:n<600)(hi:ρ.i=fV ρ [a,b])(ha:0≤a)(fe:a≤60)(hb:0≤b)(eu:b≤60)
  (next:∀ρ' ln,bR ρ ρ' (fV ρ []) ln (n+200)→dg 64 dw jd (g9 61 a b) ln→Go L ρ' (aB bw) hO j):Go L ρ (aB (bk 0)) (hE 7 5 [bD]) ((if b=0 then 3 else 1+lD 61 a b)+j):=by
 have h2:ρ.i 2=a:=congrFun hi 2
 have h3:ρ.i 3=b:=congrFun hi 3
 have b1:∀x∈ [a,b],lQ x:=in1 (qR ha fe) (in1 (qR hb eu) bS)
 by_cases z:b=0
 ·rw[if_pos z]
  rw[I7 z] at next
  refine xj B M (by lia) e5_ rfl trivial [a,b] b1 (in1 h2.symm (in1 h3.symm bS)) fun ρ1 a1=> ?_
  have i2:ρ1.i 2=a:=congrFun a1.i 2
  have i3:ρ1.i 3=b:=congrFun a1.i 3
  have i0:=i3.trans z
  refine jw B a1.nums (by lia) e4_ rfl ⟨by show decide (0<ρ1.i 3)=_;rw[i0];rfl,by show decide (ρ1.i 3<0)=_;rw[i0];rfl,trivial⟩ [] bS bS fun ρ2 a2=> ?_
  refine next ρ2 _ (a1.to a2 (by lia)) ?_
  show dg 64 dw jd _ [nE (.lit (ρ1.i 2)) (.lit (ρ1.i 3)) .au]
  rw[i2,i3]
  exact .cons (wu _ _ _) .nil
 ·have hp:=y9.mpr ⟨hb,Ne.symm z⟩
  rw[if_neg z,gB]
  refine jw B M (by lia) e1_ rfl ⟨by show decide (0<ρ.i 3)=_;rw[h3];exact decide_eq_true hp,by show decide (ρ.i 3<0)=_;rw[h3];exact eY hb rfl,trivial⟩ [a,b] b1 (in1 h2.symm (in1 h3.symm bS)) fun ρ1 a1=> ?_
  refine VV B 60 eu a1.nums (by lia) a1.iv ha fe hp eu fun ρ2 ln a2 hN=> ?_
  exact next ρ2 _ (a1.to a2 (by lia)) hN
end
end
section
noncomputable section
noncomputable def iC(a b:Int)(fA:List SV):Hp:=b9 (qz 17 24) [(9,.sym (.var 2) a),(10,.sym (.var 3) b)] fA g4
noncomputable def tQ:IX:= .fdiv (.abs (.var 2)) (.lit 10)
noncomputable def tD:IX:= .sub (.var 2) (.mul (.lit 10) tQ)
noncomputable def tR:IX:= .add (.mul (.var 3) (.lit 10)) tD
noncomputable def DI(t:Bool):Cs:=[.lt (.mul (.var 3) (.lit 10)) (.lit (-32768)) false,.lt (.mul (.var 3) (.lit 10)) (.lit 32768) true,.lt tQ (.lit 18446744073709551616) true,.lt (.lit (-18446744073709551616)) tQ true,.lt tD (.lit (-32768)) false,.lt tD (.lit 32768) true,.lt tR (.lit (-32768)) false,.lt tR (.lit 32768) true,.lt (.var 2) (.lit 0) false,.lt tQ (.lit (-32768)) false,.lt tQ (.lit 32768) true,.lt (.lit 0) tQ t,.lt tQ (.lit 0) false]
noncomputable def ZN:List (Nat×SV):=fX [6,7,8,11,12,14,15,16,17,18,19,20]
noncomputable def nT(a b:SV):SV:= .tup [.str 66,.bu ((9,a)::(10,b)::ZN),.ar [.au,.au,.au,.au]]
theorem t1_:bM [0,1] 1 (aB (bk 17)) (iC 57 3 [bD]) (aB (bk 18)) (iC 57 3 [bD,cj 17]) true=some ([.lt (.lit 0) (.var 2) true,.lt (.var 2) (.lit 0) false],[(.var 2,.var 2),(.var 3,.var 3)],[],1):=by kernel_rfl
theorem t2_:bM [0,1] 5 (aB (bk 18)) (iC 57 3 [bD,cj 17]) (aB (bk 18)) (iC 57 3 [bD,cj 17]) true=some (DI true,[(.var 2,tQ),(.var 3,tR)],[nT (.sym (.var 2) 57) (.sym (.var 3) 3)],4):=by kernel_rfl
theorem t3_:bM [0,1] 7 (aB (bk 18)) (iC 7 3 [bD,cj 17]) (aB bw) hO true=some (DI false,[],[nT (.sym (.var 2) 7) (.sym (.var 3) 3),nT (.sym tQ 0) (.sym tR 37)],4):=by kernel_rfl
theorem t4_:bM [0,1] 3 (aB (bk 17)) (iC 0 0 [bD]) (aB bw) hO true=some ([.lt (.lit 0) (.var 2) false,.lt (.var 2) (.lit 0) false],[],[nT (.sym (.var 2) 0) (.sym (.var 3) 0)],1):=by kernel_rfl
theorem t5_:bM [0,1] 0 (aB (bk 17)) (iC 57 3 [bD]) (aB (bk 17)) (iC 0 0 [bD]) true=some ([],[(.var 2,.var 2),(.var 3,.var 3)],[],0):=by kernel_rfl
theorem t6_:bM [0,1] 0 (aB (bk 18)) (iC 57 3 [bD,cj 17]) (aB (bk 18)) (iC 7 3 [bD,cj 17]) true=some ([],[(.var 2,.var 2),(.var 3,.var 3)],[],0):=by kernel_rfl
noncomputable def eI:Nat→Int→Int→List (Int×Int)
 |0,a,b=>[(a,b)]
 |n+1,a,b=>if a=0 then [(a,b)] else(a,b)::eI n (a/10) (b*10+a%10)
noncomputable def j9:Nat→Int→Nat
 |0,_=>0
 |n+1,a=>if a/10=0 then 7 else 5+j9 n (a/10)
theorem wI{a:Int}(h2:ρ.i 2=a)(h:0≤a):tQ.eval ρ=a/10:=by
 show(((ρ.i 2).natAbs:Int)).fdiv 10=_
 rw[h2,pZ h,Ez _ (by decide)]
theorem Iy{a:Int}(h2:ρ.i 2=a)(h:0≤a):tD.eval ρ=a%10:=by
 show ρ.i 2-10*tQ.eval ρ=_
 rw[wI h2 h,h2];exact(Int.emod_def a 10).symm
theorem Ba{a b:Int}(h2:ρ.i 2=a)(h3:ρ.i 3=b)(h:0≤a):tR.eval ρ=b*10+a%10:=by
 show ρ.i 3*10+tD.eval ρ=_
 rw[Iy h2 h,h3]
theorem I3{a b:Int}(h2:ρ.i 2=a)(h3:ρ.i 3=b)(ha:0≤a)(fe:a≤9999)(hb:0≤b)(eu:b≤999){t:Bool}(ht:decide (0<a/10)=t):cY ρ (DI t):=by
 have e1:=wI h2 ha
 have e2:=Iy h2 ha
 have e3:=Ba h2 h3 ha
 have e4:(IX.mul (.var 3) (.lit 10)).eval ρ=b*10:=congrArg (·*10) h3
 have p0:0≤b*10:=OS hb (by decide)
 have p1:0≤a/10:=EN ha (by decide)
 have p2:0≤a%10:=vq a (by decide)
 have q0:b*10≤9990:=Int.mul_le_mul_of_nonneg_right eu (by decide)
 have q1:a/10≤9999:=fG (EK 10 ha) fe
 have q2:a%10≤9:=Oi (zh a (by decide))
 have p3:=OO p0 p2
 have q3:=Int.add_le_add q0 q2
 rw[←e4] at p0 q0
 rw[←e1] at p1 q1 ht
 rw[←e2] at p2 q2
 rw[←e3] at p3 q3
 rw[←h2] at ha
 exact⟨eY p0 rfl,iW q0 rfl,iW q1 rfl,qx p1 rfl,eY p2 rfl,iW q2 rfl,eY p3 rfl,iW q3 rfl,eY ha rfl,eY p1 rfl,iW q1 rfl,ht,eY p1 rfl,trivial⟩
noncomputable def kT(p:Int×Int):List (Nat×SV):=[(9,.lit p.1),(10,.lit p.2)]
theorem wy(a b:Int):n6 66 (kT (a,b)) dw (nT (.lit a) (.lit b)):=⟨_,rfl,fun x U m=>by
 rcases aE.mp m with e|m
 ·(injection e with e1 e2;subst e1;subst e2);rfl
 rcases aE.mp m with e|m
 ·(injection e with e1 e2;subst e1;subst e2);rfl
 ·exact(aP m).elim⟩
noncomputable def x6:Nat→Int→Int→Prop
 |0,a,b=>a≤9∧b≤999
 |1,a,b=>a≤99∧b≤99
 |2,a,b=>a≤999∧b≤9
 |3,a,b=>a≤9999∧b≤0
 |_,_,_=>False
theorem XT{a b:Int}(ha:0≤a):∀{m:Nat},x6 (m+1) a b→a≤9999∧b≤99∧x6 m (a/10) (b*10+a%10)
 |0,h=>ai h fun h1 h2=>⟨by lia,h2,by lia,by lia⟩
 |1,h=>ai h fun h1 h2=>⟨by lia,by lia,by lia,by lia⟩
 |2,h=>ai h fun h1 h2=>⟨h1,by lia,by lia,by lia⟩
 |_+3,h=>h.elim
theorem Mf{a b:Int}:∀{m:Nat},x6 m a b→b≤999
 |0,h=>h.2
 |1,h=>fG h.2 (by decide)
 |2,h=>fG h.2 (by decide)
 |3,h=>fG h.2 (by decide)
 |_+4,h=>h.elim
theorem MV{a:Int}(ha:0<a)(z:a/10=0):a≤9999:=by lia
variable{L:Lp}
theorem Mh(B:Base L.w L.s₁){a b:Int}(M:Nums ρ n)(hn:n+1<999)(hi:ρ.i=fV ρ [a,b])(ha:0<a)(z:a/10=0)(hb:0≤b)(eu:b≤999){k:Nat}(hk:n+2≤k)
  (next:∀ρ' ln,bR ρ ρ' (fV ρ []) ln k→dg 66 dw kT [(a,b),(a/10,b*10+a%10)] ln→Go L ρ' (aB bw) hO j):Go L ρ (aB (bk 18)) (iC 57 3 [bD,cj 17]) (7+j):=by
 have h2:ρ.i 2=a:=congrFun hi 2
 have h3:ρ.i 3=b:=congrFun hi 3
 have h0:=g7 ha
 refine xj B M (Nat.lt_of_succ_lt hn) t6_ rfl trivial [a,b] (in1 (lZ h0 (MV ha z)) (in1 (lZ hb (fG eu (by decide))) bS)) (in1 h2.symm (in1 h3.symm bS)) fun ρ1 a1=> ?_
 have i2:ρ1.i 2=a:=congrFun a1.i 2
 have i3:ρ1.i 3=b:=congrFun a1.i 3
 refine jw B a1.nums hn t3_ rfl (I3 i2 i3 h0 (MV ha z) hb eu (by rw[z];rfl)) [] bS bS fun ρ2 a2=> ?_
 refine next ρ2 _ (a1.to a2 hk) ?_
 show dg 66 dw kT _ [nT (.lit (ρ1.i 2)) (.lit (ρ1.i 3)),nT (.lit (tQ.eval ρ1)) (.lit (tR.eval ρ1))]
 rw[wI i2 h0,Ba i2 i3 h0,i2,i3]
 exact .cons (wy _ _) (.cons (wy _ _) .nil)
theorem C9(m:Nat)(x y:Int):eI (m+1) x y=if x=0 then [(x,y)] else(x,y)::eI m (x/10) (y*10+x%10):=rfl
theorem BE:∀{m:Nat}{x y:Int},x=0→eI m x y= [(x,y)]
 |0,_,_,_=>rfl
 |_+1,_,_,h=>if_pos h
theorem Iz{m:Nat}{a b:Int}(ha:0<a)(z:a/10=0):eI (m+1) a b= [(a,b),(a/10,b*10+a%10)]:=by
 rw[C9,if_neg (rX ha),BE z]
theorem WN(B:Base L.w L.s₁):∀(m:Nat){ρ:Val}{n:Nat}{a b:Int},x6 m a b→Nums ρ n→n+3*m<900→ρ.i=fV ρ [a,b]→0<a→0≤b→∀{j:Nat},
  (∀ρ' ln,bR ρ ρ' (fV ρ []) ln (n+3*m+3)→dg 66 dw kT (eI (m+1) a b) ln→Go L ρ' (aB bw) hO j)→Go L ρ (aB (bk 18)) (iC 57 3 [bD,cj 17]) (j9 (m+1) a+j):=by
 intro m
 induction m with
 |zero=>
  intro ρ n a b hm M hn hi ha hb j next
  have z:a/10=0:=Int.ediv_eq_zero_of_lt (g7 ha) (Ov hm.1 (by decide))
  unfold j9
  rw[if_pos z]
  rw[Iz ha z] at next
  exact Mh B M (by lia) hi ha z hb hm.2 (nU _) next
 |succ m ih=>
  intro ρ n a b hm M hn hi ha hb j next
  unfold j9
  by_cases z:a/10=0
  ·rw[if_pos z]
   rw[Iz ha z] at next
   exact Mh B M (by lia) hi ha z hb (Mf hm) (by lia) next
  ·have h0:=g7 ha
   refine dq (XT h0 hm) fun k1 k2 k3=> ?_
   have h2:ρ.i 2=a:=congrFun hi 2
   have h3:ρ.i 3=b:=congrFun hi 3
   have p1:0≤a/10:=EN h0 (by decide)
   have p2:0<a/10:=y9.mpr ⟨p1,Ne.symm z⟩
   have p3:0≤b*10+a%10:=OO (OS hb (by decide)) (vq a (by decide))
   rw[if_neg z,gB]
   refine jw B M (by lia) t2_ rfl (I3 h2 h3 h0 k1 hb (fG k2 (by decide)) (decide_eq_true p2)) [a/10,b*10+a%10] (in1 (lZ p1 (fG (EK 10 h0) k1)) (in1 (lZ p3 (fG (Mf k3) (by decide))) bS)) (in1 (wI h2 h0).symm (in1 (Ba h2 h3 h0).symm bS)) fun ρ1 a1=> ?_
   refine ih k3 a1.nums (by lia) (a1.i.trans (xh ρ ρ1 a1.i).symm) p2 p3 fun ρ2 ln a2 hN=> ?_
   refine next ρ2 _ (a1.to a2 (by lia)) ?_
   rw[C9,if_neg (rX ha)]
   show dg 66 dw kT _ (nT (.lit (ρ.i 2)) (.lit (ρ.i 3))::ln)
   rw[h2,h3]
   exact .cons (wy _ _) hN
theorem ZI(B:Base L.w L.s₁){a:Int}(M:Nums ρ n)(hn:n<600)(hi:ρ.i=fV ρ [a,0])(ha:0≤a)(fe:a≤9999)
  (next:∀ρ' ln,bR ρ ρ' (fV ρ []) ln (n+200)→dg 66 dw kT (eI 4 a 0) ln→Go L ρ' (aB bw) hO j):Go L ρ (aB (bk 17)) (iC 57 3 [bD]) ((if a=0 then 3 else 1+j9 4 a)+j):=by
 have h2:ρ.i 2=a:=congrFun hi 2
 have h3:ρ.i 3=0:=congrFun hi 3
 have b1:∀x∈ [a,0],lQ x:=in1 (lZ ha fe) (in1 (lZ (by decide) (by decide)) bS)
 by_cases z:a=0
 ·rw[if_pos z]
  rw[BE z] at next
  refine xj B M (by lia) t5_ rfl trivial [a,0] b1 (in1 h2.symm (in1 h3.symm bS)) fun ρ1 a1=> ?_
  have i2:ρ1.i 2=a:=congrFun a1.i 2
  have i3:ρ1.i 3=0:=congrFun a1.i 3
  have i0:=i2.trans z
  refine jw B a1.nums (by lia) t4_ rfl ⟨by show decide (0<ρ1.i 2)=_;rw[i0];rfl,by show decide (ρ1.i 2<0)=_;rw[i0];rfl,trivial⟩ [] bS bS fun ρ2 a2=> ?_
  refine next ρ2 _ (a1.to a2 (by lia)) ?_
  show dg 66 dw kT _ [nT (.lit (ρ1.i 2)) (.lit (ρ1.i 3))]
  rw[i2,i3]
  exact .cons (wy _ _) .nil
 ·have hp:=y9.mpr ⟨ha,Ne.symm z⟩
  rw[if_neg z,gB]
  refine jw B M (by lia) t1_ rfl ⟨by show decide (0<ρ.i 2)=_;rw[h2];exact decide_eq_true hp,by show decide (ρ.i 2<0)=_;rw[h2];exact eY ha rfl,trivial⟩ [a,0] b1 (in1 h2.symm (in1 h3.symm bS)) fun ρ1 a1=> ?_
  refine WN B 3 ⟨fe,zT _⟩ a1.nums (by lia) (a1.i.trans (xh ρ ρ1 a1.i).symm) hp (zT _) fun ρ2 ln a2 hN=> ?_
  exact next ρ2 _ (a1.to a2 (by lia)) hN
end
end
section
noncomputable section
noncomputable def f5(n:Int)(fA:List SV):Hp:=b9 (qz 8 17) [(9,.sym (.var 2) n),(11,.tup [.sym (.var 10) 3,.lit (zN 0)]),(12,.tup [.sym (.var 11) 3,.lit (zN 0)])] fA g4
noncomputable def pQ:IX:= .fdiv (.abs (.var 2)) (.lit 2)
noncomputable def pD:IX:= .sub (.var 2) (.mul (.lit 2) pQ)
noncomputable def pN:IX:= .mul (.var 10) (.var 10)
noncomputable def u6:IX:= .mul (.var 11) (.var 10)
noncomputable def Cf(e:IX):Cs:=[.lt e (.lit 18446744073709551616) true,.lt (.lit (-18446744073709551616)) e true]
noncomputable def xM(odd:Bool):Cs:=[.lt pQ (.lit 18446744073709551616) true,.lt (.lit (-18446744073709551616)) pQ true,.lt pD (.lit (-32768)) false,.lt pD (.lit 32768) true,.lt (.lit 1) pD false,.lt pD (.lit 1) (neg odd)]
noncomputable def xO(cont:Bool):Cs:=app (qy (.var 10)) (app (Cf (.var 10)) (app (qy pN) [.lt (.var 2) (.lit 0) false,.lt pQ (.lit (-32768)) false,.lt pQ (.lit 32768) true,.lt (.lit 0) pQ cont,.lt pQ (.lit 0) false]))
noncomputable def Co:Cs:=app (qy (.var 11)) (app (Cf (.var 11)) (qy u6))
noncomputable def ZL:List (Nat×SV):=fX [6,7,8,10,14,15,16,17,18,19,20]
noncomputable def nP(n a r:SV):SV:= .tup [.str 65,.bu ((9,n)::(11,.tup [a,.lit 0])::(12,.tup [r,.lit 0])::ZL),.ar [.au,.au,.au,.au]]
noncomputable def l7(x y z:IX):aR:=[(.var 2,x),(.var 10,y),(.var 11,z)]
noncomputable def v3:IX:= .var 10
noncomputable def v4:IX:= .var 11
theorem p1_:bM [0,1] 1 (aB (bk 8)) (f5 2 [bD]) (aB (bk 9)) (f5 2 [bD,cj 8]) true=some ([.lt (.lit 0) (.var 2) true,.lt (.var 2) (.lit 0) false],l7 (.var 2) v3 v4,[],1):=by kernel_rfl
theorem p2_:bM [0,1] 6 (aB (bk 9)) (f5 2 [bD,cj 8]) (aB (bk 9)) (f5 2 [bD,cj 8]) true=some (app (xM false) (xO true),l7 pQ pN v4,[nP (.sym (.var 2) 2) (.sym v3 3) (.sym v4 3)],5):=by kernel_rfl
theorem p3_:bM [0,1] 7 (aB (bk 9)) (f5 3 [bD,cj 8]) (aB (bk 9)) (f5 2 [bD,cj 8]) true=some (app (xM true) (app Co (xO true)),l7 pQ pN u6,[nP (.sym (.var 2) 3) (.sym v3 3) (.sym v4 3)],7):=by kernel_rfl
theorem p4_:bM [0,1] 9 (aB (bk 9)) (f5 1 [bD,cj 8]) (aB bw) hO true=some (app (xM true) (app Co (xO false)),[],[nP (.sym (.var 2) 1) (.sym v3 3) (.sym v4 3),nP (.sym pQ 0) (.sym pN 9) (.sym u6 9)],7):=by kernel_rfl
theorem p5_:bM [0,1] 3 (aB (bk 8)) (f5 0 [bD]) (aB bw) hO true=some ([.lt (.lit 0) (.var 2) false,.lt (.var 2) (.lit 0) false],[],[nP (.sym (.var 2) 0) (.sym v3 3) (.sym v4 3)],1):=by kernel_rfl
theorem p6_:bM [0,1] 0 (aB (bk 8)) (f5 2 [bD]) (aB (bk 8)) (f5 0 [bD]) true=some ([],l7 (.var 2) v3 v4,[],0):=by kernel_rfl
theorem p7_:bM [0,1] 0 (aB (bk 9)) (f5 2 [bD,cj 8]) (aB (bk 9)) (f5 3 [bD,cj 8]) true=some ([],l7 (.var 2) v3 v4,[],0):=by kernel_rfl
theorem p8_:bM [0,1] 0 (aB (bk 9)) (f5 2 [bD,cj 8]) (aB (bk 9)) (f5 1 [bD,cj 8]) true=some ([],l7 (.var 2) v3 v4,[],0):=by kernel_rfl
noncomputable def je(a:Nat):Bool:=decide (a<1000000000)&&(decide (a=0)||decide (a%10≠0))
noncomputable def u5:Nat→Nat→Nat→Nat→Bool
 |0,_,_,_=>false
 |m+1,n,a,r=>if n=0 then true else je a&&je r&&je (a*a)&&je (r*a)&&u5 m (n/2) (a*a) (if n%2=1 then r*a else r)
noncomputable def fK:Nat→Nat→Nat→Nat→List (Nat×Nat×Nat)
 |0,n,a,r=>[(n,a,r)]
 |m+1,n,a,r=>if n=0 then [(n,a,r)] else(n,a,r)::fK m (n/2) (a*a) (if n%2=1 then r*a else r)
noncomputable def lF:Nat→Nat→Nat
 |0,_=>0
 |m+1,n=>if n/2=0 then 9 else 6+n%2+lF m (n/2)
theorem UA:∀b<10,∀n<8,u5 4 n b 1=true:=by decide+kernel
theorem iO:∀{l m:Cs},cY ρ l→cY ρ m→cY ρ (app l m)
 | [],_,_,h=>h
 |_::_,_,h1,h2=>⟨h1.1,iO h1.2 h2⟩
theorem sJ{e:IX}{a:Nat}(h:e.eval ρ=(a:Int))(k:je a=true):cY ρ (qy e):=by
 refine a1 k fun k1 k2=> ?_
 have k1:=of_decide_eq_true k1
 have k2:a=0∨a%10≠0:=(zI _ _▸k2:_∨_).imp of_decide_eq_true of_decide_eq_true
 have p0:0≤e.eval ρ:=by rw[h];exact iK a
 refine⟨qx p0 rfl,decide_eq_true (by rw[h];exact jX.mpr k1),decide_eq_true ?_,trivial⟩
 show e.eval ρ<(e.eval ρ).fmod 10*1000000000+1
 rw[rQ _ (by decide),h]
 have q:a<a%10*1000000000+1:=by lia
 exact jX.mpr q
theorem Hw{e:IX}{a:Nat}(h:e.eval ρ=(a:Int))(k:je a=true):cY ρ (Cf e):=by
 have p0:0≤e.eval ρ:=by rw[h];exact iK a
 have p1:e.eval ρ≤1000000000:=by rw[h];exact rY.mpr (dU (of_decide_eq_true (aQ k).1))
 exact⟨iW p1 rfl,qx p0 rfl,trivial⟩
theorem qi(h:ρ.i 2=(n:Int)):pQ.eval ρ=((n/2:Nat):Int):=by
 show(((ρ.i 2).natAbs:Int)).fdiv 2=_
 rw[h,pZ (by lia),Ez _ (by decide)];lia
theorem Uz(h:ρ.i 2=(n:Int)):pD.eval ρ=((n%2:Nat):Int):=by
 show ρ.i 2-2*pQ.eval ρ=_
 rw[qi h,h];lia
theorem AN(h:ρ.i 2=(n:Int))(hn:n<8){t:Bool}(ht:decide (n%2<1)=neg t):cY ρ (xM t):=by
 have e1:=qi h
 have e2:=Uz h
 have p1:0≤pQ.eval ρ:=by rw[e1];exact iK _
 have q1:pQ.eval ρ≤8:=by rw[e1];exact rY.mpr (cx (EM n 2) (dU hn))
 have p2:0≤pD.eval ρ:=by rw[e2];exact iK _
 have q2:pD.eval ρ≤1:=by rw[e2];exact rY.mpr (zA (Fh n (by decide)))
 refine⟨iW q1 rfl,qx p1 rfl,eY p2 rfl,iW q2 rfl,decide_eq_false (se.mpr q2),?_,trivial⟩
 rw[←ht];show decide (pD.eval ρ<1)=_;rw[e2]
 exact decide_eq_decide.mpr jX
theorem AO{a:Nat}(h:ρ.i 2=(n:Int))(h3:ρ.i 10=(a:Int))(hn:n<8)(k1:je a=true)(k2:je (a*a)=true){t:Bool}(ht:decide (0<n/2)=t):cY ρ (xO t):=by
 have e1:=qi h
 have e3:pN.eval ρ=((a*a:Nat):Int):=by show ρ.i 10*ρ.i 10=_;rw[h3];exact(ER a a).symm
 have p0:0≤ρ.i 2:=by rw[h];exact iK _
 have p1:0≤pQ.eval ρ:=by rw[e1];exact iK _
 have q1:pQ.eval ρ≤8:=by rw[e1];exact rY.mpr (cx (EM n 2) (dU hn))
 refine iO (sJ (a:=a) h3 k1) (iO (Hw (a:=a) h3 k1) (iO (sJ e3 k2) ⟨eY p0 rfl,eY p1 rfl,iW q1 rfl,?_,eY p1 rfl,trivial⟩))
 rw[←ht];show decide (0<pQ.eval ρ)=_;rw[e1]
 exact decide_eq_decide.mpr jX
theorem Ax{a:Nat}(h3:ρ.i 10=(a:Int))(h4:ρ.i 11=(r:Int)):u6.eval ρ=((r*a:Nat):Int):=by
 show ρ.i 11*ρ.i 10=_;rw[h3,h4];exact(ER r a).symm
theorem Aw{a:Nat}(h3:ρ.i 10=(a:Int)):pN.eval ρ=((a*a:Nat):Int):=by
 show ρ.i 10*ρ.i 10=_;rw[h3];exact(ER a a).symm
theorem HF{a:Nat}(h3:ρ.i 10=(a:Int))(h4:ρ.i 11=(r:Int))(k1:je r=true)(k2:je (r*a)=true):cY ρ Co:=
 iO (sJ (a:=r) h4 k1) (iO (Hw (a:=r) h4 k1) (sJ (Ax h3 h4) k2))
noncomputable def kP(p:Nat×Nat×Nat):List (Nat×SV):=[(9,.lit (zN p.1)),(11,.tup [.lit (zN p.2.1),.lit 0]),(12,.tup [.lit (zN p.2.2),.lit 0])]
theorem sL(n a r:Nat):n6 65 (kP (n,a,r)) dw (nP (.lit (zN n)) (.lit (zN a)) (.lit (zN r))):=⟨_,rfl,fun x U m=>by
 rcases aE.mp m with e|m
 ·(injection e with e1 e2;subst e1;subst e2);rfl
 rcases aE.mp m with e|m
 ·(injection e with e1 e2;subst e1;subst e2);rfl
 rcases aE.mp m with e|m
 ·(injection e with e1 e2;subst e1;subst e2);rfl
 ·exact(aP m).elim⟩
theorem aaj(ρ:Val)(n a r:IX)(i j k:Int):gi ρ (nP (.sym n i) (.sym a j) (.sym r k))=nP (.lit (n.eval ρ)) (.lit (a.eval ρ)) (.lit (r.eval ρ)):=rfl
noncomputable def lP(n a r:Nat):List Int:=[zN n,0,0,0,0,0,0,0,zN a,zN r]
theorem B0{a:Nat}(hn:n<8)(ρ:Val):∀i,2≤i→i<10→-32768≤fV ρ (lP n a r) i∧fV ρ (lP n a r) i≤32767:=fun i h1 h2=>by
 match i,h1,h2 with
 |2,_,_=>exact lZ (iK n) (fG (rY.mpr (dU hn)) (by decide))
 |3,_,_|4,_,_|5,_,_|6,_,_|7,_,_|8,_,_|9,_,_=>exact lZ (x:=0) (by decide) (by decide)
 |_+10,_,h=>exact absurd h (by lia)
theorem VY{x y z:IX}{a:Nat}(h1:x.eval ρ=(n:Int))(h2:y.eval ρ=(a:Int))(h3:z.eval ρ=(r:Int)):∀p∈l7 x y z,p.1.eval {ρ with i:=fV ρ (lP n a r)}=p.2.eval ρ:=
 in1 h1.symm (in1 h2.symm (in1 h3.symm bS))
variable{L:Lp}
theorem xk(B:Base L.w L.s₁){m:Nat}(M:Nums ρ m)(hm:m<999){h':Hp}{g:Bool}{x y z:IX}{ln:List SV}{k:Nat}(hs:bM [0,1] t env h aD h' g=some (cs,l7 x y z,ln,k))
  (hk:ah (dW k 1000) (dW ln.length 1000)=true)(hc:cY ρ cs){a:Nat}(hn:n<8)(h1:x.eval ρ=(n:Int))(h2:y.eval ρ=(a:Int))(h3:z.eval ρ=(r:Int))
  (next:∀ρ',bR ρ ρ' (fV ρ (lP n a r)) (ln.map (gi ρ)) (m+1)→Go L ρ' aD h' j):Go L ρ env h (t+j):=
 mF B M hm hs (pY (bJ.mp hk).1) (pY (bJ.mp hk).2) hc (B0 hn ρ) (AR ρ _) (VY h1 h2 h3) next
theorem BU(B:Base L.w L.s₁){m:Nat}(M:Nums ρ m)(hm:m<999){h':Hp}{g:Bool}{x y z:IX}{k:Nat}(hs:bM [0,1] 0 env h aD h' g=some ([],l7 x y z,[],k))
  (hk:dW k 1000=true){a:Nat}(hn:n<8)(h1:x.eval ρ=(n:Int))(h2:y.eval ρ=(a:Int))(h3:z.eval ρ=(r:Int))
  (next:∀ρ',bR ρ ρ' (fV ρ (lP n a r)) [] (m+1)→Go L ρ' aD h' j):Go L ρ env h j:=by
 have:=xk B M hm (j:=j) hs (bJ.mpr ⟨hk,rfl⟩) trivial hn h1 h2 h3 next
 rwa [cZ] at this
theorem tJ{a:Nat}(hi:ρ.i=fV ρ (lP n a r)):ρ.i 2=(n:Int)∧ρ.i 10=(a:Int)∧ρ.i 11=(r:Int):=⟨congrFun hi 2,congrFun hi 10,congrFun hi 11⟩
theorem Zl(m n a r:Nat):fK (m+1) n a r=if n=0 then [(n,a,r)] else(n,a,r)::fK m (n/2) (a*a) (if n%2=1 then r*a else r):=rfl
theorem vV(z:¬n/2=0):0<n/2:=Ow z
theorem half_lt(h:n<8):n/2<8:=p5 (EM n 2) h
theorem Ww(B:Base L.w L.s₁):∀(m:Nat){ρ:Val}{k n a r:Nat},u5 (m+1) n a r=true→Nums ρ k→k+3*m<900→ρ.i=fV ρ (lP n a r)→0<n→n<8→∀{j:Nat},
  (∀ρ' ln,bR ρ ρ' (fV ρ []) ln (k+3*m)→dg 65 dw kP (fK (m+1) n a r) ln→Go L ρ' (aB bw) hO j)→Go L ρ (aB (bk 9)) (f5 2 [bD,cj 8]) (lF (m+1) n+j):=by
 intro m
 induction m with
 |zero=>
  intro ρ k n a r ok _ _ _ hn
  unfold u5 at ok
  rw[if_neg (vz hn)] at ok
  exact nf (aQ ok).2
 |succ m ih=>
  intro ρ k n a r ok M hk hi hn dT j next
  refine dq (tJ hi) fun h2 h3 h4=> ?_
  unfold u5 at ok
  rw[if_neg (vz hn)] at ok
  refine Dv ok fun Ec u3 Ed NP yP=> ?_
  unfold lF
  rw[Zl,if_neg (vz hn)] at next
  by_cases z:n/2=0
  ·rw[if_pos z]
   have n1:n=1:=by lia
   subst n1
   refine BU B M (by lia) p8_ rfl dT h2 h3 h4 fun ρ1 a1=> ?_
   refine dq (tJ a1.iv) fun i2 i3 i4=> ?_
   refine jw B a1.nums (by lia) p4_ rfl (iO (AN i2 dT rfl) (iO (HF i3 i4 u3 NP) (AO i2 i3 dT Ec Ed rfl))) [] bS bS fun ρ2 a2=> ?_
   refine next ρ2 _ (a1.to a2 (by lia)) ?_
   show dg 65 dw kP [(1,a,r),(0,a*a,r*a)] [nP (.lit (ρ1.i 2)) (.lit (ρ1.i 10)) (.lit (ρ1.i 11)),nP (.lit (pQ.eval ρ1)) (.lit (pN.eval ρ1)) (.lit (u6.eval ρ1))]
   rw[i2,i3,i4,qi i2,Aw i3,Ax i3 i4]
   exact .cons (sL _ _ _) (.cons (sL _ _ _) .nil)
  ·rw[if_neg z,gB]
   by_cases o:n%2=1
   ·rw[if_pos o] at yP next
    rw[o]
    refine BU B M (by lia) p7_ rfl dT h2 h3 h4 fun ρ1 a1=> ?_
    refine dq (tJ a1.iv) fun i2 i3 i4=> ?_
    refine xk B a1.nums (by lia) p3_ rfl (iO (AN i2 dT (by rw[o];rfl)) (iO (HF i3 i4 u3 NP) (AO i2 i3 dT Ec Ed (decide_eq_true (vV z))))) (half_lt dT) (qi i2) (Aw i3) (Ax i3 i4) fun ρ2 a2=> ?_
    have a3:=a1.to a2 (bb _)
    refine ih yP a3.nums (by lia) a3.iv (vV z) (half_lt dT) fun ρ3 ln a4 hN=> ?_
    refine next ρ3 _ (a3.to a4 (by lia)) ?_
    show dg 65 dw kP _ (nP (.lit (ρ1.i 2)) (.lit (ρ1.i 10)) (.lit (ρ1.i 11))::ln)
    rw[i2,i3,i4]
    exact .cons (sL _ _ _) hN
   ·rw[if_neg o] at yP next
    have e0:n%2=0:=by lia
    rw[e0]
    refine xk B M (by lia) p2_ rfl (iO (AN h2 dT (by rw[e0];rfl)) (AO h2 h3 dT Ec Ed (decide_eq_true (vV z)))) (half_lt dT) (qi h2) (Aw h3) h4 fun ρ1 a1=> ?_
    refine ih yP a1.nums (by lia) a1.iv (vV z) (half_lt dT) fun ρ3 ln a4 hN=> ?_
    refine next ρ3 _ (a1.to a4 (by lia)) ?_
    show dg 65 dw kP _ (nP (.lit (ρ.i 2)) (.lit (ρ.i 10)) (.lit (ρ.i 11))::ln)
    rw[h2,h3,h4]
    exact .cons (sL _ _ _) hN
theorem Zm(B:Base L.w L.s₁){k b:Nat}(M:Nums ρ k)(hk:k<600)(hi:ρ.i=fV ρ (lP n b 1))(hb:b<10)(hn:n<8)
  (next:∀ρ' ln,bR ρ ρ' (fV ρ []) ln (k+200)→dg 65 dw kP (fK 4 n b 1) ln→Go L ρ' (aB bw) hO j):Go L ρ (aB (bk 8)) (f5 2 [bD]) ((if n=0 then 3 else 1+lF 4 n)+j):=by
 refine dq (tJ hi) fun h2 h3 h4=> ?_
 by_cases z:n=0
 ·rw[if_pos z]
  subst z
  refine BU B M (by lia) p6_ rfl hn h2 h3 h4 fun ρ1 a1=> ?_
  refine dq (tJ a1.iv) fun i2 i3 i4=> ?_
  refine jw B a1.nums (by lia) p5_ rfl ⟨by show decide (0<ρ1.i 2)=_;rw[i2];rfl,by show decide (ρ1.i 2<0)=_;rw[i2];rfl,trivial⟩ [] bS bS fun ρ2 a2=> ?_
  refine next ρ2 _ (a1.to a2 (by lia)) ?_
  show dg 65 dw kP [(0,b,1)] [nP (.lit (ρ1.i 2)) (.lit (ρ1.i 10)) (.lit (ρ1.i 11))]
  rw[i2,i3,i4]
  exact .cons (sL _ _ _) .nil
 ·have hp:=Ow z
  rw[if_neg z,gB]
  refine xk B M (by lia) p1_ rfl ⟨by show decide (0<ρ.i 2)=_;rw[h2];exact decide_eq_true (jX.mpr hp),by show decide (ρ.i 2<0)=_;rw[h2];exact eY (iK n) rfl,trivial⟩ hn h2 h3 h4 fun ρ1 a1=> ?_
  refine Ww B 3 (UA b hb n hn) a1.nums (by lia) a1.iv hp hn fun ρ2 ln a2 hN=> ?_
  exact next ρ2 _ (a1.to a2 (by lia)) hN
end
end
section
noncomputable section
noncomputable def jI(l:List SV):List SV:=app l (oQ [.au] (4-len l))
noncomputable def kZ(n:Nat)(f:Nat→Nat)(sm:Nat→Nat):List SV:=(aI n).map fun i=> .sym (.var (3+f i)) (zN (sm i))
noncomputable def yH:SV:= .tup [.str 57,bk 31]
noncomputable def Li(x k lim:Nat):SV:= .tup [.str 55,.str x,bk k,.lit (zN lim),.lit (zN 1)]
noncomputable def hZ(names:List (Nat×SV))(fA:List SV)(n key:Nat)(sm:Nat→Nat):Hp:=b9 (qz 24 44) ((20,.sym (.var 2) (zN key))::names) (bD::fA) (some (jI (kZ n id sm)))
noncomputable def bo(n:Nat):List (Nat×Nat):=match n with
 |2=>[(1,0)]
 |3=>[(1,0),(1,1),(2,0)]
 |4=>[(1,0),(1,1),(1,2),(2,0),(2,1),(3,0)]
 |_=>[]
noncomputable def pK(n:Nat):Nat×SV:=(16,.lit (zN n))
noncomputable def jD(n k:Nat):En:=aB (match aS (bo n) k with|some _=>bk 26|none=>bk 32)
noncomputable def jT(n k key:Nat)(sm:Nat→Nat):Hp:=match aS (bo n) k with
 |some p=>hZ [pK n,(14,.lit (zN p.1)),(15,.lit (zN p.2))] [Li 14 25 (n-1),Li 15 26 (n-1-p.1)] n key sm
 |none=>hZ [pK n] [yH] n key sm
noncomputable def s0:Nat→Nat:=fun _=>0
noncomputable def sZ(j c:Nat):Nat→Nat:=fun i=>match c with
 |0=>cond (ag i (j+1)) 1 0
 |1=>0
 |_=>cond (ag i j) 1 0
noncomputable def pm(j:Nat):Nat→Nat:=fun i=>cond (ag i j) (j+1) (cond (ag i (j+1)) j i)
noncomputable def B1(n k:Nat):Bool:=match aS (bo n) k with
 |some p=>(match aS (bo n) (k+1) with|some q=>neg (ag p.1 q.1)|none=>true)
 |none=>false
noncomputable def kG(r:Option (Cs×aR×List SV×Nat)):Option (Cs×aR×List SV×Bool):=match r with
 |some (cs,eqs,ln,k)=>some (cs,eqs,ln,dW k 1000)
 |none=>none
noncomputable def tZ(n k c:Nat):Nat:=cond (ag c 2) 4 2+cond (B1 n k) 1 0
noncomputable def ZC(n k j c:Nat):Option (Cs×aR×List SV×Nat):=bM [0,1] (tZ n k c) (jD n k) (jT n k 0 (sZ j c)) (jD n (k+1)) (jT n (k+1) 0 s0) true
noncomputable def ZA(n k j c:Nat):Option (Cs×aR×List SV×Nat):=bM [0,1] 0 (jD n k) (jT n k 0 s0) (jD n k) (jT n k 0 (sZ j c)) true
noncomputable def Zx(n:Nat):Option (Cs×aR×List SV×Nat):=bM [0,1] 2 (aB (bk 24)) (hZ [pK n] [] n 0 s0) (jD n 0) (jT n 0 0 s0) true
noncomputable def sk(n:Nat):List (Nat×Nat):=match n with
 |1=>[(0,1)]
 |2=>[(0,2),(0,1)]
 |3=>[(0,3),(2,3),(0,1)]
 |4=>[(0,4),(3,4),(0,2),(0,1)]
 |_=>[]
noncomputable def hK(n lo hi key:Nat)(sm:Nat→Nat):Hp:=hZ [(17,.lit (zN lo)),(18,.lit (zN hi))] [yH,cj 34] n key sm
noncomputable def sK(m c:Nat):Nat→Nat:=fun i=>cond (ag i m) c 1
noncomputable def dp(lo hi c:Nat):Nat:=cond (ag c 0) ((lo+hi)/2+1) lo
noncomputable def dn(lo hi c:Nat):Nat:=cond (ag c 0) hi ((lo+hi)/2)
noncomputable def tK(lo hi c:Nat):Nat:=cond (ag c 0) 7 6+cond (bq (dp lo hi c) (dn lo hi c)) 0 3
noncomputable def C3(n lo hi c:Nat):Option (Cs×aR×List SV×Nat):=cond (bq (dp lo hi c) (dn lo hi c))
 (bM [0,1] (tK lo hi c) (aB (bk 35)) (hK n lo hi 1 (sK ((lo+hi)/2) c)) (aB (bk 35)) (hK n (dp lo hi c) (dn lo hi c) 0 s0) true)
 (bM [0,1] (tK lo hi c) (aB (bk 35)) (hK n lo hi 1 (sK ((lo+hi)/2) c)) (aB bw) hO true)
noncomputable def Zz(n lo hi c:Nat):Option (Cs×aR×List SV×Nat):=bM [0,1] 0 (aB (bk 35)) (hK n lo hi 0 s0) (aB (bk 35)) (hK n lo hi 1 (sK ((lo+hi)/2) c)) true
noncomputable def Zy(n:Nat):Option (Cs×aR×List SV×Nat):=bM [0,1] 3 (aB (bk 32)) (hZ [pK n] [yH] n 0 s0) (aB (bk 35)) (hK n 0 n 0 s0) true
noncomputable def oK(n:Nat)(g:Nat→Nat):aR:=(.var 2,.var 2)::(aI n).map fun i=>(.var (3+i),.var (3+g i))
noncomputable def Ea(n i j:Nat)(its:List SV):SV:= .tup [.str 61,.bu ((20,.sym (.var 2) 0)::(16,.lit (zN n))::(14,.lit (zN i))::(15,.lit (zN j))::fX [6,7,8,9,10,11,12,17,18,19]),.ar (jI its)]
noncomputable def yO(lo hi:Nat)(m:SV)(its:List SV):SV:= .tup [.str 67,.bu ((20,.sym (.var 2) 1)::(17,.lit (zN lo))::(18,.lit (zN hi))::app (fX [6,7,8,9,10,11,12,14,15,16]) [(19,m)]),.ar (jI its)]
noncomputable def Zr(n i j c:Nat):Option (Cs×aR×List SV×Bool):=some ([.lt (.var (4+j)) (.var (3+j)) (ag c 2),.lt (.var (3+j)) (.var (4+j)) (ag c 0)],oK n (cond (ag c 2) (pm j) id),cond (ag c 2) [Ea n i j (kZ n (pm j) fun i=>cond (ag i (j+1)) 1 0)] [],true)
noncomputable def kD(n k i j:Nat):List (Nat×Nat×Nat×Nat×Nat):=[(n,k,i,j,0),(n,k,i,j,1),(n,k,i,j,2)]
noncomputable def oT:List (Nat×Nat×Nat×Nat×Nat):=kD 2 0 1 0++(kD 3 0 1 0++(kD 3 1 1 1++(kD 3 2 2 0++(kD 4 0 1 0++(kD 4 1 1 1++(kD 4 2 1 2++(kD 4 3 2 0++(kD 4 4 2 1++kD 4 5 3 0))))))))
theorem z_:(oT.map fun(n,k,i,j,c)=>kG (ZC n k j c))=oT.map fun(n,k,i,j,c)=>Zr n i j c:=by kernel_rfl
theorem y_:(oT.map fun(n,k,i,j,c)=>kG (ZA n k j c))=oT.map fun(n,k,i,j,c)=>some ([],oK n id,[],true):=by kernel_rfl
theorem i_:([1,2,3,4].map fun n=>kG (Zx n))= [1,2,3,4].map fun n=>some ([],oK n id,[],true):=by kernel_rfl
theorem j_:([1,2,3,4].map fun n=>kG (Zy n))= [1,2,3,4].map fun n=>some ([],oK n id,[],true):=by kernel_rfl
noncomputable def CR(n lo hi c:Nat):Option (Cs×aR×List SV×Bool):=(fun(m:Nat)=>(fun(its:List SV)=>
 cond (bq (dp lo hi c) (dn lo hi c)) (some ([.lt (.var 2) (.var (3+m)) (ag c 2),.lt (.var (3+m)) (.var 2) (ag c 0)],oK n id,[yO lo hi .au its],true))
  (some ([.lt (.var 2) (.var (3+m)) (ag c 2),.lt (.var (3+m)) (.var 2) (ag c 0)],[],[yO lo hi .au its,yO (dp lo hi c) (dn lo hi c) (.lit (zN m)) its],true))) (kZ n id (sK m c))) ((lo+hi)/2)
noncomputable def kC(n lo hi:Nat):List (Nat×Nat×Nat×Nat):=[(n,lo,hi,0),(n,lo,hi,1),(n,lo,hi,2)]
noncomputable def oS:List (Nat×Nat×Nat×Nat):=kC 1 0 1++(kC 2 0 2++(kC 2 0 1++(kC 3 0 3++(kC 3 2 3++(kC 3 0 1++(kC 4 0 4++(kC 4 3 4++(kC 4 0 2++kC 4 0 1))))))))
theorem k_:(oS.map fun(n,lo,hi,c)=>kG (C3 n lo hi c))=oS.map fun(n,lo,hi,c)=>CR n lo hi c:=by kernel_rfl
theorem l_:(oS.map fun(n,lo,hi,c)=>kG (Zz n lo hi c))=oS.map fun(n,lo,hi,c)=>some ([],oK n id,[],true):=by kernel_rfl
end
end
section
noncomputable section
noncomputable def aA(x:List Int)(i:Nat):Int:=(x[i]?).getD 0
noncomputable def gy(x:List Int)(j:Nat):List Int:=(aI x.length).map fun i=>aA x (pm j i)
inductive ed {α:Type} (P:α→SV→Prop):List α→List SV→Prop
 |nil:ed P [] []
 |cons {a:α} {l:List α} {V:SV} {r:List SV}:P a V→ed P l r→ed P (a::l) (V::r)
theorem ed.app{α:Type}{P:α→SV→Prop}{l m:List α}{r q:List SV}(n:ed P l r)(h:ed P m q):ed P (l++m) (r++q):=by
 induction n with
 |nil=>exact h
 |cons a b ih=>exact .cons a ih
noncomputable def qP(x:List Int):List SV:=jI (x.map .lit)
noncomputable def NZ(x:List Int)(V:SV):Prop:=n6 61 [] (qP x) V
noncomputable def NK(x:List Int)(p:Nat×Nat)(V:SV):Prop:=n6 67 [(17,.lit (zN p.1)),(18,.lit (zN p.2))] (qP x) V
theorem mH{r:Option (Cs×aR×List SV×Nat)}{ln:List SV}(h:kG r=some (cs,eqs,ln,true)):∃k,r=some (cs,eqs,ln,k)∧k≤1000:=by
 unfold kG at h
 split at h
 ·rename_i MU Lh rH k
  injection h with h
  injection h with h1 h
  injection h with h2 h
  injection h with h3 h
  subst h1;subst h2;subst h3
  exact⟨k,rfl,pY h⟩
 ·(exfalso;injection h)
theorem kh(ρ:Val)(key:Int)(x:List Int)(q:Nat):fV ρ (key::x) (3+q)=aA x q:=by rw[EV];rfl
theorem qc{g:Nat→Nat}{y:List Int}(hi:ρ.i=fV ρ (key::x))(h:∀i,i<n→aA y i=aA x (g i)):∀p∈oK n g,p.1.eval {ρ with i:=fV ρ (key::y)}=p.2.eval ρ:=
 in1 (by show key=ρ.i 2;rw[hi];rfl) fun p m=>by
  refine ak (bz.mp m) fun i hm af=> ?_;subst af
  show fV ρ (key::y) (3+i)=ρ.i (3+g i)
  rw[kh,hi,kh]
  exact h i (dN.mp hm)
theorem Hv(n:Nat)(f:Nat→Int)(h:i<n):aA ((aI n).map f) i=f i:=by
 unfold aA;rw[b0,lq h];rfl
theorem Vj(x:List Int)(j:Nat):(gy x j).length=x.length:=by unfold gy;rw[aT,dZ]
theorem WL(h:i<x.length):aA (gy x j) i=aA x (pm j i):=Hv _ _ h
theorem Jx(h:x.length=n):x=(aI n).map (aA x):=by
 apply EI
 intro i
 rw[b0]
 by_cases z:i<n
 ·rw[lq z];show _=some (aA x i);unfold aA;rw[cA (by lia)];rfl
 ·rw[jg (by lia),jg (by simpa using z)];rfl
theorem Jl(hn:n≤4)(hi:ρ.i=fV ρ (key::x))(g sm:Nat→Nat){hs:Hp}:(jI (kZ n g sm)).map (bG ρ π hs 10)=qP ((aI n).map fun i=>aA x (g i)):=by
 have e:aA x=fun q=>ρ.i (3+q):=funext fun q=>by rw[hi,kh]
 rw[e]
 have h:n=0∨n=1∨n=2∨n=3∨n=4:=by lia
 rcases h with e|e|e|e|e<;>subst e<;>rfl
theorem XX:((aI 5).all fun n=>(bo n).zipIdx.all fun p=>(aI 3).all fun c=>decide ((n,p.2,p.1.1,p.1.2,c)∈oT∧p.1.2+1<n))=true:=by kernel_rfl
theorem M4(h:¬n<5):∃m,n=m+5:=⟨n-5,(Nat.sub_add_cancel (Nat.le_of_not_lt h)).symm⟩
theorem JI{k c:Nat}(hk:aS (bo n) k=some (i,j))(hc:c<3):n<5∧(n,k,i,j,c)∈oT∧j+1<n:=by
 by_cases h:n<5
 ·rw[dc] at hk
  exact⟨h,of_decide_eq_true (aM.mp (aM.mp (aM.mp XX n (dN.mpr h)) ((i,j),k) (Ey.mpr hk)) c (dN.mpr hc))⟩
 ·refine av (M4 h) fun m e=> ?_;subst e
  exact nn hk
theorem SQ{k c:Nat}(hk:aS (bo n) k=some (i,j))(hc:c<3):(n,k,i,j,c)∈oT:=(JI hk hc).2.1
theorem KQ{k:Nat}(hk:aS (bo n) k=some (i,j)):j+1<n∧n≤4:=dq (JI hk (c:=0) (by decide)) fun h1 _ h3=>⟨h3,zA h1⟩
theorem Uo{sm:Nat→Nat}(hi:ρ.i=fV ρ (key::x))(hn:n≤4)(hx:x.length=n):NZ (gy x j) (gi ρ (Ea n i j (kZ n (pm j) sm))):=by
 refine⟨(20,.lit (ρ.i 2))::(16,.lit (zN n))::(14,.lit (zN i))::(15,.lit (zN j))::fX [6,7,8,9,10,11,12,17,18,19],?_,fun x U m=>by exact(aP m).elim⟩
 show SV.tup [.str 61,.bu _,.ar ((jI (kZ n (pm j) sm)).map (bG ρ [] [] 10))]=_
 rw[Jl hn hi]
 unfold gy
 rw[hx]
 rfl
theorem A2{lo l9:Nat}{sm:Nat→Nat}(hi:ρ.i=fV ρ (key::x))(hn:n≤4)(hx:x.length=n):NK x (lo,l9) (gi ρ (yO lo l9 V (kZ n id sm))):=by
 refine⟨(20,.lit (ρ.i 2))::(17,.lit (zN lo))::(18,.lit (zN l9))::app (fX [6,7,8,9,10,11,12,14,15,16]) [(19,bG ρ [] [] 10 V)],?_,fun x U m=> ?_⟩
 ·show SV.tup [.str 67,.bu _,.ar ((jI (kZ n id sm)).map (bG ρ [] [] 10))]=_
  rw[Jl hn hi,show((aI n).map fun i=>aA x (id i))=x from(Jx hx).symm]
  rfl
 ·rcases aE.mp m with e|m
  ·(injection e with e1 e2;subst e1;subst e2);rfl
  rcases aE.mp m with e|m
  ·(injection e with e1 e2;subst e1;subst e2);rfl
  ·exact(aP m).elim
variable{L:Lp}
noncomputable def gR(l:List Int):Prop:=∀y∈l,lQ y
theorem Iw(hj:j+1<x.length)(b:gR (key::x)):gR (key::gy x j):=fun y m=>by
 rcases aE.mp m with rfl|m
 ·exact b _ (.head _)
 ·refine ak (bz.mp m) fun i hi af=> ?_;subst af
  have hi:=dN.mp hi
  have:pm j i<x.length:=by
   unfold pm
   induction z:ag i j using Bool.casesOn with
   |true=>exact hj
   |false=>induction y:ag i (j+1) using Bool.casesOn with
    |true=>show j<_;lia
    |false=>exact hi
  show-32768≤aA x (pm j i)∧aA x (pm j i)≤32767
  unfold aA
  rw[cA this]
  exact b _ (.tail _ (nR _))
noncomputable def gM(x:List Int)(j:Nat):List Int:=if aA x (j+1)<aA x j then gy x j else x
noncomputable def oA(x:List Int)(j:Nat):List (List Int):=if aA x (j+1)<aA x j then [gy x j] else []
noncomputable def stepT(n k:Nat)(x:List Int)(j:Nat):Nat:=(if aA x (j+1)<aA x j then 4 else 2)+cond (B1 n k) 1 0
theorem Dm(B:Base L.w L.s₁){k c:Nat}(hk:aS (bo n) k=some (i,j))(hc:c<3)(hx:x.length=n){m:Nat}(M:Nums ρ m)(hm:m<900)(hi:ρ.i=fV ρ (key::x))(b:gR (key::x))
  (h2:decide (aA x (j+1)<aA x j)=ag c 2)(h0:decide (aA x j<aA x (j+1))=ag c 0)
  (next:∀ρ' ln,bR ρ ρ' (fV ρ (key::cond (ag c 2) (gy x j) x)) ln (m+2)→ed NZ (cond (ag c 2) [gy x j] []) ln→Go L ρ' (jD n (k+1)) (jT n (k+1) 0 s0) J):Go L ρ (jD n k) (jT n k 0 s0) (tZ n k c+J):=by
 have mem:=SQ hk hc
 refine ai (KQ hk) fun hj hn=> ?_
 have ey:=fk.mp y_ _ mem
 have ez:=fk.mp z_ _ mem
 refine ak (mH ey) fun ky ey D9=> ?_
 refine ak (mH ez) fun kz ez uX=> ?_
 refine Lm B M (by lia) ey D9 trivial (key::x) b (qc hi fun i _=>rfl) fun ρ1 a1=> ?_
 have i1:=a1.iv
 have b1:gR (key::cond (ag c 2) (gy x j) x):=by
  cases ag c 2 with
  |true=>exact Iw (by lia) b
  |false=>exact b
 refine oq B a1.nums (by lia) ez uX (by cases ag c 2<;>first|exact fu _|exact(by decide:1≤1000)) ⟨?_,?_,trivial⟩ (key::cond (ag c 2) (gy x j) x) b1 (qc i1 ?_) fun ρ2 a2=> ?_
 ·show decide (ρ1.i (4+j)<ρ1.i (3+j))=_
  rw[←h2,i1,show 4+j=3+(j+1) by lia,kh,kh]
 ·show decide (ρ1.i (3+j)<ρ1.i (4+j))=_
  rw[←h0,i1,show 4+j=3+(j+1) by lia,kh,kh]
 ·intro i hi
  cases ag c 2 with
  |true=>exact WL (by lia)
  |false=>rfl
 ·refine next ρ2 _ (a1.to a2 (bb _)) ?_
  show ed NZ (cond (ag c 2) [gy x j] []) (fH (gi ρ1) (cond (ag c 2) [Ea n i j (kZ n (pm j) fun i=>cond (ag i (j+1)) 1 0)] []))
  cases ag c 2 with
  |false=>exact .nil
  |true=>
   exact .cons (Uo i1 (by assumption) hx) .nil
noncomputable def gd(n:Nat):Nat→Nat→List Int→List Int
 |0,_,x=>x
 |d+1,k,x=>gd n d (k+1) (gM x ((aS (bo n) k).getD (0,0)).2)
noncomputable def ig(n:Nat):Nat→Nat→List Int→List (List Int)
 |0,_,_=>[]
 |d+1,k,x=>oA x ((aS (bo n) k).getD (0,0)).2++ig n d (k+1) (gM x ((aS (bo n) k).getD (0,0)).2)
noncomputable def ka(n:Nat):Nat→Nat→List Int→Nat
 |0,_,_=>0
 |d+1,k,x=>stepT n k x ((aS (bo n) k).getD (0,0)).2+ka n d (k+1) (gM x ((aS (bo n) k).getD (0,0)).2)
theorem QW(x:List Int)(j:Nat):(gM x j).length=x.length:=by
 unfold gM;split
 ·exact Vj x j
 ·rfl
theorem Yk(B:Base L.w L.s₁){k:Nat}(hk:aS (bo n) k=some (i,j))(hx:x.length=n){m:Nat}(M:Nums ρ m)(hm:m<900)(hi:ρ.i=fV ρ (key::x))(b:gR (key::x))
  (next:∀ρ' ln,bR ρ ρ' (fV ρ (key::gM x j)) ln (m+2)→ed NZ (oA x j) ln→gR (key::gM x j)→Go L ρ' (jD n (k+1)) (jT n (k+1) 0 s0) J):Go L ρ (jD n k) (jT n k 0 s0) (stepT n k x j+J):=by
 refine ai (KQ hk) fun hj hn=> ?_
 unfold gM oA at next
 unfold stepT
 by_cases z2:aA x (j+1)<aA x j
 ·rw[if_pos z2] at next⊢
  rw[if_pos z2] at next
  exact Dm B hk (c:=2) (by decide) hx M hm hi b (by rw[decide_eq_true z2];rfl) (by rw[decide_eq_false (by lia)];rfl) fun ρ' ln a N=>next ρ' ln a N (Iw (by lia) b)
 ·rw[if_neg z2] at next⊢
  rw[if_neg z2] at next
  by_cases z0:aA x j<aA x (j+1)
  ·exact Dm B hk (c:=0) (by decide) hx M hm hi b (by rw[decide_eq_false z2];rfl) (by rw[decide_eq_true z0];rfl) fun ρ' ln a N=>next ρ' ln a N b
  ·exact Dm B hk (c:=1) (by decide) hx M hm hi b (by rw[decide_eq_false z2];rfl) (by rw[decide_eq_false z0];rfl) fun ρ' ln a N=>next ρ' ln a N b
theorem JF(B:Base L.w L.s₁):∀(d k:Nat){x:List Int}{ρ:Val}{m:Nat},k+d=(bo n).length→x.length=n→Nums ρ m→m+2*d<900→ρ.i=fV ρ (key::x)→gR (key::x)→
  (∀ρ' ln,bR ρ ρ' (fV ρ (key::gd n d k x)) ln (m+2*d)→ed NZ (ig n d k x) ln→gR (key::gd n d k x)→(gd n d k x).length=n→Go L ρ' (aB (bk 32)) (hZ [pK n] [yH] n 0 s0) J)→Go L ρ (jD n k) (jT n k 0 s0) (ka n d k x+J)
 |0,k,x,ρ,m,hk,hx,M,hm,hi,b,next=>by
  have e:aS (bo n) k=none:=by rw[dc,jg (by lia)]
  unfold jD jT
  rw[e]
  show Go L ρ _ _ (0+J)
  rw[cZ]
  refine next ρ [] ⟨M.mono (by lia),hi,rfl,(iM _).symm,rfl⟩ .nil b hx
 |d+1,k,x,ρ,m,hk,hx,M,hm,hi,b,next=>by
  have lt:k<(bo n).length:=by lia
  obtain⟨⟨i,j⟩,e⟩:∃p,aS (bo n) k=some p:=⟨_,by rw[dc];exact cA lt⟩
  have ej:((aS (bo n) k).getD (0,0)).2=j:=by rw[e];rfl
  unfold gd ig at next
  unfold ka
  rw[ej] at next⊢
  rw[gB]
  refine Yk B e hx M (by lia) hi b fun ρ1 l1 a1 N1 b1=> ?_
  refine JF B d (k+1) (by lia) (by rw[QW,hx]) a1.nums (by lia) a1.iv b1 fun ρ2 l2 a2 N2 b2 x2=> ?_
  exact next ρ2 _ (a1.to a2 (by lia)) (N1.app N2) b2 x2
noncomputable def nG(x:List Int)(key:Int)(lo hi:Nat):Nat:=if aA x ((lo+hi)/2)<key then(lo+hi)/2+1 else lo
noncomputable def nF(x:List Int)(key:Int)(lo hi:Nat):Nat:=if aA x ((lo+hi)/2)<key then hi else(lo+hi)/2
noncomputable def f9(x:List Int)(key:Int):Nat→Nat→Nat→List (Nat×Nat)
 |0,lo,hi=>[(lo,hi)]
 |f+1,lo,hi=>if lo<hi then(lo,hi)::f9 x key f (nG x key lo hi) (nF x key lo hi) else [(lo,hi)]
noncomputable def js(x:List Int)(key:Int):Nat→Nat→Nat→Nat
 |0,_,_=>0
 |f+1,lo,hi=>if nG x key lo hi<nF x key lo hi then(if aA x ((lo+hi)/2)<key then 7 else 6)+js x key f (nG x key lo hi) (nF x key lo hi) else(if aA x ((lo+hi)/2)<key then 10 else 9)
theorem XW:((aI 5).all fun n=>(sk n).all fun p=>(aI 3).all fun c=>decide ((n,p.1,p.2,c)∈oS∧p.1<p.2∧p.2≤n∧(dp p.1 p.2 c<dn p.1 p.2 c→(dp p.1 p.2 c,dn p.1 p.2 c)∈sk n)∧dn p.1 p.2 c-dp p.1 p.2 c<p.2-p.1))=true:=by kernel_rfl
theorem B8{lo hi c:Nat}(h:(lo,hi)∈sk n)(hc:c<3):n<5∧(n,lo,hi,c)∈oS∧lo<hi∧hi≤n∧(dp lo hi c<dn lo hi c→(dp lo hi c,dn lo hi c)∈sk n)∧dn lo hi c-dp lo hi c<hi-lo:=by
 by_cases hn:n<5
 ·exact⟨hn,of_decide_eq_true (aM.mp (aM.mp (aM.mp XW n (dN.mpr hn)) (lo,hi) h) c (dN.mpr hc))⟩
 ·refine av (M4 hn) fun m e=> ?_;subst e
  exact absurd h aP
theorem SP{lo hi c:Nat}(h:(lo,hi)∈sk n)(hc:c<3):(n,lo,hi,c)∈oS:=(B8 h hc).2.1
theorem Ip{lo hi c:Nat}(h:(lo,hi)∈sk n)(hc:c<3):n≤4∧lo<hi∧hi≤n∧(dp lo hi c<dn lo hi c→(dp lo hi c,dn lo hi c)∈sk n):=x06 (B8 h hc) fun h1 _ h3 h4 h5 _=>⟨zA h1,h3,h4,h5⟩
theorem YU(B:Base L.w L.s₁){lo hi c:Nat}(hk:(lo,hi)∈sk n)(hc:c<3)(hx:x.length=n){m:Nat}(M:Nums ρ m)(hm:m<900)(h1:ρ.i=fV ρ (key::x))(b:gR (key::x))
  (h2:decide (key<aA x ((lo+hi)/2))=ag c 2)(h0:decide (aA x ((lo+hi)/2)<key)=ag c 0)
  (Xp:dp lo hi c<dn lo hi c→∀ρ' ln,bR ρ ρ' (fV ρ (key::x)) ln (m+2)→ed (NK x) [(lo,hi)] ln→Go L ρ' (aB (bk 35)) (hK n (dp lo hi c) (dn lo hi c) 0 s0) J)
  (Xq:¬dp lo hi c<dn lo hi c→∀ρ' ln,bR ρ ρ' (fV ρ []) ln (m+2)→ed (NK x) [(lo,hi),(dp lo hi c,dn lo hi c)] ln→Go L ρ' (aB bw) hO J):Go L ρ (aB (bk 35)) (hK n lo hi 0 s0) (tK lo hi c+J):=by
 have mem:=SP hk hc
 refine pW (Ip hk hc) fun hn Nd hhn Ni=> ?_
 have ey:=fk.mp l_ _ mem
 have ez:=fk.mp k_ _ mem
 refine ak (mH ey) fun ky ey D9=> ?_
 refine Lm B M (by lia) ey D9 trivial (key::x) b (qc h1 fun i _=>rfl) fun ρ1 a1=> ?_
 have i1:=a1.iv
 have c1:cY ρ1 [.lt (.var 2) (.var (3+(lo+hi)/2)) (ag c 2),.lt (.var (3+(lo+hi)/2)) (.var 2) (ag c 0)]:=by
  refine⟨?_,?_,trivial⟩
  ·show decide (ρ1.i 2<ρ1.i (3+(lo+hi)/2))=_
   rw[←h2,i1,kh];rfl
  ·show decide (ρ1.i (3+(lo+hi)/2)<ρ1.i 2)=_
   rw[←h0,i1,kh];rfl
 have ez:kG (C3 n lo hi c)=CR n lo hi c:=ez
 unfold C3 CR at ez
 induction z:bq (dp lo hi c) (dn lo hi c) using Bool.casesOn with
 |true=>
  rw[z] at ez
  refine ak (mH ez) fun kz ez uX=> ?_
  refine oq B a1.nums (by lia) ez uX (by exact(by decide:1≤1000)) c1 (key::x) b (qc i1 fun i _=>rfl) fun ρ2 a2=> ?_
  exact Xp (blt_iff.mp z) ρ2 _ (a1.to a2 (bb _)) (.cons (A2 i1 hn hx) .nil)
 |false=>
  rw[z] at ez
  refine ak (mH ez) fun kz ez uX=> ?_
  refine oq B a1.nums (by lia) ez uX (by exact(by decide:2≤1000)) c1 [] bS bS fun ρ2 a2=> ?_
  exact Xq (fun y=>by rw[blt_iff.mpr y] at z;exact nf z.symm) ρ2 _ (a1.to a2 (bb _)) (.cons (A2 i1 hn hx) (.cons (A2 i1 hn hx) .nil))
theorem JA(B:Base L.w L.s₁)(hx:x.length=n)(b:gR (key::x)):∀(f lo hi:Nat){ρ:Val}{m:Nat},hi-lo<f→(lo,hi)∈sk n→Nums ρ m→m+2*f<900→ρ.i=fV ρ (key::x)→
  (∀ρ' ln,bR ρ ρ' (fV ρ []) ln (m+2*f)→ed (NK x) (f9 x key f lo hi) ln→Go L ρ' (aB bw) hO J)→Go L ρ (aB (bk 35)) (hK n lo hi 0 s0) (js x key f lo hi+J)
 |0,lo,hi,ρ,m,hf,_,_,_,_,_=>by lia
 |f+1,lo,hi,ρ,m,hf,hk,M,hm,h1,next=>by
  obtain⟨c,hc,h2,h0,e1,e2,e3⟩:∃c,c<3∧decide (key<aA x ((lo+hi)/2))=ag c 2∧decide (aA x ((lo+hi)/2)<key)=ag c 0∧dp lo hi c=nG x key lo hi∧dn lo hi c=nF x key lo hi∧cond (ag c 0) 7 6=(if aA x ((lo+hi)/2)<key then 7 else 6):=by
   unfold nG nF
   by_cases z0:aA x ((lo+hi)/2)<key
   ·exact⟨0,by decide,by rw[decide_eq_false (by lia)];rfl,by rw[decide_eq_true z0];rfl,by rw[if_pos z0];rfl,by rw[if_pos z0];rfl,by rw[if_pos z0];rfl⟩
   ·by_cases z2:key<aA x ((lo+hi)/2)
    ·exact⟨2,by decide,by rw[decide_eq_true z2];rfl,by rw[decide_eq_false z0];rfl,by rw[if_neg z0];rfl,by rw[if_neg z0];rfl,by rw[if_neg z0];rfl⟩
    ·exact⟨1,by decide,by rw[decide_eq_false z2];rfl,by rw[decide_eq_false z0];rfl,by rw[if_neg z0];rfl,by rw[if_neg z0];rfl,by rw[if_neg z0];rfl⟩
  refine pW (Ip hk hc) fun hn Nd hhn Ni=> ?_
  have hd:=(B8 hk hc).2.2.2.2.2
  have et:js x key (f+1) lo hi=tK lo hi c+(if dp lo hi c<dn lo hi c then js x key f (dp lo hi c) (dn lo hi c) else 0):=by
   show(if nG x key lo hi<nF x key lo hi then _ else _)=_
   unfold tK
   rw[←e1,←e2,e3]
   by_cases z:dp lo hi c<dn lo hi c
   ·rw[if_pos z,if_pos z,blt_iff.mpr z];rfl
   ·rw[if_neg z,if_neg z]
    have:bq (dp lo hi c) (dn lo hi c)=false:=by
     induction y:bq (dp lo hi c) (dn lo hi c) using Bool.casesOn with
     |true=>exact absurd (blt_iff.mp y) z
     |false=>rfl
    rw[this]
    split<;>rfl
  have eb:f9 x key (f+1) lo hi=(lo,hi)::f9 x key f (dp lo hi c) (dn lo hi c):=by
   show(if lo<hi then _ else _)=_
   rw[if_pos Nd,←e1,←e2]
  rw[eb] at next
  rw[et,gB]
  refine YU B hk hc hx M (by lia) h1 b h2 h0 (fun z ρ1 l1 a1 N1=> ?_) fun z ρ1 l1 a1 N1=> ?_
  ·rw[if_pos z]
   refine JA B hx b f _ _ (by lia) (Ni z) a1.nums (by lia) a1.iv fun ρ2 l2 a2 N2=> ?_
   exact next ρ2 _ (a1.to a2 (by lia)) (N1.app N2)
  ·rw[if_neg z,cZ]
   refine next ρ1 _ ⟨a1.nums.mono (by lia),a1.i,a1.d,a1.g0,a1.r⟩ ?_
   have:f9 x key f (dp lo hi c) (dn lo hi c)= [(dp lo hi c,dn lo hi c)]:=by
    induction f using Nat.casesAuxOn with
    |zero=>rfl
    |succ f=>show(if _ then _ else _)=_;rw[if_neg z]
   rw[this];exact N1
theorem sW_:∀n<5,1≤n→n∈ [1,2,3,4]∧(bo n).length≤6∧(0,n)∈sk n:=by decide
theorem XO(h1:1≤n)(h4:n≤4):n∈ [1,2,3,4]∧(bo n).length≤6∧(0,n)∈sk n:=sW_ n (Oz h4) h1
theorem Zt(B:Base L.w L.s₁){m:Nat}(M:Nums ρ m)(hm:m<600)(h1:1≤n)(hn:n≤4)(hx:x.length=n)(hi:ρ.i=fV ρ (key::x))(b:gR (key::x))
  (next:∀ρ' l1 l2,bR ρ ρ' (fV ρ []) (l1++l2) (m+200)→ed NZ (ig n (bo n).length 0 x) l1→ed (NK (gd n (bo n).length 0 x)) (f9 (gd n (bo n).length 0 x) key 6 0 n) l2→Go L ρ' (aB bw) hO J):
  Go L ρ (aB (bk 24)) (hZ [pK n] [] n 0 s0) (2+(ka n (bo n).length 0 x+(3+(js (gd n (bo n).length 0 x) key 6 0 n+J)))):=by
 refine dq (XO h1 hn) fun mem ls hsk=> ?_
 refine ak (mH (fk.mp i_ n mem)) fun ki ei ki1=> ?_
 refine ak (mH (fk.mp j_ n mem)) fun kj ej kj1=> ?_
 refine oq B M (by lia) ei ki1 (fu _) trivial (key::x) b (qc hi fun i _=>rfl) fun ρ1 a1=> ?_
 refine JF B (bo n).length 0 (by lia) hx a1.nums (by lia) a1.iv b fun ρ2 l2 a2 N2 b2 x2=> ?_
 have a3:=a1.to a2 (bb _)
 have i3:=a3.iv
 refine oq B a3.nums (by lia) ej kj1 (fu _) trivial (key::gd n (bo n).length 0 x) b2 (qc i3 fun i _=>rfl) fun ρ3 a4=> ?_
 have a5:=a3.to a4 (bb _)
 refine JA B x2 b2 6 0 n (by lia) hsk a5.nums (by lia) a5.iv fun ρ4 l4 a6 N4=> ?_
 have a7:=a5.to a6 (k:=m+200) (by lia)
 refine next ρ4 l2 l4 ?_ N2 N4
 rw[←iM l2]
 exact a7
end
end
section
noncomputable section
noncomputable def iX(x:Nat)(V:SV):SV:= .tup [.str 48,tN x,V]
noncomputable def jL(i:Nat)(V:SV):SV:= .tup [.str 48,tI (tW i),V]
noncomputable def yR(k:Nat):SV:= .tup [.str 59,.str 57,tW k,.ar [.lit (zN 100),.lit (zN 200),.lit (zN 300),.lit (zN 400)]]
noncomputable def tS(a b:SV):List SV:=[iX 6 a,iX 7 b,d6 63,yR 1]
noncomputable def tT(a n:SV):List SV:=[iX 11 a,iX 9 n,c7 12 (tW 1),d6 63,yR 2]
noncomputable def tU(n:SV):List SV:=[iX 9 n,c7 10 (tW 0),d6 63,yR 3]
noncomputable def oz(n:Nat)(k:SV):List SV:=[c7 16 (tW n),iX 20 k,d6 63,yR 4]
noncomputable def MP(l:List SV):List (IX×Int×SV):=List.rec (motive:=fun _=>Nat→List (IX×Int×SV)) (fun _=>[]) (fun st _ ih k=>(.add (.var 1) (.lit (zN k)),zN (4+k),.tup [.au,st])::ih (Nat.succ k)) l 0
noncomputable def hB(l:List SV)(g:Option (List SV)):Hp:=b9 (MP l) [] [] g
noncomputable def gI(n:Nat):Option (List SV):=some (jI (kZ n id s0))
noncomputable def bE(g:Option (List SV)):=bM [0] 4 (aB bw) (hB (tS (.tree (.var 2) 7) (.tree (.var 3) 5)) g) (aB (bk 0)) (b9 [] [(6,.sym (.var 2) 7),(7,.sym (.var 3) 5)] [bD] g4) true
noncomputable def bP(g:Option (List SV)):=bM [0] 5 (aB bw) (hB (tT (.tree (.var 10) 3) (.tree (.var 2) 2)) g) (aB (bk 8)) (b9 [] [(9,.sym (.var 2) 2),(11,.tup [.sym (.var 10) 3,.lit (zN 0)]),(12,.tup [.sym (.var 11) 3,.lit (zN 0)])] [bD] g4) true
noncomputable def bT(g:Option (List SV)):=bM [0] 4 (aB bw) (hB (tU (.tree (.var 2) 57)) g) (aB (bk 17)) (b9 [] [(9,.sym (.var 2) 57),(10,.sym (.var 3) 3)] [bD] g4) true
noncomputable def bI(g:Option (List SV))(i:Nat)(s:Int):=bM [0] 1 (aB bw) (hB [jL i (.tree (.var (3+i)) s)] g) (aB bw) (b9 [] [] [] (gI (i+1))) true
noncomputable def bK(n:Nat)(s:Int):=bM [0] 4 (aB bw) (hB (oz n (.tree (.var 2) s)) (gI n)) (aB (bk 24)) (b9 [] [(20,.sym (.var 2) 0),pK n] [bD] (gI n)) true
noncomputable def bZ:=lY 1 (aB bw) (hB [.tup [.str 62]] g4)
end
end
section
noncomputable section
structure c6(ρ:Val)(L0:List SV)(r0:Nat):Prop where
 i:ρ.i 0=zN r0
 r:∀(j:Nat)(V:SV),L0[j]? =some V→(IX.lit (zN j),zN j,bG ρ [] [] 12 V)∈ρ.r
 ok:∀V∈L0,md 12 V=true
 p:∀(k:Nat)(st:SV),mO[k]? =some st→L0[r0+k]? =some (.tup [.au,st])
theorem c6.to(R:c6 ρ L0 r0)(h0:ρ'.i 0=ρ.i 0)(hd:ρ'.d=ρ.d)(hr:ρ'.r=ρ.r):c6 ρ' L0 r0:=
 ⟨h0.trans R.i,fun j V e=>by rw[hr,th h0 hd 12 V (R.ok V (cf e)) (π':=[]) (cR:=[])];exact R.r j V e,R.ok,R.p⟩
variable{L:Lp}
theorem HM{rows:List (IX×Int×SV)}{fA:List SV}{g:Option (List SV)}{T:Nat}
  (hr:∀q'∈rows,(∀n,q'.1=IX.lit n→q'.2.1=n)∧∃q∈ρ.r,q.1.eval ρ=q'.1.eval ρ∧∀X ad h v,VR pw_sm0015_01 L.w aN ρ X ad h v q.2.2→VR pw_sm0015_01 L.w aN ρ X ad h v q'.2.2)
  (next:Go L ρ env (b9 rows names fA g) T):Go L ρ env (b9 [] names fA g) T:=fun s d=>next s (by
 refine gA d fun X ad d=> ?_
 have a:=d.at'
 have I:=a.inv
 have same:∀i,i≠9→aS (b9 rows names fA g) i=aS (b9 [] names fA g) i:=fun i hi=>by
  match i with
  |0=>rfl
  |1=>rfl
  |2=>rfl
  |3=>rfl
  |4=>rfl
  |5=>rfl
  |6=>rfl
  |7=>rfl
  |8=>rfl
  |9=>exact absurd rfl hi
  |i+10=>rfl
 refine⟨X,ad,⟨⟨a.ao,⟨I.base,I.len.trans ?_,fun i o e=> ?_,I.sep,I.bc,I.live,I.own,I.rest⟩,a.low,a.fr,a.sc⟩,d.uU,d.own,d.apart,d.mW,d.qN,d.ui,d.keep,d.size,d.ext⟩⟩
 ·show(app _ _).length=(app _ _).length
  rfl
 ·by_cases z:i=9
  ·subst z
   have e:some (SO.iF rows)=some o:=e
   (injection e with e1;subst e1)
   obtain⟨p,hp,e1,vs,hl,P⟩:=I.fit 9 (.iF []) rfl
   refine⟨p,hp,e1,vs,hl,fun q hq=> ?_⟩
   rcases bj.mp hq with hq|hq
   ·obtain⟨h1,q0,m0,e0,w0⟩:=hr q hq
    obtain⟨_,b2,v,b3,b4⟩:=P q0 (bj.mpr (.inr m0))
    refine⟨h1,?_,v,?_,w0 _ _ _ _ b4⟩
    ·show 0≤q.1.eval ρ∧q.1.eval ρ<2^63
     rw[←e0];exact b2
    ·show vs[(q.1.eval ρ).toNat]? =some v
     rw[←e0];exact b3
   ·exact P q (bj.mpr (.inr hq))
  ·rw[same i z] at e
   exact I.fit i o e)
theorem G5(R:c6 ρ L0 r0){e':IX}{s':Int}{V':SV}(he:e'.eval ρ=zN j)(hl:∀n,e'≠ .lit n)(hj:L0[j]? =some V)(hc:bG ρ [] [] 12 V'=bG ρ [] [] 12 V)(hd:jA 12 V'=true):
  (∀n,e'=IX.lit n→s'=n)∧∃q∈ρ.r,q.1.eval ρ=e'.eval ρ∧∀X ad h v,VR pw_sm0015_01 L.w aN ρ X ad h v q.2.2→VR pw_sm0015_01 L.w aN ρ X ad h v V':=
 ⟨fun n e=>absurd e (hl n),_,R.r j V hj,by rw[he];rfl,fun X ad h v r=>by
  have r:VR pw_sm0015_01 L.w aN ρ X ad h v (bG ρ [] [] 12 V):=r
  rw[←hc] at r
  exact KV (c:=aj L.w L.s₁ ρ fun _ _ _ _=>True) 12 V' v hd r⟩
theorem Qr{a b:Nat}{q:IX×Int×SV}(h:q∈qz a b):∃(k:Nat)(st:SV),mO[k]? =some st∧q=(ix k,zN (10+k),.tup [.au,st]):=by
 have g:∀(l:List SV)(o:Nat),q∈(List.rec (motive:=fun _=>Nat→List (IX×Int×SV)) (fun _=>[]) (fun st _ ih k=>cond (ah (dW a k) (bq k b)) ((ix k,zN (10+k),.tup [.au,st])::ih (Nat.succ k)) (ih (Nat.succ k))) l o:List (IX×Int×SV))→∃(k:Nat)(st:SV),l[k]? =some st∧q=(ix (o+k),zN (10+(o+k)),.tup [.au,st]):=by
  intro l
  induction l with
  |nil=>intro o h;exact(aP h).elim
  |cons st l ih=>
   intro o h
   have h:q∈cond (ah (dW a o) (bq o b)) ((ix o,zN (10+o),SV.tup [.au,st])::_) _:=h
   have tl:=fun m=>ih (Nat.succ o) m
   have fin:(∃(k:Nat)(s2:SV),l[k]? =some s2∧q=(ix (Nat.succ o+k),zN (10+(Nat.succ o+k)),.tup [.au,s2]))→∃(k:Nat)(s2:SV),(st::l)[k]? =some s2∧q=(ix (o+k),zN (10+(o+k)),.tup [.au,s2]):=fun⟨k,s2,e1,e2⟩=>⟨k+1,s2,e1,by rw[e2,show o+(k+1)=Nat.succ o+k by lia]⟩
   induction z:ah (dW a o) (bq o b) using Bool.casesOn with
   |true=>
    rw[z] at h
    rcases aE.mp h with h|h
    ·exact⟨0,st,rfl,h⟩
    ·exact fin (tl h)
   |false=>rw[z] at h;exact fin (tl h)
 refine eP (g mO 0 h) fun k st e1 e2=> ?_
 rw[cZ] at e2
 exact⟨k,st,e1,e2⟩
theorem Qs:(mO.all fun st=>jA 12 (.tup [.au,st]))=true:=by kernel_rfl
theorem wj{a b:Nat}(R:c6 ρ L0 r0){fA:List SV}{g:Option (List SV)}{T:Nat}(next:Go L ρ env (b9 (qz a b) names fA g) T):Go L ρ env (b9 [] names fA g) T:=
 HM (fun q m=>by
  refine eP (Qr m) fun k st e1 af=> ?_;subst af
  exact G5 R (by show ρ.i 0+zN k=zN (r0+k);rw[R.i];exact(EP r0 k).symm) (fun n e=>by(exfalso;injection e)) (R.p k st e1) rfl (aM.mp Qs st (cf e1))) next
end
end
section
noncomputable section
noncomputable def fW(r0 r1:Int)(l:List Int):Nat→Int:=fun i=>match i with
 |0=>r0
 |1=>r1
 |i+2=>(l[i]?).getD 0
theorem jE(ρ:Val){r1:Int}(h:ρ.i 1=r1)(l:List Int):fW (ρ.i 0) r1 l=fV ρ l:=by
 funext i
 match i with
 |0=>rfl
 |1=>exact h.symm
 |i+2=>rfl
theorem BQ(ρ:Val)(r0 r1:Int)(l:List Int):∀i,2≤i→fW r0 r1 l i=fV ρ l i:=fun i hi=>by
 obtain⟨i,rfl⟩:∃k,i=k+2:=⟨i-2,by lia⟩
 rfl
theorem tB(ρ:Val){r0 r1:Int}{l:List Int}(h:∀i,2≤i→i<10→-32768≤fV ρ l i∧fV ρ l i≤32767):∀i,2≤i→i<10→-32768≤fW r0 r1 l i∧fW r0 r1 l i≤32767:=fun i h1 h2=>by rw[BQ ρ r0 r1 l i h1];exact h i h1 h2
theorem AS(ρ:Val)(r1:Int)(l:List Int):∀v∈ [0],fW (ρ.i 0) r1 l v=ρ.i v:=fun v m=>by
 rcases aE.mp m with rfl|m
 ·rfl
 ·exact(aP m).elim
noncomputable def kJ(V:SV):Prop:=∃l its,V= .tup [.str 63,.bu l,.ar its]
theorem w3(ρ:Val)(l:List (Nat×SV))(its:List SV):kJ (gi ρ (.tup [.str 63,.bu l,.ar its])):=⟨_,_,rfl⟩
noncomputable def C5(V:SV):Bool:=ah (isTup V) (ah (i9 (iY V) 3) (ah (Mc (bB (iY V) 0) 63) (ah (Kn (bB (iY V) 1)) (Ko (bB (iY V) 2)))))
theorem UP(h:C5 V=true):∃l its,V= .tup [.str 63,.bu l,.ar its]:=by
 refine dR4 h fun h1 h2 h3 h4 h5=> ?_
 refine av (RH h4) fun l e4=> ?_
 refine av (RI h5) fun its e5=> ?_
 refine⟨l,its,?_⟩
 have e:=GN h1
 rw[LF h2,Vd h3,e4,e5] at e
 exact e
noncomputable def uq(r:Option (Cs×aR×List SV×Nat)):Option (Cs×aR×Bool):=match r with
 |some q=>some (q.1,q.2.1,ah (ah (i9 q.2.2.1 1) (C5 (bB q.2.2.1 0))) (dW q.2.2.2 1000))
 |none=>none
theorem wD{r:Option (Cs×aR×List SV×Nat)}(h:uq r=some (cs,eqs,true)):∃l its k,r=some (cs,eqs,[.tup [.str 63,.bu l,.ar its]],k)∧k≤1000:=by
 induction r using Option.casesOn with
 |none=>exact nn h
 |some q=>
  obtain⟨MU,Lh,ln,k⟩:=q
  have h:some (MU,Lh,ah (ah (i9 ln 1) (C5 (bB ln 0))) (dW k 1000))=some (cs,eqs,true):=h
  injection h with h
  injection h with h1 h
  injection h with h2 h3
  subst h1;subst h2
  refine o7 h3 fun h5 h6 h4=> ?_
  refine gA (UP h6) fun l its e=> ?_
  exact⟨l,its,k,by rw[CD h5,e],pY h4⟩
noncomputable def nx(n:Nat):IX:=Nat.rec (.var 1) (fun _ e=> .add e (.lit 1)) n
theorem Us(ρ:Val)(n:Nat):(nx n).eval ρ=ρ.i 1+zN n:=by
 induction n with
 |zero=>show ρ.i 1=ρ.i 1+0;lia
 |succ n ih=>show(nx n).eval ρ+1=ρ.i 1+((n+1:Nat):Int);rw[ih];show ρ.i 1+(n:Int)+1=_;lia
theorem sP{r1:Nat}(h:ρ.i 1=zN r1):(nx n).eval ρ=zN (r1+n):=by rw[Us,h];exact(EP r1 n).symm
theorem o_:([none,g4].map fun g=>bM [0,1] 0 (aB bw) (b9 [] [] [] g) (aB bw) (b9 [] [] [] g) (match g with|some _=>true|none=>false))= [none,g4].map fun _=>some ([],[],[],0):=by kernel_rfl
theorem be_:([none,g4].map fun g=>uq (bE g))= [none,g4].map fun _=>some ([.lt (.var 2) (.lit 0) false,.lt (.var 3) (.lit 0) false],[(.var 2,.var 2),(.var 3,.var 3),(.var 1,nx 4)],true):=by kernel_rfl
theorem bp_:([none,g4].map fun g=>uq (bP g))= [none,g4].map fun _=>some (.lt (.var 10) (.lit 0) false:: .lt (.var 10) (.lit (-32768)) false:: .lt (.var 10) (.lit 32768) true::app (qy (.var 10)) [.lt (.var 2) (.lit 0) false],[(.var 2,.var 2),(.var 10,.var 10),(.var 11,.lit 1),(.var 1,nx 5)],true):=by kernel_rfl
theorem bt_:([none,g4].map fun g=>uq (bT g))= [none,g4].map fun _=>some ([.lt (.var 2) (.lit 0) false],[(.var 2,.var 2),(.var 3,.lit 0),(.var 1,nx 4)],true):=by kernel_rfl
noncomputable def Em(v:Nat)(b:Bool):Cs:=cond b [.lt (.var v) (.lit 0) false] [.lt (.sub (.lit 0) (.var v)) (.lit 32768) true,.lt (.var v) (.lit 0) true]
noncomputable def Eo(v:Nat)(b:Bool):IX×IX:=(.var v,cond b (.var v) (.sub (.lit 0) (.sub (.lit 0) (.var v))))
noncomputable def yW(b:Bool):Int:=cond b 5 (-5)
noncomputable def D4(n:Nat):aR:=(aI n).map fun i=>(.var (3+i),.var (3+i))
noncomputable def tabI:List (Option (List SV)×Nat×Bool):=[(none,0,true),(none,0,false),(g4,0,true),(g4,0,false),(gI 1,1,true),(gI 1,1,false),(gI 2,2,true),(gI 2,2,false),(gI 3,3,true),(gI 3,3,false)]
theorem bi_:(tabI.map fun(g,i,b)=>kG (bI g i (yW b)))=tabI.map fun(g,i,b)=>some (Em (3+i) b,(.var 1,nx 1)::app (D4 i) [Eo (3+i) b],[],true):=by kernel_rfl
noncomputable def Dc:List (Nat×Bool):=[(1,true),(1,false),(2,true),(2,false),(3,true),(3,false),(4,true),(4,false)]
theorem bk_:(Dc.map fun(n,b)=>uq (bK n (yW b)))=Dc.map fun(n,b)=>some (Em 2 b,Eo 2 b::(.var 1,nx 4)::D4 n,true):=by kernel_rfl
end
end
section
noncomputable section
theorem Th{q:IX×Int×SV}(h:q∈MP l):∃(k:Nat)(st:SV),l[k]? =some st∧q=(.add (.var 1) (.lit (zN k)),zN (4+k),.tup [.au,st]):=by
 have g:∀(l:List SV)(o:Nat),q∈(List.rec (motive:=fun _=>Nat→List (IX×Int×SV)) (fun _=>[]) (fun st _ ih k=>(.add (.var 1) (.lit (zN k)),zN (4+k),.tup [.au,st])::ih (Nat.succ k)) l o:List (IX×Int×SV))→∃(k:Nat)(st:SV),l[k]? =some st∧q=(.add (.var 1) (.lit (zN (o+k))),zN (4+(o+k)),.tup [.au,st]):=by
  intro l
  induction l with
  |nil=>intro o h;exact(aP h).elim
  |cons st l ih=>
   intro o h
   rcases aE.mp (show q∈(IX.add (.var 1) (.lit (zN o)),zN (4+o),SV.tup [.au,st])::_ from h) with h|h
   ·exact⟨0,st,rfl,h⟩
   ·refine eP (ih (Nat.succ o) h) fun k s2 e1 e2=> ?_
    exact⟨k+1,s2,e1,by rw[e2,show o+(k+1)=Nat.succ o+k by lia]⟩
 refine eP (g l 0 h) fun k st e1 e2=> ?_
 rw[cZ] at e2
 exact⟨k,st,e1,e2⟩
noncomputable def WY(ρ:Val)(L0:List SV)(j:Nat)(st:SV):Prop:=∃V,L0[j]? =some V∧bG ρ [] [] 12 (.tup [.au,st])=bG ρ [] [] 12 V∧jA 12 (.tup [.au,st])=true
variable{L:Lp}
theorem qn{r1:Nat}(R:c6 ρ L0 r0)(h1:ρ.i 1=zN r1)(hb:∀(k:Nat)(st:SV),l[k]? =some st→WY ρ L0 (r1+k) st){g:Option (List SV)}{T:Nat}(next:Go L ρ env (hB l g) T):Go L ρ env (b9 [] [] [] g) T:=
 HM (fun q m=>by
  refine eP (Th m) fun k st e1 af=> ?_;subst af
  refine gz (hb k st e1) fun V e2 e3 e4=> ?_
  exact G5 R (by show ρ.i 1+zN k=zN (r1+k);rw[h1];exact(EP r1 k).symm) (fun n e=>by(exfalso;injection e)) e2 e3 e4) next
theorem wk(B:Base L.w L.s₁){m:Nat}(M:Nums ρ m)(hm:m<900){g:Option (List SV)}(hg:g=none∨g=g4){l:List Int}(hf:∀i,2≤i→i<10→-32768≤fV ρ l i∧fV ρ l i≤32767)(next:∀ρ',bR ρ ρ' (fV ρ l) [] (m+1)→Go L ρ' (aB bw) (b9 [] [] [] g) J):Go L ρ (aB bw) (b9 [] [] [] g) J:=by
 have mem:g∈ [none,g4]:=by rcases hg with rfl|rfl<;>simp
 have e:=fk.mp o_ g mem
 exact TO B M (by lia) e (by decide) (by exact fu _) trivial (f:=fV ρ l) hf (AR ρ _) bS next
theorem n5{e e':IX}{k k':Int}(h:e.eval ρ=e'.eval ρ)(f:SV→SV)(hf:∀e k,bG ρ [] [] 12 (f (.tree e k))=bG ρ [] [] 12 (f (.tree (.lit (e.eval ρ)) 0))):bG ρ [] [] 12 (f (.tree e k))=bG ρ [] [] 12 (f (.tree e' k')):=by rw[hf,hf e',h]
theorem og{l:List Int}(hi:ρ'.i=fV ρ l)(hd:ρ'.d=ρ.d){e:IX}(h:eH e=true):e.eval ρ'=e.eval ρ:=jr (by rw[hi];rfl) hd h
theorem W2(B:Base L.w L.s₁){m r1:Nat}{e1 e2:IX}{a b:Int}(M:Nums ρ m)(hm:m<300)(R:c6 ρ L0 r0)(h1:ρ.i 1=zN r1)(hl:∀(k:Nat)(st:SV),(tS (.tree e1 0) (.tree e2 0))[k]? =some st→L0[r1+k]? =some (.tup [.au,st]))
  (k1:eH e1=true)(k2:eH e2=true)(ea:e1.eval ρ=a)(eb:e2.eval ρ=b)(ha:0≤a)(fe:a≤60)(hb:0≤b)(eu:b≤60){g:Option (List SV)}(hg:g=none∨g=g4)
  (next:∀ρ' V ln,bR ρ ρ' (fW (ρ.i 0) (zN (r1+4)) []) (V::ln) (m+250)→kJ V→dg 64 dw jd (g9 61 a b) ln→Go L ρ' (aB bw) hO J):Go L ρ (aB bw) (b9 [] [] [] g) (4+((if b=0 then 3 else 1+lD 61 a b)+J)):=by
 have mem:g∈ [none,g4]:=by rcases hg with rfl|rfl<;>simp
 have bd:∀x∈ [a,b],-32768≤x∧x≤32767:=in1 (by lia) (in1 (by lia) bS)
 refine wk B M (by lia) hg (l:=[a,b]) (mM ρ bd) fun ρ1 a1=> ?_
 have R1:c6 ρ1 L0 r0:=R.to (by rw[a1.i];rfl) a1.d a1.r
 have i1:ρ1.i 1=zN r1:=by rw[a1.i];exact h1
 have v2:ρ1.i 2=a:=by rw[a1.i];rfl
 have v3:ρ1.i 3=b:=by rw[a1.i];rfl
 have uG:e1.eval ρ1=a:=by rw[og a1.i a1.d k1,ea]
 have DJ:e2.eval ρ1=b:=by rw[og a1.i a1.d k2,eb]
 refine qn R1 i1 (l:=tS (.tree (.var 2) 7) (.tree (.var 3) 5)) (fun k st e=> ?_) ?_
 ·match k with
  |0=>(injection e with e1;subst e1);exact⟨_,hl 0 _ rfl,n5 (e:= .var 2) (e':=e1) (v2.trans uG.symm) (fun V=> .tup [.au,iX 6 V]) fun _ _=>rfl,rfl⟩
  |1=>(injection e with e1;subst e1);exact⟨_,hl 1 _ rfl,n5 (e:= .var 3) (e':=e2) (v3.trans DJ.symm) (fun V=> .tup [.au,iX 7 V]) fun _ _=>rfl,rfl⟩
  |2=>(injection e with e1;subst e1);exact⟨_,hl 2 _ rfl,rfl,by kernel_rfl⟩
  |3=>(injection e with e1;subst e1);exact⟨_,hl 3 _ rfl,rfl,by kernel_rfl⟩
  |k+4=>exact absurd e (by simp[tS])
 refine iI (wD (fk.mp be_ g mem)) fun l its q eq hq=> ?_
 refine mF B a1.nums (by lia) eq hq (by exact(by decide:1≤1000)) ⟨decide_eq_false (by show¬ρ1.i 2<0;lia),decide_eq_false (by show¬ρ1.i 3<0;lia),trivial⟩ (f:=fW (ρ1.i 0) (zN (r1+4)) [a,b]) (tB ρ1 (mM ρ1 bd)) (AS ρ1 _ _)
  (in1 v2.symm (in1 v3.symm (in1 (sP i1).symm bS))) fun ρ2 a2=> ?_
 have R2:c6 ρ2 L0 r0:=R1.to (by rw[a2.i];rfl) a2.d a2.r
 have i2:ρ2.i=fV ρ2 [a,b]:=by
  rw[←jE ρ2 (r1:=zN (r1+4)) (by rw[a2.i];rfl),a2.i];rfl
 refine wj R2 (YB B a2.nums (by lia) i2 ha fe hb eu fun ρ3 ln a3 N=> ?_)
 refine next ρ3 _ ln ⟨a3.nums.mono (by lia),?_,(a3.d.trans a2.d).trans a1.d,?_,(a3.r.trans a2.r).trans a1.r⟩ (w3 ρ1 l its) N
 ·rw[a3.i,←jE ρ2 (r1:=zN (r1+4)) (by rw[a2.i];rfl),a2.i,a1.i];rfl
 ·rw[a3.g0,a2.g0,a1.g0,iM,mr];rfl
theorem XE(B:Base L.w L.s₁){m r1:Nat}{e1 e2:IX}{b:Nat}(M:Nums ρ m)(hm:m<300)(R:c6 ρ L0 r0)(h1:ρ.i 1=zN r1)(hl:∀(k:Nat)(st:SV),(tT (.tree e1 0) (.tree e2 0))[k]? =some st→L0[r1+k]? =some (.tup [.au,st]))
  (k1:eH e1=true)(k2:eH e2=true)(ea:e1.eval ρ=zN b)(eb:e2.eval ρ=zN n)(hb:b<10)(hn:n<8){g:Option (List SV)}(hg:g=none∨g=g4)
  (next:∀ρ' V ln,bR ρ ρ' (fW (ρ.i 0) (zN (r1+5)) []) (V::ln) (m+250)→kJ V→dg 65 dw kP (fK 4 n b 1) ln→Go L ρ' (aB bw) hO J):Go L ρ (aB bw) (b9 [] [] [] g) (5+((if n=0 then 3 else 1+lF 4 n)+J)):=by
 have mem:g∈ [none,g4]:=by rcases hg with rfl|rfl<;>simp
 refine wk B M (by lia) hg (l:=lP n b 1) (B0 hn ρ) fun ρ1 a1=> ?_
 have R1:c6 ρ1 L0 r0:=R.to (by rw[a1.i];rfl) a1.d a1.r
 have i1:ρ1.i 1=zN r1:=by rw[a1.i];exact h1
 have v2:ρ1.i 2=zN n:=by rw[a1.i];rfl
 have v3:ρ1.i 10=zN b:=by rw[a1.i];rfl
 have uG:e1.eval ρ1=zN b:=by rw[og a1.i a1.d k1,ea]
 have DJ:e2.eval ρ1=zN n:=by rw[og a1.i a1.d k2,eb]
 refine qn R1 i1 (l:=tT (.tree (.var 10) 3) (.tree (.var 2) 2)) (fun k st e=> ?_) ?_
 ·match k with
  |0=>(injection e with e1;subst e1);exact⟨_,hl 0 _ rfl,n5 (e:= .var 10) (e':=e1) (v3.trans uG.symm) (fun V=> .tup [.au,iX 11 V]) fun _ _=>rfl,rfl⟩
  |1=>(injection e with e1;subst e1);exact⟨_,hl 1 _ rfl,n5 (e:= .var 2) (e':=e2) (v2.trans DJ.symm) (fun V=> .tup [.au,iX 9 V]) fun _ _=>rfl,rfl⟩
  |2=>(injection e with e1;subst e1);exact⟨_,hl 2 _ rfl,rfl,by kernel_rfl⟩
  |3=>(injection e with e1;subst e1);exact⟨_,hl 3 _ rfl,rfl,by kernel_rfl⟩
  |4=>(injection e with e1;subst e1);exact⟨_,hl 4 _ rfl,rfl,by kernel_rfl⟩
  |k+5=>exact absurd e (by simp[tT])
 refine iI (wD (fk.mp bp_ g mem)) fun l its q eq hq=> ?_
 have zb:zN b=(b:Int):=rfl
 have zn:zN n=(n:Int):=rfl
 have sb:je b=true:=by
  have:∀b<10,je b=true:=by decide
  exact this b hb
 refine mF B a1.nums (by lia) eq hq (by exact(by decide:1≤1000)) ⟨decide_eq_false (by show¬ρ1.i 10<0;lia),decide_eq_false (by show¬ρ1.i 10< -32768;lia),decide_eq_true (by show ρ1.i 10<32768;lia),iO (sJ (e:= .var 10) v3 sb) ⟨decide_eq_false (by show¬ρ1.i 2<0;lia),trivial⟩⟩ (f:=fW (ρ1.i 0) (zN (r1+5)) (lP n b 1)) (tB ρ1 (B0 hn ρ1)) (AS ρ1 _ _)
  (in1 v2.symm (in1 v3.symm (in1 rfl (in1 (sP i1).symm bS)))) fun ρ2 a2=> ?_
 have R2:c6 ρ2 L0 r0:=R1.to (by rw[a2.i];rfl) a2.d a2.r
 have i2:ρ2.i=fV ρ2 (lP n b 1):=by
  rw[←jE ρ2 (r1:=zN (r1+5)) (by rw[a2.i];rfl),a2.i];rfl
 refine wj R2 (Zm B a2.nums (by lia) i2 hb hn fun ρ3 ln a3 N=> ?_)
 refine next ρ3 _ ln ⟨a3.nums.mono (by lia),?_,(a3.d.trans a2.d).trans a1.d,?_,(a3.r.trans a2.r).trans a1.r⟩ (w3 ρ1 l its) N
 ·rw[a3.i,←jE ρ2 (r1:=zN (r1+5)) (by rw[a2.i];rfl),a2.i,a1.i];rfl
 ·rw[a3.g0,a2.g0,a1.g0,iM,mr];rfl
theorem XU(B:Base L.w L.s₁){m r1:Nat}{e1:IX}{a:Int}(M:Nums ρ m)(hm:m<300)(R:c6 ρ L0 r0)(h1:ρ.i 1=zN r1)(hl:∀(k:Nat)(st:SV),(tU (.tree e1 0))[k]? =some st→L0[r1+k]? =some (.tup [.au,st]))
  (k1:eH e1=true)(ea:e1.eval ρ=a)(ha:0≤a)(fe:a≤9999){g:Option (List SV)}(hg:g=none∨g=g4)
  (next:∀ρ' V ln,bR ρ ρ' (fW (ρ.i 0) (zN (r1+4)) []) (V::ln) (m+250)→kJ V→dg 66 dw kT (eI 4 a 0) ln→Go L ρ' (aB bw) hO J):Go L ρ (aB bw) (b9 [] [] [] g) (4+((if a=0 then 3 else 1+j9 4 a)+J)):=by
 have mem:g∈ [none,g4]:=by rcases hg with rfl|rfl<;>simp
 have bd:∀x∈ [a,0],-32768≤x∧x≤32767:=in1 (by lia) (in1 (by lia) bS)
 refine wk B M (by lia) hg (l:=[a,0]) (mM ρ bd) fun ρ1 a1=> ?_
 have R1:c6 ρ1 L0 r0:=R.to (by rw[a1.i];rfl) a1.d a1.r
 have i1:ρ1.i 1=zN r1:=by rw[a1.i];exact h1
 have v2:ρ1.i 2=a:=by rw[a1.i];rfl
 have uG:e1.eval ρ1=a:=by rw[og a1.i a1.d k1,ea]
 refine qn R1 i1 (l:=tU (.tree (.var 2) 57)) (fun k st e=> ?_) ?_
 ·match k with
  |0=>(injection e with e1;subst e1);exact⟨_,hl 0 _ rfl,n5 (e:= .var 2) (e':=e1) (v2.trans uG.symm) (fun V=> .tup [.au,iX 9 V]) fun _ _=>rfl,rfl⟩
  |1=>(injection e with e1;subst e1);exact⟨_,hl 1 _ rfl,rfl,by kernel_rfl⟩
  |2=>(injection e with e1;subst e1);exact⟨_,hl 2 _ rfl,rfl,by kernel_rfl⟩
  |3=>(injection e with e1;subst e1);exact⟨_,hl 3 _ rfl,rfl,by kernel_rfl⟩
  |k+4=>exact absurd e (by simp[tU])
 refine iI (wD (fk.mp bt_ g mem)) fun l its q eq hq=> ?_
 refine mF B a1.nums (by lia) eq hq (by exact(by decide:1≤1000)) ⟨decide_eq_false (by show¬ρ1.i 2<0;lia),trivial⟩ (f:=fW (ρ1.i 0) (zN (r1+4)) [a,0]) (tB ρ1 (mM ρ1 bd)) (AS ρ1 _ _)
  (in1 v2.symm (in1 rfl (in1 (sP i1).symm bS))) fun ρ2 a2=> ?_
 have R2:c6 ρ2 L0 r0:=R1.to (by rw[a2.i];rfl) a2.d a2.r
 have i2:ρ2.i=fV ρ2 [a,0]:=by
  rw[←jE ρ2 (r1:=zN (r1+4)) (by rw[a2.i];rfl),a2.i];rfl
 refine wj R2 (ZI B a2.nums (by lia) i2 ha fe fun ρ3 ln a3 N=> ?_)
 refine next ρ3 _ ln ⟨a3.nums.mono (by lia),?_,(a3.d.trans a2.d).trans a1.d,?_,(a3.r.trans a2.r).trans a1.r⟩ (w3 ρ1 l its) N
 ·rw[a3.i,←jE ρ2 (r1:=zN (r1+4)) (by rw[a2.i];rfl),a2.i,a1.i];rfl
 ·rw[a3.g0,a2.g0,a1.g0,iM,mr];rfl
theorem JD{v:Nat}(h: -32768<ρ.i v):∃b,cY ρ (Em v b)∧(Eo v b).2.eval ρ=ρ.i v:=by
 by_cases z:0≤ρ.i v
 ·exact⟨true,⟨decide_eq_false (by show¬ρ.i v<0;lia),trivial⟩,rfl⟩
 ·exact⟨false,⟨decide_eq_true (by show 0-ρ.i v<32768;lia),decide_eq_true (by show ρ.i v<0;lia),trivial⟩,by show 0-(0-ρ.i v)=ρ.i v;lia⟩
theorem Jf{f:Nat→Int}(h:∀i,f (3+i)=ρ.i (3+i)):∀p∈D4 n,p.1.eval {ρ with i:=f}=p.2.eval ρ:=fun p m=>by
 refine ak (bz.mp m) fun i _ af=> ?_;subst af
 exact h i
theorem V8{P:IX×IX→Prop}{l m:aR}(h1:∀p∈l,P p)(h2:∀p∈m,P p):∀p∈app l m,P p:=fun p q=>by
 rw[dC] at q
 exact(bj.mp q).elim (h1 p) (h2 p)
theorem SN{g:Option (List SV)}(hi:i<4)(hg:g=gI i∨(i=0∧(g=none∨g=g4)))(b:Bool):(g,i,b)∈tabI:=by
 have m:∀k,k<5→∀b,∀q,tabI[2*k]? =some (q,k-1,true)→tabI[2*k+1]? =some (q,k-1,false)→(q,k-1,b)∈tabI:=fun k _ b q h1 h2=>by
  induction b with
  |true=>exact cf h1
  |false=>exact cf h2
 have h:i=0∨i=1∨i=2∨i=3:=by lia
 rcases h with e|e|e|e<;>subst e
 ·rcases hg.elim (fun e=> .inr e) fun z=>z.2 with e|e<;>subst e
  ·exact m 0 (by decide) b _ rfl rfl
  ·exact m 1 (by decide) b _ rfl rfl
 ·rw[hg.resolve_right fun z=>absurd z.1 (by decide)];exact m 2 (by decide) b _ rfl rfl
 ·rw[hg.resolve_right fun z=>absurd z.1 (by decide)];exact m 3 (by decide) b _ rfl rfl
 ·rw[hg.resolve_right fun z=>absurd z.1 (by decide)];exact m 4 (by decide) b _ rfl rfl
theorem XM(B:Base L.w L.s₁){m r1:Nat}{e:IX}(M:Nums ρ m)(hm:m<800)(R:c6 ρ L0 r0)(h1:ρ.i=fW (zN r0) (zN r1) (key::x))(hi:i<4)
  (hl:L0[r1]? =some (.tup [.au,jL i (.tree e 0)]))(he:e.eval ρ=aA x i)(b:gR (key::x))(bs: -32768<aA x i){g:Option (List SV)}(hg:g=gI i∨(i=0∧(g=none∨g=g4)))
  (next:∀ρ',bR ρ ρ' (fW (zN r0) (zN (r1+1)) (key::x)) [] (m+1)→Go L ρ' (aB bw) (b9 [] [] [] (gI (i+1))) J):Go L ρ (aB bw) (b9 [] [] [] g) (1+J):=by
 have i0:ρ.i 0=zN r0:=by rw[h1];rfl
 have i1:ρ.i 1=zN r1:=by rw[h1];rfl
 have hV:ρ.i=fV ρ (key::x):=by rw[←jE ρ i1,i0];exact h1
 have vi:ρ.i (3+i)=aA x i:=by rw[hV,kh]
 obtain⟨sg,c1,c2⟩:=JD (ρ:=ρ) (v:=3+i) (by rw[vi];exact bs)
 refine qn R i1 (l:=[jL i (.tree (.var (3+i)) (yW sg))]) (fun k st e'=> ?_) ?_
 ·match k with
  |0=>(injection e' with e1;subst e1);exact⟨_,hl,n5 (e:= .var (3+i)) (e':=e) (vi.trans he.symm) (fun V=> .tup [.au,jL i V]) fun _ _=>rfl,rfl⟩
  |k+1=>exact absurd e' (by simp)
 refine ak (mH (fk.mp bi_ _ (SN hi hg sg))) fun q eq hq=> ?_
 have kp:∀v∈ [0],fW (zN r0) (zN (r1+1)) (key::x) v=ρ.i v:=in1 i0.symm bS
 have fi:∀q,fW (zN r0) (zN (r1+1)) (key::x) (3+q)=ρ.i (3+q):=fun q=>by rw[BQ ρ _ _ _ _ (by lia),←hV]
 exact mF B M (by lia) eq hq (fu _) c1 (f:=fW (zN r0) (zN (r1+1)) (key::x)) (tB ρ (mM ρ b)) kp
  (in1 (sP i1).symm (V8 (Jf fi) (in1 ((fi i).trans c2.symm) bS))) fun ρ' a=>next ρ' a
theorem Jy(B:Base L.w L.s₁){es:List IX}(b:gR (key::x))(bs:∀y∈key::x,-32768<y)(hx:x.length=es.length)(h4:es.length≤4)(ok:∀e∈es,eH e=true):
  ∀(d i:Nat){ρ:Val}{m r1:Nat},i+d=es.length→Nums ρ m→m+d<800→c6 ρ L0 r0→ρ.i=fW (zN r0) (zN r1) (key::x)→(∀(q:Nat)e,es[q]? =some e→i≤q→L0[r1+(q-i)]? =some (.tup [.au,jL q (.tree e 0)]))→(∀(q:Nat)e,es[q]? =some e→e.eval ρ=aA x q)→
  ∀{g:Option (List SV)},(g=gI i∨(i=0∧0<d∧(g=none∨g=g4)))→(∀ρ',bR ρ ρ' (fW (zN r0) (zN (r1+d)) (key::x)) [] (m+d)→Go L ρ' (aB bw) (b9 [] [] [] (gI es.length)) J)→Go L ρ (aB bw) (b9 [] [] [] g) (d+J)
 |0,i,ρ,m,r1,hi,M,hm,R,h1,hl,he,g,hg,next=>by
  rw[cZ]
  have:g=gI es.length:=by
   rcases hg with rfl|⟨_,z,_⟩
   ·rw[←hi];rfl
   ·lia
  rw[this]
  exact next ρ ⟨M,h1,rfl,(iM _).symm,rfl⟩
 |d+1,i,ρ,m,r1,hi,M,hm,R,h1,hl,he,g,hg,next=>by
  have lt:i<es.length:=by lia
  have ei:es[i]? =some es[i]:=cA lt
  rw[show d+1+J=1+(d+J) by lia]
  have rB:=hl i _ ei (bb _)
  rw[vB] at rB
  have ms: -32768<aA x i:=by
   unfold aA
   rw[cA (by lia:i<x.length)]
   exact bs _ (.tail _ (nR _))
  refine XM B M (by lia) R h1 (by lia) rB (he i _ ei) b ms (hg.imp id fun z=>⟨z.1,z.2.2⟩) fun ρ1 a1=> ?_
  have R1:c6 ρ1 L0 r0:=R.to (by rw[a1.i,h1];rfl) a1.d a1.r
  refine Jy B b bs hx h4 ok d (i+1) (by lia) a1.nums (by lia) R1 a1.i (fun q e hq hle=> ?_) (fun q e hq=> ?_) (.inl rfl) fun ρ2 a2=> ?_
  ·have:=hl q e hq (by lia)
   rwa [show r1+(q-i)=r1+1+(q-(i+1)) by lia] at this
  ·rw[jr (ρ:=ρ) (by rw[a1.i,h1];rfl) a1.d (ok e (cf hq))];exact he q e hq
  ·have a3:=a1.trans a2
   exact next ρ2 ⟨a3.nums.mono (by lia),by rw[a3.i,show r1+1+d=r1+(d+1) by lia],a3.d,a3.g0,a3.r⟩
theorem SK(h1:1≤n)(h4:n≤4)(b:Bool):(n,b)∈Dc:=by
 have h:n=1∨n=2∨n=3∨n=4:=by lia
 rcases h with rfl|rfl|rfl|rfl<;>induction b<;>decide
theorem XJ(B:Base L.w L.s₁){m r1:Nat}{es:List IX}{ek:IX}(M:Nums ρ m)(hm:m<300)(R:c6 ρ L0 r0)(h1:ρ.i 1=zN r1)(DX:1≤es.length)(DY:es.length≤4)
  (hl:∀(q:Nat)e,es[q]? =some e→L0[r1+q]? =some (.tup [.au,jL q (.tree e 0)]))(yL:∀(k:Nat)(st:SV),(oz es.length (.tree ek 0))[k]? =some st→L0[r1+es.length+k]? =some (.tup [.au,st]))
  (ok:∀e∈es,eH e=true)(u3:eH ek=true)(hx:x=es.map (IX.eval ρ))(hk:ek.eval ρ=key)(b:gR (key::x))(bs:∀y∈key::x,-32768<y){g:Option (List SV)}(hg:g=none∨g=g4)
  (next:∀ρ' V l1 l2,bR ρ ρ' (fW (ρ.i 0) (zN (r1+es.length+4)) []) (V::(l1++l2)) (m+250)→kJ V→ed NZ (ig es.length (bo es.length).length 0 x) l1→ed (NK (gd es.length (bo es.length).length 0 x)) (f9 (gd es.length (bo es.length).length 0 x) key 6 0 es.length) l2→Go L ρ' (aB bw) hO J):
  Go L ρ (aB bw) (b9 [] [] [] g) (es.length+(4+(2+(ka es.length (bo es.length).length 0 x+(3+(js (gd es.length (bo es.length).length 0 x) key 6 0 es.length+J)))))):=by
 have xl:x.length=es.length:=by rw[hx,aT]
 have hea:∀(q:Nat)e,es[q]? =some e→e.eval ρ=aA x q:=fun q e hq=>by unfold aA;rw[hx,b0,hq];rfl
 refine wk B M (by lia) hg (l:=key::x) (mM ρ b) fun ρ1 a1=> ?_
 have R1:c6 ρ1 L0 r0:=R.to (by rw[a1.i];rfl) a1.d a1.r
 have i1:ρ1.i=fW (zN r0) (zN r1) (key::x):=by rw[a1.i,←R.i];exact(jE ρ h1 _).symm
 refine Jy B b bs xl DY ok es.length 0 (cZ _) a1.nums (by lia) R1 i1 (fun q e hq _=>hl q e hq) (fun q e hq=> ?_) (.inr ⟨rfl,DX,hg⟩) fun ρ2 a2=> ?_
 ·rw[og a1.i a1.d (ok e (cf hq))];exact hea q e hq
 have R2:c6 ρ2 L0 r0:=R1.to (by rw[a2.i,i1];rfl) a2.d a2.r
 have j1:ρ2.i 1=zN (r1+es.length):=by rw[a2.i];rfl
 have v2:ρ2.i 2=key:=by rw[a2.i];rfl
 have ek2:ek.eval ρ2=key:=by rw[jr (ρ:=ρ1) (by rw[a2.i,i1];rfl) a2.d u3,og a1.i a1.d u3,hk]
 obtain⟨sg,c1,c2⟩:=JD (ρ:=ρ2) (v:=2) (by rw[v2];exact bs _ (.head _))
 refine qn R2 j1 (l:=oz es.length (.tree (.var 2) (yW sg))) (fun k st e=> ?_) ?_
 ·match k with
  |0=>(injection e with e1;subst e1);exact⟨_,yL 0 _ rfl,rfl,rfl⟩
  |1=>(injection e with e1;subst e1);exact⟨_,yL 1 _ rfl,n5 (e:= .var 2) (e':=ek) (v2.trans ek2.symm) (fun V=> .tup [.au,iX 20 V]) fun _ _=>rfl,rfl⟩
  |2=>(injection e with e1;subst e1);exact⟨_,yL 2 _ rfl,rfl,rfl⟩
  |3=>(injection e with e1;subst e1);exact⟨_,yL 3 _ rfl,rfl,rfl⟩
  |k+4=>exact absurd e (by simp[oz])
 refine iI (wD (fk.mp bk_ _ (SK DX DY sg))) fun l its q eq hq=> ?_
 have hV:ρ2.i=fV ρ2 (key::x):=by rw[←jE ρ2 j1,R2.i];exact a2.i
 have fi:∀q,fW (zN r0) (zN (r1+es.length+4)) (key::x) (3+q)=ρ2.i (3+q):=fun q=>by rw[BQ ρ2 _ _ _ _ (by lia),←hV]
 refine mF B a2.nums (by lia) eq hq (by exact(by decide:1≤1000)) c1 (f:=fW (zN r0) (zN (r1+es.length+4)) (key::x)) (tB ρ2 (mM ρ2 b)) (in1 R2.i.symm bS)
  (in1 (v2.symm.trans c2.symm) (in1 (sP j1).symm (Jf fi))) fun ρ3 a3=> ?_
 have R3:c6 ρ3 L0 r0:=R2.to (by rw[a3.i,R2.i];rfl) a3.d a3.r
 have k1:ρ3.i 1=zN (r1+es.length+4):=by rw[a3.i];rfl
 have i3:ρ3.i=fV ρ3 (key::x):=by rw[←jE ρ3 k1,R3.i];exact a3.i
 refine wj R3 (Zt B a3.nums (by lia) DX DY xl i3 b fun ρ4 l1 l2 a4 N1 N2=> ?_)
 refine next ρ4 _ l1 l2 ⟨a4.nums.mono (by lia),?_,((a4.d.trans a3.d).trans a2.d).trans a1.d,?_,((a4.r.trans a3.r).trans a2.r).trans a1.r⟩ (w3 ρ2 l its) N1 N2
 ·rw[a4.i,←jE ρ3 k1,R3.i,R.i]
 ·rw[a4.g0,a3.g0,a2.g0,a1.g0,iM,iM,mr];rfl
end
end
section
section
end
noncomputable section
noncomputable def D8:MS→CI:=fun s=>match s with| .for _ it _ _=>(cM it).i|_=>fun _ _ _ _ _ _=>bad 0
noncomputable def fB(i:Nat):MS:=match aS rk i with|some s=>s|none=> .raw (.Pass ⟨0,0,0,0⟩)
noncomputable def GO(it:IT):Bool:=match it with| .items l=>ag l.length 400|_=>false
noncomputable def CN(L:SV):Res:=cS (fB 0) aG jQ 300 [(280,L),(87,.lit (zN 4))] [] (fun env h=>cS (fB 1) aG jQ 300 env h (fun env h=>D8 (fB 2) aG jQ 300 env h fun it h=>cond (GO it) (eJ env h) (bad 0)) cL) cL
end
end
section
noncomputable section
noncomputable def dr(sp m:Nat):IX:= .f2 0 (.lit (zN sp)) (.lit (zN m))
noncomputable def tr(e:IX):SV:= .tree e 0
noncomputable def Nx(sp i:Nat):IX:= .sub (dr (sp+1+i) 30) (.lit (zN 10))
noncomputable def oM(sp n:Nat):IX:= .sub (dr (sp+1+n) 34) (.lit (zN 12))
noncomputable def i8(sp n:Nat):List IX:=(aI n).map (Nx sp)
noncomputable def ue(es:List IX):List SV:=List.rec (motive:=fun _=>Nat→List SV) (fun _=>[]) (fun e _ ih i=>jL i (tr e)::ih (i+1)) es 0
noncomputable def cK(f sp:Nat):List SV:=match f with
 |0=>tS (tr (dr sp 61)) (tr (dr (sp+1) 61))
 |1=>tT (tr (dr sp 10)) (tr (dr (sp+1) 8))
 |2=>tU (tr (dr sp 10000))
 |n+3=>app (ue (i8 sp (n+1))) (oz (n+1) (tr (oM sp (n+1))))
noncomputable def cU(f:Nat):Nat:=match f with
 |0=>4
 |1=>4
 |2=>3
 |n+3=>n+5
noncomputable def ln(k:Nat)(l:List SV):SV:= .tup [.lit (zN k),.ar l]
noncomputable def Ej(a:SV)(b c:List SV):SV:= .tup [.str 52,a,.ar b,.ar c]
noncomputable def Wx:List SV:=[
 ln 100 [.tup [.str 50,t2 43 (tN 7) (tW 0)],d6 64,c7 8 (t2 40 (tN 6) (tN 7))],ln 110 [c7 6 (tN 7),c7 7 (tN 8),.tup [.str 51],d6 64,.tup [.str 58,.none]],
 ln 200 [.tup [.str 50,t2 45 (tN 9) (tW 0)],d6 65],ln 210 [Ej (t2 42 (t2 40 (tN 9) (tW 2)) (tW 1)) [c7 12 (t2 37 (tN 12) (tN 11))] []],ln 220 [c7 11 (t2 37 (tN 11) (tN 11)),c7 9 (t2 39 (tN 9) (tW 2)),.tup [.str 51]],ln 230 [d6 65,.tup [.str 58,.none]],
 ln 300 [.tup [.str 50,t2 45 (tN 9) (tW 0)],d6 66,c7 10 (t2 35 (t2 37 (tN 10) (tW 10)) (t2 40 (tN 9) (tW 10)))],ln 310 [c7 9 (t2 39 (tN 9) (tW 10)),.tup [.str 51],d6 66,.tup [.str 58,.none]],
 ln 400 [.tup [.str 55,.str 14,tW 1,t2 36 (tN 16) (tW 1),.none]],ln 410 [.tup [.str 55,.str 15,tW 0,t2 36 (t2 36 (tN 16) (tW 1)) (tN 14),.none]],
 ln 420 [Ej (t2 45 (tI (tN 15)) (tI (t2 35 (tN 15) (tW 1)))) [.tup [.str 61,tI (tN 15),tI (t2 35 (tN 15) (tW 1))],d6 61] []],ln 430 [.tup [.str 56,.ar [.str 15,.str 14]],.tup [.str 57,.lit (zN 500)],.tup [.str 58,.none]],
 ln 500 [c7 17 (tW 0),c7 18 (tN 16),.tup [.str 50,t2 44 (tN 17) (tN 18)],d6 67],ln 510 [c7 19 (t2 39 (t2 35 (tN 17) (tN 18)) (tW 2))],ln 520 [Ej (t2 44 (tI (tN 19)) (tN 20)) [c7 17 (t2 35 (tN 19) (tW 1))] [c7 18 (tN 19)]],ln 530 [.tup [.str 51],d6 67,.tup [.str 58,.none]]]
noncomputable def j6(f1 f2:Nat):SV:= .ar (ln 10 (cK f1 2)::ln 30 (cK f2 (cU f1))::ln 90 [.tup [.str 62]]::Wx)
noncomputable def eC(f1 f2:Nat):List SV:=app (fH (fun st=>SV.tup [.au,st]) (app (cK f1 2) (app (cK f2 (cU f1)) [.tup [.str 62]]))) (fH (fun st=>SV.tup [.au,st]) mO)
noncomputable def gv(f1 f2:Nat):Nat:=len (cK f1 2)+len (cK f2 (cU f1))+1
noncomputable def fh(r a b:Nat):IX×Int×SV:=(ix a,zN (r+a),bk b)
noncomputable def yM(r:Nat):Hp:=[
 .ins 4 (app [(201,.ref 1),(146,.ref 2),(95,.lit (zN 16)),(86,.lit (zN 9)),(127,.ref 3),(345,.ref 4)] (fX [255])),
 .ins 3 (app [(95,.lit (zN 16)),(86,.lit (zN 9)),(217,.lit (zN 100)),(188,.ref 5),(324,.ref 6),(77,.ref 7),(329,.ref 8),(196,.lit (zN 0))] (fX [215,216,316,325,169,326,327,328,314,265,330,331,332,333,334,335,336,337,338,339])),
 .ins 1 (app [(277,.ref 9),(260,.ref 10),(291,.ref 11),(315,.ref 12)] (fX [314,316])),
 .ins 0 (app [(129,.ref 13),(126,.lit (zN 20))] (fX [312])),
 .fb 1 [],.cb (NO []),.cb [],.cb [],.cb [],
 .iF [],.cz false H8,.cz false [fh r 0 5,fh r 5 0,fh r 8 14,fh r 14 8,fh r 17 21,fh r 21 17,fh r 34 41,fh r 41 34],.cz false [(ix 24,zN (r+24),.tup [bk 29,.lit (zN 1)]),(ix 25,zN (r+25),.tup [bk 29,.lit (zN 0)])],.lst [],.fb 0 []]
noncomputable def pb(r:Nat):IX→Option Int
 | .lit n=>some n
 | .var i=>cond (ag i 0) (some (zN r)) (cond (ag i 1) (some 0) none)
 | .add a b=>(match pb r a with|some m=>(match pb r b with|some n=>some (iQ m n)|none=>none)|none=>none)
 |_=>none
noncomputable def eqB(r:Nat)(p:IX×IX):Bool:=match pb r p.1 with
 |some m=>(match pb r p.2 with|some n=>bV m n|none=>false)
 |none=>bW p.1 p.2
noncomputable def B6(r:Nat)(π:List Nat)(h:Hp)(V V':SV):Bool:=ah (match dY π h 20 V V' with|some e=>j2 e (eqB r)|none=>false) (md 12 V')
noncomputable def B7(r:Nat)(π:List Nat)(h:Hp):List SV→List SV→Bool
 | [],[]=>true
 |V::l,V'::l'=>ah (B6 r π h V V') (B7 r π h l l')
 |_,_=>false
noncomputable def Ke(p q r:Nat×Option Nat×List SV):Bool:=ah (ah (ag p.1 1) (oy p.2.1)) (ah (ah (ag q.1 1000) (oy q.2.1)) (ah (ah (ag r.1 0) (oy r.2.1)) (ah (ag (len p.2.2) 0) (ag (len r.2.2) 0))))
noncomputable def Lk(g:d7):Option (List SV):=DL g fun p q r=>cond (Ke p q r) (some q.2.2) none
noncomputable def LQ(f1 f2:Nat)(env:En)(h:Hp):Bool:=match hW (g5 env h false) env h (aB bw) (yM (gv f1 f2)) with
 |some r=>ah (j2 r.1 (eqB (gv f1 f2))) (match Lk r.2 with|some rows=>B7 (gv f1 f2) (g5 env h false) h rows (eC f1 f2)|none=>false)
 |none=>false
noncomputable def ku(f1 f2:Nat):Bool:=match CN (j6 f1 f2) with
 | .ok cs f _ env h=>ah (ah (match cs with| []=>true|_::_=>false) (ag f 7)) (LQ f1 f2 env h)
 | .bad _=>false
end
end
section
noncomputable section
noncomputable abbrev dQ:=Int→Int→Int
noncomputable def dA(d:dQ)(sp m:Nat):Int:=d (zN sp) (zN m)
noncomputable def f7(d:dQ)(sp n:Nat):List Int:=(aI n).map fun i=>dA d (sp+1+i) 30-10
noncomputable def iq(d:dQ)(sp n:Nat):Int:=dA d (sp+1+n) 34-12
noncomputable def gQ(d:dQ)(sp n:Nat):List Int:=gd n (bo n).length 0 (f7 d sp n)
noncomputable def FN(d:dQ)(f sp:Nat)(l:List SV):Prop:=match f with
 |0=>∃V ln,l=V::ln∧kJ V∧dg 64 dw jd (g9 61 (dA d sp 61) (dA d (sp+1) 61)) ln
 |1=>∃V ln,l=V::ln∧kJ V∧dg 65 dw kP (fK 4 (dA d (sp+1) 8).toNat (dA d sp 10).toNat 1) ln
 |2=>∃V ln,l=V::ln∧kJ V∧dg 66 dw kT (eI 4 (dA d sp 10000) 0) ln
 |n+3=>∃V l1 l2,l=V::(l1++l2)∧kJ V∧ed NZ (ig (n+1) (bo (n+1)).length 0 (f7 d sp (n+1))) l1∧ed (NK (gQ d sp (n+1))) (f9 (gQ d sp (n+1)) (iq d sp (n+1)) 6 0 (n+1)) l2
noncomputable def TF(d:dQ)(f sp:Nat):Nat:=match f with
 |0=>4+(if dA d (sp+1) 61=0 then 3 else 1+lD 61 (dA d sp 61) (dA d (sp+1) 61))
 |1=>5+(if(dA d (sp+1) 8).toNat=0 then 3 else 1+lF 4 (dA d (sp+1) 8).toNat)
 |2=>4+(if dA d sp 10000=0 then 3 else 1+j9 4 (dA d sp 10000))
 |n+3=>(n+1)+(4+(2+(ka (n+1) (bo (n+1)).length 0 (f7 d sp (n+1))+(3+js (gQ d sp (n+1)) (iq d sp (n+1)) 6 0 (n+1)))))
noncomputable def Draws(d:dQ):Prop:=∀i m:Nat,0<m→0≤dA d i m∧dA d i m<(m:Int)
theorem Ua{es:List IX}{q:Nat}{e:IX}(h:es[q]? =some e):(ue es)[q]? =some (jL q (tr e)):=by
 have g:∀(es:List IX)(o q:Nat),es[q]? =some e→(List.rec (motive:=fun _=>Nat→List SV) (fun _=>[]) (fun e _ ih i=>jL i (tr e)::ih (i+1)) es o:List SV)[q]? =some (jL (o+q) (tr e)):=by
  intro es
  induction es with
  |nil=>intro o q h;simp at h
  |cons a es ih=>
   intro o q h
   induction q using Nat.casesAuxOn with
   |zero=>(injection h with e1;subst e1);rfl
   |succ q=>
    have:=ih (o+1) q h
    rw[show o+1+q=o+(q+1) by lia] at this
    exact this
 have:=g es 0 q h
 rwa [cZ] at this
theorem sx(es:List IX):(ue es).length=es.length:=by
 have g:∀(es:List IX)(o:Nat),(List.rec (motive:=fun _=>Nat→List SV) (fun _=>[]) (fun e _ ih i=>jL i (tr e)::ih (i+1)) es o:List SV).length=es.length:=by
  intro es
  induction es with
  |nil=>intro o;rfl
  |cons a es ih=>intro o;exact congrArg (·+1) (ih (o+1))
 exact g es 0
variable{L:Lp}
theorem W6(B:Base L.w L.s₁){m r1:Nat}(M:Nums ρ m)(hm:m<300)(R:c6 ρ L0 r0)(h1:ρ.i 1=zN r1)(hf:n+3≤6)(hl:∀(k:Nat)(st:SV),(cK (n+3) sp)[k]? =some st→L0[r1+k]? =some (.tup [.au,st]))(hd:Draws ρ.d)
  {g:Option (List SV)}(hg:g=none∨g=g4)(next:∀ρ' l,bR ρ ρ' (fW (ρ.i 0) (zN (r1+len (cK (n+3) sp))) []) l (m+250)→FN ρ.d (n+3) sp l→Go L ρ' (aB bw) hO J):Go L ρ (aB bw) (b9 [] [] [] g) (TF ρ.d (n+3) sp+J):=by
 have le:(i8 sp (n+1)).length=n+1:=by unfold i8;rw[aT,dZ]
 have ex:f7 ρ.d sp (n+1)=(i8 sp (n+1)).map (IX.eval ρ):=by
  unfold f7 i8;rw[iN];rfl
 have bd:∀y∈iq ρ.d sp (n+1)::f7 ρ.d sp (n+1),-32768<y∧y≤32767:=fun y my=>by
  rcases aE.mp my with rfl|my
  ·have:=hd (sp+1+(n+1)) 34 (by decide)
   unfold iq;lia
  ·refine ak (bz.mp my) fun i _ af=> ?_;subst af
   have:=hd (sp+1+i) 30 (by decide)
   lia
 have hlen:len (cK (n+3) sp)=n+1+4:=by
  show len (app (ue (i8 sp (n+1))) (oz (n+1) (tr (oM sp (n+1)))))=_
  rw[dC,len_eq,cH,sx,le];rfl
 have hb:cK (n+3) sp=ue (i8 sp (n+1))++oz (n+1) (tr (oM sp (n+1))):=dC _ _
 have key:=XJ B M hm R h1 (es:=i8 sp (n+1)) (ek:=oM sp (n+1)) (key:=iq ρ.d sp (n+1)) (x:=f7 ρ.d sp (n+1)) (by lia) (by lia) (fun q e hq=>hl q _ (by
   rw[hb,iJ (by rw[sx];exact(dM.mp hq).1)];exact Ua hq)) (fun k st e=>by
   rw[le] at e⊢
   rw[gB]
   refine hl (n+1+k) st ?_
   rw[hb,jU (by rw[sx,le];lia),sx,le,rR];exact e) (fun e me=>by
   obtain⟨i,_,rfl⟩:=bz.mp me;rfl) rfl ex rfl (fun y my=>⟨g7 (bd y my).1,(bd y my).2⟩) (fun y my=>(bd y my).1) hg (J:=J) (fun ρ' V l1 l2 a b N1 N2=>next ρ' _ (by
   rw[le] at a
   rw[hlen,←gB];exact a) ⟨V,l1,l2,rfl,b,by rw[le] at N1;exact N1,by rw[le] at N2;exact N2⟩)
 rw[le] at key
 have e2:TF ρ.d (n+3) sp+J=n+1+(4+(2+(ka (n+1) (bo (n+1)).length 0 (f7 ρ.d sp (n+1))+(3+(js (gQ ρ.d sp (n+1)) (iq ρ.d sp (n+1)) 6 0 (n+1)+J))))):=by
  unfold TF
  simp only[gB]
 rw[e2]
 exact key
theorem HL(B:Base L.w L.s₁){m r1:Nat}(M:Nums ρ m)(hm:m<300)(R:c6 ρ L0 r0)(h1:ρ.i 1=zN r1)(hf:f≤6)(hl:∀(k:Nat)(st:SV),(cK f sp)[k]? =some st→L0[r1+k]? =some (.tup [.au,st]))(hd:Draws ρ.d)
  {g:Option (List SV)}(hg:g=none∨g=g4)(next:∀ρ' l,bR ρ ρ' (fW (ρ.i 0) (zN (r1+len (cK f sp))) []) l (m+250)→FN ρ.d f sp l→Go L ρ' (aB bw) hO J):Go L ρ (aB bw) (b9 [] [] [] g) (TF ρ.d f sp+J):=by
 have ev:∀i k,(dr i k).eval ρ=dA ρ.d i k:=fun _ _=>rfl
 match f,hf with
 |0,_=>
  refine ai (hd sp 61 (by decide)) fun a1 a2=> ?_
  refine ai (hd (sp+1) 61 (by decide)) fun b1 b2=> ?_
  unfold TF
  rw[gB]
  exact W2 B M hm R h1 hl rfl rfl (ev _ _) (ev _ _) a1 (by lia) b1 (by lia) hg fun ρ' V ln a b N=>next ρ' _ a ⟨V,ln,rfl,b,N⟩
 |1,_=>
  refine ai (hd sp 10 (by decide)) fun a1 a2=> ?_
  refine ai (hd (sp+1) 8 (by decide)) fun b1 b2=> ?_
  unfold TF
  rw[gB]
  exact XE B M hm R h1 hl rfl rfl (b:=(dA ρ.d sp 10).toNat) (n:=(dA ρ.d (sp+1) 8).toNat) (by rw[ev];exact(jh a1).symm) (by rw[ev];exact(jh b1).symm) (by lia) (by lia) hg fun ρ' V ln a b N=>next ρ' _ a ⟨V,ln,rfl,b,N⟩
 |2,_=>
  refine ai (hd sp 10000 (by decide)) fun a1 a2=> ?_
  unfold TF
  rw[gB]
  exact XU B M hm R h1 hl rfl (ev _ _) a1 (by lia) hg fun ρ' V ln a b N=>next ρ' _ a ⟨V,ln,rfl,b,N⟩
 |n+3,hf=>exact W6 B M hm R h1 hf hl hd hg next
noncomputable def kB:SV:= .tup [.str 62]
theorem z0_:lY 1 (aB bw) (hB [kB] g4)= .ok [.eq (.add (.var 1) (.lit (zN 0))) (.var 1) true] 8 (.tup [.ref 14,.ref 13]) [] (hB [kB] g4):=by kernel_rfl
noncomputable def Ca(L:Lp)(ρ:Val)(v:Value)(s:Shared):Prop:=∃X ad,VR pw_sm0015_01 L.w aN ρ X ad s.heap v (.tup [.ref 14,.ref 13])∧Inv (aj L.w L.s₁ ρ F0) X ad (hB [kB] g4) s∧(∀b,Mt ad b→L.s₀.heap.objs.size≤b)∧(∀b o,L.s₀.heap.get? b=some o→s.heap.get? b=some o)∧L.s₀.heap.objs.size≤s.heap.objs.size∧∀a∈L.Y,a∈X
theorem VW(B:Base L.w L.s₁){r1:Nat}(R:c6 ρ L0 r0)(h1:ρ.i 1=zN r1)(hl:L0[r1]? =some (.tup [.au,kB]))(hR:∀v s,Ca L ρ v s→L.R (.ok (.ret v)) s):Go L ρ (aB bw) hO (1+J):=by
 refine qn R h1 (l:=[kB]) (g:=g4) (fun k st e=> ?_) fun s d=> ?_
 ·match k with
  |0=>(injection e with e1;subst e1);exact⟨_,hl,rfl,rfl⟩
  |k+1=>exact nomatch e
 refine gA d fun X ad d=> ?_
 let F':Nat→SV→En→Hp→Prop:=fun fl v e hh=>fl=8∧v= .tup [.ref 14,.ref 13]∧hh=hB [kB] g4
 have d:=d.toF (F':=F') rfl
 have C:ax (aj L.w L.s₁ ρ F'):=fP B
 have ok:(aj L.w L.s₁ ρ F').Ok (lY 1 (aB bw) (hB [kB] g4)):=by
  show Ok ρ F' (lY 1 (aB bw) (hB [kB] g4))
  rw[z0_]
  exact⟨⟨decide_eq_true (by show ρ.i 1+0=ρ.i 1;lia),trivial⟩,rfl,rfl,rfl⟩
 exact BC C (x:=282) (p:=L.p) Hg (Hx B) (R:=L.R) (k:=eJ) (kr:=cL) (j:=J)
  (fun{s i6 h3 X3 gU}d3 q3=>by
   have q:7=8∧_:=q3.2
   exact absurd q.1 (by decide))
  (fun{s v V h X ad}q r I nm kp sz ex=>by
   obtain⟨_,rfl,rfl⟩:8=8∧V= .tup [.ref 14,.ref 13]∧h=hB [kB] g4:=q.2
   exact hR v s ⟨X,ad,r,⟨I.base,I.len,I.fit,I.sep,I.bc,I.live,I.own,I.rest⟩,nm,kp,sz,ex⟩) d ok
end
end
section
noncomputable section
noncomputable def nN(wd:Nat)(kn:List (Nat×SV)):SV:= .tup [.str wd,.bu kn,.au]
noncomputable def nI(wd:Nat)(kn:List (Nat×SV))(x:List Int):SV:= .tup [.str wd,.bu kn,.ar (qP x)]
noncomputable def kS(p:Nat×Nat):List (Nat×SV):=[(17,.lit (zN p.1)),(18,.lit (zN p.2))]
noncomputable def NC(d:dQ)(f sp:Nat):List SV:=nN 63 []::(match f with
 |0=>(g9 61 (dA d sp 61) (dA d (sp+1) 61)).map fun p=>nN 64 (jd p)
 |1=>(fK 4 (dA d (sp+1) 8).toNat (dA d sp 10).toNat 1).map fun p=>nN 65 (kP p)
 |2=>(eI 4 (dA d sp 10000) 0).map fun p=>nN 66 (kT p)
 |n+3=>(ig (n+1) (bo (n+1)).length 0 (f7 d sp (n+1))).map (nI 61 [])++(f9 (gQ d sp (n+1)) (iq d sp (n+1)) 6 0 (n+1)).map fun p=>nI 67 (kS p) (gQ d sp (n+1)))
section
variable{h:Heap}
noncomputable abbrev cC(w:World)(ρ:Val)(X:List Addr)(ad:Ad)(h:Heap)(v:Value)(V:SV):Prop:=VR pw_sm0015_01 w aN ρ X ad h v V
theorem Ry{l:List (Nat×SV)}(hk:∀x U,look kn x=some U→look l x=some U)(r:cC w ρ X ad h v (.bu l)):cC w ρ X ad h v (.bu kn):=by
 obtain⟨_,_,_,_,h1,h2,h3,h4,h5,rfl⟩:=VR.qK r;exact .bu h1 h2 h3 (fun x V e u=>h4 x V (hk x V e) u) fun x V e=>h5 x V (hk x V e)
theorem vO{wd:Nat}{its:List SV}(hh:n6 wd kn its V)(r:cC w ρ X ad h v V):cC w ρ X ad h v (.tup [.str wd,.bu kn,.ar its]):=by
 refine ak hh fun l af hk=> ?_;subst af
 refine mJ (l:=[.str wd,.bu l,.ar its]) (l':=[.str wd,.bu kn,.ar its]) rfl r fun i V V' u e1 e2 ru=> ?_
 match i with
 |0=>(injection e1 with e1;subst e1);(injection e2 with e1;subst e1);exact ru
 |1=>(injection e1 with e1;subst e1);(injection e2 with e1;subst e1);exact Ry (fun x U e=>hk x U (mE e)) ru
 |2=>(injection e1 with e1;subst e1);(injection e2 with e1;subst e1);exact ru
 |i+3=>exact absurd e1 (by simp)
theorem Hl{a b c:SV}(r:cC w ρ X ad h v (.tup [a,b,c])):cC w ρ X ad h v (.tup [a,b,.au]):=
 mJ (l:=[a,b,c]) (l':=[a,b,.au]) rfl r fun i V V' u e1 e2 ru=>by
  match i with
  |0=>(injection e1 with e1;subst e1);(injection e2 with e1;subst e1);exact ru
  |1=>(injection e1 with e1;subst e1);(injection e2 with e1;subst e1);exact ru
  |2=>(injection e2 with e1;subst e1);exact .au u
  |i+3=>exact absurd e1 (by simp)
theorem vY(hh:kJ V)(r:cC w ρ X ad h v V):cC w ρ X ad h v (nN 63 []):=by
 refine gA hh fun l its af=> ?_;subst af
 exact Hl (vO (its:=its) ⟨l,rfl,fun x U m=>by exact(aP m).elim⟩ r)
theorem zZ{α:Type}{wd:Nat}{its:List SV}{kn:α→List (Nat×SV)}{l:List α}{r:List SV}(n:dg wd its kn l r):∀{vs:List Value},Paired (cC w ρ X ad h) vs r→Paired (cC w ρ X ad h) vs (l.map fun p=>nN wd (kn p)):=by
 induction n with
 |nil=>exact fun P=>p0 P .nil
 |cons a n ih=>exact fun P=>p1 P fun v us r P=> .cons (Hl (vO a r)) (ih P)
theorem E4{α:Type}{Q:α→SV→Prop}{g:α→SV}(hq:∀a V v,Q a V→cC w ρ X ad h v V→cC w ρ X ad h v (g a)){l:List α}{r:List SV}(n:ed Q l r):∀{vs:List Value},Paired (cC w ρ X ad h) vs r→Paired (cC w ρ X ad h) vs (l.map g):=by
 induction n with
 |nil=>exact fun P=>p0 P .nil
 |cons a n ih=>exact fun P=>p1 P fun v us r P=> .cons (hq _ _ _ a r) (ih P)
theorem Ay:∀{a b:List SV}{vs:List Value},Paired R vs (a++b)→∃v1 v2,vs=v1++v2∧Paired R v1 a∧Paired R v2 b
 | [],b,vs,P=>⟨[],vs,rfl,.nil,P⟩
 |V::a,b,vs,P=>p1 P fun v us r P=>by
  refine dK (Ay P) fun v1 v2 af h1 h2=> ?_;subst af
  exact⟨_::v1,v2,rfl,.cons r h1,h2⟩
theorem Hr{d:dQ}(n:FN d f sp l)(P:Paired (cC w ρ X ad h) vs l):Paired (cC w ρ X ad h) vs (NC d f sp):=by
 match f with
 |0=>
  refine dK n fun V ln af b N=> ?_;subst af
  exact p1 P fun _ _ r P=> .cons (vY b r) (zZ N P)
 |1=>
  refine dK n fun V ln af b N=> ?_;subst af
  exact p1 P fun _ _ r P=> .cons (vY b r) (zZ N P)
 |2=>
  refine dK n fun V ln af b N=> ?_;subst af
  exact p1 P fun _ _ r P=> .cons (vY b r) (zZ N P)
 |n'+3=>
  obtain⟨V,l1,l2,rfl,b,N1,N2⟩:=n
  exact p1 P fun _ _ r P=>by
   refine dK (Ay P) fun v1 v2 af h1 h2=> ?_;subst af
   exact .cons (vY b r) (Paired.append (E4 (g:=nI 61 []) (fun a V v q r=>vO q r) N1 h1) (E4 (g:=fun p=>nI 67 (kS p) (gQ d sp (n'+1))) (fun a V v q r=>vO q r) N2 h2))
end
theorem V5{L:Lp}{T:Nat}(next:Go L ρ env (b9 [] [] [] none) T):Go L ρ env (yM r) T:=fun s d=>next s (by
 obtain⟨X,ad,d⟩:=d
 have a:=d.at'
 have I:=a.inv
 have same:∀i,i≠11→i≠12→aS (b9 [] [] [] none) i=aS (yM r) i:=fun i hi hj=>by
  match i with
  |0=>rfl
  |1=>rfl
  |2=>rfl
  |3=>rfl
  |4=>rfl
  |5=>rfl
  |6=>rfl
  |7=>rfl
  |8=>rfl
  |9=>rfl
  |10=>rfl
  |11=>exact absurd rfl hi
  |12=>exact absurd rfl hj
  |i+13=>rfl
 have cz:∀{p:Addr×Addr}{l l':List (IX×Int×SV)},(∀q'∈l',∃q∈l,q.1=q'.1∧q.2.2=q'.2.2∧∀n,q'.1≠ .lit n)→(aj L.w L.s₁ ρ F0).OR X ad s.heap p (.cz false l)→(aj L.w L.s₁ ρ F0).OR X ad s.heap p (.cz false l'):=fun{p l l'}hq R=>by
  obtain⟨e1,aU,hd,h1,h2⟩:=R
  refine⟨e1,aU,hd,fun q' m=> ?_,fun z=>by exact nf z⟩
  refine Eu (hq q' m) fun q m0 e2 e3 e4=> ?_
  obtain⟨_,v,b1,b2⟩:=h1 q m0
  exact⟨fun n z=>absurd z (e4 n),v,by rw[←e2];exact b1,by rw[←e3];exact b2⟩
 refine⟨X,ad,⟨⟨a.ao,⟨I.base,I.len.trans rfl,fun i o e=> ?_,I.sep,I.bc,I.live,I.own,I.rest⟩,a.low,a.fr,a.sc⟩,d.uU,d.own,d.apart,d.mW,d.qN,d.ui,d.keep,d.size,d.ext⟩⟩
 by_cases z:i=11
 ·subst z
  have e:some (SO.cz false Ju)=some o:=e
  (injection e with e1;subst e1)
  refine ak (I.fit 11 (.cz false [fh r 0 5,fh r 5 0,fh r 8 14,fh r 14 8,fh r 17 21,fh r 21 17,fh r 34 41,fh r 41 34]) rfl) fun p hp R=> ?_
  refine⟨p,hp,cz (fun q' m=> ?_) R⟩
  have m:q'∈ [(0,5),(5,0),(8,14),(14,8),(17,21),(21,17),(34,41),(41,34)].map fun p:Nat×Nat=>pr p.1 p.2:=m
  refine ak (bz.mp m) fun ab ma af=> ?_;subst af
  exact⟨fh r ab.1 ab.2,(bz (f:=fun p:Nat×Nat=>fh r p.1 p.2)).mpr ⟨ab,ma,rfl⟩,rfl,rfl,fun n z=>by(exfalso;injection z)⟩
 ·by_cases y:i=12
  ·subst y
   have e:some (SO.cz false Jo)=some o:=e
   (injection e with e1;subst e1)
   refine ak (I.fit 12 (.cz false [(ix 24,zN (r+24),.tup [bk 29,.lit (zN 1)]),(ix 25,zN (r+25),.tup [bk 29,.lit (zN 0)])]) rfl) fun p hp R=> ?_
   refine⟨p,hp,cz (fun q' m=> ?_) R⟩
   rcases aE.mp m with rfl|m
   ·exact⟨_,.head _,rfl,rfl,fun n z=>by(exfalso;injection z)⟩
   rcases aE.mp m with rfl|m
   ·exact⟨_,.tail _ (.head _),rfl,rfl,fun n z=>by(exfalso;injection z)⟩
   ·exact(aP m).elim
  ·rw[same i z y] at e
   exact I.fit i o e)
theorem QB{f1 f2 k:Nat}{st:SV}(h:(cK f1 2)[k]? =some st):(eC f1 f2)[k]? =some (.tup [.au,st]):=by
 unfold eC
 rw[dC,dC,dC,iJ,b0,iJ,h]
 ·rfl
 ·exact(dM.mp h).1
 ·rw[aT,cH]
  have:=(dM.mp h).1
  lia
theorem QC{f1 f2 k:Nat}{st:SV}(h:(cK f2 (cU f1))[k]? =some st):(eC f1 f2)[len (cK f1 2)+k]? =some (.tup [.au,st]):=by
 have hl:=(dM.mp h).1
 unfold eC
 rw[dC,dC,dC,len_eq,iJ,b0,jU (by lia),rR,iJ hl,h]
 ·rfl
 ·rw[aT,cH,cH];lia
theorem QD{f1 f2:Nat}:(eC f1 f2)[len (cK f1 2)+len (cK f2 (cU f1))]? =some (.tup [.au,kB]):=by
 unfold eC
 rw[dC,dC,dC,len_eq,len_eq,iJ,b0,jU (by lia),rR,jU (by lia),vB]
 ·rfl
 ·rw[aT,cH,cH];simp
theorem QE{f1 f2 k:Nat}{st:SV}(h:mO[k]? =some st):(eC f1 f2)[gv f1 f2+k]? =some (.tup [.au,st]):=by
 unfold eC gv
 rw[dC,dC,dC,len_eq,len_eq,jU (by rw[aT,cH,cH];simp;lia),b0]
 have:(cK f1 2).length+(cK f2 (cU f1)).length+1+k-(fH (fun st=>SV.tup [.au,st]) (cK f1 2++(cK f2 (cU f1)++ [SV.tup [.str 62]]))).length=k:=by
  rw[aT,cH,cH];simp;lia
 rw[this,h];rfl
theorem V6{L:Lp}(B:Base L.w L.s₁){f1 f2:Nat}(hf1:f1≤6)(uK:f2≤6)(M:Nums ρ 0)(R:c6 ρ (eC f1 f2) (gv f1 f2))(h1:ρ.i 1=0)(hd:Draws ρ.d)(hT:TF ρ.d f1 2+TF ρ.d f2 (cU f1)+1≤400)(g0:ρ.g 0= [])
  (hR:∀ρ' v s l1 l2,Ca L ρ' v s→iw ρ'→ρ'.g 0=l1++l2→FN ρ.d f1 2 l1→FN ρ.d f2 (cU f1) l2→L.R (.ok (.ret v)) s):Go L ρ (aB bw) (b9 [] [] [] none) 400:=by
 obtain⟨J,hJ⟩:∃J,400=TF ρ.d f1 2+(TF ρ.d f2 (cU f1)+(1+J)):=⟨400-(TF ρ.d f1 2+TF ρ.d f2 (cU f1)+1),by lia⟩
 rw[hJ]
 refine HL B M (by decide) R (r1:=0) h1 hf1 (fun k st e=>by rw[cZ];exact QB e) hd (.inl rfl) fun ρ1 l1 a1 N1=> ?_
 have R1:c6 ρ1 (eC f1 f2) (gv f1 f2):=R.to (by rw[a1.i];rfl) a1.d a1.r
 have i1:ρ1.i 1=zN (0+len (cK f1 2)):=by rw[a1.i];rfl
 rw[cZ] at i1
 rw[←a1.d]
 refine HL B a1.nums (by decide) R1 i1 uK (fun k st e=>QC e) (by rw[a1.d];exact hd) (.inr rfl) fun ρ2 l2 a2 N2=> ?_
 have R2:c6 ρ2 (eC f1 f2) (gv f1 f2):=R1.to (by rw[a2.i];rfl) a2.d a2.r
 have i2:ρ2.i 1=zN (len (cK f1 2)+len (cK f2 (cU f1))):=by rw[a2.i];rfl
 rw[a1.d] at N2
 exact VW B R2 i2 QD fun v s z=>hR ρ2 v s l1 l2 z a2.nums.c (by rw[a2.g0,a1.g0,g0,OL]) N1 N2
end
end
section
noncomputable section
theorem XF:([0,1,2,3,4,5,6].all fun f=>ku 0 f)=true:=by kernel_rfl
theorem XG:([0,1,2,3,4,5,6].all fun f=>ku 1 f)=true:=by kernel_rfl
theorem XH:([0,1,2,3,4,5,6].all fun f=>ku 2 f)=true:=by kernel_rfl
theorem KJ:([0,1,2].all fun f=>ku 3 f&&ku 4 f)=true:=by kernel_rfl
theorem KN:([0,1,2].all fun f=>ku 5 f&&ku 6 f)=true:=by kernel_rfl
theorem Zo{f1 f2:Nat}(h1:f1≤6)(h2:f2≤6)(h:f1<3∨f2<3):ku f1 f2=true:=by
 have m2:f2∈ [0,1,2,3,4,5,6]:=by
  have:f2=0∨f2=1∨f2=2∨f2=3∨f2=4∨f2=5∨f2=6:=by lia
  rcases this with rfl|rfl|rfl|rfl|rfl|rfl|rfl<;>decide
 have m3:f2<3→f2∈ [0,1,2]:=fun z=>by
  have:f2=0∨f2=1∨f2=2:=by lia
  rcases this with rfl|rfl|rfl<;>decide
 have:f1=0∨f1=1∨f1=2∨f1=3∨f1=4∨f1=5∨f1=6:=by lia
 rcases this with rfl|rfl|rfl|rfl|rfl|rfl|rfl
 ·exact aM.mp XF _ m2
 ·exact aM.mp XG _ m2
 ·exact aM.mp XH _ m2
 ·exact(aQ (aM.mp KJ _ (m3 (by lia)))).1
 ·exact(aQ (aM.mp KJ _ (m3 (by lia)))).2
 ·exact(aQ (aM.mp KN _ (m3 (by lia)))).1
 ·exact(aQ (aM.mp KN _ (m3 (by lia)))).2
end
end
section
noncomputable section
noncomputable def V0(d:dQ)(f1 f2:Nat):SV:= .tup [.ar (NC d f1 2++NC d f2 (cU f1)),.ar []]
noncomputable def ud:ME:=match fB 2 with| .for _ it _ _=>it|_=> .absent
theorem Dj:(wS eO (fB 0) fU&&(wS eO (fB 1) fU&&(wM eO ud fU).i false))=true:=by kernel_rfl
theorem W5{s₁:Shared}(C:ax (aj w s₁ ρ F)){m:Nat}(Y:br (aj w s₁ ρ F) m cl):∃di p p2,cn aw (fB 2)= .For (.Name (aw 282) p) di t5 [] p2∧fL (aj w s₁ ρ F) m fU cl 300 (D8 (fB 2)) di (.Name (aw 282) p)∧∀e x,foldedSetIterable di e x=pure x:=by
 have z:fL (aj w s₁ ρ F) m fU cl 300 (cM ud).i (az aw ud) (az aw (.loc 282 ⟨805,8,805,12⟩)):=(sM C Y (by decide:300≤100000) ud fU).i (az aw (.loc 282 ⟨805,8,805,12⟩)) false (aQ (aQ Dj).2).2 (fun z=>by exact nf z)
 exact⟨az aw ud,_,_,rfl,@z,fun e x=>r9 (nm:=aw) rfl e x⟩
theorem XI:∃r,gk[98]? =some r∧r.b=rk∧r.sc=fU:=⟨_,rfl,rfl,rfl⟩
theorem YE:∃f,iB[98]? =some f∧f.ps= [280,87]:=⟨_,rfl,rfl⟩
noncomputable def BA(ρ:Val)(L0:List SV):List (IX×Int×SV):=L0.zipIdx.map fun p=>(.lit (zN p.2),zN p.2,bG ρ [] [] 12 p.1)
theorem wZ(h0:ρ.i 0=zN r)(h1:ρ.i 1=0):∀{e:IX}{m:Int},pb r e=some m→e.eval ρ=m
 | .lit n,m,h=>by cases h;rfl
 | .var i,m,h=>by
  have h:cond (ag i 0) (some (zN r)) (cond (ag i 1) (some 0) none)=some m:=h
  induction z:ag i 0 using Bool.casesOn with
  |true=>rw[z] at h;(injection h with e1;subst e1);rw[aZ z];exact h0
  |false=>
   rw[z] at h
   have h:cond (ag i 1) (some 0) none=some m:=h
   induction y:ag i 1 using Bool.casesOn with
   |true=>rw[y] at h;(injection h with e1;subst e1);rw[aZ y];exact h1
   |false=>rw[y] at h;(exfalso;injection h)
 | .add a b,m,h=>by
  have h:(match pb r a with|some m=>(match pb r b with|some n=>some (iQ m n)|none=>none)|none=>none)=some m:=h
  split at h
  ·rename_i x hx
   split at h
   ·rename_i y hy
    (injection h with e1;subst e1)
    show a.eval ρ+b.eval ρ=x+y
    rw[wZ h0 h1 hx,wZ h0 h1 hy]
   ·(exfalso;injection h)
  ·(exfalso;injection h)
 | .sub _ _,_,h=>by(exfalso;injection h)
 | .mul _ _,_,h=>by(exfalso;injection h)
 | .neg _,_,h=>by(exfalso;injection h)
 | .abs _,_,h=>by(exfalso;injection h)
 | .fdiv _ _,_,h=>by(exfalso;injection h)
 | .fmod _ _,_,h=>by(exfalso;injection h)
 | .pow _ _,_,h=>by(exfalso;injection h)
 | .f1 _ _,_,h=>by(exfalso;injection h)
 | .f2 _ _ _,_,h=>by(exfalso;injection h)
theorem VX(hi:ρ'.i=ρ.i)(hd:ρ'.d=ρ.d)(h0:ρ.i 0=zN r)(h1:ρ.i 1=0){p:IX×IX}(h:eqB r p=true):p.1.eval ρ'=p.2.eval ρ:=by
 rw[eval_congr hi hd]
 unfold eqB at h
 split at h
 ·rename_i m hm
  split at h
  ·rename_i n hn
   rw[wZ h0 h1 hm,wZ h0 h1 hn]
   exact of_decide_eq_true ((iT _ _).symm.trans h)
  ·exact nf h
 ·rw[cg h]
theorem wg(hi:ρ'.i=ρ.i)(hd:ρ'.d=ρ.d)(h0:ρ.i 0=zN r)(h1:ρ.i 1=0){e:aR}(h:j2 e (eqB r)=true):cy ρ' ρ e:=fun p m=>VX hi hd h0 h1 (aM.mp h p m)
theorem AB:∀{l l':List SV},B7 r π h l l'=true→∀(j:Nat)(V':SV),l'[j]? =some V'→∃V,aS l j=some V∧B6 r π h V V'=true
 | [],[],_,j,V',e=>by simp at e
 |V::l,U::l',hb,j,V',e=>by
  refine d1 hb fun h1 h2=> ?_
  induction j using Nat.casesAuxOn with
  |zero=>(injection e with e1;subst e1);exact⟨V,rfl,h1⟩
  |succ j=>exact AB h2 j V' e
 | [],_::_,hb,_,_,_=>by exact nf hb
 |_::_,[],hb,_,_,_=>by exact nf hb
theorem TL{g:d7}{rows:List SV}(h:Lk g=some rows):g= [(1,none,[]),(1000,none,rows),(0,none,[])]:=by
 refine iI (Jd h) fun p q r af y=> ?_;subst af
 induction z:Ke p q r using Bool.casesOn with
 |false=>rw[z] at y;exact nn y
 |true=>
  rw[z] at y
  injection y with h
  refine jR z fun z1 z2 z3 z4=> ?_
  rw[AV z1,AV z2,AV z3,h,len0 (bJ.mp z4).1,len0 (bJ.mp z4).2]
theorem Gn(hf:f≤6):(cK f sp).length≤8:=by
 match f,hf with
 |0,_=>exact(by decide:4≤8)
 |1,_=>exact(by decide:5≤8)
 |2,_=>exact(by decide:4≤8)
 |n+3,hf=>
  show(app _ _).length≤8
  rw[dC,cH,sx]
  unfold i8
  rw[aT,dZ]
  show n+1+4≤8;lia
theorem QF{f1 f2:Nat}(h1:f1≤6)(h2:f2≤6):(eC f1 f2).length<1000000:=by
 have a:=Gn (sp:=2) h1
 have b:=Gn (sp:=cU f1) h2
 have c:mO.length=44:=rfl
 unfold eC
 rw[dC,dC,dC,cH,aT,aT,cH,cH,c]
 simp only[cw,zF]
 lia
structure jx(ρ:Val)(f1 f2:Nat):Prop where
 i0:ρ.i 0=zN (gv f1 f2)
 i1:ρ.i 1=0
 ix:∀i,2≤i→ρ.i i=0
 g:∀g,ρ.g g= []
 r:ρ.r= []
 d:Draws ρ.d
 t:TF ρ.d f1 2+TF ρ.d f2 (cU f1)+1≤400
 h1:f1≤6
 h2:f2≤6
 p:ku f1 f2=true
noncomputable def jK(ρ:Val)(f1 f2:Nat):Val:=⟨ρ.i,ρ.d,ρ.g,BA ρ (eC f1 f2)⟩
variable{s₁:Shared} {f1 f2:Nat}
theorem Qv(K:jx ρ f1 f2):∃v env h r,CN (j6 f1 f2)= .ok [] 7 v env h∧hW (g5 env h false) env h (aB bw) (yM (gv f1 f2))=some r∧cy (jK ρ f1 f2) ρ r.1∧lI (jK ρ f1 f2) ρ (g5 env h false) h r.2∧(∀V∈eC f1 f2,md 12 V=true):=by
 have hp:=K.p
 unfold ku at hp
 split at hp
 ·rename_i cs f v env h hR
  refine o7 hp fun h3 h4 h2=> ?_
  have h4:=aZ h4
  subst h4
  have h3:cs= []:=by induction cs using List.casesOn<;>first|rfl|exact nf h3
  subst h3
  unfold LQ at h2
  split at h2
  ·rename_i r hr
   refine d1 h2 fun h5 h6=> ?_
   split at h6
   ·rename_i rows hg
    refine⟨v,env,h,r,hR,hr,wg (ρ:=ρ) (ρ':=jK ρ f1 f2) rfl rfl K.i0 K.i1 h5,?_,fun V m=> ?_⟩
    ·rw[TL hg]
     intro p m
     rcases aE.mp m with rfl|m
     ·show ρ.g 1= []++ [].map _
      rw[K.g];rfl
     rcases aE.mp m with rfl|m
     ·show∀q∈BA ρ (eC f1 f2),_
      intro q mq
      obtain⟨⟨V',j⟩,mz,rfl⟩:=bz.mp mq
      have ej:=Ey.mp mz
      refine ak (AB h6 j V' ej) fun V e1 e2=> ?_
      unfold B6 at e2
      refine d1 e2 fun e3 e4=> ?_
      split at e3
      ·rename_i e he
       refine⟨j,V,V',e,rV (dM.mp ej).1 (QF K.h1 K.h2),e1,he,wg (ρ:=ρ) (ρ':=jK ρ f1 f2) rfl rfl K.i0 K.i1 e3,A6 12 V' e4,?_⟩
       rw[th (ρ:=ρ) (ρ':=jK ρ f1 f2) rfl rfl 12 V' e4 (π:=[]) (π':=[]) (hs:=[]) (cR:=[])]
       rfl
      ·exact nf e3
     rcases aE.mp m with rfl|m
     ·show ρ.g 0= []++ [].map _
      rw[K.g];rfl
     ·exact(aP m).elim
    ·refine av (y8 m) fun j hj=> ?_
     refine ak (AB h6 j V hj) fun V2 e1 e2=> ?_
     exact(bJ.mp e2).2
   ·exact nf h6
  ·exact nf h2
 ·exact nf hp
theorem RC(K:jx ρ f1 f2):iw (jK ρ f1 f2):=by
 refine⟨fun g V m=> ?_,fun q m=> ?_⟩
 ·have m:V∈ρ.g g:=m
  rw[K.g] at m;exact(aP m).elim
 ·obtain⟨⟨V',j⟩,mz,rfl⟩:=bz.mp (show q∈BA ρ (eC f1 f2) from m)
  exact⟨⟨_,rfl⟩,AL ρ [] [] 12 V'⟩
theorem QH(K:jx ρ f1 f2)(ok:∀V∈eC f1 f2,md 12 V=true):c6 (jK ρ f1 f2) (eC f1 f2) (gv f1 f2):=by
 refine⟨K.i0,fun j V e=> ?_,ok,fun k st e=>QE e⟩
 rw[th (ρ:=ρ) (ρ':=jK ρ f1 f2) rfl rfl 12 V (ok V (cf e)) (π:=[]) (π':=[]) (hs:=[]) (cR:=[])]
 exact bz.mpr ⟨(V,j),Ey.mpr e,rfl⟩
theorem Qo(K:jx ρ f1 f2):Nums (jK ρ f1 f2) 0:=
 ⟨fun i h1 h2=>by show-32768≤ρ.i i∧ρ.i i≤32767;rw[K.ix i h1];decide,RC K,fun g=>by show(ρ.g g).length≤_;rw[K.g];exact fu _⟩
theorem Gv(s₁:Shared){ae:Ad}{h:Heap}(sub:∀a∈X',a∈X):∀{l:List SV}{vs:List Value},(∀V∈l,fy 13 V=true)→Paired (cC w ρ' X ad h) vs l→Paired (cC w ρ X' ae h) vs l
 | [],_,_,P=>p0 P .nil
 |V::l,_,hc,P=>p1 P fun _ _ r P=> .cons (wR (c:=aj w s₁ ρ' F0) (ρ':=ρ) (F':=F0) sub 13 V _ (hc V (.head _)) r) (Gv s₁ sub (fun V m=>hc V (.tail _ m)) P)
theorem Jw{h:Heap}(r:VR pw_sm0015_01 w aN ρ X ad h v (.ref i))(hp:ad[i]? =some p):v= .ref p.1:=ak (VR.uc r) fun q hq e=>by rw[hp] at hq;exact(Option.some.inj hq)▸e
theorem Qz{L:Lp}(hw:L.w=w){l1 l2:List SV}(low:∀a∈L.Y,a<L.s₀.heap.objs.size)(h:Ca L ρ' v s')(G:iw ρ')(hg:ρ'.g 0=l1++l2)(N1:FN ρ.d f1 2 l1)(N2:FN ρ.d f2 (cU f1) l2):cC w ρ L.Y [] s'.heap v (V0 ρ.d f1 f2):=by
 subst hw
 refine N3 h fun X ad r I nm kp sz sub=> ?_
 have fr:∀b,Mt ad b→b∉L.Y:=fun b m n=>df _ (cV (low b n) (nm b m))
 obtain⟨_,_,_,_,ho,hc,hd,hx,hf,ee⟩:=VR.jG r
 subst ee
 rename_i a o f ep
 next=>
  refine .tup (f:=f) ho hc hd (fun m=>hx (sub _ m)) fun i V e=> ?_
  match i with
  |0=>
   (injection e with e1;subst e1)
   have r0:=hf 0 (.ref 14) rfl
   obtain⟨p,hp,e1,vs,⟨n,hl⟩,P⟩:=I.fit 14 (.fb 0 []) rfl
   rw[Jw r0 hp]
   have P:Paired (cC L.w ρ' X ad s'.heap) vs (l1++l2):=by
    have P:Paired (cC L.w ρ' X ad s'.heap) vs (ρ'.g 0++ []):=P
    rwa [iM,hg] at P
   have P:=Gv L.s₁ (ρ:=ρ) (ae:=[]) sub (fun V m=>G.1 0 V (by rw[hg];exact m)) P
   refine dK (Ay P) fun v1 v2 e2 P1 P2=> ?_
   have P3:=Paired.append (Hr N1 P1) (Hr N2 P2)
   rw[←e2] at P3
   refine ak (zP P3) fun g e3 e4=> ?_
   exact .ar (f:=g) (ep:=n) (by rw[←e3];exact hl) (fr _ ⟨p,cf hp,.inl rfl⟩) e4
  |1=>
   (injection e with e1;subst e1)
   have r0:=hf 1 (.ref 13) rfl
   obtain⟨p,hp,e1,vs,⟨n,hl⟩,P⟩:=I.fit 13 (.lst []) rfl
   rw[Jw r0 hp]
   cases P
   exact .ar (f:=fun _=> .none) (ep:=n) hl (fr _ ⟨p,cf hp,.inl rfl⟩) fun i V e=>by simp at e
  |i+2=>exact absurd e (by simp)
noncomputable def JS(w:World)(s₁:Shared)(ρ:Val)(F:Nat→SV→En→Hp→Prop)(f1 f2:Nat)(X:List Addr)(s:Shared)(v:Value)(s':Shared):Prop:=cC w ρ X [] s'.heap v (V0 ρ.d f1 f2)∧Inv (aj w s₁ ρ F) X [] [] s'∧Step [] X [] s X [] s'
theorem Qa(B:Base w s₁)(K:jx ρ f1 f2)(ao:cp A (4*64+3))(I:Inv (aj w s₁ ρ F) X [] [] s)(hl:bY (aj w s₁ ρ F) s){v0 v1:Value}(r0:cC w ρ X [] s.heap v0 (j6 f1 f2))(r1:cC w ρ X [] s.heap v1 (.lit (zN 4))):
  fnIn (KT w.params) (aN.fa 98)=true∧codeAny (model pw_sm0015_01 w) A (.call (.ref (aN.fa 98)) ⟨[v0,v1],[]⟩) (wants (JS w s₁ ρ F f1 f2 X s) NE) s:=by
 obtain⟨vv,jB,h2,r,hR,hr,he,hgh,okr⟩:=Qv K
 let F':Nat→SV→En→Hp→Prop:=fun fl v e hh=>fl=7∧e=jB∧hh=h2
 have C':ax (aj w s₁ ρ F'):=fP B
 have Y:br (aj w s₁ ρ F') 64 jQ:= @sR w s₁ ρ F' C' 300 4 (by decide) xm (fun m cl y=>GJ B m cl y) 60
 obtain⟨LY,e1,e2,e3⟩:=XI
 obtain⟨fn,e4,e5⟩:=YE
 have hF:qC (aj w s₁ ρ F') 98 fn.ps LY.sc (eg aw LY.b):=xi e1 e4
 rw[e5,e3,e2] at hF
 have I':Inv (aj w s₁ ρ F') X [] [] s:=I.nil
 refine zY C' hF (m:=64) ao I' hl (as:=[j6 f1 f2,.lit (zN 4)]) (.cons r0 (.cons r1 .nil)) rfl fun e s1 a T0 keep fresh=> ?_
 have sz:=T0.size
 obtain⟨di,pp,p2,den,SI,fold⟩:=W5 C' Y
 have hb:eg aw rk= [cn aw (fB 0),cn aw (fB 1),cn aw (fB 2),cn aw (fB 3)]:=rfl
 rw[hb,den]
 have q0:(aj w s₁ ρ F').Ok (cS (fB 0) (aj w s₁ ρ F').P jQ 300 (([280,87]:List Nat).zip [j6 f1 f2,.lit (zN 4)]) [] (fun env h=>cS (fB 1) aG jQ 300 env h (fun env h=>D8 (fB 2) aG jQ 300 env h fun it h=>cond (GO it) (eJ env h) (bad 0)) cL) cL):=by
  show Ok ρ F' (CN (j6 f1 f2))
  rw[hR]
  exact⟨trivial,rfl,rfl,rfl⟩
 refine wpAny_execs_cons (ay (sS C' Y (by decide) (fB 0) fU (aQ Dj).1 a q0) fun f s2 p=> ?_)
 induction f with
 |brk=>exact p.elim
 |cont=>exact p.elim
 |ret v=>obtain⟨V,h',ae,X',q,_⟩:=p;have q:8=7∧_:=q.2;exact absurd q.1 (by decide)
 |next=>
 obtain⟨iZ,h1,aK,X1,q1,uy,J1,T1⟩:=p
 have a1:=a.ow uy J1 T1
 refine wpAny_execs_cons (ay (sS C' Y (by decide) (fB 1) fU (aQ (aQ Dj).2).1 a1 q1) fun f s3 p=> ?_)
 induction f with
 |brk=>exact p.elim
 |cont=>exact p.elim
 |ret v=>obtain⟨V,h',ae,X',q,_⟩:=p;have q:8=7∧_:=q.2;exact absurd q.1 (by decide)
 |next=>
 obtain⟨i6,h3,gU,X3,q3,ZV,J3,T3⟩:=p
 have a3:=a1.ow ZV J3 T3
 refine wpAny_execs_cons (wpAny_For (ay (SI a3 q3) fun x s4 wx=>y5 wx fun v s5 it h5 d8 X5 N q5 R5 J5 T5 hN=> ?_) (fold e))
 refine Qd (c:=aj w s₁ ρ F') (n:=400+1) ?_
 have main:∀R:Result→Shared→Prop,(∀v s',JS w s₁ ρ F f1 f2 X s v s'→R (.ok (.ret v)) s')→Good (model pw_sm0015_01 w) (A.deeper e) (yY pp) v t5 e R (400+1) s5:=fun R YH=>by
  have rf:Step (aV e) (aV e++X) [] s1 X5 d8 s5:=(T1.trans T3).trans T5.nil
  induction it with
  |items l=>
   have q5:(aj w s₁ ρ F').Ok (cond (ag l.length 400) (eJ i6 h5) (bad 0)):=q5
   obtain⟨el,q5⟩:=aJ q5
   have el:=aZ el
   obtain⟨_,rfl,rfl⟩:7=7∧i6=jB∧h5=h2:=q5.2
   have xZ:∀a∈X,a<s.heap.objs.size:=I.low
   have R6:=wo (c:=aj w s₁ ρ F') (c':=aj w s₁ ρ F') (X':=X5) (ae:=d8) rfl rfl rfl (fun _ m=>m) R5
   rw[el] at R6
   have nM:∀b,Mt d8 b→s.heap.objs.size≤b:=fun b m=>(rf.dI b m).elim (fun⟨p,m,_⟩=>by exact(aP m).elim) fun z=>cx sz z
   have D:kH (aj w s₁ ρ F') 64 fU (A.deeper e) e v (yY pp) N X s i6 h5 400 s5 X5 d8:=
    ⟨a3.next J5 T5,R6,fun b m=>⟨(hN b m).1,(hN b m).2.1⟩,fun b m z=>df _ (cV (a3.inv.low b (a3.fr.bc b m)) (hN b z).2.2),fresh,fun b m=>cx sz (cx (T1.trans T3).size (hN b m).2.2),nM,
     fun b o q=>rf.keep b o (keep b o q) (fun m=>df _ (cV (Heap.lt_size q) (fresh b m))) (fun⟨p,m,_⟩=>by exact(aP m).elim),cx sz rf.size,
     fun b m=>⟨rf.XK b (bj.mpr (.inr m)),fun z=>df _ (cV (xZ b m) (nM b z))⟩⟩
   have Gρ:iw ρ:=⟨fun g V m=>(by rw[K.g] at m;exact(aP m).elim),fun q m=>(by rw[K.r] at m;exact(aP m).elim)⟩
   obtain⟨X6,Dx,D6⟩:=D.hW (ρ':=jK ρ f1 f2) (F':=F0) rfl Gρ hr he hgh
   let L:Lp:=⟨w,s₁,A.deeper e,e,v,pp,N,X,s,R⟩
   have go:Go L (jK ρ f1 f2) (aB bw) (b9 [] [] [] none) 400:=V6 (L:=L) B K.h1 K.h2 (Qo K) (QH K okr) K.i1 K.d K.t (K.g 0) fun ρ' v s' l1 l2 Lv G hg N1 N2=>YH v s' (by
    refine N3 (id Lv) fun _ _ _ Ie _ kp sz' _=> ?_
    refine ai (I.same Ie.rest kp sz') fun J6 T6=> ?_
    exact⟨Qz (L:=L) rfl xZ Lv G hg N1 N2,J6,T6⟩)
   exact V5 go s5 ⟨X6,Dx,D6⟩
  |_=>exact(a0 q5).elim
 exact main _ fun v s' z=>z
end
end
section
noncomputable section
noncomputable def mN(n:Nat):SV:= .ar ((aI n).map fun q=> .sym (.var (5+q)) 0)
noncomputable def C6(n i:Nat):Res:=run aG dS (fun c=>c) 300 2 lu [.ref 0,.sym (.var 1) 4] [.lst [mN n,.lit (aq i)]] gc
noncomputable def sV(n i:Nat):SV:=cond (bq i n) (.sym (.fmod (.abs (.var (5+i))) (.var 1)) 0) (.sym (.fmod (.lit (aq (17*i+i/2+3))) (.var 1)) (aq ((17*i+i/2+3)%4)))
theorem XS:((aI 25).map fun n=>(aI 12).map (C6 n))=(aI 25).map fun n=>(aI 12).map fun i=> .ok [.eq (.var 1) (.lit 0) false] 9 (sV n i) [] [.lst [mN n,.lit (aq (Nat.succ i))]]:=by kernel_rfl
theorem U9(hn:n≤24)(hi:i<12):C6 n i= .ok [.eq (.var 1) (.lit 0) false] 9 (sV n i) [] [.lst [mN n,.lit (aq (Nat.succ i))]]:=
 fk.mp (fk.mp XS n (dN.mpr (by lia))) i (dN.mpr hi)
noncomputable def De(s:Int):Res:=run aG dS (fun c=>c) 300 2 mD [.sym (.var 0) s] [] gc
theorem Yd:De 1= .ok [.lt (.var 0) (.lit 0) false] 9 (.tup [.str 25,.sym (.var 0) 1]) [] []:=by kernel_rfl
theorem Ye:De (-1)= .ok [.lt (.var 0) (.lit 0) true] 9 (.tup [.str 26,.tup [.str 25,.sym (.sub (.lit (aq 0)) (.var 0)) 1]]) [] []:=by kernel_rfl
variable{s₁:Shared}
theorem Inv.ZO(I:Inv c X ad h s){o:SO}(hp:ad[i]? =some p)(hr:∃hp tk,s'={c.s₀ with heap:=hp,toks:=tk})(hz:s.heap.objs.size≤s'.heap.objs.size)
  (hk:∀b o,s.heap.get? b=some o→b≠p.1→b≠p.2→s'.heap.get? b=some o)(ho:(∀v V,c.VR X ad s.heap v V→c.VR X ad s'.heap v V)→c.OR X ad s'.heap p o):Inv c X ad (h.set i o) s'∧Step [] X ad s X ad s':=by
 have uT:=I.bc _ (iU hp).1
 have pE:=I.bc _ (iU hp).2
 have kk:∀b o,s.heap.get? b=some o→b∉X→s'.heap.get? b=some o∧b∉X:=fun b o e hx=>⟨hk b o e (fun q=>hx (q▸uT)) fun q=>hx (q▸pE),hx⟩
 have rD:=ho fun v V r=>r.mono kk fun _ _ e=>e
 refine⟨⟨fun b o e=>hk b o (I.base b o e) (fun q=> ?_) fun q=> ?_,by rw[zG];exact I.len,fun j o' e=> ?_,I.sep,I.bc,fun a m=> ?_,I.own,hr⟩,
  ⟨fun b o e _ hm=>hk b o e (fun q=>hm (q▸(iU hp).1)) fun q=>hm (q▸(iU hp).2),hz,fun _ _ e=>e,fun _ m=> .inl m,fun _ m=>m,fun _ m=> .inl m⟩⟩
 ·have:=I.own _ uT;rw[←q,e] at this;(exfalso;injection this)
 ·have:=I.own _ pE;rw[←q,e] at this;(exfalso;injection this)
 ·rw[dc] at e
  by_cases kQ:i=j
  ·subst kQ
   have DW:i<h.length:=by
    have:=(dM.mp e).1
    rwa [zG] at this
   rw[Oa DW] at e
   (injection e with e1;subst e1)
   exact⟨p,hp,rD⟩
  ·rw[Oh kQ] at e
   refine ak (I.fit j o' ((dc h j).trans e)) fun q hq R=> ?_
   refine pW (I.sep i j p q hp hq kQ) fun s1 s2 s3 s4=> ?_
   obtain⟨⟨o1,l1⟩,o2,l2⟩:=g8 R
   exact⟨q,hq,R.mono kk (fun _ _ e=>e) ((hk _ _ l1 (Ne.symm s1) (Ne.symm s3)).trans l1.symm) ((hk _ _ l2 (Ne.symm s2) (Ne.symm s4)).trans l2.symm)⟩
 ·refine av (I.live a m) fun o e=> ?_
  by_cases q1:a=p.1
  ·rw[q1];exact(g8 rD).1
  ·by_cases q2:a=p.2
   ·rw[q2];exact(g8 rD).2
   ·exact⟨o,hk a o e q1 q2⟩
theorem ints_of:∀{vs:List Value}{ns:List Int},vs.length=ns.length→(∀(q:Nat)(hq:q<ns.length),∃(t:Tok),vs[q]? =some (.int ns[q] t))→IntsAre vs ns
 | [],[],_,_=> .nil
 | [],_::_,h,_=>by(exfalso;injection h)
 |_::_,[],h,_=>by(exfalso;injection h)
 |v::vs,n::ns,h,hq=>by
  refine av (hq 0 (r6 _)) fun t e=> ?_
  (injection e with e1;subst e1)
  exact .cons _ t (ints_of (Nat.succ.inj h) fun q z=>hq (q+1) (zE z))
noncomputable def ir(ns:List Int)(m:Int):Val:=⟨fun q=>if q=1 then m else(ns[q-5]?).getD 0,fun _ _=>0,fun _=>[],[]⟩
theorem DK(ns:List Int)(k:Int)(q:Nat):(IX.var (5+q)).eval (ir ns k)=(ns[q]?).getD 0:=by
 show(if 5+q=1 then _ else(ns[5+q-5]?).getD 0)=_
 rw[if_neg (by lia),rR]
theorem FQ:∀{vs:List Value}{l:List SV},vs.length=l.length→(∀(i:Nat)v V,vs[i]? =some v→l[i]? =some V→R v V)→Paired R vs l
 | [],[],_,_=> .nil
 | [],_::_,h,_=>nomatch h
 |_::_,[],h,_=>nomatch h
 |_::_,_::_,h,f=> .cons (f 0 _ _ rfl rfl) (FQ (Nat.succ.inj h) fun i=>f (i+1))
theorem WB{f:Nat→SV}{q:Nat}(e:((aI n).map f)[q]? =some V):q<n∧V=f q:=by
 rw[b0] at e
 refine ak (jf.mp e) fun q' h1 h2=> ?_
 refine av (dM.mp h1) fun hq h3=> ?_
 rw[EG] at h3
 rw[dZ] at hq
 exact⟨hq,h3▸h2.symm⟩
theorem Wb{ws:List Value}{ns:List Int}{k:Int}(r:IntsAre ws ns):VL pw_sm0015_01 w aN (ir ns k) X ad hh ws ((aI ns.length).map fun q=> .sym (.var (5+q)) 0):=
 FQ (by rw[aT,dZ,vX r]) fun q v V e1 e2=>by
  refine ai (WB e2) fun hq e=> ?_;subst e
  refine av (AW r (cA hq)) fun t ht=> ?_
  rw[Option.some.inj (e1.symm.trans ht)]
  have z:=VR.sym (prog:=pw_sm0015_01) (w:=w) (S:=aN) (ρ:=ir ns k) (X:=X) (ad:=ad) (h:=hh) (.var (5+q)) 0 t
  rw[DK,cA hq] at z
  exact z
theorem WQ{us:List Value}{ns:List Int}{k:Int}(P:VL pw_sm0015_01 w aN (ir ns k) X ad hh us ((aI ns.length).map fun q=> .sym (.var (5+q)) 0)):IntsAre us ns:=
 ints_of (by rw[j8 P,aT,dZ]) fun q hq=>by
  refine ak (Internal.Paired.get P (by rw[b0,lq hq];rfl)) fun u hu r=>av (VR.fS r) fun t e=>⟨t,?_⟩
  rw[hu,e,DK,cA hq];rfl
theorem WG{ns:List Int}{k:Nat}(r:VR pw_sm0015_01 w aN (ir ns (aq k)) X ad hh v (sV ns.length i))
  (hd:ρ'.d (i:Int) (k:Int)=if h:i<ns.length then((ns[i]).natAbs:Int).fmod (k:Int) else((17*i+i/2+3:Nat):Int).fmod (k:Int)):∃t,v= .int (ρ'.d (aq i) (aq k)) t:=by
 unfold sV at r
 induction z:bq i ns.length using Bool.casesOn with
 |true=>
  rw[z] at r
  have z:=blt_iff.mp z
  rw[dif_pos z] at hd
  refine av (VR.fS r) fun t e=>⟨t,?_⟩
  have ev:(IX.fmod (.abs (.var (5+i))) (.var 1)).eval (ir ns (aq k))=((ns[i]).natAbs:Int).fmod (aq k):=by
   show((((IX.var (5+i)).eval (ir ns (aq k))).natAbs:Nat):Int).fmod (aq k)=_
   rw[DK,cA z];rfl
  rw[e,ev];exact congrArg (fun x=>Value.int x t) hd.symm
 |false=>
  rw[z] at r
  have z':¬i<ns.length:=fun y=>by rw[blt_iff.mpr y] at z;exact nf z.symm
  rw[dif_neg z'] at hd
  refine av (VR.fS r) fun t e=>⟨t,?_⟩
  rw[e];exact congrArg (fun x=>Value.int x t) hd.symm
inductive yf (ρ:Val) (X:List Addr) (g:Heap) (p:Addr×Addr) (i:Nat):Prop
 |mk (a:Addr) (ws:List Value) (ns:List Int) (ep:Nat) (t:Tok):p.2=p.1→g.PlainList p.1 [.ref a,.int (aq i) t].toArray→g.get? a=some {cls:= .type "list",data:= .seq ws.toArray ep}→a∉X→IntsAre ws ns→ns.length≤24→
   (∀i m:Nat,ρ.d (i:Int) (m:Int)=if h:i<ns.length then((ns[i]).natAbs:Int).fmod (m:Int) else((17*i+i/2+3:Nat):Int).fmod (m:Int))→yf ρ X g p i
theorem Zu(R:(aj w s₁ ρ F).OR X ad g p (.lst [.c9,.lit (aq i)])):yf ρ X g p i:=by
 obtain⟨e1,vs,hL,P⟩:=R
 revert hL
 refine p1 P fun u0 vs q0 P=>p1 P fun u1 vs q1 P=>p0 P fun hL=> ?_
 refine av (VR.dj q1) fun t e=> ?_;subst e
 obtain⟨a,ws,ns,ep,ho,hx,hi,hlen,hd,e⟩:=q0.inv
 subst e
 exact⟨a,ws,ns,ep,t,e1,hL,ho,hx,hi,hlen,hd⟩
theorem Yr(S:yf ρ X g p i):(aj w s₁ ρ F).OR X ad g p (.lst [.c9,.lit (aq i)]):=by
 obtain⟨a,ws,ns,ep,t,e1,hL,ho,hx,hi,hlen,hd⟩:=S
 exact⟨e1,_,hL,.cons (.c9 ho hx hi hlen hd) (.cons (.lit _ t) .nil)⟩
theorem XQ{ws:List Value}{ns:List Int}{ep:Nat}{t:Tok}{k:Int}(I:Inv (aj w s₁ ρ F) X ad h s)(hp:ad[j]? =some p)(e1:p.2=p.1)(hL:s.heap.PlainList p.1 [.ref a,.int (aq i) t].toArray)
  (ho:s.heap.get? a=some {cls:= .type "list",data:= .seq ws.toArray ep})(hx:a∉X)(hi:IntsAre ws ns):Inv (aj w s₁ (ir ns k) F') X [p] [.lst [mN ns.length,.lit (aq i)]] s:=
 {base:=I.base,len:=rfl,live:=I.live,own:=I.own,rest:=I.rest
  fit:=fun q o e=>by
   induction q using Nat.casesAuxOn with
   |zero=>
    obtain rfl:=Option.some.inj e
    exact⟨p,rfl,e1,_,hL,.cons (lE (Wb hi) ho hx) (.cons (.lit _ t) .nil)⟩
   |succ q=>exact nomatch e
  sep:=fun q1 q2 x y h1 h2 ne=>by
   have z1:=(dM.mp h1).1
   have z2:=(dM.mp h2).1
   exact absurd ((zK.mp z1).trans (zK.mp z2).symm) ne
  bc:=fun b⟨x,mx,z⟩=>I.bc b ⟨p,cf hp,bx.mp mx▸z⟩}
theorem WH{ns:List Int}{k:Int}(e1:p.2=p.1)(hX:∀a∈X,a∈X')(hlen:ns.length≤24)
  (hd:∀i m:Nat,ρ.d (i:Int) (m:Int)=if h:i<ns.length then((ns[i]).natAbs:Int).fmod (m:Int) else((17*i+i/2+3:Nat):Int).fmod (m:Int))
  (R:(aj w s₁ (ir ns k) F').OR X' [p] g p (.lst [mN ns.length,.lit (aq i)])):yf ρ X g p i:=by
 obtain⟨_,vs,hL,P⟩:=R
 revert hL
 refine p1 P fun u0 vs q0 P=>p1 P fun u1 vs q1 P=>p0 P fun hL=> ?_
 refine av (VR.dj q1) fun t e=> ?_;subst e
 refine eL q0 fun a us e ho hx P=> ?_;subst e
 refine av ho fun ep ho=> ?_
 exact⟨a,us,ns,ep,t,e1,hL,ho,fun m=>hx (hX a m),WQ P,hlen,hd⟩
theorem Wv(l:ad.length=1)(h:ad[0]? =some p):ad= [p]:=by
 induction ad using List.casesOn with
 |nil=>exact nomatch l
 |cons x r=>rw[Option.some.inj h,Ex (Nat.succ.inj l)]
inductive BJ (w:World) (s₁:Shared) (ρ:Val) (F:Nat→SV→En→Hp→Prop) (X:List Addr) (ad:Ad) (s:Shared) (h:Hp) (j i k:Nat) (v:Value) (s':Shared):Prop
 |mk (t:Tok):v= .int (ρ.d (aq i) (aq k)) t→Inv (aj w s₁ ρ F) X ad (h.set j (.lst [.c9,.lit (aq (Nat.succ i))])) s'→Step [] X ad s X ad s'→BJ w s₁ ρ F X ad s h j i k v s'
theorem s_end{k:Nat}{ns:List Int}(I:Inv (aj w s₁ ρ F) X ad h s)(hp:ad[j]? =some p)(e1:p.2=p.1)(hlen:ns.length≤24)
  (hd:∀i m:Nat,ρ.d (i:Int) (m:Int)=if h:i<ns.length then((ns[i]).natAbs:Int).fmod (m:Int) else((17*i+i/2+3:Nat):Int).fmod (m:Int))(hF:∀n V e hh,F' n V e hh→V=sV ns.length i∧hh= [.lst [mN ns.length,.lit (aq (Nat.succ i))]])
  (z:aF (aj w s₁ (ir ns (aq k)) F') X [p] s gc v s'):BJ w s₁ ρ F X ad s h j i k v s':=by
 obtain⟨V,h',ae,X',q',r',J,T⟩:=z
 have q':=hF _ _ _ _ q'.2
 obtain⟨rfl,rfl⟩:=q'
 obtain rfl:=Wv J.len (T.kL 0 p rfl)
 refine av (WG r' (hd i k)) fun t hv=> ?_
 refine ak (J.fit 0 _ rfl) fun p' gn R=> ?_
 obtain rfl:=Option.some.inj gn
 have keep:∀b o,s.heap.get? b=some o→b≠p.1→b≠p.2→s'.heap.get? b=some o:=fun b o e n1 n2=>T.keep b o e (aP) fun⟨x,mx,z⟩=>by
  rw[bx.mp mx] at z
  exact z.elim n1 n2
 exact ai (I.ZO hp J.rest T.size keep fun _=>Yr (WH e1 T.XK hlen hd R)) fun J2 T2=>⟨t,hv,J2,T2⟩
theorem QV(B:Base w s₁){m:Nat}{k:Nat}(ao:cp A (4*2))(I:Inv (aj w s₁ ρ F) X ad h s)(hl:bY (aj w s₁ ρ F) s)(hj:aS h j=some (.lst [.c9,.lit (aq i)]))(hi:i<12)(hk:0<k){v0 v1:Value}
  (r0:(aj w s₁ ρ F).VR X ad s.heap v0 (.ref j))(r1:(aj w s₁ ρ F).VR X ad s.heap v1 (.lit (aq k))):
  fnIn (KT w.params) (aN.fa lu)=true∧codeAny (model pw_sm0015_01 w) A (.call (.ref (aN.fa lu)) ⟨[v0,v1],[]⟩) (wants (BJ w s₁ ρ F X ad s h j i k) NE) s:=by
 refine ak (I.fit j _ hj) fun p hp R=> ?_
 refine ak (JM r0) fun p0 hp0 af=> ?_;subst af
 obtain rfl:=Option.some.inj (hp.symm.trans hp0)
 refine av (VR.dj r1) fun t2 e=> ?_;subst e
 obtain⟨a,ws,ns,ep,t1,e1,hL,ho,hx,pn,hlen,hd⟩:=Zu R
 have Y:br (aj w s₁ (ir ns (aq k)) fun _ V _ hh=>V=sV ns.length i∧hh= [.lst [mN ns.length,.lit (aq (Nat.succ i))]]) 2 (run aG dS (fun c=>c) 300 2):= @BB w s₁ _ _ (fP B) 300 (by decide) (fun c=>c) (fun _ _ h=> @h) 2
 have ok:Ok (ir ns (aq k)) (fun _ V _ hh=>V=sV ns.length i∧hh= [.lst [mN ns.length,.lit (aq (Nat.succ i))]]) (C6 ns.length i):=by
  rw[U9 hlen hi]
  exact⟨⟨decide_eq_false (by show¬((k:Nat):Int)=0;lia),trivial⟩,rfl,rfl⟩
 refine ai (Y (f:=lu) (k:=gc) ao (XQ I hp e1 hL ho hx pn) hl (.cons (.ref (i:=0) rfl) (.cons (VR.sym (ρ:=ir ns (aq k)) (.var 1) 4 t2) .nil)) ok) fun a1 a2=>⟨a1,codeAny_mono a2 fun r s' z=> ?_⟩
 induction r with
 |error e=>exact z
 |ok fl=>
  induction fl with
  |ret v=>exact s_end I hp e1 hlen hd (fun _ _ _ _ h=>h) z
  |_=>exact z
theorem Q2(B:Base w s₁)(ao:cp A (4*2))(I:Inv (aj w s₁ ρ F) X ad h s)(hl:bY (aj w s₁ ρ F) s){e:IX}{n:Int}{v0:Value}(r0:(aj w s₁ ρ F).VR X ad s.heap v0 (.sym e n)):
  fnIn (KT w.params) (aN.fa mD)=true∧codeAny (model pw_sm0015_01 w) A (.call (.ref (aN.fa mD)) ⟨[v0],[]⟩) (wants (fun v s'=>(aj w s₁ ρ F).VR X ad s'.heap v (.tree e n)∧Inv (aj w s₁ ρ F) X ad h s'∧Step [] X ad s X ad s') NE) s:=by
 have conv:∀{sm:Int}{V0:SV},Ok (k0 (e.eval ρ)) (F9 V0) (De sm)→(∀(X':List Addr)(ae:Ad)(hh:Heap)(v:Value),(∀a∈X,a∈X')→VR pw_sm0015_01 w aN (k0 (e.eval ρ)) X' ae hh v V0→VR pw_sm0015_01 w aN ρ X ad hh v (.tree e n))→
   fnIn (KT w.params) (aN.fa mD)=true∧codeAny (model pw_sm0015_01 w) A (.call (.ref (aN.fa mD)) ⟨[v0],[]⟩) (wants (fun v s'=>(aj w s₁ ρ F).VR X ad s'.heap v (.tree e n)∧Inv (aj w s₁ ρ F) X ad h s'∧Step [] X ad s X ad s') NE) s:=fun{sm V0}ok cv=>by
  have P':Paired (VR pw_sm0015_01 w aN (k0 (e.eval ρ)) X [] s.heap) [v0] [.sym (.var 0) sm]:=by
   obtain⟨t,rfl⟩:=VR.fS r0;exact .cons (.sym (.var 0) sm t) .nil
  refine ai (Ag (F:=F) (ρ:=ρ) B (n:=300) (m:=2) (f:=mD) (by decide) ao I hl P' ok) fun a1 a2=> ?_
  refine⟨a1,codeAny_mono a2 fun r s' z=> ?_⟩
  induction r with
  |error e=>exact z
  |ok fl=>
   induction fl with
   |ret v=>
    refine ll z fun X' ae hX r' J T=> ?_
    exact⟨cv X' ae _ _ hX r',J,T⟩
   |_=>exact z
 have str:∀{u:Value}{i:Nat}{X':List Addr}{ae:Ad}{hh:Heap},VR pw_sm0015_01 w aN (k0 (e.eval ρ)) X' ae hh u (.str i)→VR pw_sm0015_01 w aN ρ X ad hh u (.str i):=fun r=>by obtain⟨_,rfl⟩:=VR.i7 r;exact .str _ _
 by_cases z:0≤e.eval ρ
 ·refine conv (sm:=1) (V0:= .tup [.str 25,.sym (.var 0) 1]) (by rw[Yd];exact⟨⟨decide_eq_false (by show¬e.eval ρ<0;lia),trivial⟩,rfl⟩) fun X' ae hh v hX r=> .oE z (mJ (l:=[.str 25,.sym (.var 0) 1]) (l':=[.str 25,.sym e n]) rfl (BF hX r) fun i V V' u e1 e2 ru=> ?_)
  match i with
  |0=>(injection e1 with e1;subst e1);(injection e2 with e1;subst e1);exact str ru
  |1=>(injection e1 with e1;subst e1);(injection e2 with e1;subst e1);obtain⟨_,rfl⟩:=VR.fS ru;rename_i t;exact .sym e n t
  |i+2=>exact absurd e1 (by simp)
 ·refine conv (sm:= -1) (V0:= .tup [.str 26,.tup [.str 25,.sym (.sub (.lit (aq 0)) (.var 0)) 1]]) (by rw[Ye];exact⟨⟨decide_eq_true (by show e.eval ρ<0;lia),trivial⟩,rfl⟩) fun X' ae hh v hX r=>
   .oC (m:=0) (by lia) (mJ (l:=[.str 26,.tup [.str 25,.sym (.sub (.lit (aq 0)) (.var 0)) 1]]) (l':=[.str 26,.tup [.str 25,.sym (.sub (.lit (aq 0)) e) 0]]) rfl (BF hX r) fun i V V' u e1 e2 ru=> ?_)
  match i with
  |0=>(injection e1 with e1;subst e1);(injection e2 with e1;subst e1);exact str ru
  |1=>
   (injection e1 with e1;subst e1);(injection e2 with e1;subst e1)
   refine mJ (l:=[.str 25,.sym (.sub (.lit (aq 0)) (.var 0)) 1]) (l':=[.str 25,.sym (.sub (.lit (aq 0)) e) 0]) rfl ru fun i V V' u e1 e2 ru=> ?_
   match i with
   |0=>(injection e1 with e1;subst e1);(injection e2 with e1;subst e1);exact str ru
   |1=>(injection e1 with e1;subst e1);(injection e2 with e1;subst e1);obtain⟨_,rfl⟩:=VR.fS ru;rename_i t;exact .sym (.sub (.lit (aq 0)) e) 0 t
   |i+2=>exact absurd e1 (by simp)
  |i+2=>exact nomatch e1
theorem TV(h:isLit V=true):V= .lit (aW V):=by induction V using SV.casesOn<;>first|rfl|exact nf h
theorem It(B:Base w s₁){v0 v1:Value}{k:K}{kk:Nat}(ao:cp A (4*4))(I:Inv (aj w s₁ ρ F) X ad h s)(hl:bY (aj w s₁ ρ F) s)(hj:h[j]? =some (.lst [.c9,.lit (aq i)]))(hk:0<kk)(p0:(aj w s₁ ρ F).VR X ad s.heap v0 (.ref j))(p1:(aj w s₁ ρ F).VR X ad s.heap v1 (.lit (aq kk)))
  (hi:i<12)(q:(aj w s₁ ρ F).Ok (k V (h.set j (.lst [.c9,.lit (aq (Nat.succ i))]))))(hV:∀(t:Tok)(hh:Heap),(aj w s₁ ρ F).VR X ad hh (.int (ρ.d (aq i) (aq kk)) t) V):
  fnIn (KT w.params) (aN.fa lu)=true∧codeAny (model pw_sm0015_01 w) A (.call (.ref (aN.fa lu)) ⟨[v0,v1],[]⟩) (wants (aF (aj w s₁ ρ F) X ad s k) NE) s:=by
 refine ai (QV B (m:=0) (ao.less (by lia)) I hl ((dc h j).trans hj) hi hk p0 p1) fun a1 a2=> ?_
 refine⟨a1,codeAny_mono a2 fun r s' z=> ?_⟩
 induction r with
 |error e=>exact z
 |ok fl=>
  induction fl with
  |ret v=>
   obtain⟨t,af,J,T⟩:=z;subst af
   exact⟨V,_,ad,X,q,hV t _,J,T⟩
  |_=>exact z
theorem WI(B:Base w s₁){D:List (Option Int)}(hD:D.length≤12){k:K}{kk:Nat}(ao:cp A (4*4))(I:Inv (aj w s₁ ρ F) X ad h s)(hl:bY (aj w s₁ ρ F) s)(hj:h[j]? =some (.lst [.c9,.lit (aq i)]))(hk:0<kk)(P:(aj w s₁ ρ F).VL X ad s.heap vs [.ref j,.lit (aq kk)])
  (q:(aj w s₁ ρ F).Ok (BP D j (aq kk) i h k)):fnIn (KT w.params) (aN.fa lu)=true∧codeAny (model pw_sm0015_01 w) A (.call (.ref (aN.fa lu)) ⟨vs,[]⟩) (wants (aF (aj w s₁ ρ F) X ad s k) NE) s:=by
 refine Internal.p1 P fun v0 r p0 P=> ?_
 refine Internal.p1 P fun v1 r p1 P=> ?_
 refine Internal.p0 P ?_
 unfold BP at q
 induction hn:aS D i using Option.casesOn with
 |none=>rw[hn] at q;exact(a0 q).elim
 |some n=>
  rw[hn] at q
  rw[dc] at hn
  have hi:i<12:=cV (dM.mp hn).1 hD
  induction n using Option.casesOn with
  |some n=>
   refine ai (iR q) fun c1 q=> ?_
   exact It B ao I hl hj hk p0 p1 hi (V:= .lit n) (j3 q) fun t hh=>(of_decide_eq_true c1:ρ.d (aq i) (aq kk)=n)▸ .lit _ t
  |none=>exact It B ao I hl hj hk p0 p1 hi (V:= .sym (.f2 0 (.lit (aq i)) (.lit (aq kk))) 0) (j3 q) fun t hh=> .sym (.f2 0 (.lit (aq i)) (.lit (aq kk))) 0 t
theorem RE(B:Base w s₁){D:List (Option Int)}(hD:D.length≤12)(m:Nat)(cl:aX)(Y:br (aj w s₁ ρ F) (m+4) cl):br (aj w s₁ ρ F) (m+4) (BY D cl):=fun{A X ad s h f as vs k}ao I hl P q=>by
 refine bp q (fun z q1=> ?_) fun _ q2=>bp q2 (fun z q3=> ?_) fun _ q=>Y ao I hl P q
 ·have z:=aZ z
  subst z
  refine ai (aJ q1) fun y q=> ?_
  refine jR y fun y1 y2 y3 hm=> ?_
  refine ak (qh q) fun o hj q=> ?_
  refine ai (aJ q) fun y4 q=> ?_
  have hm:0<aW (bB as 1):=mK.mp hm
  have em:=(jh (g7 hm)).symm
  rw[RK y4] at hj
  rw[ug y1,TX y2,TV y3,em] at P
  rw[em] at q hm
  exact WI B hD (ao.less (by lia)) I hl hj (jX.mp hm) P q
 ·have z:=aZ z
  subst z
  refine bp q3 (fun b q=> ?_) fun _ q=>Y ao I hl P q
  refine d1 b fun b1 b2=> ?_
  rw[CD b1,qf b2] at P
  refine Internal.p1 P fun v0 r p0 P=> ?_
  refine Internal.p0 P ?_
  refine ai (Q2 B (ao.less (by lia)) I hl p0) fun a1 a2=> ?_
  refine⟨a1,codeAny_mono a2 fun r s' z=> ?_⟩
  induction r with
  |error e=>exact z
  |ok fl=>
   induction fl with
   |ret v=>exact dq z fun r' J T=>⟨_,h,ad,X,q,r',J,T⟩
   |_=>exact z
end
end
section
noncomputable section
noncomputable def aY(i:Nat):MS:=match aS qF i with|some s=>s|none=> .raw (.Pass ⟨0,0,0,0⟩)
noncomputable def fm(f:Nat):Nat:=match f with|0=>0|1=>1|2=>2|_=>3
noncomputable def DD(f1 f2:Nat):List (Option Int):=(aI 12).map fun i=>cond (ag i 0) (some (zN (fm f1))) (cond (ag i 1) (some (zN (fm f2))) (cond (ah (bq 2 f1) (ag i 2)) (some (zN (f1-3))) (cond (ah (bq 2 f2) (ag i (cU f1))) (some (zN (f2-3))) none)))
noncomputable def fC(f1 f2:Nat):aX:=run aG dS (BY (DD f1 f2)) 300 60
noncomputable def Xj:List MS:=[aY 1,aY 2,aY 3,aY 4,aY 5]
noncomputable def xX(f1 f2:Nat):Res:=e9 Xj aG (fC f1 f2) 300 [(264,.ref 0)] [.lst [.c9,.lit (zN 0)]] eJ cL
noncomputable def DH(f1 f2:Nat):Cs:=app [.eq (dr 0 4) (.lit (zN (fm f1))) true,.eq (dr 1 (cond (ag (fm f1) 3) 3 4)) (.lit (zN (fm f2))) true]
 (app (cond (bq 2 f1) [.eq (dr 2 4) (.lit (zN (f1-3))) true] []) (cond (bq 2 f2) [.eq (dr (cU f1) 4) (.lit (zN (f2-3))) true] []))
noncomputable def sy(e:IX):SV:= .sym e 0
noncomputable def fQ(f sp:Nat):List SV:=match f with
 |0=>[sy (dr sp 61),sy (dr (sp+1) 61)]
 |1=>[sy (dr sp 10),sy (dr (sp+1) 8)]
 |2=>[sy (dr sp 10000)]
 |n+3=>app (fH sy (i8 sp (n+1))) [sy (oM sp (n+1))]
noncomputable def eK(f1 f2:Nat):En:=[(165,.ar [.lit (zN (fm f1)),.lit (zN (fm f2))]),(192,.ar [.tup [.ar (fQ f1 2),.au],.tup [.ar (fQ f2 (cU f1)),.au]]),(280,.ar [ln 10 (cK f1 2),ln 30 (cK f2 (cU f1))])]
noncomputable def lU(f1 f2:Nat):Bool:=match xX f1 f2 with
 | .ok cs f _ env h=>ah (ah (j2 cs fun c=>jF c (DH f1 f2)) (ag f 7)) (match hW [] env h (eK f1 f2) [] with
  |some r=>ah (j2 r.1 (eqB (gv f1 f2))) (match r.2 with| []=>true|_::_=>false)
  |none=>false)
 | .bad _=>false
noncomputable def iV:List ME:=match aY 6 with| .asg _ (.call _ as _) _=>as|_=>[]
noncomputable def Cd(f1 f2:Nat)(l:List SV)(h:Hp)(k:Res):Res:=cond (ah (ah (i9 l 2) (oN (bB l 1) 4)) (match dY [] h 20 (bB l 0) (j6 f1 f2) with|some e=>j2 e (eqB (gv f1 f2))|none=>false)) k (bad 0)
noncomputable def K2(f1 f2:Nat):Res:=(cQ iV).l aG (fC f1 f2) 300 (eK f1 f2) [] fun l h=>Cd f1 f2 l h (.ok [] 9 .none [] [])
noncomputable def lS(f1 f2:Nat):Bool:=match K2 f1 f2 with
 | .ok cs f _ _ _=>ah (ag f 9) (match cs with| []=>true|_::_=>false)
 | .bad _=>false
end
end
section
noncomputable section
theorem Xi:([0,1,2,3,4,5,6].all fun f=>lU 0 f&&lS 0 f)=true:=by kernel_rfl
theorem Xk:([0,1,2,3,4,5,6].all fun f=>lU 1 f&&lS 1 f)=true:=by kernel_rfl
theorem Xl:([0,1,2,3,4,5,6].all fun f=>lU 2 f&&lS 2 f)=true:=by kernel_rfl
theorem Ku:([0,1,2].all fun f=>(lU 3 f&&lS 3 f)&&(lU 4 f&&lS 4 f))=true:=by kernel_rfl
theorem Kw:([0,1,2].all fun f=>(lU 5 f&&lS 5 f)&&(lU 6 f&&lS 6 f))=true:=by kernel_rfl
theorem LD{f1 f2:Nat}(h1:f1≤6)(h2:f2≤6)(h:f1<3∨f2<3):lU f1 f2=true∧lS f1 f2=true:=by
 have m2:f2∈ [0,1,2,3,4,5,6]:=by
  have:f2=0∨f2=1∨f2=2∨f2=3∨f2=4∨f2=5∨f2=6:=by lia
  rcases this with rfl|rfl|rfl|rfl|rfl|rfl|rfl<;>decide
 have m3:f2<3→f2∈ [0,1,2]:=fun z=>by
  have:f2=0∨f2=1∨f2=2:=by lia
  rcases this with rfl|rfl|rfl<;>decide
 have:f1=0∨f1=1∨f1=2∨f1=3∨f1=4∨f1=5∨f1=6:=by lia
 rcases this with rfl|rfl|rfl|rfl|rfl|rfl|rfl
 ·exact aQ (aM.mp Xi _ m2)
 ·exact aQ (aM.mp Xk _ m2)
 ·exact aQ (aM.mp Xl _ m2)
 ·exact aQ (aQ (aM.mp Ku _ (m3 (by lia)))).1
 ·exact aQ (aQ (aM.mp Ku _ (m3 (by lia)))).2
 ·exact aQ (aQ (aM.mp Kw _ (m3 (by lia)))).1
 ·exact aQ (aQ (aM.mp Kw _ (m3 (by lia)))).2
theorem ZE(g:Nat→SV)(cl:aX)(k:En→Hp→Res)(kr:K):((aI 64).map fun n=>cS (aY 0) aG cl 300 [(302,.ar ((aI n).map g))] [] k kr)=(aI 64).map fun n=>k [(302,.ar ((aI n).map g)),(264,.ref 0)] [.lst [.ar ((aI (HW n 24)).map g),.lit (zN 0)]]:=by kernel_rfl
variable{s₁:Shared} {f1 f2:Nat}
theorem Inv.toF(I:Inv (aj w s₁ ρ F) X ad h s):Inv (aj w s₁ ρ F') X ad h s:=⟨I.base,I.len,I.fit,I.sep,I.bc,I.live,I.own,I.rest⟩
theorem At.toF{m:Nat}(a:At (aj w s₁ ρ F) m sc A e X ad s env h):At (aj w s₁ ρ F') m sc A e X ad s env h:=
 ⟨a.ao,a.inv.toF,a.low,⟨a.fr.kind,a.fr.glob,a.fr.blt,a.fr.vars,a.fr.cell,a.fr.bc,a.fr.fT,a.fr.apart,a.fr.locs⟩,⟨a.sc.kind,a.sc.cell⟩⟩
noncomputable def FE(v:SV)(env:En)(h:Hp):Nat→SV→En→Hp→Prop:=fun fl _ e hh=>fl=7∧e=env∧hh=h
theorem p9{eD:En}{hE:Hp}(C:ax (aj w s₁ ρ (FE .none eD hE)))(Y:br (aj w s₁ ρ (FE .none eD hE)) 72 cl){x:MS}(hx:wS eO x cJ=true){k:En→Hp→Res}(a:At (aj w s₁ ρ (FE .none eD hE)) 72 cJ A e X ad s env h)
  (q:(aj w s₁ ρ (FE .none eD hE)).Ok (cS x aG cl 300 env h k cL)){Q:Flow→Shared→Prop}
  (next:∀{s' aD h' ae X'},(aj w s₁ ρ (FE .none eD hE)).Ok (k aD h')→At (aj w s₁ ρ (FE .none eD hE)) 72 cJ A e X' ae s' aD h'→wpAny (model pw_sm0015_01 w) A (execs rest e) Q NE s'):wpAny (model pw_sm0015_01 w) A (execs (cn aw x::rest) e) Q NE s:=by
 refine wpAny_execs_cons (ay (sS C Y (by decide) x cJ hx a q) fun f s2 p=> ?_)
 induction f with
 |brk=>exact p.elim
 |cont=>exact p.elim
 |ret v=>obtain⟨V,h',ae,X',q,_⟩:=p;have q:8=7∧_:=q.2;exact absurd q.1 (by decide)
 |next=>
  obtain⟨iZ,h1,aK,X1,q1,uy,J1,T1⟩:=p
  exact next q1 (a.ow uy J1 T1)
theorem Yh:(qF.all fun x=>wS eO x cJ)=true:=by kernel_rfl
theorem jl(h:i<12):wS eO (aY i) cJ=true:=by
 have:i=0∨i=1∨i=2∨i=3∨i=4∨i=5∨i=6∨i=7∨i=8∨i=9∨i=10∨i=11:=by lia
 have m:aY i∈qF:=by
  have l:i<qF.length:=by show i<12;exact h
  unfold aY
  rw[dc,cA l]
  exact nR l
 exact aM.mp Yh _ m
theorem VJ(B:Base w s₁):br (aj w s₁ ρ F) 64 (fC f1 f2):= @sR w s₁ ρ F (fP B) 300 4 (by decide) (BY (DD f1 f2)) (fun m cl y=>RE B (by unfold DD;rw[aT,dZ];exact bb _) m cl y) 60
theorem br.up{m:Nat}(Y:br c m cl)(h:m≤n):br c n cl:=fun{A X ad s hh f as vs k}ao I hl P q=>Y (ao.less (by lia)) I hl P q
structure vQ(d:dQ)(f1 f2:Nat):Prop where
 a:dA d 0 4=fm f1
 b:dA d 1 (cond (ag (fm f1) 3) 3 4)=fm f2
 c:2<f1→dA d 2 4=(f1-3:Nat)
 e:2<f2→dA d (cU f1) 4=(f2-3:Nat)
theorem VO(D:vQ ρ.d f1 f2):∀c∈DH f1 f2,c.holds ρ:=by
 intro c m
 unfold DH at m
 rw[dC,dC] at m
 rcases bj.mp m with m|m
 ·rcases aE.mp m with rfl|m
  ·exact decide_eq_true D.a
  rcases aE.mp m with rfl|m
  ·exact decide_eq_true D.b
  ·exact(aP m).elim
 ·rcases bj.mp m with m|m
  ·induction z:bq 2 f1 using Bool.casesOn with
   |false=>rw[z] at m;exact(aP m).elim
   |true=>rw[z] at m;rw[bx.mp m];exact decide_eq_true (D.c (blt_iff.mp z))
  ·induction z:bq 2 f2 using Bool.casesOn with
   |false=>rw[z] at m;exact(aP m).elim
   |true=>rw[z] at m;rw[bx.mp m];exact decide_eq_true (D.e (blt_iff.mp z))
theorem Qh(K:jx ρ f1 f2)(kM:f1<3∨f2<3)(D:vQ ρ.d f1 f2):∃cs v env h r,xX f1 f2= .ok cs 7 v env h∧cY ρ cs∧hW [] env h (eK f1 f2) []=some r∧cy ρ ρ r.1∧r.2= []:=by
 have hp:=(LD K.h1 K.h2 kM).1
 unfold lU at hp
 split at hp
 ·rename_i cs f v env h hR
  refine o7 hp fun h3 h4 h2=> ?_
  have h4:=aZ h4
  subst h4
  split at h2
  ·rename_i r hr
   refine d1 h2 fun h5 h6=> ?_
   refine⟨cs,v,env,h,r,hR,wa fun c m=>VO D c (vW (aM.mp h3 c m)),hr,wg rfl rfl K.i0 K.i1 h5,?_⟩
   induction z:r.2 using List.casesOn with
   |nil=>rfl
   |cons _ _=>rw[z] at h6;exact nf h6
  ·exact nf h2
 ·exact nf hp
end
end
section
noncomputable section
variable{s₁:Shared} {f1 f2:Nat}
noncomputable def gf:ME:=match aY 6 with| .asg _ (.call f _ _) _=>f|_=> .absent
noncomputable def jN:ME:=match aY 6 with| .asg t _ _=>t|_=> .absent
noncomputable def jC(d:dQ)(f1 f2:Nat):En:=app (eK f1 f2) [(281,.ar (NC d f1 2++NC d f2 (cU f1))),(129,.ar [])]
theorem Es:((wM eO gf cJ).e&&((dB eO iV cJ).l&&(wM eO jN cJ).g))=true:=by kernel_rfl
theorem Yx:∃p q,cn aw (aY 6)= .Assign [az aw jN] (.Call (az aw gf) (bO aw iV) [] q) p∧(∀e,eval (.Call (az aw gf) (bO aw iV) [] q) e=(do callWith q (←eval (az aw gf) e) [] (backTo q (starEach (bO aw iV) e)) []))∧
  (∀e,swapsWithSole [az aw jN] (.Call (az aw gf) (bO aw iV) [] q) p.line e=pure false)∧(∀e,swappedStores [az aw jN] (.Call (az aw gf) (bO aw iV) [] q) e=pure none):=by
 refine⟨_,_,rfl,fun e=>Al aw (f:=gf) rfl _ _ e,fun e=>rfl,fun e=>rfl⟩
theorem RB{k:K}:(cM gf).e aG cl 300 env h k=k (.fn 98) h:=rfl
theorem SS(N M:SV){k:En→Res}:cT jN aG (.tup [N,M]) (eK f1 f2) k=k (app (eK f1 f2) [(281,N),(129,M)]):=rfl
theorem so(B:Base w s₁):br (aj w s₁ ρ F) 72 (fC f1 f2):=fun{A X ad s hh f as vs k}ao I hl P q=>VJ B (ao.less (by decide)) I hl P q
theorem Qb(B:Base w s₁)(Kv:jx ρ f1 f2)(kM:f1<3∨f2<3)(a:At (aj w s₁ ρ F) 72 cJ A e X [] s (eK f1 f2) []){q:Pos}(hc:∀e,eval (.Call (az aw gf) (bO aw iV) [] q) e=(do callWith q (←eval (az aw gf) e) [] (backTo q (starEach (bO aw iV) e)) []))
  {k:K}(hk:(aj w s₁ ρ F).Ok (k (V0 ρ.d f1 f2) [])):wpAny (model pw_sm0015_01 w) A (eval (.Call (az aw gf) (bO aw iV) [] q) e) (aF (aj w s₁ ρ F) X [] s k) NE s:=by
 rw[hc]
 let F1:Nat→SV→En→Hp→Prop:=fun fl v _ hh=>v= .fn 98∧hh= []
 let F2:Nat→SV→En→Hp→Prop:=fun _ _ _ _=>True
 have C1:ax (aj w s₁ ρ F1):=fP B
 have Y1:br (aj w s₁ ρ F1) 72 (fC f1 f2):=so B
 have hf:aO (aj w s₁ ρ F1) 72 cJ (fC f1 f2) 300 (cM gf).e (az aw gf):=(sM C1 Y1 (by decide) gf cJ).e (aQ Es).1
 have a':At (aj w s₁ ρ F1) 72 cJ A e X [] s (eK f1 f2) []:=a.toF
 refine wpAny_bind (bX (hf (k:=gc) a' (by show Ok ρ F1 ((cM gf).e aG (fC f1 f2) 300 (eK f1 f2) [] gc);rw[RB];exact⟨trivial,rfl,rfl⟩)) fun v s1 V h1 aK X1 q1 r1 J1 T1=> ?_)
 obtain⟨rfl,rfl⟩:V= .fn 98∧h1= []:=q1.2
 have C2:ax (aj w s₁ ρ F2):=fP B
 have Y2:br (aj w s₁ ρ F2) 72 (fC f1 f2):=so B
 refine ai ((gw C2 Y2 (by decide:300≤100000) iV cJ).l (aQ (aQ Es).2).1) fun he hd=> ?_
 have a1:At (aj w s₁ ρ F2) 72 cJ A e X1 aK s1 (eK f1 f2) []:=(a'.next J1 T1).toF
 have qa:(aj w s₁ ρ F2).Ok ((cQ iV).l (aj w s₁ ρ F2).P (fC f1 f2) 300 (eK f1 f2) [] fun l h=>Cd f1 f2 l h (.ok [] 9 .none [] [])):=by
  have hb:=(LD Kv.h1 Kv.h2 kM).2
  unfold lS at hb
  show Ok ρ F2 (K2 f1 f2)
  split at hb
  ·rename_i cs f v env h hR
   refine d1 hb fun _ h2=> ?_
   rw[hR]
   induction cs using List.casesOn with
   |nil=>exact⟨trivial,trivial⟩
   |cons _ _=>exact nf h2
  ·exact nf hb
 refine r8 (c:=aj w s₁ ρ F2) he hd a1 qa fun vs s2⟨l,h2,bl,X2,q2,P2,J2,T2,_⟩=> ?_
 have q2:Ok ρ F2 (Cd f1 f2 l h2 (.ok [] 9 .none [] [])):=q2
 refine ai (aJ q2) fun hw _=> ?_
 refine d1 hw fun hl hw=> ?_
 obtain⟨V,rfl⟩:∃V,l= [V,.lit (aq 4)]:=⟨_,by rw[←sI (bJ.mp hl).2];exact ug (bJ.mp hl).1⟩
 have hw:(match dY [] h2 20 V (j6 f1 f2) with|some e=>j2 e (eqB (gv f1 f2))|none=>false)=true:=hw
 induction gW:dY [] h2 20 V (j6 f1 f2) using Option.casesOn with
 |none=>rw[gW] at hw;exact nf hw
 |some ev=>
  rw[gW] at hw
  refine Internal.p1 P2 fun v0 r p0 P2=> ?_
  refine Internal.p1 P2 fun v1 r p1 P2=> ?_
  refine Internal.p0 P2 ?_
  have oY:Step [] X [] s X2 bl s2:=T1.trans T2
  have J:Inv (aj w s₁ ρ F) X [] [] s2:=⟨J2.base,rfl,fun i o e=>(by cases(show(none:Option SO)=some o from e)),fun i j p q e=>(by rw[show([]:Ad)[i]? =none from rfl] at e;(exfalso;injection e)),fun b m=>(by obtain⟨p,m,_⟩:=m;exact(aP m).elim),fun b m=>J2.live b (oY.XK b m),fun b m=>J2.own b (oY.XK b m),J2.rest⟩
  have xZ:∀b∈X,b<s.heap.objs.size:=a.inv.low
  have Tl:lR [] X2 X bl []:=⟨oY.XK,fun j i e=>(by cases(show(none:Option Nat)=some i from e)),fun i p hp _ m=>(oY.dI p.1 ⟨p,cf hp,.inl rfl⟩).elim (fun⟨x,mx,_⟩=>by exact(aP mx).elim) fun z=>df _ (cV (xZ _ m) z)⟩
  have r0:cC w ρ X [] s2.heap v0 (j6 f1 f2):=qt (c:=aj w s₁ ρ F2) (ρ':=ρ) (F':=F2) J2 Tl 20 _ _ v0 ev gW (wg (ρ:=ρ) (ρ':=ρ) rfl rfl Kv.i0 Kv.i1 hw) p0
  have r1':cC w ρ X [] s2.heap v1 (.lit (zN 4)):=by obtain⟨t,rfl⟩:=VR.dj p1;exact .lit _ t
  have lw:bY (aj w s₁ ρ F) s2:=a.low.step oY
  refine ai (Qa (F:=F) B Kv (a.ao.less (by decide)) J lw r0 r1') fun g1 g2=> ?_
  have ev:v= .ref (aN.fa 98):=by obtain rfl:=VR.D3 r1;rfl
  subst ev
  refine⟨keeps_K (AY g1) _ (J.eA (fP B)),?_⟩
  refine ay (call_of (c:=aj w s₁ ρ F) g2) fun v s3⟨rv,J3,T3⟩=> ?_
  have Z1:Step [] X [] s X [] s2:=⟨oY.keep,oY.size,fun _ _ e=>e,fun _ m=> .inl m,fun _ m=>m,fun _ m=> .inl m⟩
  exact⟨V0 ρ.d f1 f2,[],[],X,hk,rv,J3,Z1.trans T3⟩
theorem Qc(B:Base w s₁)(Kv:jx ρ f1 f2)(kM:f1<3∨f2<3)(a:At (aj w s₁ ρ F) 72 cJ A e X [] s (eK f1 f2) []){k:En→Hp→Res}{kr:K}(hk:(aj w s₁ ρ F).Ok (k (jC ρ.d f1 f2) [])):
  wpAny (model pw_sm0015_01 w) A (exec (cn aw (aY 6)) e) (dR (aj w s₁ ρ F) e X [] s k kr) NE s:=by
 refine ll Yx fun p q e1 hc hs hw=> ?_
 rw[e1]
 have C:ax (aj w s₁ ρ F):=fP B
 have Y:br (aj w s₁ ρ F) 72 (fC f1 f2):=so B
 have ht:eW (aj w s₁ ρ F) cJ (lb jN) (cT jN) (az aw jN):=(sM C Y (by decide:300≤100000) jN cJ).g (aQ (aQ Es).2).2
 refine vD (c:=aj w s₁ ρ F) (ht.one e []) (bX (Qb B Kv kM a hc (k:=fun V h=>cT jN aG V (eK f1 f2) fun env=>k env h) ?_) fun v s1 V h1 aK X1 q1 r1 J1 T1=>nL (ht.run (D:=aV e) (fun _ _=>Wr.aV) (a.next J1 T1).fr.bc a.ao.dm J1 (a.next J1 T1).fr a.sc r1 q1) fun _ s2 jB q2 R2 J2 T2 _=>dR.iE q2 R2 J2 (T1.to.trans T2)) (hs e) (hw e)
 show(aj w s₁ ρ F).Ok (cT jN aG (V0 ρ.d f1 f2) (eK f1 f2) fun env=>k env [])
 unfold V0
 rw[SS]
 exact hk
theorem RP(B:Base w s₁)(Kv:jx ρ f1 f2)(kM:f1<3∨f2<3)(D:vQ ρ.d f1 f2)(a:At (aj w s₁ ρ F0) 72 cJ A e X ad s [(264,.ref 0)] [.lst [.c9,.lit (zN 0)]]){Q:Flow→Shared→Prop}
  (next:∀{s' X'},At (aj w s₁ ρ F0) 72 cJ A e X' [] s' (jC ρ.d f1 f2) []→wpAny (model pw_sm0015_01 w) A (execs rest e) Q NE s'):
  wpAny (model pw_sm0015_01 w) A (execs (cn aw (aY 1)::cn aw (aY 2)::cn aw (aY 3)::cn aw (aY 4)::cn aw (aY 5)::cn aw (aY 6)::rest) e) Q NE s:=by
 obtain⟨cs,vv,eD,hE,r,hR,hcs,hr,he,hg⟩:=Qh Kv kM D
 have C:ax (aj w s₁ ρ (FE .none eD hE)):=fP B
 have Y:br (aj w s₁ ρ (FE .none eD hE)) 72 (fC f1 f2):=so B
 have q:(aj w s₁ ρ (FE .none eD hE)).Ok (xX f1 f2):=by
  show Ok ρ (FE .none eD hE) (xX f1 f2)
  rw[hR]
  exact⟨hcs,rfl,rfl,rfl⟩
 refine p9 C Y (jl (by decide:1<12)) a.toF (k:=fun env h=>e9 [aY 2,aY 3,aY 4,aY 5] aG (fC f1 f2) 300 env h eJ cL) q fun{s1 iZ h1 aK X1}q1 a1=> ?_
 refine p9 C Y (jl (by decide:2<12)) a1 (k:=fun env h=>e9 [aY 3,aY 4,aY 5] aG (fC f1 f2) 300 env h eJ cL) q1 fun{s2 jB h2 bl X2}q2 a2=> ?_
 refine p9 C Y (jl (by decide:3<12)) a2 (k:=fun env h=>e9 [aY 4,aY 5] aG (fC f1 f2) 300 env h eJ cL) q2 fun{s3 i6 h3 gU X3}q3 a3=> ?_
 refine p9 C Y (jl (by decide:4<12)) a3 (k:=fun env h=>e9 [aY 5] aG (fC f1 f2) 300 env h eJ cL) q3 fun{s4 aal h4 yC X4}q4 a4=> ?_
 refine p9 C Y (jl (by decide:5<12)) a4 (k:=eJ) q4 fun{s5 YC h5 d8 X5}q5 a5=> ?_
 obtain⟨_,rfl,rfl⟩:7=7∧YC=eD∧h5=hE:=q5.2
 have Gρ:iw ρ:=⟨fun g V m=>(by rw[Kv.g] at m;exact(aP m).elim),fun q m=>(by rw[Kv.r] at m;exact(aP m).elim)⟩
 obtain⟨X6,Dx,a6,_,_,_⟩:=FT (F':=FE .none (jC ρ.d f1 f2) []) (N:=[]) a5 Gρ hr he (by rw[hg];intro p m;exact(aP m).elim) fun b m=>by exact(aP m).elim
 have z6:Dx= []:=Ex a6.inv.len
 subst z6
 have a6:At (aj w s₁ ρ (FE .none (jC ρ.d f1 f2) [])) 72 cJ A e X6 [] s5 (eK f1 f2) []:=a6
 refine wpAny_execs_cons (ay (Qc B Kv kM a6 (k:=eJ) (kr:=cL) ⟨trivial,rfl,rfl,rfl⟩) fun f s6 p=> ?_)
 induction f with
 |brk=>exact p.elim
 |cont=>exact p.elim
 |ret v=>obtain⟨V,h',ae,X',q,_⟩:=p;have q:8=7∧_:=q.2;exact absurd q.1 (by decide)
 |next=>
  obtain⟨aD,h',ae,X',q6,ZW,J6,T6⟩:=p
  obtain⟨_,rfl,rfl⟩:7=7∧aD=jC ρ.d f1 f2∧h'= []:=q6.2
  have a7:=a6.ow ZW J6 T6
  have z7:ae= []:=Ex J6.len
  subst z7
  exact next a7.toF
end
end
section
noncomputable section
noncomputable def gV(T:Nat→List SV→Bool):aX:=fun f as h k=>cond (T f as) (k (.bool true) h) (bad 0)
noncomputable def eh(a b:Nat)(G1 G2 Ls:SV)(N:List SV):En:=[(165,.ar [.lit (zN a),.lit (zN b)]),(192,.ar [.tup [G1,.au],.tup [G2,.au]]),(280,Ls),(281,.ar N),(129,.ar [])]
noncomputable def qu(a b:Nat)(G1 G2 Ls:SV)(N:List SV)(L:Nat):En:=app (eh a b G1 G2 Ls N) [(303,.ar [.lit (zN 0),.lit (zN L)])]
noncomputable def xg(a b:Nat)(G1 G2 Ls:SV)(N:List SV)(L:Nat)(M1 M2:List SV):En:=app (qu a b G1 G2 Ls N L) [(304,.ar [.ar M1,.ar M2])]
noncomputable def I8(a b:Nat)(G1 G2 Ls:SV)(N:List SV)(L:Nat)(M1 M2:List SV):En:=app (xg a b G1 G2 Ls N L M1 M2) [(305,.ar [.fn 100,.fn 101,.fn 103,.fn 105])]
noncomputable def o5(a:Nat):Nat:=match a with|0=>100|1=>101|2=>103|_=>105
noncomputable def t7:CT:=qT (qA (jM 130) (qA (jM 348) x7))
noncomputable def q7:CB:=ur (Cj (dD 348) (fx (.lit (zN 0)))) (tP .Eq (fx (.str 63)))
variable{a b:Nat} {G1 G2 Ls:SV} {N:List SV} {L:Nat} {M1 M2:List SV} {k:En→Hp→Res} {kr:K}
theorem Va:cS (aY 7) aG cl 300 (eh a b G1 G2 Ls N) [] k kr=cond (big (len N)) (kg [313,130,348] (eh a b G1 G2 Ls N) fun env=>d0 t7 (dD 130) q7 aG cl 300 env (fun V h=>putK (eh a b G1 G2 Ls N) 303 V fun env=>k env h) 300 (.enum 0 N) [] []) (bad 31):=by kernel_rfl
theorem VT(kk:En→Res):kg [313,130,348] (eh a b G1 G2 Ls N) kk=kk (eh a b G1 G2 Ls N):=rfl
theorem Zp(kk:En→Res):putK (eh a b G1 G2 Ls N) 303 V kk=kk (app (eh a b G1 G2 Ls N) [(303,V)]):=rfl
theorem Vb:cS (aY 8) aG cl 300 (qu a b G1 G2 Ls N L) [] k kr=k (qu a b G1 G2 Ls N L) []:=rfl
theorem Vc:cS (aY 9) aG cl 300 (qu a b G1 G2 Ls N L) [] k kr=cond (big (len N)) (cond (big (len N)) (k (xg a b G1 G2 Ls N L (o9 (clamp (zN 1) (len N)) (pR (clamp (zN L) (len N)) N)) (o9 (clamp (iQ (zN L) (zN 1)) (len N)) (pR (len N) N))) []) (bad 9)) (bad 9):=rfl
theorem SD:cS (aY 10) aG cl 300 (xg a b G1 G2 Ls N L M1 M2) [] k kr=k (I8 a b G1 G2 Ls N L M1 M2) []:=rfl
theorem SE(T:Nat→List SV→Bool)(G1 G2 Ls:SV)(N M1 M2:List SV)(L:Nat)(k:En→Hp→Res)(kr:K):([0,1,2,3].map fun a=>[0,1,2,3].map fun b=>cS (aY 11) aG (gV T) 300 (I8 a b G1 G2 Ls N L M1 M2) [] k kr)=
  [0,1,2,3].map fun a=>[0,1,2,3].map fun b=>cond (T (o5 a) [G1,.ar M1]) (cond (T (o5 b) [G2,.ar M2]) (kr (.bool true) []) (bad 0)) (bad 0):=by kernel_rfl
noncomputable def l3(V:SV):Prop:=∃wd A B,V= .tup [.str wd,A,B]∧wd∈ [61,64,65,66,67]
theorem AK{kk:K}:∀(M:List SV)(m j:Nat)(R:List SV)(acc:List SV)(h:Hp),(∀V∈M,l3 V)→d0 t7 (dD 130) q7 aG cl 300 (eh a b G1 G2 Ls N) kk (M.length+m) (.enum j (M++R)) acc h=d0 t7 (dD 130) q7 aG cl 300 (eh a b G1 G2 Ls N) kk m (.enum (j+M.length) R) acc h
 | [],m,j,R,acc,h,_=>by rw[zF,cZ];rfl
 |V::M,m,j,R,acc,h,hw=>by
  refine iI (hw V (.head _)) fun wd A B af mw=> ?_;subst af
  rw[cw,show M.length+1+m=(M.length+m)+1 by lia,show j+(M.length+1)=(j+1)+M.length by lia,←AK M m (j+1) R acc h fun V m=>hw V (.tail _ m)]
  rcases aE.mp mw with rfl|mw
  ·rfl
  rcases aE.mp mw with rfl|mw
  ·rfl
  rcases aE.mp mw with rfl|mw
  ·rfl
  rcases aE.mp mw with rfl|mw
  ·rfl
  rcases aE.mp mw with rfl|mw
  ·rfl
  ·exact(aP mw).elim
theorem Hz{kk:K}(m j:Nat)(R acc:List SV)(h:Hp):d0 t7 (dD 130) q7 aG cl 300 (eh a b G1 G2 Ls N) kk (m+1) (.enum j (nN 63 []::R)) acc h=d0 t7 (dD 130) q7 aG cl 300 (eh a b G1 G2 Ls N) kk m (.enum (j+1) R) (.lit (aq j)::acc) h:=rfl
theorem VF{kk:K}(m j:Nat)(acc:List SV)(h:Hp):d0 t7 (dD 130) q7 aG cl 300 (eh a b G1 G2 Ls N) kk (m+1) (.enum j []) acc h=kk (.ar (jJ acc)) h:=rfl
theorem Rd{kk:K}(M:List SV)(m j:Nat)(acc:List SV)(h:Hp)(hw:∀V∈M,l3 V):d0 t7 (dD 130) q7 aG cl 300 (eh a b G1 G2 Ls N) kk (M.length+m) (.enum j M) acc h=d0 t7 (dD 130) q7 aG cl 300 (eh a b G1 G2 Ls N) kk m (.enum (j+M.length) []) acc h:=by
 have:=AK (a:=a) (b:=b) (G1:=G1) (G2:=G2) (Ls:=Ls) (N:=N) (cl:=cl) (kk:=kk) M m j [] acc h hw
 rwa [iM] at this
theorem Bk{x y:Res}:cond true x y=x:=rfl
theorem An{k n:Nat}(h:k≤n):clamp (aq k) n=k:=by
 show cond (bq k n) k n=k
 induction z:bq k n using Bool.casesOn with
 |true=>rfl
 |false=>
  have:¬k<n:=fun y=>by rw[blt_iff.mpr y] at z;exact nf z.symm
  show n=k;lia
theorem YV{kk:K}(w1:∀V∈M1,l3 V)(w2:∀V∈M2,l3 V)(m:Nat):d0 t7 (dD 130) q7 aG cl 300 (eh a b G1 G2 Ls N) kk ((M1.length+((M2.length+(m+1))+1))+1) (.enum 0 ((nN 63 []::M1)++(nN 63 []::M2))) [] []=kk (.ar [.lit (zN 0),.lit (zN (M1.length+1))]) []:=by
 rw[OB,Hz,AK M1 _ _ _ _ _ w1,Hz,Rd M2 _ _ _ _ w2,VF]
 show kk (.ar [.lit (aq 0),.lit (aq (0+1+M1.length))]) []=_
 rw[show 0+1+M1.length=M1.length+1 by lia];rfl
theorem XY(w1:∀V∈M1,l3 V)(w2:∀V∈M2,l3 V)(hl:M1.length+M2.length<200):cS (aY 7) aG cl 300 (eh a b G1 G2 Ls ((nN 63 []::M1)++(nN 63 []::M2))) [] k kr=k (qu a b G1 G2 Ls ((nN 63 []::M1)++(nN 63 []::M2)) (M1.length+1)) []:=by
 have Cw:big (len ((nN 63 []::M1)++(nN 63 []::M2)))=true:=by
  rw[len_eq,cH,cw,cw];exact blt_iff.mpr (by lia)
 obtain⟨m,hm⟩:∃m,300=(M1.length+((M2.length+(m+1))+1))+1:=⟨300-(M1.length+M2.length+3),by lia⟩
 rw[Va,Cw,VT,Bk]
 have:∀f g:Nat,f=g→∀kk:K,d0 t7 (dD 130) q7 aG cl 300 (eh a b G1 G2 Ls ((nN 63 []::M1)++(nN 63 []::M2))) kk f (.enum 0 ((nN 63 []::M1)++(nN 63 []::M2))) [] []=d0 t7 (dD 130) q7 aG cl 300 (eh a b G1 G2 Ls ((nN 63 []::M1)++(nN 63 []::M2))) kk g (.enum 0 ((nN 63 []::M1)++(nN 63 []::M2))) [] []:=fun f g e kk=>by rw[e]
 rw[this 300 _ hm,YV w1 w2,Zp]
 rfl
theorem XZ(hl:M1.length+M2.length<200):cS (aY 9) aG cl 300 (qu a b G1 G2 Ls ((nN 63 []::M1)++(nN 63 []::M2)) (M1.length+1)) [] k kr=k (xg a b G1 G2 Ls ((nN 63 []::M1)++(nN 63 []::M2)) (M1.length+1) M1 M2) []:=by
 have hN:((nN 63 []::M1)++(nN 63 []::M2)).length=M1.length+1+(M2.length+1):=by rw[cH,cw,cw]
 have Cw:big (len ((nN 63 []::M1)++(nN 63 []::M2)))=true:=by
  rw[len_eq,hN];exact blt_iff.mpr (by lia)
 have s1:o9 (clamp (zN 1) (len ((nN 63 []::M1)++(nN 63 []::M2)))) (pR (clamp (zN (M1.length+1)) (len ((nN 63 []::M1)++(nN 63 []::M2)))) ((nN 63 []::M1)++(nN 63 []::M2)))=M1:=by
  rw[len_eq,show zN 1=aq 1 from rfl,An (by lia),show zN (M1.length+1)=aq (M1.length+1) from rfl,An (by lia),w8,wX]
  show List.drop 1 (List.take (nN 63 []::M1).length _)=M1
  rw[List.take_left']
  ·rfl
  ·rfl
 have s2:o9 (clamp (iQ (zN (M1.length+1)) (zN 1)) (len ((nN 63 []::M1)++(nN 63 []::M2)))) (pR (len ((nN 63 []::M1)++(nN 63 []::M2))) ((nN 63 []::M1)++(nN 63 []::M2)))=M2:=by
  rw[len_eq,show iQ (zN (M1.length+1)) (zN 1)=aq (M1.length+2) from rfl,An (by lia),w8,wX,List.take_length]
  rw[show M1.length+2=(nN 63 []::M1).length+1 from rfl,List.drop_append,List.drop_eq_nil_of_le (by lia),rR]
  rfl
 rw[Vc,Cw,Bk,Bk,s1,s2]
theorem SR{T:Nat→List SV→Bool}{a b:Nat}(ha:a<4)(hb:b<4){G1 G2 Ls:SV}{M1 M2:List SV}(w1:∀V∈M1,l3 V)(w2:∀V∈M2,l3 V)(hl:M1.length+M2.length<200)(T1:T (o5 a) [G1,.ar M1]=true)(T2:T (o5 b) [G2,.ar M2]=true):
  cS (aY 7) aG (gV T) 300 (eh a b G1 G2 Ls ((nN 63 []::M1)++(nN 63 []::M2))) [] (fun env h=>cS (aY 8) aG (gV T) 300 env h (fun env h=>cS (aY 9) aG (gV T) 300 env h (fun env h=>cS (aY 10) aG (gV T) 300 env h (fun env h=>cS (aY 11) aG (gV T) 300 env h eJ cL) cL) cL) cL) cL= .ok [] 8 (.bool true) [] []:=by
 rw[XY w1 w2 hl,Vb,XZ hl,SD]
 have ma:a∈ [0,1,2,3]:=by
  have:a=0∨a=1∨a=2∨a=3:=by lia
  rcases this with rfl|rfl|rfl|rfl<;>decide
 have mb:b∈ [0,1,2,3]:=by
  have:b=0∨b=1∨b=2∨b=3:=by lia
  rcases this with rfl|rfl|rfl|rfl<;>decide
 rw[fk.mp (fk.mp (SE T G1 G2 Ls ((nN 63 []::M1)++(nN 63 []::M2)) M1 M2 (M1.length+1) eJ cL) a ma) b mb,T1,T2]
 rfl
end
end
section
section
variable{prog:Program} {R:Result→Shared→Prop}
theorem Pg(elt:PySem.Expr)(g1:Comprehension)(target iter:PySem.Expr)(ifs:List PySem.Expr)(scope:Scope)(pos:Pos)(it acc:Value)(env:Env):
  compTurn (.ListComp elt [g1,⟨target,iter,ifs,0⟩] scope pos) 1 it acc env=(do
   standAt iter.pos
   match←pyNext it with
   |none=>pure (.done .next)
   |some v=>
    letOwnedTupleGo target it v
    assign target env v
    let mut ok:=true
    for c in ifs do
     if ok then ok←isTrue c env (eval c env)
    if ok then
     (do let _←call (.builtin "list.append") [acc,←eval elt env])
    again (.compLoop (.ListComp elt [g1,⟨target,iter,ifs,0⟩] scope pos) 1 it acc env)):=by rfl
theorem O5(elt target iter t2 i2:PySem.Expr)(ifs:List PySem.Expr)(scope:Scope)(pos:Pos)(it acc:Value)(env:Env):
  compTurn (.ListComp elt [⟨target,iter,[],0⟩,⟨t2,i2,ifs,0⟩] scope pos) 0 it acc env=(do
   standAt iter.pos
   match←pyNext it with
   |none=>pure (.done .next)
   |some v=>
    letOwnedTupleGo target it v
    assign target env v
    let x←eval i2 env
    standAt i2.pos
    let x←foldedSetIterable i2 env x
    let _←runOwn (.compStart (.ListComp elt [⟨target,iter,[],0⟩,⟨t2,i2,ifs,0⟩] scope pos) 1 (←holding [x] (pyIter x)) acc env) env
    again (.compLoop (.ListComp elt [⟨target,iter,[],0⟩,⟨t2,i2,ifs,0⟩] scope pos) 0 it acc env)):=by rfl
theorem Pf{elt target iter:PySem.Expr}{g1:Comprehension}{scope:Scope}{it acc:Value}{env:Env}(I:Nat→Shared→Prop)
  (turn:∀n s,I n s→wpAny (model prog w) A (pyNext it) (fun r s₁=>match r with
   |none=>R (.ok .next) s₁
   |some v=>wpAny (model prog w) A (letOwnedTupleGo target it v) (fun _ ko=>wpAny (model prog w) A (assign target env v) (fun _ s₂=>wpAny (model prog w) A (tests env ifs) (fun ok s₃=>
     if ok=true then wpAny (model prog w) A (eval elt env) (fun x s₄=>wpAny (model prog w) A (call (.builtin "list.append") [acc,x]) (fun _ s₅=>∃m,m<n∧I m s₅) NE s₄) NE s₃
     else∃m,m<n∧I m s₃) NE s₂) NE ko) NE s₁) NE s)
  (n:Nat)(h:I n s):codeAny (model prog w) A (.compLoop (.ListComp elt [g1,⟨target,iter,ifs,0⟩] scope pos) 1 it acc env) R s:=by
 refine codeAny_loop rfl I (fun n s hI=> ?_) n h
 show wpAny _ A ((compTurn (.ListComp elt [g1,⟨target,iter,ifs,0⟩] scope pos) 1 it acc env).onRaise (fun x=>do noteFrame x env;theTreesLotGoes x)) _ _ s
 refine wpAny_noted ?_
 rw[Pg]
 refine wpAny_mono (E:=NE) ?_ (fun _ _ x=>x) fun _ _ x=>x.elim
 refine wpAny_bind (wpAny_standAt (wpAny_bind (ay (turn n s hI) fun r s₁ h₁=> ?_)))
 induction r with
 |none=>exact wpAny_pure h₁
 |some v=>
  refine wpAny_bind (ay h₁ fun _ ko tF=> ?_)
  refine wpAny_bind (ay tF fun _ s₂ h₂=>wpAny_bind (ay h₂ fun ok s₃ h₃=> ?_))
  induction ok with
  |false=>exact wpAny_pure ⟨rfl,h₃⟩
  |true=>exact wpAny_bind (wpAny_bind (ay h₃ fun x s₄ h₄=>wpAny_bind (ay h₄ fun _ s₅ h₅=>wpAny_pure (wpAny_pure ⟨rfl,h₅⟩))))
noncomputable def Mu(I:Nat→Shared→Prop)(n:Nat)(r:Result)(s:Shared):Prop:=match r with| .ok _=>∃m,m<n∧I m s| .error _=>False
theorem O3{elt target iter t2 i2:PySem.Expr}{scope:Scope}{it acc:Value}{env:Env}(hf:∀x,foldedSetIterable i2 env x=pure x)(I:Nat→Shared→Prop)
  (turn:∀n s,I n s→wpAny (model prog w) A (pyNext it) (fun r s₁=>match r with
   |none=>R (.ok .next) s₁
   |some v=>wpAny (model prog w) A (letOwnedTupleGo target it v) (fun _ ko=>wpAny (model prog w) A (assign target env v) (fun _ s₂=>wpAny (model prog w) A (eval i2 env) (fun x s₃=>wpAny (model prog w) A (pyIter x) (fun j s₄=>
     codeAny (model prog w) A (.compStart (.ListComp elt [⟨target,iter,[],0⟩,⟨t2,i2,ifs,0⟩] scope pos) 1 j acc env) (Mu I n) s₄) NE s₃) NE s₂) NE ko) NE s₁) NE s)
  (n:Nat)(h:I n s):codeAny (model prog w) A (.compLoop (.ListComp elt [⟨target,iter,[],0⟩,⟨t2,i2,ifs,0⟩] scope pos) 0 it acc env) R s:=by
 refine codeAny_loop rfl I (fun n s hI=> ?_) n h
 show wpAny _ A ((compTurn (.ListComp elt [⟨target,iter,[],0⟩,⟨t2,i2,ifs,0⟩] scope pos) 0 it acc env).onRaise (fun x=>do noteFrame x env;theTreesLotGoes x)) _ _ s
 refine wpAny_noted ?_
 rw[O5]
 refine wpAny_mono (E:=NE) ?_ (fun _ _ x=>x) fun _ _ x=>x.elim
 refine wpAny_bind (wpAny_standAt (wpAny_bind (ay (turn n s hI) fun r s₁ h₁=> ?_)))
 induction r with
 |none=>exact wpAny_pure h₁
 |some v=>
  refine wpAny_bind (ay h₁ fun _ ko tF=> ?_)
  refine wpAny_bind (ay tF fun _ s₂ h₂=> ?_)
  refine wpAny_bind (ay h₂ fun x s₃ h₃=>wpAny_bind (wpAny_standAt (wpAny_bind (wpAny_of_eq (hf x) ?_))))
  refine wpAny_bind (wpAny_holding (ay h₃ fun j s₄ h₄=>wpAny_bind (wpAny_runOwn (codeAny_mono h₄ fun r s₅ h₅=> ?_))))
  induction r with
  |ok f=>exact wpAny_pure ⟨rfl,h₅⟩
  |error e=>exact h₅.elim
theorem O4{elt target iter:PySem.Expr}{g1:Comprehension}{scope:Scope}{it acc:Value}{env:Env}
  (h0:codeAny (model prog w) A (.compLoop (.ListComp elt [g1,⟨target,iter,ifs,0⟩] scope pos) 1 it acc env) R s)
  (h:wpAny (model prog w) A (pyIter it) (fun D7 s'=>codeAny (model prog w) A (.compLoop (.ListComp elt [g1,⟨target,iter,ifs,0⟩] scope pos) 1 D7 acc env) R s')
   (notedBy (model prog w) A env fun x s'=>R (.error x) s') s):
  codeAny (model prog w) A (.compStart (.ListComp elt [g1,⟨target,iter,ifs,0⟩] scope pos) 1 it acc env) R s:=by
 refine codeAny_of_tree ?_
 show wpAny _ _ ((compStart (.ListComp elt [g1,⟨target,iter,ifs,0⟩] scope pos) 1 it acc env).onRaise (fun x=>do noteFrame x env;standAt theWindowsPlace)) _ _ s
 refine wpAny_notedAt ?_
 unfold compStart
 show wpAny _ _ (ask>>=_) _ _ s
 refine wpAny_bind (wpAny_askSetting (wpAny_ite ?_))
 split
 ·first
   |exact wpAny_bind (wpAny_pure (wpAny_pure (And.intro rfl h0)))
   |exact wpAny_pure (And.intro rfl h0)
 ·first
   |exact wpAny_bind (wpAny_rule (wpAny_bind (wpAny_standAt (wpAny_bind (ay h fun D7 s' h'=>wpAny_pure (And.intro rfl h'))))))
   |(refine wpAny_bind (wpAny_rule ?_);show wpAny _ _ (standAt iter.pos>>=_) _ _ s;exact wpAny_bind (wpAny_standAt (wpAny_bind (ay h fun D7 s' h'=>wpAny_pure (And.intro rfl h')))))
end
noncomputable def oL(t2:CT)(body:C)(test:CB)(P:Prog)(cl:aX)(n:Nat)(env:En)(gO:List SV→Hp→Res)(m:Nat):IT→List SV→Hp→Res:=
 Nat.rec (fun _ _ _=>bad 48) (fun _ ih it acc h=>nextK it h (gO acc h) fun v it=>t2 P v env fun aD=>test P cl n aD h fun b h=>cond b (body P cl n aD h fun v h=>ih it (v::acc) h) (ih it acc h)) m
noncomputable def tM(t1:CT)(fg:CI)(t2:CT)(body:C)(test:CB)(P:Prog)(cl:aX)(n:Nat)(env:En)(k:K)(m:Nat):IT→List SV→Hp→Res:=
 Nat.rec (fun _ _ _=>bad 48) (fun _ ih it acc h=>nextK it h (k (.ar (jJ acc)) h) fun v it=>t1 P v env fun aD=>fg P cl n aD h fun j h=>oL t2 body test P cl n aD (fun acc h=>ih it acc h) n j acc h) m
noncomputable def Bg(ls:List Nat)(it:CI)(t1:CT)(fg:CI)(t2:CT)(body:C)(test:CB):C:=fun P cl n env h k=>it P cl n env h fun it h=>kg ls env fun env=>tM t1 fg t2 body test P cl n env k n it [] h
section
variable{m:Nat}
inductive Ms (c:Cx) (e:Env) (env:En) (Cc D:Addr) (X:List Addr) (ad:Ad) (s:Shared) (B:Nat) (gO:List SV→Hp→Res) (s':Shared):Prop
 |mk (acc:List SV) (vs:List Value) (h':Hp) (ae:Ad) (X':List Addr):c.Ok (gO acc h')→bC c e X' ae s'.heap env→s'.heap.PlainList D vs.toArray→c.VL X' ae s'.heap vs acc.reverse→Inv c X' ae h' s'→Step [Cc,D] X ad s X' ae s'→vs.length≤B→Ms c e env Cc D X ad s B gO s'
noncomputable def Mr(c:Cx)(e:Env)(env:En)(Cc D:Addr)(X:List Addr)(ad:Ad)(s:Shared)(B:Nat)(gO:List SV→Hp→Res)(r:Result)(s':Shared):Prop:=match r with
 | .ok _=>Ms c e env Cc D X ad s B gO s'
 | .error _=>False
theorem Xg{t2:CT}{body:Internal.C}{test:CB}{db:PySem.Expr}{g1:Comprehension}{scp:Scope}{p:Pos}(ht:eW c sc ns t2 dt)(hb:aO c m sc cl n body db)(gY:jn c m sc cl n test dJ)
  {X0:List Addr}{yB:Ad}{s0:Shared}{gO:List SV→Hp→Res}{it:IT}{D:Addr}{acc:List SV}{B:Nat}
  (T0:Step [] X0 yB s0 X ad s)(Y0:∀b∈X0,b<s0.heap.objs.size)(hN0:∀b∈N,s0.heap.objs.size≤b)(K:LK c m sc A e X ad s env h D N ns)(R:c8 c dt X ad s.heap v it N)
  (L:s.heap.PlainList D vs.toArray)(P:c.VL X ad s.heap vs acc.reverse)(hB:B≤100000)(hv:vs.length+n≤B)(q:c.Ok (oL t2 body test c.P cl n env gO n it acc h)):
  codeAny c.M A (.compLoop (.ListComp db [g1,⟨dt,di,dJ,0⟩] scp p) 1 v (.ref D) e) (Mr c e env e.locals D X0 yB s0 B gO) s:=by
 refine Pf (fun j s'=>m9 c e env dt D N X ad s v B j (oL t2 body test c.P cl n env gO j) s') (fun j s5 S=> ?_) n ⟨it,acc,vs,h,ad,X,q,K.at'.fr,R,L,P,K.at'.inv,Step.refl ..,hv⟩
 induction j using Nat.casesAuxOn with
 |zero=>exact(A1 S).elim
 |succ j=>
  refine ay (A0 K ht (done:=gO) (G:=fun aD it acc h=>test c.P cl n aD h fun b h=>cond b (body c.P cl n aD h fun v h=>oL t2 body test c.P cl n env gO j it (v::acc) h) (oL t2 body test c.P cl n env gO j it acc h)) S (Rn:=Mr c e env e.locals D X0 yB s0 B gO (.ok .next))
   fun s6 acc vs h5 d8 X5 q6 F5 L5 P5 J5 T5 dy G=> ?_) fun r s1 w=> ?_
  ·have nA:∀b∈N,b∈X5∧¬Mt d8 b:=fun b m=>jj K.at'.inv T5 K.hU b (.tail _ (.tail _ m))
   have rf:Step ([e.locals,D]++N) X0 yB s0 X5 d8 _:=T0.nil.trans T5
   exact⟨acc,vs,h5,d8,without X5 N,q6,F5.gone G (fun b m=>(nA b m).1) fun b m z=>K.u2 b m (.tail _ z),av L5 fun ep hL=>⟨ep,G.1 _ _ hL K.uZ⟩,Paired.imp (fun _ _ r=>qd G (fun b m=>(nA b m).1) r) P5,J5.gone G nA,Step.gone rf G hN0 Y0,cx (nS _ _) dy⟩
  ·induction r with
   |none=>exact w
   |some u=>exact ay w fun _ s2 w=>ay w fun _ s3 T=>Jn K hb gY hB T fun s' S=>⟨j,jV _,S⟩
end
end
section
section
variable{m:Nat}
theorem Sa(C:ax c)(hn:n≤300){ns2:List Nat}{ip:CI}{t2:CT}{body:Internal.C}{test:CB}{iz jc db:PySem.Expr}{p:Pos}(wf:eX sc scC=true)(qJ:∀x∈ns2,x∈bL scC)(ua:∀x∈ns2,x∉ns)
  (pn:fL c m (ba scC) cl n ip iz jc)(uR:eW c (ba scC) ns2 t2 jc)(hb:aO c m (ba scC) cl n body db)(gY:jn c m (ba scC) cl n test dJ)
  {X4:List Addr}{bl:Ad}{s4 s8:Shared}{h2:Hp}{fg:IT}{Cc D:Addr}{G:Nat→IT→List SV→Hp→Res}(K:CK c m sc scC A e X ad s dt v fg h2 X4 bl s4 Cc D N (drops (bL scC) env) ns)
  (S:yw c m (ba scC) A (fJ c e scC Cc) (drops (bL scC) env) dt D N X4 bl s4 v (n*n) ((j+1)*n) ns (fun aD it acc h=>ip c.P cl n aD h fun jt h=>oL t2 body test c.P cl n aD (fun acc h=>G j it acc h) n jt acc h) s8):
  wpAny c.M A (eval iz (fJ c e scC Cc)) (fun x s₃=>wpAny c.M A (pyIter x) (fun jv s₄=>codeAny c.M A (.compStart (.ListComp db [⟨dt,di,[],0⟩,⟨jc,iz,dJ,0⟩] (dP c.S.nm scC) p) 1 jv (.ref D) (fJ c e scC Cc))
   (Mu (fun i s₅=>m9 c (fJ c e scC Cc) (drops (bL scC) env) dt D N X4 bl s4 v (n*n) (i*n) (G i) s₅) (j+1)) s₄) NE s₃) NE s8:=by
 obtain⟨rG,acc,vs,h8,Z7,X8,xQ,q8,a8,back,yN,R8,L8,P8,T8,dy⟩:=S
 have pj:=jj K.lk.at'.inv T8 K.lk.hU
 refine ay (pn a8 q8) fun x s9 wx=>y5 wx fun jv El jt DN xE uC N2 Ei x9 m8 jO t8=> ?_
 have Du:=a8.next m8 jO
 have t9:=jj K.lk.at'.inv (T8.trans (jO.mono fun _ m=>absurd m aP)) K.lk.hU
 have NH:∀b∈Cc::D::N,b∉N2:=fun b m z=>df _ (cV (a8.inv.low b (pj b m).1) (t8 b z).2.2)
 have Zf:vs.length+n+j*n≤n*n:=by rw[Nat.succ_mul] at dy;lia
 have sq:n*n≤300*300:=OQ hn hn
 have KI:LK c m (ba scC) A (fJ c e scC Cc) uC xE El xQ DN D N2 ns2:=by
  refine⟨Du,fun b m=> ?_,fun b m z=> ?_,K.lk.nv,NH _ (.tail _ (.head _)),HD C wf qJ,fun x mx=>(yN x (ua x mx)).trans (Fw qJ x mx)⟩
  ·rcases aE.mp m with rfl|m
   ·exact t9 _ (.head _)
   ·rcases aE.mp m with rfl|m
    ·exact t9 _ (.tail _ (.head _))
    ·exact⟨(t8 b m).1,(t8 b m).2.1⟩
  ·rcases aE.mp z with rfl|z
   ·exact K.lk.u2 _ m (.head _)
   ·rcases K.fE b m with rfl|lt
    ·exact NH _ (.head _) z
    ·exact df _ (cV lt (cx (cx K.MC.size T8.size) (t8 b z).2.2))
 have lp:=Xg (g1:=⟨dt,di,[],0⟩) (di:=iz) (scp:=dP c.S.nm scC) (p:=p) (B:=vs.length+n) uR hb gY jO a8.inv.low (fun b m=>(t8 b m).2.2) KI x9 (sh jO aP (pj _ (.tail _ (.head _))).2 L8) (a8.inv.g6 jO P8) (by lia) (bb _) Ei
 refine codeAny_mono (O4 lp (wpAny_mono (E:=NE) (x9.self a8.ao.dm lp) (fun _ _ x=>x) fun _ _ x=>x.elim)) fun r s11 z=> ?_
 induction r with
 |error e=>exact z
 |ok f=>
  obtain⟨Yn,rP,h11,Yo,Z3,q11,ZU,ZZ,Z0,Dp,nh,uF⟩:=z
  refine⟨j,jV _,rG,Yn,rP,h11,Yo,Z3,q11,back _ _ _ ZU,R8.keep a8.inv a8.ao.dm (fun b m=>pj b (.tail _ (.tail _ m))) nh (fun b m=>(pj b ?_).1) (fun b m z=> ?_),ZZ,Z0,Dp,T8.trans (nh.mono fun b m=> ?_),cx (Nat.add_le_add_right uF _) Zf⟩
  ·rcases aE.mp m with rfl|m
   ·exact .head _
   ·rw[bx.mp m];exact .tail _ (.head _)
  ·rcases aE.mp z with rfl|z
   ·exact K.lk.nD m
   ·rw[bx.mp z] at m;exact K.lk.uZ m
  ·rcases aE.mp m with rfl|m
   ·exact .head _
   ·rw[bx.mp m];exact .tail _ (.head _)
theorem Ri(C:ax c)(hn:n≤300){ns2:List Nat}{it ip:CI}{t t2:CT}{body:Internal.C}{test:CB}{iz jc db:PySem.Expr}{p:Pos}(wf:eX sc scC=true)(eN:∀x∈ns,x∈bL scC)(qJ:∀x∈ns2,x∈bL scC)(ua:∀x∈ns2,x∉ns)(hi:fL c m sc cl n it di dt)(ht:eW c (ba scC) ns t dt)
  (pn:fL c m (ba scC) cl n ip iz jc)(uR:eW c (ba scC) ns2 t2 jc)(hb:aO c m (ba scC) cl n body db)(gY:jn c m (ba scC) cl n test dJ)(hf:∀e x,foldedSetIterable di e x=pure x)(uK:∀e x,foldedSetIterable iz e x=pure x)
  {k:K}{use:Option (Value→Sem Unit)}(a:At c m sc A e X ad s env h)(q:c.Ok (Bg (bL scC) it t ip t2 body test c.P cl n env h k))
  (fin:∀acc Cc s',w9 c X ad s k acc Cc s'→compPost c.M A NE use Q acc Cc (.ok .next) s'):
  wpAny c.M A (comprehension (.ListComp db [⟨dt,di,[],0⟩,⟨jc,iz,dJ,0⟩] (dP c.S.nm scC) p) (dP c.S.nm scC) e pos (newList []) false (eval di e) use) Q NE s:=
 Gx C (gs:=[⟨jc,iz,dJ,0⟩]) (G:=fun env it h=>tM t ip t2 body test c.P cl n env k n it [] h) wf eN hi hf a q fun v fg h2 X4 bl s4 Cc D N K q2=>by
  refine O3 (uK _) (fun j s'=>m9 c (fJ c e scC Cc) (drops (bL scC) env) dt D N X4 bl s4 v (n*n) (j*n) (tM t ip t2 body test c.P cl n (drops (bL scC) env) k j) s') (fun j s5 S=> ?_) n ⟨fg,[],[],h2,bl,X4,q2,K.lk.at'.fr,K.R4,K.L4,.nil,K.lk.at'.inv,Step.refl ..,mC (cZ _)⟩
  induction j using Nat.casesAuxOn with
  |zero=>exact(A1 S).elim
  |succ j=>
   refine ay (A0 K.lk ht (done:=fun acc h=>k (.ar (jJ acc)) h) (G:=fun aD it acc h=>ip c.P cl n aD h fun jt h=>oL t2 body test c.P cl n aD (fun acc h=>tM t ip t2 body test c.P cl n (drops (bL scC) env) k j it acc h) n jt acc h) S
    fun s6 acc vs h' ae X' q F L P J T _ G=>fin _ _ _ (Gw a.inv.low K q F L P J T G)) fun r s1 w=> ?_
   induction r with
   |none=>exact w
   |some u=>exact ay w fun _ s2 w=>ay w fun _ s3 T=>Sa (di:=di) (p:=p) (G:=fun i it acc h=>tM t ip t2 body test c.P cl n (drops (bL scC) env) k i it acc h) C hn wf qJ ua pn uR hb gY K T
theorem QO(C:ax c)(hn:n≤300){ns2:List Nat}{it ip:CI}{t t2:CT}{body:Internal.C}{test:CB}{iz jc db:PySem.Expr}{p:Pos}(wf:eX sc scC=true)(eN:∀x∈ns,x∈bL scC)(qJ:∀x∈ns2,x∈bL scC)(ua:∀x∈ns2,x∉ns)(hi:fL c m sc cl n it di dt)(ht:eW c (ba scC) ns t dt)
  (pn:fL c m (ba scC) cl n ip iz jc)(uR:eW c (ba scC) ns2 t2 jc)(hb:aO c m (ba scC) cl n body db)(gY:jn c m (ba scC) cl n test dJ)(hf:∀e x,foldedSetIterable di e x=pure x)(uK:∀e x,foldedSetIterable iz e x=pure x):
  aO c m sc cl n (Bg (bL scC) it t ip t2 body test) (.ListComp db [⟨dt,di,[],0⟩,⟨jc,iz,dJ,0⟩] (dP c.S.nm scC) p):=fun{A e X ad s env h k}a q=>by
 rw[eval_ListComp]
 refine Ri C hn wf eN qJ ua hi ht pn uR hb gY hf uK a q fun acc Cc s'⟨l,h',ae,X',q',r',J,T,c1,c2,c3,mm,c4⟩=>⟨mm,c4,fun g hs=> ?_⟩
 have G:=Ar hs
 have hN:∀b∈ [Cc],b∈X'∧¬Mt ae b:=fun b m=>by rw[bx.mp m];exact⟨c1,c2⟩
 exact⟨_,h',ae,without X' [Cc],q',qd G (fun b m=>(hN b m).1) r',J.gone G hN,Step.gone (D:=[]) T G (fun b m=>by rw[bx.mp m];exact c3) a.inv.low⟩
end
end
section
noncomputable section
noncomputable def jH:ME:= .eG 79 3 ⟨847,11,847,14⟩
noncomputable def pG:ME:= .iter 4 131 27 [.call (.eG 79 3 ⟨847,34,847,37⟩) [.loc 169 ⟨847,38,847,41⟩] ⟨847,34,847,42⟩] ⟨847,28,847,33⟩ ⟨847,28,847,43⟩
noncomputable def pH:ME:= .iter 4 131 27 [.loc 130 ⟨847,62,847,64⟩] ⟨847,56,847,61⟩ ⟨847,56,847,65⟩
noncomputable def qW:ME:= .cmp (.sub (.loc 169 ⟨847,69,847,72⟩) (.loc 265 ⟨847,73,847,77⟩) ⟨847,69,847,78⟩) [.Gt] [.sub (.loc 169 ⟨847,81,847,84⟩) (.loc 130 ⟨847,85,847,87⟩) ⟨847,81,847,88⟩] ⟨847,69,847,88⟩
noncomputable def k8:ME:= .loc 130 ⟨847,22,847,24⟩
noncomputable def k9:ME:= .loc 265 ⟨847,48,847,52⟩
noncomputable def qH:ME:= .int (aq 1) 0 ⟨847,16,847,17⟩
noncomputable def e8:Sc:=[(313,.local),(130,.local),(265,.local),(131,.globalImplicit),(169,.free)]
noncomputable def om:PySem.Expr:= .ListComp (az aw qH) [⟨az aw k8,az aw pG,[],0⟩,⟨az aw k9,az aw pH,bO aw [qW],0⟩] (dP aw e8) ⟨847,15,847,89⟩
theorem VQ:eg aw xF= [.Return (some (.Call (az aw jH) [om] [] ⟨847,11,847,90⟩)) ⟨847,4,847,90⟩]:=by kernel_rfl
noncomputable def yF:C:=Bg (bL e8) (cM pG).i (cT k8) (cM pH).i (cT k9) (cM qH).e (cQ [qW]).all
noncomputable def tG:CS:=um (oR (xf (cM jH).e (ou yF qM))) qQ
theorem wW1:((wM eO jH gL).e&&((wM eO pG gL).i false&&((wM eO k8 (ba e8)).g&&((wM eO pH (ba e8)).i false&&((wM eO k9 (ba e8)).g&&((wM eO qH (ba e8)).e&&((dB eO [qW] (ba e8)).a&&(eX gL e8&&Cm jH))))))))=true:=by kernel_rfl
variable{s₁:Shared}
theorem Q7(C:ax (aj w s₁ ρ F)){m:Nat}(Y:br (aj w s₁ ρ F) m cl):gH (aj w s₁ ρ F) m gL cl 300 tG (eg aw xF):=by
 refine @MJ _ _ _ _ _ _ _ _ _ _ wW1 fun h1 h2 h3 h4 h5 h6 h7 h8 h9=> ?_
 have hn:300≤100000:=by decide
 have ZR:aO (aj w s₁ ρ F) m gL cl 300 (cM jH).e (az aw jH):=(sM C Y hn jH gL).e h1
 have ZP:fL (aj w s₁ ρ F) m gL cl 300 (cM pG).i (az aw pG) (az aw k8):=(sM C Y hn pG gL).i (az aw k8) false h2 (fun z=>by exact nf z)
 have vAt:eW (aj w s₁ ρ F) (ba e8) (lb k8) (cT k8) (az aw k8):=(sM C Y hn k8 (ba e8)).g h3
 have ZQ:fL (aj w s₁ ρ F) m (ba e8) cl 300 (cM pH).i (az aw pH) (az aw k9):=(sM C Y hn pH (ba e8)).i (az aw k9) false h4 (fun z=>by exact nf z)
 have vSp:eW (aj w s₁ ρ F) (ba e8) (lb k9) (cT k9) (az aw k9):=(sM C Y hn k9 (ba e8)).g h5
 have vE:aO (aj w s₁ ρ F) m (ba e8) cl 300 (cM qH).e (az aw qH):=(sM C Y hn qH (ba e8)).e h6
 have vT:jn (aj w s₁ ρ F) m (ba e8) cl 300 (cQ [qW]).all (bO aw [qW]):=(gw C Y hn [qW] (ba e8)).a h7
 have vC:aO (aj w s₁ ρ F) m gL cl 300 yF om:=QO C (by decide) (ns:=lb k8) (ns2:=lb k9) h8 (fun x mx=>by rw[bx.mp (show x∈ [130] from mx)];decide) (fun x mx=>by rw[bx.mp (show x∈ [265] from mx)];decide) (fun x mx z=>by rw[bx.mp (show x∈ [265] from mx)] at z;exact absurd (bx.mp (show 265∈ [130] from z)) (by decide)) ZP vAt ZQ vSp vE vT (fun e x=>r9 (nm:=aw) (x:=pG) rfl e x) (fun e x=>r9 (nm:=aw) (x:=pH) rfl e x)
 have vL:ij (aj w s₁ ρ F) m gL cl 300 (ou yF qM) [om]:=Ha vC (Iq (cl:=cl) (n:=300)) fun e=>rfl
 have hR:Rows [om]:=⟨fun e p=>rfl,fun e d r z=>by(injection z with e1 e2;subst e1;subst e2);exact⟨_,rfl⟩⟩
 have Yg:aO (aj w s₁ ρ F) m gL cl 300 (xf (cM jH).e (ou yF qM)) (.Call (az aw jH) [om] [] ⟨847,11,847,90⟩):=G8 C Y ZR vL hR fun e=>Al aw (f:=jH) h9 [om] _ e
 rw[VQ]
 have z:gH (aj w s₁ ρ F) m gL cl 300 tG [.Return (some (.Call (az aw jH) [om] [] ⟨847,11,847,90⟩)) ⟨847,4,847,90⟩]:=He (Hd Yg) (Hc (cl:=cl) (n:=300))
 exact @z
theorem WC:∃r,gk[104]? =some r∧r.b=xF∧r.sc=gL:=⟨_,rfl,rfl,rfl⟩
theorem W3:∃f,iB[104]? =some f∧f.ps= [169]:=⟨_,rfl,rfl⟩
noncomputable def BM:aX:=fun _ _ _ _=>bad 0
noncomputable def Ki(cl:aX):aX:=fun f as h k=>cond (ag f zQ) (lX aG 300 BM (some ⟨[169],tG⟩) as h k) (cl f as h k)
theorem RF(B:Base w s₁)(m:Nat)(cl:aX)(Y:br (aj w s₁ ρ F) (m+4) cl):br (aj w s₁ ρ F) (m+4) (Ki cl):=fun{A X ad s h f as vs k}ao I hl P q=>by
 have q:(aj w s₁ ρ F).Ok (cond (ag f zQ) (lX aG 300 BM (some ⟨[169],tG⟩) as h k) (cl f as h k)):=q
 induction z:ag f zQ using Bool.casesOn with
 |false=>rw[z] at q;exact Y ao I hl P q
 |true=>
  rw[z] at q
  have z:=aZ z
  subst z
  have C:ax (aj w s₁ ρ F):=fP B
  refine gz WC fun r e1 e2 e3=> ?_
  refine ak W3 fun fn e4 e5=> ?_
  have hF:qC (aj w s₁ ρ F) 104 fn.ps r.sc (eg aw r.b):=xi e1 e4
  rw[e5,e3,e2] at hF
  have Bd:BodyOk (aj w s₁ ρ F) 300 104 ⟨[169],tG⟩:=⟨⟨gL,eg aw xF,hF,fun m cl Y=>Q7 C Y⟩⟩
  exact Fs C Bd (m:=m+3) (ih:=BM) (fun{A X ad s h f as vs k}_ _ _ _ q=>(a0 q).elim) ao I hl P q
end
end
section
noncomputable section
noncomputable def rN:CT:=jM 81
noncomputable def rK:CB:=xv true (ur (xI .Mod false (dD 105) (dD 81)) (tP .Eq (fx (.lit (aq 0))))) (xv true (ur (xI .Mod false (dD 106) (dD 81)) (tP .Eq (fx (.lit (aq 0))))) (uu true))
noncomputable def mS(a b:Int):En:=[(105,.lit a),(106,.lit b)]
noncomputable def i60:List SV:=(aI 60).map fun i=> .lit (aq (i+1))
noncomputable def LB:CI:=xn 4 (ou (fx (.lit (aq 1))) (ou (fx (.lit (aq 61))) qM))
theorem Wd:Ny=um (oR (lK [313,81] LB rN (dD 81) rK)) qQ:=rfl
theorem RL(kk:IT→Hp→Res):LB aG cl 300 env h kk=kk (.items i60) h:=by kernel_rfl
theorem Rv(a b:Int)(cl:aX)(k:K)(h:Hp)(x:C):lX aG 300 cl (some ⟨[105,106],um (oR x) qQ⟩) [.lit a,.lit b] h k=x aG cl 300 (mS a b) h k:=rfl
theorem Ru(f:aX)(as:List SV)(h:Hp)(k:K):run aG dS (fun c=>c) 300 2 ji as h k=lX aG 300 (run aG dS (fun c=>c) 300 1) (dS ji) as h k:=rfl
theorem YF:dS ji=some ⟨[105,106],Ny⟩:=rfl
theorem Ro{ls:List Nat}{it:CI}{t:CT}{body:C}{test:CB}{P:Prog}{k:K}:lK ls it t body test P cl n env h k=it P cl n env h fun it h=>kg ls env fun env=>d0 t body test P cl n env k n it [] h:=rfl
theorem TC(a b:Int)(kk:En→Res):kg [313,81] (mS a b) kk=kk (mS a b):=rfl
theorem Rw{a b:Int}{k:K}(m i:Nat)(r acc:List SV)(h:Hp):d0 rN (dD 81) rK aG cl 300 (mS a b) k (m+1) (.items (.lit (aq (i+1))::r)) acc h=
  cond (bV (sr a (aq (i+1))) (aq 0)) (cond (bV (sr b (aq (i+1))) (aq 0)) (d0 rN (dD 81) rK aG cl 300 (mS a b) k m (.items r) (.lit (aq (i+1))::acc) h) (d0 rN (dD 81) rK aG cl 300 (mS a b) k m (.items r) acc h)) (d0 rN (dD 81) rK aG cl 300 (mS a b) k m (.items r) acc h):=rfl
theorem Bn{a b:Int}{k:K}(m:Nat):∀(l:List Nat)(acc:List SV)(h:Hp),d0 rN (dD 81) rK aG cl 300 (mS a b) k (l.length+(m+1)) (.items (l.map fun i=> .lit (aq (i+1)))) acc h=k (.ar (acc.reverse++((l.map fun i=>(aq (i+1))).filter fun d=>a.fmod d==0&&b.fmod d==0).map .lit)) h
 | [],acc,h=>by
  rw[zF,cZ]
  show k (.ar (jJ acc)) h=_
  rw[wC,rW,List.filter_nil,rW,iM]
 |i::l,acc,h=>by
  rw[cw,show l.length+1+(m+1)=(l.length+(m+1))+1 by lia,fo,Rw,Bn m l,Bn m l,fo,zC,iT,iT]
  have eb:∀x:Int,decide (x=aq 0)=(x==0):=fun x=>rfl
  rw[eb,eb]
  cases a.fmod (aq (i+1))==0 with
  |false=>rfl
  |true=>
   cases b.fmod (aq (i+1))==0 with
   |false=>rfl
   |true=>
    show k (.ar ((SV.lit (aq (i+1))::acc).reverse++_)) h=k (.ar (acc.reverse++(SV.lit (aq (i+1))::_))) h
    rw[mu,mr];rfl
theorem TB(a b:Int)(k:K)(h:Hp):run aG dS (fun c=>c) 300 2 ji [.lit a,.lit b] h k=k (.ar ((dv a b).map .lit)) h:=by
 rw[Ru (fun _ _ _ _=>bad 0),YF,Wd,Rv,Ro,RL,TC]
 have:=Bn (a:=a) (b:=b) (cl:=run aG dS (fun c=>c) 300 1) (k:=k) 239 (aI 60) [] h
 rw[dZ] at this
 exact this
variable{s₁:Shared}
noncomputable def Cq(cl:aX)(as:List SV)(h:Hp)(k:K):Res:=match as with
 | [a,b]=>cond (ah (bQ a) (bQ b)) (k (.lx (.mk 0 [aC a,aC b]) (dv (aW a) (aW b))) h) (cl ji as h k)
 |_=>cl ji as h k
noncomputable def BX(cl:aX):aX:=fun f as h k=>cond (ag f ji) (Cq cl as h k) (cl f as h k)
theorem RD(B:Base w s₁)(m:Nat)(cl:aX)(Y:br (aj w s₁ ρ F) (m+4) cl):br (aj w s₁ ρ F) (m+4) (BX cl):=fun{A X ad s h f as vs k}ao I hl P q=>by
 have q:(aj w s₁ ρ F).Ok (cond (ag f ji) (Cq cl as h k) (cl f as h k)):=q
 induction z:ag f ji using Bool.casesOn with
 |false=>rw[z] at q;exact Y ao I hl P q
 |true=>
  rw[z] at q
  have z:=aZ z
  subst z
  have q:(aj w s₁ ρ F).Ok (Cq cl as h k):=q
  revert P q
  match as with
  | [a,b]=>
   intro P q
   have q:(aj w s₁ ρ F).Ok (cond (ah (bQ a) (bQ b)) (k (.lx (.mk 0 [aC a,aC b]) (dv (aW a) (aW b))) h) (cl ji [a,b] h k)):=q
   induction y:ah (bQ a) (bQ b) using Bool.casesOn with
   |false=>rw[y] at q;exact Y ao I hl P q
   |true=>
    rw[y] at q
    refine d1 y fun y1 y2=> ?_
    refine Internal.p1 P fun v0 r p0 P=> ?_
    refine Internal.p1 P fun v1 r p1 P=> ?_
    refine Internal.p0 P ?_
    refine av (eU y1 p0) fun t0 af=> ?_;subst af
    refine av (eU y2 p1) fun t1 af=> ?_;subst af
    have P':Paired (VR pw_sm0015_01 w aN ρ X [] s.heap) [.int ((aC a).eval ρ) t0,.int ((aC b).eval ρ) t1] [.lit ((aC a).eval ρ),.lit ((aC b).eval ρ)]:= .cons (.lit _ _) (.cons (.lit _ _) .nil)
    obtain⟨a1,a2⟩:=Ag (F:=F) (ρ:=ρ) (ρ':=ρ) B (n:=300) (m:=2) (f:=ji) (V0:= .ar ((dv ((aC a).eval ρ) ((aC b).eval ρ)).map .lit)) (by decide) (ao.less (by lia)) I hl P' (by rw[TB];exact⟨trivial,rfl⟩)
    refine⟨a1,codeAny_mono a2 fun r s' z=> ?_⟩
    induction r with
    |error e=>exact z
    |ok fl=>
     induction fl with
     |ret v=>
      refine ll z fun X' ae hX r' J T=> ?_
      refine⟨_,h,ad,X,q,?_,J,T⟩
      refine vh (VR.mT r') fun _ _ _ ho hx hf af=> ?_;subst af
      rename_i aa ff ep
      refine .lx (vs:=(aI (fH SV.lit (dv ((aC a).eval ρ) ((aC b).eval ρ))).length).map ff) (ep:=ep) _ _ ho rfl rfl (fun m=>hx (hX _ m)) (ints_of (by rw[aT,dZ,aT];rfl) fun q hq=> ?_)
      have rF:q<(dv ((aC a).eval ρ) ((aC b).eval ρ)).length:=hq
      have hq3:q<(fH SV.lit (dv ((aC a).eval ρ) ((aC b).eval ρ))).length:=by rw[aT];exact rF
      have:=hf q (.lit ((dv ((aC a).eval ρ) ((aC b).eval ρ))[q])) (by rw[b0,cA rF];rfl)
      generalize hu:ff q=u at this
      refine av (VR.dj this) fun t af=> ?_;subst af
      refine⟨t,?_⟩
      rw[b0,lq hq3]
      show some (ff q)=_
      rw[hu];rfl
     |_=>exact z
  | []=>exact fun P q=>Y ao I hl P q
  | [_]=>exact fun P q=>Y ao I hl P q
  |_::_::_::_=>exact fun P q=>Y ao I hl P q
end
end
section
noncomputable section
noncomputable def Kh(cl:aX):aX:=Ki (BX cl)
noncomputable def o6:aX:=run aG dS Kh 300 20
variable{s₁:Shared}
theorem VH(B:Base w s₁):br (aj w s₁ ρ F) 24 o6:= @sR w s₁ ρ F (fP B) 300 4 (by decide) Kh (fun m cl y=>RF B m (BX cl) (RD B m cl y)) 20
noncomputable def kf(w:World)(ρ:Val)(f:Nat)(as:List SV):Prop:=∃ρ' rj,(∀X ad h vs,Paired (cC w ρ X ad h) vs as→Paired (cC w ρ' X [] h) vs rj)∧Ok ρ' (F9 (.bool true)) (o6 f rj [] gc)
theorem Rg(B:Base w s₁)(Kc:kf w ρ f as){k:K}(ao:cp A (4*24))(I:Inv (aj w s₁ ρ F) X ad h s)(hl:bY (aj w s₁ ρ F) s)
  (P:(aj w s₁ ρ F).VL X ad s.heap vs as)(q:(aj w s₁ ρ F).Ok (k (.bool true) h)):fnIn (KT w.params) (aN.fa f)=true∧codeAny (model pw_sm0015_01 w) A (.call (.ref (aN.fa f)) ⟨vs,[]⟩) (wants (aF (aj w s₁ ρ F) X ad s k) NE) s:=by
 refine eP Kc fun ρ' rj cv ok=> ?_
 have Y:br (aj w s₁ ρ' (F9 (.bool true))) 24 o6:=VH B
 have I':Inv (aj w s₁ ρ' (F9 (.bool true))) X [] [] s:=I.nil
 obtain⟨a,b⟩:=Y (f:=f) (k:=gc) ao I' hl (cv _ _ _ _ P) ok
 refine⟨a,codeAny_mono b fun r s' z=> ?_⟩
 induction r with
 |error e=>exact z
 |ok fl=>
  induction fl with
  |ret v=>
   obtain⟨V,h',ae,X',q',r',J,T⟩:=z
   have e:V= .bool true:=q'.2
   subst e
   refine ai (I.same J.rest (fun b o e=>T.keep b o e (fun m=>by exact(aP m).elim) fun⟨p,m,_⟩=>by exact(aP m).elim) T.size) fun J1 T1=> ?_
   refine⟨.bool true,h,ad,X,q,?_,J1,T1⟩
   obtain rfl:=VR.lM r';exact .bool true
  |_=>exact z
noncomputable def Yt(b n:Nat):Res:=o6 O7 [.ar [.lit (zN b),.lit (zN n)],.ar ((fK 4 n b 1).map fun p=>nN 65 (kP p))] [] gc
theorem WZ:((aI 10).all fun b=>(aI 8).all fun n=>u4 (Yt b n) fun _=>false)=true:=by kernel_rfl
end
end
section
noncomputable section
noncomputable def eS:Nat→Int→Int→List Int
 |0,_,b=>[b]
 |m+1,a,b=>if b=0 then [b] else b::eS m b (a%b)
theorem zX:∀(m:Nat)(a b:Int),g9 m a b=(a::eS m a b).zip (eS m a b)
 |0,a,b=>rfl
 |m+1,a,b=>by
  unfold g9 eS
  by_cases h:b=0
  ·rw[if_pos h,if_pos h];rfl
  ·rw[if_neg h,if_neg h,zX m b (a%b)];rfl
theorem HI:∀a<61,∀b<61,((eS 61 (aq a) (aq b)).length≤12∧lD 61 (aq a) (aq b)≤120):=by decide+kernel
theorem Rt:∀a<61,a≠0→(dv (aq a) 0).getLastD 0=aq a:=by decide+kernel
theorem P6{a b:Int}(hb:b≠0):dv b (a%b)=dv a b:=by
 unfold dv
 refine List.filter_congr fun d m=> ?_
 refine ak (bz.mp m) fun i _ af=> ?_;subst af
 have hd:(0:Int)≤(i:Int)+1:=by lia
 rw[rQ _ hd,rQ _ hd,rQ _ hd]
 rw[vt,nQ,nQ,beq_iff_eq,beq_iff_eq,beq_iff_eq]
 have e1:∀x:Int,x%((i:Int)+1)=0↔((i:Int)+1)∣x:=fun x=>(Int.dvd_iff_emod_eq_zero).symm
 rw[e1,e1,e1]
 have e2:=Od a b
 constructor
 ·rintro⟨h1,h2⟩
  refine⟨?_,h1⟩
  rw[←e2]
  exact Int.dvd_add h2 (OV h1 (Oy b (a/b)))
 ·rintro⟨h1,h2⟩
  refine⟨h2,?_⟩
  have:a%b=a-b*(a/b):=by lia
  rw[this]
  exact Int.dvd_sub h1 (OV h2 (Oy b (a/b)))
structure EF(a b:Int)(l:List Int):Prop where
 pos:1≤l.length
 last:aA (a::l) l.length=0
 Cu:∀i,1≤i→i<l.length→0≤aA (a::l) (i+1)∧aA (a::l) (i+1)<aA (a::l) i
 same:∀i,i<l.length→dv (aA (a::l) i) (aA (a::l) (i+1))=dv a b
 fin:¬(a=0∧b=0)→aA (a::l) (l.length-1)=(dv a b).getLastD 0
theorem sj(a:Int)(l:List Int)(i:Nat):aA (a::l) (i+1)=aA l i:=rfl
theorem eF:∀(m:Nat){a b:Int},b<m→0≤a→a≤60→0≤b→b≤60→EF a b (eS m a b)
 |0,a,b,hm,_,_,hb,_=>by lia
 |m+1,a,b,hm,ha,fe,hb,eu=>by
  unfold eS
  by_cases h:b=0
  ·rw[if_pos h]
   subst h
   refine⟨bb _,rfl,fun i h1 h2=>absurd h2 (by show¬i<1;lia),fun i h1=> ?_,fun h1=> ?_⟩
   ·have h1:i<1:=h1
    obtain rfl:i=0:=by lia
    rfl
   ·have:=Rt a.toNat (by lia) (by lia)
    rw[show aq a.toNat=a from jh ha] at this
    exact this.symm
  ·rw[if_neg h]
   have m1:=vq a h
   have m2:=zh a (by lia:0<b)
   have ih:=eF m (a:=b) (b:=a%b) (by lia) hb eu m1 (by lia)
   have ds:=P6 (a:=a) h
   refine⟨r6 _,?_,fun i h1 h2=> ?_,fun i h1=> ?_,fun _=> ?_⟩
   ·exact ih.last
   ·rw[sj]
    obtain⟨i,rfl⟩:∃k,i=k+1:=⟨i-1,by lia⟩
    rw[sj]
    by_cases z:i=0
    ·subst z
     show 0≤aA (b::eS m b (a%b)) 1∧aA (b::eS m b (a%b)) 1<b
     have e:aA (b::eS m b (a%b)) 1=a%b:=by
      induction m using Nat.casesAuxOn with
      |zero=>rfl
      |succ m=>unfold eS;split<;>rfl
     rw[e];exact⟨m1,m2⟩
    ·exact ih.Cu i (by lia) (by have:i+1<(eS m b (a%b)).length+1:=h2;lia)
   ·induction i using Nat.casesAuxOn with
    |zero=>rfl
    |succ i=>
     rw[sj,sj,←ds]
     exact ih.same i (by have:i+1<(eS m b (a%b)).length+1:=h1;lia)
   ·have p:=ih.pos
    show aA (a::b::eS m b (a%b)) (eS m b (a%b)).length=_
    obtain⟨k,hk⟩:∃k,(eS m b (a%b)).length=k+1:=⟨(eS m b (a%b)).length-1,by lia⟩
    have f:=ih.fin (fun z=>h z.1)
    rw[hk] at f⊢
    rw[sj,←ds]
    exact f
noncomputable def sv(i:Nat)(s:Int):SV:= .sym (.var i) s
noncomputable def NR(n:Nat)(s:Nat→Int):SV:= .ar ((aI n).map fun i=>nN 64 [(6,sv i (s i)),(7,sv (i+1) (s (i+1)))])
noncomputable def DE(n:Nat)(s:Nat→Int):Res:=o6 OX [.ar [sv 0 (s 0),sv 1 (s 1)],NR n s] [] gc
noncomputable def MX(i:Nat):LX:= .mk 0 [.var i,.var (i+1)]
noncomputable def Cn(n:Nat):Cs:= .eq (.var n) (.lit 0) true::((aI n).map (fun i=>CX.mc (MX i) (MX 0) true)++(((aI n).map fun i=>CX.lt (.var (i+1)) (.lit 0) false).drop 1++((aI n).map fun i=>CX.lt (.var (i+1)) (.var i) true).drop 1))
noncomputable def yQ(n:Nat)(s:Nat→Int)(l:Cs):Bool:=u4 (DE n s) fun c=>jF c (Cn n++l)
noncomputable def NW(n:Nat):Nat→Int:=fun i=>aq (n-i)
theorem Zh:((aI 12).all fun n=>yQ (n+1) (NW (n+1)) [.eq (.var 0) (.lit 0) false,.eq (.var n) (.f2 1 (.var 0) (.var 1)) true])=true:=by kernel_rfl
theorem Xs:yQ 2 (fun i=>match i with|1=>4|_=>0) [.eq (.var 0) (.lit 0) true,.eq (.var 1) (.lit 0) false,.eq (.var 1) (.f2 1 (.var 0) (.var 1)) true]=true:=by kernel_rfl
theorem Xu:yQ 1 (fun i=>0) [.eq (.var 0) (.lit 0) true,.eq (.var 1) (.lit 0) true]=true:=by kernel_rfl
section
noncomputable def Cv(w:World)(ρ ρ':Val)(X:List Addr)(V V':SV):Prop:=∀(ad:Ad)(h:Heap)(u:Value),cC w ρ X ad h u V→cC w ρ' X [] h u V'
theorem wW:Cv w ρ ρ' X V .au:=fun _ _ u _=> .au u
theorem VP:Cv w ρ ρ' X (.str i) (.str i):=fun _ _ u r=>by obtain⟨_,rfl⟩:=VR.i7 r;exact .str _ _
theorem sX{n:Int}:Cv w ρ ρ' X (.lit n) (.lit n):=fun _ _ u r=>by obtain⟨_,rfl⟩:=VR.dj r;exact .lit _ _
theorem tv{n:Int}{e:IX}{k:Int}(h:e.eval ρ'=n):Cv w ρ ρ' X (.lit n) (.sym e k):=fun _ _ u r=>by obtain⟨_,rfl⟩:=VR.dj r;rename_i t;rw[←h];exact .sym e k t
theorem tw{e e':IX}{k k':Int}(h:e'.eval ρ'=e.eval ρ):Cv w ρ ρ' X (.sym e k) (.sym e' k'):=fun _ _ u r=>by obtain⟨_,rfl⟩:=VR.fS r;rename_i t;rw[←h];exact .sym e' k' t
theorem JZ{e:IX}{k n:Int}(h:e.eval ρ=n):Cv w ρ ρ' X (.sym e k) (.lit n):=fun _ _ u r=>by obtain⟨_,rfl⟩:=VR.fS r;rename_i t;rw[h];exact .lit n t
theorem I5{l':List SV}(hl:l'.length=l.length)(hi:∀(i:Nat)V V',l[i]? =some V→l'[i]? =some V'→Cv w ρ ρ' X V V'):Cv w ρ ρ' X (.tup l) (.tup l'):=fun _ _ u r=>mJ hl r fun i V V' u e1 e2 ru=>hi i V V' e1 e2 _ _ u ru
theorem lC{l':List SV}(hl:l'.length=l.length)(hi:∀(i:Nat)V V',l[i]? =some V→l'[i]? =some V'→Cv w ρ ρ' X V V'):Cv w ρ ρ' X (.ar l) (.ar l'):=fun _ _ u r=>by
 refine vh (VR.mT r) fun _ _ _ ho hx hf af=> ?_;subst af
 rename_i a f ep
 refine .ar (f:=f) (ep:=ep) (by rw[hl];exact ho) hx fun i V' e=> ?_
 have l9:i<l.length:=by rw[←hl];exact(dM.mp e).1
 exact hi i _ V' (cA l9) e _ _ _ (hf i _ (cA l9))
theorem Bl{uW:List (Nat×SV)}(hk:∀x V',look uW x=some V'→∃V,look kn x=some V∧cX V=false∧Cv w ρ ρ' X V V'):Cv w ρ ρ' X (.bu kn) (.bu uW):=fun _ _ u r=>by
 obtain⟨_,_,_,_,h1,h2,h3,h4,h5,rfl⟩:=VR.qK r;exact .bu h1 h2 h3 (fun x V' e _=>by obtain⟨V,e1,e2,_⟩:=hk x V' e;exact h4 x V e1 e2) fun x V' e=>by obtain⟨V,e1,_,e3⟩:=hk x V' e;exact e3 _ _ _ (h5 x V e1)
theorem sG{wd:Nat}{uW:List (Nat×SV)}{I I':SV}(hk:Cv w ρ ρ' X (.bu kn) (.bu uW))(hI:Cv w ρ ρ' X I I'):Cv w ρ ρ' X (.tup [.str wd,.bu kn,I]) (.tup [.str wd,.bu uW,I']):=I5 rfl fun i V V' e1 e2=>by
 match i with
 |0=>(injection e1 with e1;subst e1);(injection e2 with e1;subst e1);exact VP
 |1=>(injection e1 with e1;subst e1);(injection e2 with e1;subst e1);exact hk
 |2=>(injection e1 with e1;subst e1);(injection e2 with e1;subst e1);exact hI
 |i+3=>exact nomatch e1
theorem Bm{x y:Nat}(hxy:x≠y){A B A' B':SV}(uA:cX A=false)(uB:cX B=false)(hA:Cv w ρ ρ' X A A')(hB:Cv w ρ ρ' X B B'):Cv w ρ ρ' X (.bu [(x,A),(y,B)]) (.bu [(x,A'),(y,B')]):=Bl fun z V' e=>by
 rw[eB] at e
 by_cases h:x=z
 ·rw[if_pos h] at e;(injection e with e1;subst e1)
  exact⟨A,by rw[eB,if_pos h],uA,hA⟩
 ·rw[if_neg h,eB] at e
  by_cases h2:y=z
  ·rw[if_pos h2] at e;(injection e with e1;subst e1)
   exact⟨B,by rw[eB,if_neg h,eB,if_pos h2],uB,hB⟩
  ·rw[if_neg h2] at e;(exfalso;injection e)
end
noncomputable def lW(x:List Int):Val:=⟨aA x,fun _ _=>0,fun _=>[],[]⟩
theorem FJ{α:Type}{f:Nat→α}{c:α}(m:c∈((aI n).map f).drop 1):∃i,1≤i∧i<n∧c=f i:=by
 refine av (y8 m) fun j hj=> ?_
 rw[EE,b0] at hj
 refine ak (jf.mp hj) fun i h1 h2=> ?_
 refine av (dM.mp h1) fun h3 h4=> ?_
 rw[dZ] at h3
 rw[EG] at h4
 exact⟨i,by lia,by lia,h2.symm⟩
theorem AM{a b:Int}{l:List Int}(E:EF a b l)(hb:aA (a::l) 1=b):∀c∈Cn l.length,c.holds (lW (a::l)):=fun c m=>by
 rcases aE.mp m with rfl|m
 ·exact decide_eq_true E.last
 rcases bj.mp m with m|m
 ·refine ak (bz.mp m) fun i hi af=> ?_;subst af
  refine decide_eq_true ?_
  show dv (aA (a::l) i) (aA (a::l) (i+1))=dv a (aA (a::l) 1)
  rw[E.same i (dN.mp hi),hb]
 rcases bj.mp m with m|m
 ·refine gz (FJ m) fun i h1 h2 af=> ?_;subst af
  exact decide_eq_false (by have:=(E.Cu i h1 h2).1;show¬aA (a::l) (i+1)<0;lia)
 ·refine gz (FJ m) fun i h1 h2 af=> ?_;subst af
  exact decide_eq_true (E.Cu i h1 h2).2
theorem A5{s:Nat→Int}{l:Cs}(h:yQ n s l=true)(h1:∀c∈Cn n,c.holds ρ')(h2:∀c∈l,c.holds ρ'):Ok ρ' (F9 (.bool true)) (DE n s):=wA h fun c m=>(bj.mp (vW m)).elim (h1 c) (h2 c)
theorem PZ{a b:Int}{l:List Int}{Eh:List (Int×Int)}(ha:dA ρ.d sp 61=a)(DQ:dA ρ.d (sp+1) 61=b)(hb:aA (a::l) 1=b)(zp:Eh=(a::l).zip l)(s:Nat→Int)(ok:Ok (lW (a::l)) (F9 (.bool true)) (DE l.length s)):kf w ρ 100 [.ar (fQ 0 sp),.ar (Eh.map fun p=>nN 64 (jd p))]:=by
 refine⟨lW (a::l),[.ar [sv 0 (s 0),sv 1 (s 1)],NR (l).length s],fun X ad h vs P=> ?_,ok⟩
 refine Internal.p1 P fun v0 r p0 P=> ?_
 refine Internal.p1 P fun v1 r p1 P=> ?_
 refine Internal.p0 P ?_
 refine .cons (lC (l:=fQ 0 sp) (l':=[sv 0 (s 0),sv 1 (s 1)]) rfl (fun i V V' e1 e2=> ?_) ad h v0 p0) (.cons (lC (l:=Eh.map fun p=>nN 64 (jd p)) (l':=(aI (l).length).map fun i=>nN 64 [(6,sv i (s i)),(7,sv (i+1) (s (i+1)))]) ?_ (fun i V V' e1 e2=> ?_) ad h v1 p1) .nil)
 ·match i with
  |0=>(injection e1 with e1;subst e1);(injection e2 with e1;subst e1);exact tw (by show aA (a::l) 0=dA ρ.d sp 61;rw[ha];rfl)
  |1=>(injection e1 with e1;subst e1);(injection e2 with e1;subst e1);exact tw (by show aA (a::l) 1=dA ρ.d (sp+1) 61;rw[DQ,hb])
  |i+2=>exact nomatch e2
 ·rw[aT,dZ,aT,zp,OJ,cw];exact(Nat.min_eq_right (nU _)).symm
 ·rw[b0] at e2
  refine ak (jf.mp e2) fun j h1 h2=> ?_
  refine av (dM.mp h1) fun h3 h4=> ?_
  rw[dZ] at h3
  rw[EG] at h4
  subst h4
  rw[b0,zp] at e1
  refine ak (jf.mp e1) fun p h5 h6=> ?_
  rw[N7] at h5
  refine ai h5 fun h7 h8=> ?_
  subst h2;subst h6
  have x1:aA (a::l) i=p.1:=by unfold aA;rw[h7];rfl
  have x2:aA (a::l) (i+1)=p.2:=by unfold aA;rw[y6,h8];rfl
  exact sG (Bm (by decide) rfl rfl (tv x1) (tv x2)) wW
theorem Tr(hd:Draws ρ.d):kf w ρ 100 [.ar (fQ 0 sp),.ar ((g9 61 (dA ρ.d sp 61) (dA ρ.d (sp+1) 61)).map fun p=>nN 64 (jd p))]:=by
 refine ai (hd sp 61 (by decide)) fun a1 a2=> ?_
 refine ai (hd (sp+1) 61 (by decide)) fun b1 b2=> ?_
 generalize ha:dA ρ.d sp 61=a at a1 a2⊢
 generalize DQ:dA ρ.d (sp+1) 61=b at b1 b2⊢
 have E:=eF 61 (a:=a) (b:=b) (by assumption) a1 (by lia) b1 (by lia)
 have hb:aA (a::eS 61 a b) 1=b:=by
  show aA (eS 61 a b) 0=b
  unfold eS;split<;>rfl
 have hl:(eS 61 a b).length≤12:=by
  have:=(HI a.toNat (by lia) b.toNat (by lia)).1
  rw[show aq a.toNat=a from jh a1,show aq b.toNat=b from jh b1] at this
  exact this
 have hP:=E.pos
 have conv:=PZ (w:=w) (ρ:=ρ) (sp:=sp) ha DQ hb (zX 61 a b)
 by_cases z:a=0
 ·by_cases y:b=0
  ·subst z;subst y
   have e1:eS 61 0 0= [0]:=rfl
   refine conv (fun i=>0) ?_
   rw[e1]
   refine A5 Xu ?_ ?_
   ·have:=AM E hb;rw[e1] at this;exact this
   ·intro c m
    rcases aE.mp m with rfl|m
    ·rfl
    rcases aE.mp m with rfl|m
    ·rfl
    ·exact(aP m).elim
  ·subst z
   have e1:eS 61 0 b= [b,0]:=by
    have e0:(0:Int)%b=0:=Int.zero_emod b
    show(if b=0 then _ else b::eS 60 b (0%b))=_
    rw[if_neg y,e0];rfl
   refine conv (fun i=>match i with|1=>4|_=>0) ?_
   have f:=E.fin (fun q=>y q.2)
   have cs:=AM E hb
   rw[e1] at f cs⊢
   refine A5 Xs cs ?_
   intro c m
   rcases aE.mp m with rfl|m
   ·rfl
   rcases aE.mp m with rfl|m
   ·exact decide_eq_false (by show¬b=0;exact y)
   rcases aE.mp m with rfl|m
   ·exact decide_eq_true f
   ·exact(aP m).elim
 ·obtain⟨n,hn⟩:∃n,(eS 61 a b).length=n+1:=⟨(eS 61 a b).length-1,by lia⟩
  refine conv (NW (n+1)) ?_
  have f:=E.fin (fun q=>z q.1)
  have cs:=AM E hb
  rw[hn] at f cs⊢
  refine A5 (aM.mp Zh n (dN.mpr (by lia))) cs ?_
  intro c m
  rcases aE.mp m with rfl|m
  ·exact decide_eq_false (by show¬a=0;exact z)
  rcases aE.mp m with rfl|m
  ·refine decide_eq_true ?_
   show aA (a::eS 61 a b) n=(dv a (aA (a::eS 61 a b) 1)).getLastD 0
   rw[hb];exact f
  ·exact(aP m).elim
end
end
section
noncomputable section
theorem Ts(hd:Draws ρ.d):kf w ρ 101 [.ar (fQ 1 sp),.ar ((fK 4 (dA ρ.d (sp+1) 8).toNat (dA ρ.d sp 10).toNat 1).map fun p=>nN 65 (kP p))]:=by
 refine ai (hd sp 10 (by decide)) fun a1 a2=> ?_
 refine ai (hd (sp+1) 8 (by decide)) fun b1 b2=> ?_
 have h:=aM.mp (aM.mp WZ (dA ρ.d sp 10).toNat (dN.mpr (by lia))) (dA ρ.d (sp+1) 8).toNat (dN.mpr (by lia))
 refine⟨lW [],[.ar [.lit (zN (dA ρ.d sp 10).toNat),.lit (zN (dA ρ.d (sp+1) 8).toNat)],.ar ((fK 4 (dA ρ.d (sp+1) 8).toNat (dA ρ.d sp 10).toNat 1).map fun p=>nN 65 (kP p))],fun X ad hh vs P=> ?_,?_⟩
 ·refine Internal.p1 P fun v0 r p0 P=> ?_
  refine Internal.p1 P fun v1 r p1 P=> ?_
  refine Internal.p0 P ?_
  refine .cons (lC (l:=fQ 1 sp) (l':=[.lit (zN (dA ρ.d sp 10).toNat),.lit (zN (dA ρ.d (sp+1) 8).toNat)]) rfl (fun i V V' e1 e2=> ?_) ad hh v0 p0) (.cons (lC (l:=(fK 4 (dA ρ.d (sp+1) 8).toNat (dA ρ.d sp 10).toNat 1).map fun p=>nN 65 (kP p)) (l':=(fK 4 (dA ρ.d (sp+1) 8).toNat (dA ρ.d sp 10).toNat 1).map fun p=>nN 65 (kP p)) rfl (fun i V V' e1 e2=> ?_) ad hh v1 p1) .nil)
  ·match i with
   |0=>(injection e1 with e1;subst e1);(injection e2 with e1;subst e1);exact JZ (jh a1).symm
   |1=>(injection e1 with e1;subst e1);(injection e2 with e1;subst e1);exact JZ (jh b1).symm
   |i+2=>exact nomatch e2
  ·rw[e1] at e2;(injection e2 with e1;subst e1)
   rw[b0] at e1
   refine ak (jf.mp e1) fun p _ af=> ?_;subst af
   have tp:∀n:Nat,Cv w ρ (lW []) X (.tup [.lit (zN n),.lit 0]) (.tup [.lit (zN n),.lit 0]):=fun n=>I5 rfl fun i V V' e1 e2=>by
    match i with
    |0=>(injection e1 with e1;subst e1);(injection e2 with e1;subst e1);exact sX
    |1=>(injection e1 with e1;subst e1);(injection e2 with e1;subst e1);exact sX
    |i+2=>exact nomatch e1
   refine sG (Bl fun x V' e=>⟨V',e,?_⟩) wW
   rcases aE.mp (mE e) with z|m
   ·(injection z with e1 e2;subst e1;subst e2);exact⟨rfl,sX⟩
   rcases aE.mp m with z|m
   ·(injection z with e1 e2;subst e1;subst e2);exact⟨rfl,tp _⟩
   rcases aE.mp m with z|m
   ·(injection z with e1 e2;subst e1;subst e2);exact⟨rfl,tp _⟩
   ·exact(aP m).elim
 ·exact wA h fun _ z=>nf z
noncomputable def gT(a:Int):Nat→Int×Int
 |0=>(a,0)
 |i+1=>((gT a i).1/10,(gT a i).2*10+(gT a i).1%10)
noncomputable def gP(a:Int):Val:=⟨fun q=>if q%2=0 then(gT a (q/2)).1 else(gT a (q/2)).2,fun _ _=>0,fun _=>[],[]⟩
noncomputable def sT(a:Int)(q:Nat):Int:=(gP a).i q
noncomputable def NS(L:Nat)(s:Nat→Int):SV:= .ar ((aI L).map fun i=>nN 66 [(9,sv (2*i) (s (2*i))),(10,sv (2*i+1) (s (2*i+1)))])
noncomputable def DF(L:Nat)(s:Nat→Int):Res:=o6 OZ [.ar [sv 0 (s 0)],NS L s] [] gc
noncomputable def yU(k:Nat):IX:= .lit (zN (10^k))
noncomputable def LW(i:Nat):Cs:=[.eq (.var (2*i)) (.fdiv (.var 0) (yU i)) true,.lt (.var (2*i+1)) (.lit 0) false,.lt (.var (2*i+1)) (yU i) true]++(aI i).map fun k=> .eq (.fmod (.fdiv (.var 0) (yU k)) (.lit 10)) (.fmod (.fdiv (.var (2*i+1)) (yU (i-1-k))) (.lit 10)) true
noncomputable def xP(L:Nat):Cs:=if L=1 then [.lt (.lit 0) (.var 0) false] else [.lt (.lit 0) (.var 0) true,.lt (.var 0) (.lit 18446744073709551616) true,.lt (.lit (-18446744073709551616)) (.var 0) true,.lt (.var 0) (.lit 0) false,.eq (.lit (zN L)) (.add (.lit 1) (.f1 0 (.var 0))) true]
noncomputable def Ee(L:Nat)(s:Nat→Int):Bool:=u4 (DF L s) fun c=>jF c ((aI L).flatMap LW++xP L)
theorem Zj:([(1,0),(2,7),(3,57),(4,357),(5,1357)].all fun p=>Ee p.1 (sT p.2))=true:=by kernel_rfl
noncomputable def yT(n:Nat):Nat→Nat
 |0=>0
 |i+1=>yT n i*10+n/10^i%10
theorem sY(n:Nat):∀i,gT n i=(((n/10^i:Nat):Int),((yT n i:Nat):Int))
 |0=>by rw[Pa,Pj];rfl
 |i+1=>by
  show((gT n i).1/10,(gT n i).2*10+(gT n i).1%10)=_
  rw[sY n i,vA,←N9];rfl
theorem KX(n:Nat):∀i,yT n i<10^i
 |0=>Nat.one_pos
 |i+1=>by
  have h:=KX n i
  have h2:=Fh (n/10^i) (y:=10) (by decide)
  rw[vA]
  show yT n i*10+n/10^i%10<_
  generalize 10^i=P at h h2⊢
  generalize n/P%10=d at h2⊢
  generalize yT n i=y at h⊢
  lia
theorem WX(n i:Nat):yT n (i+1)/10=yT n i:=by
 show(yT n i*10+n/10^i%10)/10=_
 rw[zR,Nat.mul_add_div (by decide),OC (Fh _ (by decide)),Nat.add_zero]
theorem JP(n:Nat):∀i k,k<i→n/10^k%10=yT n i/10^(i-1-k)%10
 |i+1,k,h=>by
  rcases Nat.lt_succ_iff_lt_or_eq.mp h with h|e
  ·rw[JP n i k h,show i+1-1-k=(i-1-k)+1 by lia,vA,zR,←N9,WX]
  ·subst e
   rw[Nat.add_sub_cancel,vB,Pa,Pj]
   show _=(yT n k*10+n/10^k%10)%10
   rw[zR,Nat.mul_add_mod,Nat.mod_mod]
theorem rT0(n i:Nat):(gP n).i (2*i)=((n/10^i:Nat):Int):=by
 show(if 2*i%2=0 then(gT n (2*i/2)).1 else _)=_
 rw[if_pos (Nat.mul_mod_right 2 i),Nat.mul_div_cancel_left i (by decide),sY]
theorem Ek(n i:Nat):(gP n).i (2*i+1)=((yT n i:Nat):Int):=by
 show(if(2*i+1)%2=0 then _ else(gT n ((2*i+1)/2)).2)=_
 rw[if_neg (by lia),show(2*i+1)/2=i by lia,sY]
theorem UH(n i:Nat):∀c∈LW i,c.holds (gP n):=fun c m=>by
 rcases bj.mp m with m|m
 ·rcases aE.mp m with e|m
  ·subst e
   refine decide_eq_true ?_
   show(gP n).i (2*i)=(n:Int).fdiv ((10^i:Nat):Int)
   rw[rT0];exact ET n _
  rcases aE.mp m with e|m
  ·subst e
   refine decide_eq_false ?_
   show¬(gP n).i (2*i+1)<0
   rw[Ek];exact se.mpr (iK _)
  ·rw[bx.mp m]
   refine decide_eq_true ?_
   show(gP n).i (2*i+1)<((10^i:Nat):Int)
   rw[Ek];exact jX.mpr (KX n i)
 ·refine ak (bz.mp m) fun k hk e=> ?_;subst e
  refine decide_eq_true ?_
  show((n:Int).fdiv ((10^k:Nat):Int)).fmod 10=(((gP n).i (2*i+1)).fdiv ((10^(i-1-k):Nat):Int)).fmod 10
  rw[Ek,←ET,←ET]
  exact(OT _ 10).symm.trans ((congrArg aq (JP n i k (dN.mp hk))).trans (OT _ 10))
theorem Gf:∀{l:Cs},cY ρ l→∀c∈l,c.holds ρ
 | [],_,c,m=>by exact(aP m).elim
 |d::l,h,c,m=>(aE.mp m).elim (fun e=>e▸h.1) (Gf h.2 c)
theorem Jb:∀(d:Nat){n:Nat},n<10^(d+1)→(∀j,j<d+1→j≠0→10^j≤n)→il n=d+1
 |0,n,h,_=>wi h
 |d+1,n,h,h2=>by
  have q:=h2 (d+1) (jV _) (OI d)
  have q1:1≤10^d:=Pp (by decide)
  rw[vA] at h q
  rw[wh (by generalize 10^d=P at q q1;lia),Jb d (Nat.div_lt_of_lt_mul (by rw[zR];exact h)) fun j hj hn=>(Nat.le_div_iff_mul_le (by decide)).mpr (by rw[←vA];exact h2 (j+1) (zE hj) (OI j))]
theorem TG:∀{d:Nat},d≤4→n<10^d→(∀j,j<d→10^j≤n)→∀c∈xP (d+1),c.holds (gP n)
 |0,_,h,_,c,m=>by
  rw[bx.mp (show c∈ [CX.lt (.lit 0) (.var 0) false] from m),zK.mp h];rfl
 |d+1,hd,h,h2,c,m=>by
  unfold xP at m
  rw[if_neg (fun e=>Nat.noConfusion (Nat.succ.inj e))] at m
  have h0:(1:Int)≤n:=rY.mpr (h2 0 (r6 _))
  have h4:(n:Int)<10000:=jX.mpr (cV h (Ol (by decide) hd))
  refine Gf ?_ c m
  refine⟨decide_eq_true (p:=0<(n:Int)) h0,iW (K:=18446744073709551616) (g7 h4) rfl,qx (K:= -18446744073709551616) (iK n) rfl,eY (K:=0) (iK n) rfl,decide_eq_true ?_,trivial⟩
  show((d+1+1:Nat):Int)=1+(il (ly n):Int)
  rw[zB,Jb d h fun j hj _=>h2 j hj,Int.add_comm];rfl
theorem Uw{L:Nat}{s:Nat→Int}(h:Ee L s=true)(h2:∀c∈xP L,c.holds (gP n)):Ok (gP n) (F9 (.bool true)) (DF L s):=
 wA h fun c m=>(bj.mp (vW m)).elim (fun m=>ak (List.mem_flatMap.mp m) fun i _ m=>UH n i c m) (h2 c)
theorem P0{a:Int}(ha:(dr sp 10000).eval ρ=a)(L:Nat)(s:Nat→Int)(eT:eI 4 a 0=(aI L).map (gT a))(ok:Ok (gP a) (F9 (.bool true)) (DF L s)):kf w ρ 103 [.ar (fQ 2 sp),.ar ((eI 4 a 0).map fun p=>nN 66 (kT p))]:=by
 refine⟨gP a,[.ar [sv 0 (s 0)],NS L s],fun X ad h vs P=> ?_,ok⟩
 refine Internal.p1 P fun v0 r p0 P=> ?_
 refine Internal.p1 P fun v1 r p1 P=> ?_
 refine Internal.p0 P ?_
 refine .cons (lC (l:=[sy (dr sp 10000)]) (l':=[sv 0 (s 0)]) rfl (fun i V V' e1 e2=> ?_) ad h v0 p0) (.cons (lC (l:=(eI 4 a 0).map fun p=>nN 66 (kT p)) (l':=(aI L).map fun i=>nN 66 [(9,sv (2*i) (s (2*i))),(10,sv (2*i+1) (s (2*i+1)))]) ?_ (fun i V V' e1 e2=> ?_) ad h v1 p1) .nil)
 ·match i with
  |0=>(injection e1 with e1;subst e1);(injection e2 with e1;subst e1);exact tw (ρ':=gP a) (e:=dr sp 10000) (e':= .var 0) ha.symm
  |i+1=>exact nomatch e2
 ·rw[eT,aT,aT,aT]
 ·rw[eT,iN,b0] at e1
  rw[b0] at e2
  refine ak (jf.mp e2) fun j h1 h2=> ?_
  rw[h1] at e1
  (injection e1 with e1;subst e1)
  subst h2
  refine sG (Bm (by decide) rfl rfl (tv ?_) (tv ?_)) wW
  ·show(if(2*j)%2=0 then(gT a (2*j/2)).1 else _)=(gT a j).1
   rw[if_pos (by lia),show 2*j/2=j by lia]
  ·show(if(2*j+1)%2=0 then _ else(gT a ((2*j+1)/2)).2)=(gT a j).2
   rw[if_neg (by lia),show(2*j+1)/2=j by lia]
theorem Wt{L:Nat}{x:Int}(m:(L,x)∈ [(1,(0:Int)),(2,7),(3,57),(4,357),(5,1357)]):Ee L (sT x)=true:=by
 have:=aM.mp Zj (L,x) m
 exact this
theorem KS(a:Int):∀(d i m:Nat),d≤m→(∀j,j<d→(gT a (i+j)).1≠0)→(d<m→(gT a (i+d)).1=0)→eI m (gT a i).1 (gT a i).2=(List.range' i (d+1)).map (gT a)
 |0,i,0,_,_,_=>rfl
 |0,i,m+1,_,_,h=>BE (h (r6 _))
 |d+1,i,0,h,_,_=>absurd h (Nat.not_succ_le_zero _)
 |d+1,i,m+1,hd,h1,h2=>by
  rw[C9,if_neg (show(gT a i).1≠0 from h1 0 (r6 _))]
  exact congrArg (gT a i::·) (KS a d (i+1) m (Nat.le_of_succ_le_succ hd) (fun j hj=>by rw[zd];exact h1 (j+1) (zE hj)) fun h=>by rw[zd];exact h2 (zE h))
theorem W7(h:10^j≤n):(gT n j).1≠0:=by
 rw[sY];exact fun e=>absurd (aq.inj e) (vz (Nat.div_pos h (Pp (by decide))))
theorem YG(h:n<10^j):(gT n j).1=0:=by
 rw[sY];exact congrArg aq (OC h)
theorem sE{d:Nat}{x:Int}(h0:(dr sp 10000).eval ρ=n)(m:(d+1,x)∈ [(1,(0:Int)),(2,7),(3,57),(4,357),(5,1357)])(hd:d≤4)(h:n<10^d)(h2:∀j,j<d→10^j≤n):kf w ρ 103 [.ar (fQ 2 sp),.ar ((eI 4 n 0).map fun p=>nN 66 (kT p))]:=
 P0 h0 (d+1) (sT x) (by
  rw[List.range_eq_range']
  exact KS n d 0 4 hd (fun j hj=>by rw[cZ];exact W7 (h2 j hj)) fun _=>by rw[cZ];exact YG h) (Uw (Wt m) (TG hd h h2))
theorem Tu(hd:Draws ρ.d):kf w ρ 103 [.ar (fQ 2 sp),.ar ((eI 4 (dA ρ.d sp 10000) 0).map fun p=>nN 66 (kT p))]:=by
 refine ai (hd sp 10000 (r6 _)) fun a1 a2=> ?_
 have h0:(dr sp 10000).eval ρ=dA ρ.d sp 10000:=rfl
 generalize dA ρ.d sp 10000=a at a1 a2 h0⊢
 refine av (EB a1) fun n e=> ?_;subst e
 have lt:n<10^4:=jX.mp a2
 have up:∀{e d:Nat},10^e≤n→d≤e+1→∀j,j<d→10^j≤n:=fun h hd j hj=>cx (Ol (by decide) (zA (cV hj hd))) h
 rcases fq n (10^0) with z|z0
 ·exact sE h0 (d:=0) (.head _) (by decide) z fun j hj=>absurd hj (Nat.not_lt_zero j)
 rcases fq n (10^1) with z|z1
 ·exact sE h0 (d:=1) (.tail _ (.head _)) (by decide) z (up z0 (bb _))
 rcases fq n (10^2) with z|z2
 ·exact sE h0 (d:=2) (.tail _ (.tail _ (.head _))) (by decide) z (up z1 (bb _))
 rcases fq n (10^3) with z|z3
 ·exact sE h0 (d:=3) (.tail _ (.tail _ (.tail _ (.head _)))) (by decide) z (up z2 (bb _))
 ·exact sE h0 (d:=4) (.tail _ (.tail _ (.tail _ (.tail _ (.head _))))) (by decide) lt (up z3 (bb _))
end
end
section
noncomputable section
noncomputable def nB(n:Nat):Nat:=n*(n-1)/2
noncomputable def bt(bs:List Bool)(i j:Nat):Bool:=(bs[i*(i-1)/2+j]?).getD false
noncomputable def kb(n:Nat)(bs:List Bool)(i:Nat):Bool:=(bs[nB n+i]?).getD false
noncomputable def bf(bs:List Bool)(i j:Nat):Bool:=if i=j then true else if i<j then !bt bs j i else bt bs i j
noncomputable def gK(n:Nat)(bs:List Bool):Bool:=(aI n).all fun i=>(aI n).all fun j=>(!(bf bs i j&&kb n bs j)||kb n bs i)&&(aI n).all fun k=> !(bf bs i j&&bf bs j k)||bf bs i k
noncomputable def rkB(n:Nat)(bs:List Bool)(i:Nat):Nat:=((aI n).filter fun j=>bf bs j i&&j != i).length
noncomputable def pBs(n:Nat)(bs:List Bool):Nat:=((aI n).filter (kb n bs)).length
noncomputable def u9(n:Nat)(bs:List Bool)(i:Nat):Int:=if i<n then aq (2*rkB n bs i+1) else aq (2*pBs n bs)
noncomputable def uh(bs:List Bool)(a b:Nat):Bool:=b<a&&bt bs a b
noncomputable def bF(l:List Nat)(i:Nat):Nat:=(l[i]?).getD 0
noncomputable def qS(l:List Nat)(j:Nat):List Nat:=(aI l.length).map fun i=>bF l (pm j i)
noncomputable def stepI(bs:List Bool)(l:List Nat)(j:Nat):List Nat:=if uh bs (bF l (j+1)) (bF l j) then qS l j else l
noncomputable def w7(bs:List Bool)(l:List Nat)(j:Nat):List (List Nat):=if uh bs (bF l (j+1)) (bF l j) then [qS l j] else []
noncomputable def jZ(n k:Nat):Nat:=((aS (bo n) k).getD (0,0)).2
noncomputable def kq(n:Nat)(bs:List Bool):Nat→Nat→List Nat→List Nat
 |0,_,l=>l
 |d+1,k,l=>kq n bs d (k+1) (stepI bs l (jZ n k))
noncomputable def xt(n:Nat)(bs:List Bool):Nat→Nat→List Nat→List (List Nat)
 |0,_,_=>[]
 |d+1,k,l=>w7 bs l (jZ n k)++xt n bs d (k+1) (stepI bs l (jZ n k))
noncomputable def tO(n:Nat)(bs:List Bool):Nat→Nat→List Nat→Bool
 |0,_,l=>l.all fun a=>a<n
 |d+1,k,l=>decide (jZ n k+1<l.length)&&(l.all fun a=>a<n)&&(decide (bF l (jZ n k)<bF l (jZ n k+1))||(decide (bF l (jZ n k+1)<bF l (jZ n k))&&bt bs (bF l (jZ n k)) (bF l (jZ n k+1))))&&tO n bs d (k+1) (stepI bs l (jZ n k))
noncomputable def xH(n:Nat)(bs:List Bool)(l:List Nat):Nat→Nat→Nat→List (Nat×Nat)
 |0,lo,hi=>[(lo,hi)]
 |f+1,lo,hi=>if lo<hi then(lo,hi)::xH n bs l f (if kb n bs (bF l ((lo+hi)/2)) then(lo+hi)/2+1 else lo) (if kb n bs (bF l ((lo+hi)/2)) then hi else(lo+hi)/2) else [(lo,hi)]
noncomputable def xr(s:Nat→Int)(l:List Nat):SV:= .ar (jI (l.map fun a=>sv a (s a)))
noncomputable def tL(n:Nat)(bs:List Bool):List SV:=(xt n bs (bo n).length 0 (aI n)).map (fun l=>SV.tup [.str 61,.bu [],xr (u9 n bs) l])++(xH n bs (kq n bs (bo n).length 0 (aI n)) 6 0 n).map fun p=>SV.tup [.str 67,.bu (kS p),xr (u9 n bs) (kq n bs (bo n).length 0 (aI n))]
noncomputable def MR(n:Nat)(bs:List Bool):Res:=o6 OY [.ar ((aI (n+1)).map fun i=>sv i (u9 n bs i)),.ar (tL n bs)] [] gc
noncomputable def mY(e:IX):Nat:=match e with| .var i=>i|_=>1000
noncomputable def BO(n:Nat)(bs:List Bool)(a b:Nat)(t:Bool):Bool:=if a<n then(if b<n then(if b<a then t==bt bs a b else if a<b then(!t&&bt bs b a) else !t) else(b==n&&t==kb n bs a)) else false
noncomputable def JX(l1 l2:List IX):Bool:=xW l1 ((l1.map mY).map IX.var)&&(xW l2 ((l2.map mY).map IX.var)&&(l1.map mY).isPerm (l2.map mY))
noncomputable def LX.its:LX→List IX| .mk _ l=>l
noncomputable def JY(n:Nat)(bs:List Bool)(c:CX):Bool:=match c with
 | .lt a b t=>ah (bW a (.var (mY a))) (ah (bW b (.var (mY b))) (BO n bs (mY a) (mY b) t))
 | .mc l1 l2 t=>ah (uY l1 (.mk 1 l1.its)) (ah (uY l2 (.mk 1 l2.its)) (ah t (JX l1.its l2.its)))
 |_=>false
noncomputable def gZ(n:Nat)(bs:List Bool):Bool:=tO n bs (bo n).length 0 (aI n)&&u4 (MR n bs) (JY n bs)
noncomputable def gF:Nat→List (List Bool)
 |0=>[[]]
 |m+1=>(gF m).map (true::·)++(gF m).map (false::·)
theorem Xv:((gF 1).all fun bs=> !gK 1 bs||gZ 1 bs)=true:=by kernel_rfl
theorem Xw:((gF 3).all fun bs=> !gK 2 bs||gZ 2 bs)=true:=by kernel_rfl
theorem Xx:((gF 6).all fun bs=> !gK 3 bs||gZ 3 bs)=true:=by kernel_rfl
end
end
section
noncomputable section
theorem Xz:((gF 8).all fun bs=> !gK 4 (true::true::bs)||gZ 4 (true::true::bs))=true:=by kernel_rfl
theorem XA:((gF 8).all fun bs=> !gK 4 (true::false::bs)||gZ 4 (true::false::bs))=true:=by kernel_rfl
theorem XB:((gF 8).all fun bs=> !gK 4 (false::true::bs)||gZ 4 (false::true::bs))=true:=by kernel_rfl
theorem XC:((gF 8).all fun bs=> !gK 4 (false::false::bs)||gZ 4 (false::false::bs))=true:=by kernel_rfl
theorem Xy{bs:List Bool}(m:bs∈gF 10)(c:gK 4 bs=true):gZ 4 bs=true:=by
 have e:∀{b:List Bool},(!gK 4 b||gZ 4 b)=true→gK 4 b=true→gZ 4 b=true:=fun h c=>by rw[c] at h;exact h
 rcases bj.mp m with m|m<;>obtain⟨b1,m1,rfl⟩:=bz.mp m<;>rcases bj.mp m1 with m2|m2<;>obtain⟨b2,m3,rfl⟩:=bz.mp m2
 ·exact e (aM.mp Xz b2 m3) c
 ·exact e (aM.mp XA b2 m3) c
 ·exact e (aM.mp XB b2 m3) c
 ·exact e (aM.mp XC b2 m3) c
end
end
section
noncomputable section
structure jm(n:Nat)(x:List Int)(key:Int)(bs:List Bool):Prop where
 mem:bs∈gF (nB n+n)
 b:∀i j,j<i→i<n→bt bs i j=decide (aA x i<aA x j)
 k:∀i,i<n→kb n bs i=decide (aA x i<key)
theorem Ak:∀(l:List Bool),l∈gF l.length
 | []=> .head _
 |true::l=>bj.mpr (.inl (bz.mpr ⟨l,Ak l,rfl⟩))
 |false::l=>bj.mpr (.inr (bz.mpr ⟨l,Ak l,rfl⟩))
noncomputable def yV(n:Nat):List (Nat×Nat):=(aI n).flatMap fun i=>(aI i).map fun j=>(i,j)
theorem Zn:((aI 5).all fun n=>ag (yV n).length (nB n)&&(aI n).all fun i=>(aI i).all fun j=>decide ((yV n)[i*(i-1)/2+j]? =some (i,j)))=true:=by kernel_rfl
theorem Td(h1:1≤n)(h4:n≤4)(x:List Int)(key:Int):∃bs,jm n x key bs:=by
 refine Internal.a1 (aM.mp Zn n (dN.mpr (Oz h4))) fun hl hp=> ?_
 have hl:=aZ hl
 have e1:((yV n).map fun p=>decide (aA x p.1<aA x p.2)).length=nB n:=by rw[aT,hl]
 have e2:(((yV n).map fun p=>decide (aA x p.1<aA x p.2))++(aI n).map fun i=>decide (aA x i<key)).length=nB n+n:=by rw[cH,e1,aT,dZ]
 refine⟨_,e2▸Ak _,fun i j hj hi=> ?_,fun i hi=> ?_⟩
 ·have q:=of_decide_eq_true (aM.mp (aM.mp hp i (dN.mpr hi)) j (dN.mpr hj))
  have lt:=(dM.mp q).1
  rw[hl] at lt
  unfold bt
  rw[iJ (by rw[e1];exact lt),b0,q];rfl
 ·unfold kb
  rw[jU (by rw[e1];exact nS _ _),e1,rR,b0,lq hi];rfl
variable{bs:List Bool}
theorem wQ(H:jm n x key bs)(hi:i<n)(hj:j<n):bf bs i j=true↔(aA x i<aA x j∨(aA x i=aA x j∧i≤j)):=by
 unfold bf
 by_cases e:i=j
 ·subst e;rw[if_pos rfl];exact⟨fun _=> .inr ⟨rfl,bb _⟩,fun _=>rfl⟩
 ·rw[if_neg e]
  by_cases l:i<j
  ·rw[if_pos l,H.b j i l hj,nO,decide_eq_false_iff_not]
   constructor
   ·intro h;lia
   ·intro h;lia
  ·rw[if_neg l,H.b i j (by lia) hi,decide_eq_true_iff]
   constructor
   ·intro h;lia
   ·intro h;lia
theorem TA(H:jm n x key bs):gK n bs=true:=by
 unfold gK
 rw[aM]
 intro i mi
 rw[aM]
 intro j mj
 have hi:=dN.mp mi
 have hj:=dN.mp mj
 rw[nQ,aM]
 refine⟨?_,fun k mk=> ?_⟩
 ·rw[zI,nO,Oc]
  induction z:bf bs i j using Bool.casesOn with
  |false=>exact .inl (.inl rfl)
  |true=>
   have z:=(wQ H hi hj).mp z
   rw[H.k j hj,H.k i hi,decide_eq_true_iff]
   by_cases y:aA x j<key
   ·exact .inr (by lia)
   ·exact .inl (.inr (decide_eq_false y))
 ·have hk:=dN.mp mk
  rw[zI,nO,Oc]
  induction z1:bf bs i j using Bool.casesOn with
  |false=>exact .inl (.inl rfl)
  |true=>
   induction z2:bf bs j k using Bool.casesOn with
   |false=>exact .inl (.inr rfl)
   |true=>
    have z1:=(wQ H hi hj).mp z1
    have z2:=(wQ H hj hk).mp z2
    exact .inr ((wQ H hi hk).mpr (by lia))
noncomputable def dk(x:List Int)(l:List Nat):List Int:=l.map (aA x)
theorem wN{l:List Nat}(h:j<l.length):aA (dk x l) j=aA x (bF l j):=by
 unfold aA dk bF
 rw[b0,cA h];rfl
theorem KH{m:Nat}(hj:j+1<m)(hi:i<m):pm j i<m:=by
 unfold pm
 cases ag i j with
 |true=>exact hj
 |false=>cases ag i (j+1) with
  |true=>show j<m;lia
  |false=>exact hi
theorem Vk{l:List Nat}(hj:j+1<l.length):gy (dk x l) j=dk x (qS l j):=by
 unfold gy qS
 rw[show(dk x l).length=l.length from aT _]
 show _=fH (aA x) _
 rw[iN]
 refine p4 fun i m=> ?_
 exact wN (KH hj (dN.mp m))
theorem Wi(H:jm n x key bs){l:List Nat}(hj:j+1<l.length)(hl:∀a∈l,a<n)(hc:bF l j<bF l (j+1)∨(bF l (j+1)<bF l j∧bt bs (bF l j) (bF l (j+1))=true)):(aA (dk x l) (j+1)<aA (dk x l) j)↔uh bs (bF l (j+1)) (bF l j)=true:=by
 have m1:bF l j<n:=hl _ (by unfold bF;rw[cA (by lia)];exact nR _)
 have m2:bF l (j+1)<n:=hl _ (by unfold bF;rw[cA hj];exact nR _)
 rw[wN hj,wN (by lia)]
 unfold uh
 rw[nQ,decide_eq_true_iff]
 rcases hc with h|⟨h,hb⟩
 ·rw[H.b _ _ h m2,decide_eq_true_iff]
  exact⟨fun z=>⟨h,z⟩,fun z=>z.2⟩
 ·rw[H.b _ _ h m1,decide_eq_true_iff] at hb
  constructor
  ·intro z;lia
  ·intro z;lia
theorem step_map(H:jm n x key bs){l:List Nat}(hj:j+1<l.length)(hl:∀a∈l,a<n)(hc:bF l j<bF l (j+1)∨(bF l (j+1)<bF l j∧bt bs (bF l j) (bF l (j+1))=true)):
  gM (dk x l) j=dk x (stepI bs l j)∧oA (dk x l) j=(w7 bs l j).map (dk x):=by
 have e:=Wi H hj hl hc
 unfold gM oA stepI w7
 by_cases z:aA (dk x l) (j+1)<aA (dk x l) j
 ·rw[if_pos z,if_pos z,if_pos (e.mp z),if_pos (e.mp z),Vk hj];exact⟨rfl,rfl⟩
 ·have z':¬uh bs (bF l (j+1)) (bF l j)=true:=fun y=>z (e.mpr y)
  rw[if_neg z,if_neg z,if_neg z',if_neg z'];exact⟨rfl,rfl⟩
theorem GZ(H:jm n x key bs):∀(d k:Nat)(l:List Nat),tO n bs d k l=true→gd n d k (dk x l)=dk x (kq n bs d k l)∧ig n d k (dk x l)=(xt n bs d k l).map (dk x)∧∀a∈kq n bs d k l,a<n
 |0,k,l,h=>⟨rfl,rfl,fun a m=>of_decide_eq_true (aM.mp h a m)⟩
 |d+1,k,l,h=>by
  refine yA h fun h1 h2 h3 h4=> ?_
  have h1:=of_decide_eq_true h1
  have h2:∀a∈l,a<n:=fun a m=>of_decide_eq_true (aM.mp h2 a m)
  have h3:bF l (jZ n k)<bF l (jZ n k+1)∨(bF l (jZ n k+1)<bF l (jZ n k)∧bt bs (bF l (jZ n k)) (bF l (jZ n k+1))=true):=by
   rcases vn.mp h3 with h|h
   ·exact .inl (of_decide_eq_true h)
   ·obtain⟨a,b⟩:=aQ h;exact .inr ⟨of_decide_eq_true a,b⟩
  refine ai (step_map H h1 h2 h3) fun e1 e2=> ?_
  refine dq (GZ H d (k+1) (stepI bs l (jZ n k)) h4) fun i1 i2 i3=> ?_
  refine⟨?_,?_,i3⟩
  ·show gd n d (k+1) (gM (dk x l) (jZ n k))=_
   rw[e1,i1];rfl
  ·show oA (dk x l) (jZ n k)++ig n d (k+1) (gM (dk x l) (jZ n k))=_
   rw[e2,e1,i2]
   exact(zH).symm
theorem AJ(H:jm n x key bs){l:List Nat}(hl:∀a∈l,a<n):∀(f lo hi:Nat),hi≤l.length→f9 (dk x l) key f lo hi=xH n bs l f lo hi
 |0,lo,hi,_=>rfl
 |f+1,lo,hi,hh=>by
  unfold f9 xH
  by_cases z:lo<hi
  ·rw[if_pos z,if_pos z]
   have hm:(lo+hi)/2<l.length:=by lia
   have m1:bF l ((lo+hi)/2)<n:=hl _ (by unfold bF;rw[cA hm];exact nR _)
   have e:(aA (dk x l) ((lo+hi)/2)<key)↔kb n bs (bF l ((lo+hi)/2))=true:=by rw[wN hm,H.k _ m1,decide_eq_true_iff]
   unfold nG nF
   by_cases y:aA (dk x l) ((lo+hi)/2)<key
   ·rw[if_pos y,if_pos y,if_pos (e.mp y),if_pos (e.mp y)]
    rw[AJ H hl f _ _ hh]
   ·have y':¬kb n bs (bF l ((lo+hi)/2))=true:=fun z=>y (e.mpr z)
    rw[if_neg y,if_neg y,if_neg y',if_neg y']
    rw[AJ H hl f _ _ (by lia)]
  ·rw[if_neg z,if_neg z]
theorem GK(a b:Int):∀l:List Int,fz a (fz b l)=fz b (fz a l)
 | []=>by
  show(if b<a then b::fz a [] else a::b:: [])=(if a<b then a::fz b [] else b::a:: [])
  by_cases h:b<a
  ·rw[if_pos h,if_neg (by lia)];rfl
  ·rw[if_neg h]
   by_cases h2:a<b
   ·rw[if_pos h2];rfl
   ·rw[if_neg h2]
    have:a=b:=by lia
    subst this;rfl
 |c::l=>by
  have ih:=GK a b l
  have u:∀(y z:Int)(r:List Int),fz y (z::r)=if z<y then z::fz y r else y::z::r:=fun _ _ _=>rfl
  rw[u b c l,u a c l]
  by_cases h1:c<b
  ·rw[if_pos h1,u a c]
   by_cases h2:c<a
   ·rw[if_pos h2,if_pos h2,u b c,if_pos h1,ih]
   ·rw[if_neg h2,if_neg h2,u b a,if_pos (by lia),u b c,if_pos h1]
  ·rw[if_neg h1,u a b]
   by_cases h2:c<a
   ·rw[if_pos h2,u b c,if_neg h1,if_pos (by lia),u a c,if_pos h2]
   ·rw[if_neg h2,u b a,u a c,if_neg h2,u b c,if_neg h1]
    by_cases h3:b<a
    ·rw[if_pos h3,if_neg (by lia)]
    ·rw[if_neg h3]
     by_cases h4:a<b
     ·rw[if_pos h4]
     ·rw[if_neg h4]
      have:a=b:=by lia
      subst this;rfl
theorem QU{l m:List Int}(h:l.Perm m):lN l=lN m:=by
 induction h with
 |nil=>rfl
 |cons a _ ih=>show fz a _=fz a _;rw[ih]
 |swap a b l=>exact(GK _ _ _)
 |trans _ _ ih1 ih2=>exact ih1.trans ih2
end
end
section
noncomputable section
variable{bs:List Bool}
theorem wL(hx:x.length=n)(h:i<n):aA (x++ [key]) i=aA x i:=by
 unfold aA;rw[iJ (by lia)]
theorem IW(hx:x.length=n):aA (x++ [key]) n=key:=by
 unfold aA;rw[jU (by lia),hx,vB];rfl
theorem Rr(H:jm n x key bs)(hx:x.length=n){a b:Nat}{t:Bool}(h:BO n bs a b t=true):decide (aA (x++ [key]) a<aA (x++ [key]) b)=t:=by
 unfold BO at h
 by_cases ha:a<n
 ·rw[if_pos ha] at h
  rw[wL hx ha]
  by_cases hb:b<n
  ·rw[if_pos hb] at h
   rw[wL hx hb]
   by_cases l:b<a
   ·rw[if_pos l,H.b a b l ha] at h
    exact(beq_iff_eq.mp h).symm
   ·rw[if_neg l] at h
    by_cases l2:a<b
    ·rw[if_pos l2,H.b b a l2 hb,nQ,nO,decide_eq_true_iff] at h
     rw[h.1]
     exact decide_eq_false (by lia)
    ·rw[if_neg l2,nO] at h
     have:a=b:=by lia
     subst this
     rw[h];exact decide_eq_false (by lia)
  ·rw[if_neg hb,nQ,beq_iff_eq,beq_iff_eq] at h
   rw[h.1,IW hx,h.2,H.k a ha]
 ·rw[if_neg ha] at h;exact nf h
theorem Rp{l1 l2:List IX}(h:JX l1 l2=true)(ρ:Val):lN (l1.map (IX.eval ρ))=lN (l2.map (IX.eval ρ)):=by
 refine MH h fun h1 h2 h3=> ?_
 have hp:=(List.isPerm_iff.mp h3).map IX.var
 rw[←wq h1,←wq h2] at hp
 exact QU (hp.map _)
theorem Rq(H:jm n x key bs)(hx:x.length=n){c:CX}(h:JY n bs c=true):c.holds (lW (x++ [key])):=by
 induction c using CX.casesOn with
 |lt a b t=>
  refine gj h fun h1 h2 h=> ?_
  rw[cg h1,cg h2]
  exact Rr H hx h
 |mc l1 l2 t=>
  refine jR h fun h1 h2 h3 h=> ?_
  rw[w5 h1,w5 h2,h3]
  exact decide_eq_true (Rp h _)
 |_=>exact nf h
theorem Uv(H:jm n x key bs)(h1:1≤n)(h4:n≤4):gZ n bs=true:=by
 have c:=TA H
 have e:∀{m:Nat},((gF (nB m+m)).all fun bs=> !gK m bs||gZ m bs)=true→bs∈gF (nB m+m)→gK m bs=true→gZ m bs=true:=fun h m c=>by
  have:=aM.mp h bs m
  rw[c] at this;exact this
 have m:=H.mem
 have h:n=1∨n=2∨n=3∨n=4:=by lia
 rcases h with rfl|rfl|rfl|rfl
 ·exact e Xv m c
 ·exact e Xw m c
 ·exact e Xx m c
 ·exact Xy m c
theorem Rf(H:jm n x key bs)(h1:1≤n)(h4:n≤4)(hx:x.length=n):tO n bs (bo n).length 0 (aI n)=true∧Ok (lW (x++ [key])) (F9 (.bool true)) (MR n bs):=by
 have h:=Uv H h1 h4
 unfold gZ at h
 refine a1 h fun ha hb=> ?_
 refine⟨ha,?_⟩
 exact wA hb fun c m=>Rq H hx m
theorem GY{α:Type}(f:α→SV)(l:List α):jI (l.map f)=l.map f++eR (4-l.length) .au:=by
 have rep:∀k:Nat,oQ [SV.au] k=eR k .au:=fun k=>by
  induction k with
  |zero=>rfl
  |succ k ih=>show SV.au::oQ [SV.au] k=_;rw[ih];rfl
 unfold jI
 rw[dC,len_eq,aT,rep]
theorem I4{s:Nat→Int}{l:List Nat}(hx:x.length=n)(hl:∀a∈l,a<n):Cv w ρ (lW (x++ [key])) X (.ar (qP (dk x l))) (xr s l):=by
 unfold qP dk xr
 rw[iN,GY,GY]
 refine lC (by rw[cH,cH,aT,aT]) fun i V V' e1 e2=> ?_
 by_cases z:i<l.length
 ·rw[iJ (by rw[aT];exact z),b0,cA z] at e1 e2
  (injection e1 with e1;subst e1);(injection e2 with e1;subst e1)
  exact tv (wL hx (hl _ (nR z)))
 ·rw[jU (by rw[aT];omega),aT] at e1 e2
  rw[e1] at e2;(injection e2 with e1;subst e1)
  rw[List.getElem?_replicate] at e1
  split at e1
  ·(injection e1 with e1;subst e1);exact wW
  ·(exfalso;injection e1)
theorem G6:∀(d k:Nat)(l:List Nat),tO n bs d k l=true→∀r∈xt n bs d k l,∀a∈r,a<n
 |0,k,l,h,r,m=>by exact(aP m).elim
 |d+1,k,l,h,r,m=>by
  refine yA h fun h1 h2 h3 h4=> ?_
  have h1:=of_decide_eq_true h1
  have h2:∀a∈l,a<n:=fun a m=>of_decide_eq_true (aM.mp h2 a m)
  rcases bj.mp m with m|m
  ·unfold w7 at m
   split at m
   ·rw[bx.mp m]
    intro a ma
    refine ak (bz.mp ma) fun i hi af=> ?_;subst af
    have lt:=KH h1 (dN.mp hi)
    unfold bF
    rw[cA lt]
    exact h2 _ (nR _)
   ·exact(aP m).elim
  ·exact G6 d (k+1) _ h4 r m
theorem SJ(l:List Nat)(j:Nat):(qS l j).length=l.length:=by unfold qS;rw[aT,dZ]
theorem GC:∀(d k:Nat)(l:List Nat),(kq n bs d k l).length=l.length
 |0,k,l=>rfl
 |d+1,k,l=>by
  unfold kq
  rw[GC d (k+1)]
  unfold stepI
  split
  ·exact SJ l _
  ·rfl
theorem map_two{α:Type}{l:List α}{f g:α→SV}{V':SV}(q1:(l.map f)[i]? =some V)(q2:(l.map g)[i]? =some V'):∃r∈l,V=f r∧V'=g r:=by
 rw[b0] at q1 q2
 refine ak (jf.mp q1) fun r h1 h2=> ?_
 rw[h1] at q2
 exact⟨r,cf h1,h2.symm,(Option.some.inj q2).symm⟩
theorem Hu{α β:Type}{A:List α}{B:List β}{f f':α→SV}{g g':β→SV}{V':SV}(q1:(A.map f++B.map g)[i]? =some V)(q2:(A.map f'++B.map g')[i]? =some V'):(∃r∈A,V=f r∧V'=f' r)∨∃r∈B,V=g r∧V'=g' r:=by
 rcases fq i A.length with z|z
 ·rw[iJ (by rw[aT];exact z)] at q1 q2
  exact .inl (map_two q1 q2)
 ·rw[jU (by rw[aT];exact z),aT] at q1 q2
  exact .inr (map_two q1 q2)
theorem Tt{m:Nat}(hm:m+1≤4):kf w ρ 105 [.ar (fQ (m+3) sp),.ar ((ig (m+1) (bo (m+1)).length 0 (f7 ρ.d sp (m+1))).map (nI 61 [])++(f9 (gQ ρ.d sp (m+1)) (iq ρ.d sp (m+1)) 6 0 (m+1)).map fun p=>nI 67 (kS p) (gQ ρ.d sp (m+1)))]:=by
 have hx:(f7 ρ.d sp (m+1)).length=m+1:=by unfold f7;rw[aT,dZ]
 generalize hX:f7 ρ.d sp (m+1)=x at hx
 generalize hK:iq ρ.d sp (m+1)=key
 refine av (Td (n:=m+1) (by lia) hm x key) fun bs H=> ?_
 refine ai (Rf H (by lia) hm hx) fun hp ok=> ?_
 refine dq (GZ H _ _ _ hp) fun e1 e2 e3=> ?_
 have ex:dk x (aI (m+1))=x:=(Jx hx).symm
 rw[ex] at e1 e2
 have es:gQ ρ.d sp (m+1)=dk x (kq (m+1) bs (bo (m+1)).length 0 (aI (m+1))):=by unfold gQ;rw[hX,e1]
 have el:(kq (m+1) bs (bo (m+1)).length 0 (aI (m+1))).length=m+1:=by rw[GC,dZ]
 have eb:=AJ H (l:=kq (m+1) bs (bo (m+1)).length 0 (aI (m+1))) e3 6 0 (m+1) (by lia)
 rw[es,e2,eb]
 refine⟨lW (x++ [key]),[.ar ((aI (m+1+1)).map fun i=>sv i (u9 (m+1) bs i)),.ar (tL (m+1) bs)],fun X ad h vs P=> ?_,ok⟩
 refine Internal.p1 P fun v0 r p0 P=> ?_
 refine Internal.p1 P fun v1 r p1 P=> ?_
 refine Internal.p0 P ?_
 have gl:fQ (m+3) sp=(aI (m+1)).map (fun i=>sy (Nx sp i))++ [sy (oM sp (m+1))]:=by
  show app (fH sy (i8 sp (m+1))) _=_
  rw[dC];unfold i8;rw[iN];rfl
 refine .cons (lC (l:=fQ (m+3) sp) (l':=(aI (m+1+1)).map fun i=>sv i (u9 (m+1) bs i)) ?_ (fun i V V' q1 q2=> ?_) ad h v0 p0) (.cons (lC (l':=tL (m+1) bs) ?_ (fun i V V' q1 q2=> ?_) ad h v1 p1) .nil)
 ·rw[gl,aT,dZ,cH,aT,dZ];rfl
 ·rw[gl] at q1
  rw[ES,zH] at q2
  rcases Hu (B:=[m+1]) (g:=fun _=>sy (oM sp (m+1))) q1 q2 with q|q
  ·refine gz q fun j hj h1 h2=> ?_
   subst h1;subst h2
   have z:=dN.mp hj
   refine tw ?_
   show aA (x++ [key]) j=dA ρ.d (sp+1+j) 30-10
   rw[wL hx z,←hX]
   exact Hv _ _ z
  ·refine gz q fun j hj h1 h2=> ?_
   subst h1;subst h2
   rw[bx.mp hj]
   refine tw ?_
   show aA (x++ [key]) (m+1)=iq ρ.d sp (m+1)
   rw[IW hx,hK]
 ·unfold tL
  rw[cH,cH,aT,aT,aT,aT,aT]
 ·unfold tL at q2
  rw[iN] at q1
  rcases Hu q1 q2 with q|q
  ·refine gz q fun r hr h1 h2=> ?_
   subst h1;subst h2
   exact sG (Bl fun x V' e=>by(exfalso;injection e)) (I4 hx (G6 _ _ _ hp r hr))
  ·refine gz q fun p _ h1 h2=> ?_
   subst h1;subst h2
   exact sG (Bm (by decide) rfl rfl sX sX) (I4 hx e3)
end
end
section
noncomputable section
variable{s₁:Shared} {f1 f2:Nat}
theorem VK(B:Base w s₁){T:Nat→List SV→Bool}(hT:∀f as,T f as=true→kf w ρ f as):br (aj w s₁ ρ F) 72 (gV T):=fun{A X ad s h f as vs k}ao I hl P q=>by
 have q:(aj w s₁ ρ F).Ok (cond (T f as) (k (.bool true) h) (bad 0)):=q
 refine ai (aJ q) fun t q=> ?_
 exact Rg B (hT f as t) (ao.less (by decide)) I hl P q
noncomputable def NT(d:dQ)(f sp:Nat):List SV:=(NC d f sp).tail
theorem aah(d:dQ)(f sp:Nat):NC d f sp=nN 63 []::NT d f sp:=rfl
theorem Gp(hd:Draws ρ.d)(hf:f≤6):kf w ρ (o5 (fm f)) [.ar (fQ f sp),.ar (NT ρ.d f sp)]:=by
 match f,hf with
 |0,_=>exact Tr hd
 |1,_=>exact Ts hd
 |2,_=>exact Tu hd
 |m+3,hf=>exact Tt (by lia)
theorem IJ{d:dQ}:∀V∈NT d f sp,l3 V:=fun V m=>by
 match f,m with
 |0,m=>obtain⟨p,_,rfl⟩:=bz.mp m;exact⟨64,_,_,rfl,by decide⟩
 |1,m=>obtain⟨p,_,rfl⟩:=bz.mp m;exact⟨65,_,_,rfl,by decide⟩
 |2,m=>obtain⟨p,_,rfl⟩:=bz.mp m;exact⟨66,_,_,rfl,by decide⟩
 |k+3,m=>
  rcases bj.mp m with m|m
  ·obtain⟨p,_,rfl⟩:=bz.mp m;exact⟨61,_,_,rfl,by decide⟩
  ·obtain⟨p,_,rfl⟩:=bz.mp m;exact⟨67,_,_,rfl,by decide⟩
theorem FO:∀(m n a r:Nat),(fK m n a r).length≤m+1
 |0,n,a,r=>bb _
 |m+1,n,a,r=>by
  unfold fK
  split
  ·exact mv (fu _)
  ·exact mv (FO m _ _ _)
theorem FP:∀(m n:Nat),lF m n≤9*m
 |0,n=>bb _
 |m+1,n=>by
  unfold lF
  have:=FP m (n/2)
  split<;>omega
theorem Fm:∀(m:Nat)(a b:Int),(eI m a b).length≤m+1
 |0,a,b=>bb _
 |m+1,a,b=>by
  unfold eI
  split
  ·exact mv (fu _)
  ·exact mv (Fm m _ _)
theorem FZ:∀(m:Nat)(a:Int),j9 m a≤7*m
 |0,a=>bb _
 |m+1,a=>by
  unfold j9
  have:=FZ m (a/10)
  split<;>omega
theorem FU(n:Nat):∀(d k:Nat)(x:List Int),(ig n d k x).length≤d
 |0,k,x=>bb _
 |d+1,k,x=>by
  unfold ig
  rw[cH]
  have:=FU n d (k+1) (gM x ((aS (bo n) k).getD (0,0)).2)
  unfold oA
  split
  ·rw[EC];lia
  ·rw[zF];lia
theorem Ga(n:Nat):∀(d k:Nat)(x:List Int),ka n d k x≤5*d
 |0,k,x=>bb _
 |d+1,k,x=>by
  unfold ka
  have:=Ga n d (k+1) (gM x ((aS (bo n) k).getD (0,0)).2)
  have h:stepT n k x ((aS (bo n) k).getD (0,0)).2≤5:=by
   unfold stepT
   cases B1 n k<;>split<;>decide
  lia
theorem FV(x:List Int)(key:Int):∀(f lo hi:Nat),(f9 x key f lo hi).length≤f+1
 |0,lo,hi=>bb _
 |f+1,lo,hi=>by
  unfold f9
  split
  ·exact mv (FV x key f _ _)
  ·exact mv (fu _)
theorem FW(x:List Int)(key:Int):∀(f lo hi:Nat),js x key f lo hi≤10*f
 |0,lo,hi=>bb _
 |f+1,lo,hi=>by
  unfold js
  have:=FW x key f (nG x key lo hi) (nF x key lo hi)
  split<;>split<;>omega
theorem Iv(h:n≤4):(bo n).length≤6:=by
 have:n=0∨n=1∨n=2∨n=3∨n=4:=by lia
 rcases this with rfl|rfl|rfl|rfl|rfl<;>decide
theorem GB{d:dQ}(hd:Draws d)(sp:Nat):(eS 61 (dA d sp 61) (dA d (sp+1) 61)).length≤12∧lD 61 (dA d sp 61) (dA d (sp+1) 61)≤120:=by
 refine ai (hd sp 61 (by decide)) fun a1 a2=> ?_
 refine ai (hd (sp+1) 61 (by decide)) fun b1 b2=> ?_
 have:=HI (dA d sp 61).toNat (by lia) (dA d (sp+1) 61).toNat (by lia)
 rwa [show aq (dA d sp 61).toNat=dA d sp 61 from jh a1,show aq (dA d (sp+1) 61).toNat=dA d (sp+1) 61 from jh b1] at this
theorem IS{d:dQ}(hd:Draws d)(hf:f≤6):(NT d f sp).length<100:=by
 match f,hf with
 |0,_=>
  show(fH _ (g9 61 (dA d sp 61) (dA d (sp+1) 61))).length<100
  rw[aT,zX,OJ,cw]
  have:=(GB hd sp).1
  lia
 |1,_=>show(fH _ (fK 4 _ _ 1)).length<100;rw[aT];exact p5 (FO _ _ _ _) (by decide)
 |2,_=>show(fH _ (eI 4 _ 0)).length<100;rw[aT];exact p5 (Fm _ _ _) (by decide)
 |k+3,hf=>
  show(fH _ (ig (k+1) _ 0 _)++fH _ (f9 _ _ 6 0 (k+1))).length<100
  rw[cH,aT,aT]
  have h1:=FU (k+1) (bo (k+1)).length 0 (f7 d sp (k+1))
  have h2:=FV (gQ d sp (k+1)) (iq d sp (k+1)) 6 0 (k+1)
  have h3:=Iv (n:=k+1) (by lia)
  lia
theorem JT{d:dQ}(hd:Draws d)(hf:f≤6):TF d f sp≤190:=by
 match f,hf with
 |0,_=>
  have:=(GB hd sp).2
  show 4+(if dA d (sp+1) 61=0 then 3 else 1+lD 61 (dA d sp 61) (dA d (sp+1) 61))≤190
  by_cases h:dA d (sp+1) 61=0
  ·rw[if_pos h];lia
  ·rw[if_neg h];lia
 |1,_=>
  have:=FP 4 (dA d (sp+1) 8).toNat
  show 5+(if(dA d (sp+1) 8).toNat=0 then 3 else 1+lF 4 (dA d (sp+1) 8).toNat)≤190
  by_cases h:(dA d (sp+1) 8).toNat=0
  ·rw[if_pos h];lia
  ·rw[if_neg h];lia
 |2,_=>
  have:=FZ 4 (dA d sp 10000)
  show 4+(if dA d sp 10000=0 then 3 else 1+j9 4 (dA d sp 10000))≤190
  by_cases h:dA d sp 10000=0
  ·rw[if_pos h];lia
  ·rw[if_neg h];lia
 |k+3,hf=>
  have h1:=Ga (k+1) (bo (k+1)).length 0 (f7 d sp (k+1))
  have h2:=FW (gQ d sp (k+1)) (iq d sp (k+1)) 6 0 (k+1)
  have h3:=Iv (n:=k+1) (by lia)
  show(k+1)+(4+(2+(ka (k+1) (bo (k+1)).length 0 (f7 d sp (k+1))+(3+js (gQ d sp (k+1)) (iq d sp (k+1)) 6 0 (k+1)))))≤190
  lia
theorem sf(C:ax (aj w s₁ ρ F))(Y:br (aj w s₁ ρ F) 72 cl){x:MS}(hx:wS eO x cJ=true){k:En→Hp→Res}(a:At (aj w s₁ ρ F) 72 cJ A e X ad s env h)
  (q:(aj w s₁ ρ F).Ok (cS x aG cl 300 env h k cL)){Q:Flow→Shared→Prop}
  (ret:∀{v V h' ae X' s'},(aj w s₁ ρ F).Ok (cL V h')→(aj w s₁ ρ F).VR X' ae s'.heap v V→Inv (aj w s₁ ρ F) X' ae h' s'→Q (.ret v) s')
  (next:∀{s' aD h' ae X'},(aj w s₁ ρ F).Ok (k aD h')→At (aj w s₁ ρ F) 72 cJ A e X' ae s' aD h'→wpAny (model pw_sm0015_01 w) A (execs rest e) Q NE s'):wpAny (model pw_sm0015_01 w) A (execs (cn aw x::rest) e) Q NE s:=by
 refine wpAny_execs_cons (ay (sS C Y (by decide) x cJ hx a q) fun f s2 p=> ?_)
 induction f with
 |brk=>exact p.elim
 |cont=>exact p.elim
 |ret v=>obtain⟨V,h',ae,X',q,r,J,T⟩:=p;exact ret q r J
 |next=>
  obtain⟨iZ,h1,aK,X1,q1,uy,J1,T1⟩:=p
  exact next q1 (a.ow uy J1 T1)
noncomputable def B9(s₁:Shared)(v:Value)(s':Shared):Prop:=v= .bool true∧(∀b o,s₁.heap.get? b=some o→s'.heap.get? b=some o)∧∃hp tk,s'={s₁ with heap:=hp,toks:=tk}
open Classical in
theorem RS(B:Base w s₁)(Kv:jx ρ f1 f2)(a:At (aj w s₁ ρ F) 72 cJ A e X [] s (jC ρ.d f1 f2) []){Q:Flow→Shared→Prop}(hQ:∀v s',B9 s₁ v s'→Q (.ret v) s'):
  wpAny (model pw_sm0015_01 w) A (execs [cn aw (aY 7),cn aw (aY 8),cn aw (aY 9),cn aw (aY 10),cn aw (aY 11)] e) Q NE s:=by
 let G1:SV:= .ar (fQ f1 2)
 let G2:SV:= .ar (fQ f2 (cU f1))
 let M1:=NT ρ.d f1 2
 let M2:=NT ρ.d f2 (cU f1)
 let T:Nat→List SV→Bool:=fun f as=>decide ((f=o5 (fm f1)∧as= [G1,.ar M1])∨(f=o5 (fm f2)∧as= [G2,.ar M2]))
 let F8:Nat→SV→En→Hp→Prop:=fun fl v _ _=>fl=8∧v= .bool true
 have C:ax (aj w s₁ ρ F8):=fP B
 have Y:br (aj w s₁ ρ F8) 72 (gV T):=VK B fun f as h=>by
  rcases of_decide_eq_true h with⟨rfl,rfl⟩|⟨rfl,rfl⟩
  ·exact Gp Kv.d Kv.h1
  ·exact Gp Kv.d Kv.h2
 have Nc:∀f,fm f<4:=fun f=>by unfold fm;split<;>decide
 have run:=SR (T:=T) (a:=fm f1) (b:=fm f2) (Nc f1) (Nc f2) (G1:=G1) (G2:=G2) (Ls:= .ar [ln 10 (cK f1 2),ln 30 (cK f2 (cU f1))]) (M1:=M1) (M2:=M2) IJ IJ (by have:=IS Kv.d Kv.h1 (sp:=2);have:=IS Kv.d Kv.h2 (sp:=cU f1);show(NT ρ.d f1 2).length+(NT ρ.d f2 (cU f1)).length<200;lia) (decide_eq_true (.inl ⟨rfl,rfl⟩)) (decide_eq_true (.inr ⟨rfl,rfl⟩))
 have ret:∀{v V h' ae X' s'},(aj w s₁ ρ F8).Ok (cL V h')→(aj w s₁ ρ F8).VR X' ae s'.heap v V→Inv (aj w s₁ ρ F8) X' ae h' s'→Q (.ret v) s':=fun{v V h' ae X' s'}q r J=>by
  have e:V= .bool true:=q.2.2
  subst e
  refine hQ v s' ⟨?_,J.base,J.rest⟩
  obtain rfl:=VR.lM r;rfl
 have q:(aj w s₁ ρ F8).Ok (cS (aY 7) aG (gV T) 300 (jC ρ.d f1 f2) [] (fun env h=>cS (aY 8) aG (gV T) 300 env h (fun env h=>cS (aY 9) aG (gV T) 300 env h (fun env h=>cS (aY 10) aG (gV T) 300 env h (fun env h=>cS (aY 11) aG (gV T) 300 env h eJ cL) cL) cL) cL) cL):=by
  show Ok ρ F8 (cS (aY 7) aG (gV T) 300 (eh (fm f1) (fm f2) G1 G2 (.ar [ln 10 (cK f1 2),ln 30 (cK f2 (cU f1))]) ((nN 63 []::M1)++(nN 63 []::M2))) [] _ cL)
  rw[run]
  exact⟨trivial,rfl,rfl⟩
 have a':At (aj w s₁ ρ F8) 72 cJ A e X [] s (jC ρ.d f1 f2) []:=a.toF
 refine sf C Y (jl (by decide:7<12)) a' q ret fun{s1 e1 h1 aK X1}q1 a1=> ?_
 refine sf C Y (jl (by decide:8<12)) a1 q1 ret fun{s2 e2 h2 bl X2}q2 a2=> ?_
 refine sf C Y (jl (by decide:9<12)) a2 q2 ret fun{s3 e3 h3 gU X3}q3 a3=> ?_
 refine sf C Y (jl (by decide:10<12)) a3 q3 ret fun{s4 e4 h4 yC X4}q4 a4=> ?_
 refine sf C Y (jl (by decide:11<12)) a4 q4 ret fun{s5 e5 h5 d8 X5}q5 a5=> ?_
 have q:7=8∧_:=q5.2
 exact absurd q.1 (by decide)
end
end
section
noncomputable section
noncomputable def drawsOf(ns:List Int):dQ:=fun i m=>if h:i.toNat<ns.length then((ns[i.toNat]).natAbs:Int).fmod m else((17*i.toNat+i.toNat/2+3:Nat):Int).fmod m
theorem Gz(ns:List Int):Draws (drawsOf ns):=fun i m hm=>by
 have e:∀x:Int,0≤x.fmod (zN m)∧x.fmod (zN m)<(m:Int):=fun x=>⟨Int.fmod_nonneg_of_pos _ (by show(0:Int)<(m:Int);lia),Int.fmod_lt_of_pos _ (by show(0:Int)<(m:Int);lia)⟩
 show 0≤drawsOf ns (zN i) (zN m)∧drawsOf ns (zN i) (zN m)<(m:Int)
 unfold drawsOf
 split
 ·exact e _
 ·exact e _
noncomputable def pick(d:dQ)(a:Nat)(sp:Nat):Nat:=if a<3 then a else 3+(dA d sp 4).toNat
noncomputable def d5(d:dQ):Nat:=pick d (dA d 0 4).toNat 2
noncomputable def lL(d:dQ):Nat:=pick d (dA d 1 (cond (ag (fm (d5 d)) 3) 3 4)).toNat (cU (d5 d))
theorem HK{d:dQ}(hd:Draws d){a:Nat}(ha:a<4):fm (pick d a sp)=a∧pick d a sp≤6∧(2<pick d a sp→dA d sp 4=(pick d a sp-3:Nat)):=by
 have h:=hd sp 4 (by decide)
 unfold pick
 by_cases z:a<3
 ·rw[if_pos z]
  refine⟨?_,by lia,fun y=>absurd y (by lia)⟩
  have:a=0∨a=1∨a=2:=by lia
  rcases this with rfl|rfl|rfl<;>rfl
 ·rw[if_neg z]
  refine⟨?_,by lia,fun _=>by lia⟩
  have:a=3:=by lia
  subst this
  show fm (3+_)=3
  rw[EV];rfl
theorem GH{d:dQ}(hd:Draws d):d5 d≤6∧lL d≤6∧(d5 d<3∨lL d<3)∧vQ d (d5 d) (lL d):=by
 have h0:=hd 0 4 (by decide)
 have h1:0≤dA d 1 (cond (ag (fm (d5 d)) 3) 3 4)∧dA d 1 (cond (ag (fm (d5 d)) 3) 3 4)<((cond (ag (fm (d5 d)) 3) 3 4:Nat):Int):=hd 1 _ (by cases ag (fm (d5 d)) 3<;>decide)
 have h2:(dA d 1 (cond (ag (fm (d5 d)) 3) 3 4)).toNat<4:=by
  revert h1
  cases ag (fm (d5 d)) 3
  ·intro h1;have h1:=h1.2;simp only[cond] at h1⊢;lia
  ·intro h1;have h1:=h1.2;simp only[cond] at h1⊢;lia
 have p1:=HK hd (a:=(dA d 0 4).toNat) (sp:=2) (by lia)
 have p2:=HK hd (a:=(dA d 1 (cond (ag (fm (d5 d)) 3) 3 4)).toNat) (sp:=cU (d5 d)) h2
 refine⟨p1.2.1,p2.2.1,?_,⟨?_,?_,p1.2.2,p2.2.2⟩⟩
 ·by_cases z:d5 d<3
  ·exact .inl z
  ·refine .inr ?_
   have e3:fm (d5 d)=3:=by
    unfold fm
    match d5 d,z with
    |0,z=>exact absurd (by decide) z
    |1,z=>exact absurd (by decide) z
    |2,z=>exact absurd (by decide) z
    |n+3,_=>rfl
   rw[e3] at h1
   have h1:dA d 1 3<((3:Nat):Int):=h1.2
   unfold lL
   rw[e3]
   show pick d (dA d 1 3).toNat _<3
   unfold pick
   rw[if_pos (by lia)]
   lia
 ·rw[show fm (d5 d)=_ from p1.1];exact(jh h0.1).symm
 ·rw[show fm (lL d)=_ from p2.1];exact(jh h1.1).symm
noncomputable def CV(ns:List Int):Val:=⟨fun i=>if i=0 then zN (gv (d5 (drawsOf ns)) (lL (drawsOf ns))) else 0,drawsOf ns,fun _=>[],[]⟩
theorem Ub(ns:List Int):jx (CV ns) (d5 (drawsOf ns)) (lL (drawsOf ns)):=by
 have hd:=Gz ns
 refine pW (GH hd) fun h1 h2 h3 _=> ?_
 refine⟨rfl,rfl,fun i h=>if_neg (by lia),fun _=>rfl,rfl,hd,?_,h1,h2,Zo h1 h2 h3⟩
 have a:=JT (sp:=2) hd h1
 have b:=JT (sp:=cU (d5 (drawsOf ns))) hd h2
 show TF (drawsOf ns) _ _+TF (drawsOf ns) _ _+1≤400
 lia
theorem WD:∃r,gk[106]? =some r∧r.b=qF∧r.sc=cJ:=⟨_,rfl,rfl,rfl⟩
theorem W4:∃f,iB[106]? =some f∧f.ps= [302]:=⟨_,rfl,rfl⟩
theorem VS:eg aw qF= [cn aw (aY 0),cn aw (aY 1),cn aw (aY 2),cn aw (aY 3),cn aw (aY 4),cn aw (aY 5),cn aw (aY 6),cn aw (aY 7),cn aw (aY 8),cn aw (aY 9),cn aw (aY 10),cn aw (aY 11)]:=rfl
variable{s₁:Shared}
theorem WO{m:Nat}{ns:List Int}{g:Nat→SV}(hn:ns.length≤24)(hl:n=ns.length)(hg:∀(q:Nat)(hq:q<ns.length),g q= .lit ns[q])(hd:c.ρ.d=drawsOf ns)
  (a:At c m sc A e X ad s env [.lst [.ar ((aI n).map g),.lit (zN 0)]]):At c m sc A e X ad s env [.lst [.c9,.lit (zN 0)]]:=by
 subst hl
 have I:=a.inv
 refine⟨a.ao,⟨I.base,I.len,fun i o q=> ?_,I.sep,I.bc,I.live,I.own,I.rest⟩,a.low,a.fr,a.sc⟩
 match i,q with
 |0,q=>
  (injection q with e1;subst e1)
  obtain⟨p,hp,e1,vs,hL,P⟩:=I.fit 0 _ rfl
  refine⟨p,hp,e1,vs,hL,?_⟩
  cases P with
  |cons r0 P=>
   refine .cons ?_ P
   refine vh (VR.mT r0) fun _ _ _ ho hx hf af=> ?_;subst af
   rename_i a' f ep
   rw[aT,dZ] at ho
   refine .c9 (vs:=(aI ns.length).map f) (ns:=ns) (ep:=ep) ho hx (ints_of (by rw[aT,dZ]) fun q hq=> ?_) hn fun i m=>by rw[hd];rfl
   have:=hf q (.lit ns[q]) (by rw[b0,lq hq];exact congrArg some (hg q hq))
   generalize hu:f q=u at this
   rw[b0,lq hq]
   show∃t,some (f q)=_
   rw[hu]
   obtain⟨t,rfl⟩:=VR.dj this;exact⟨t,rfl⟩
 |i+1,q=>exact absurd q (by induction i using Nat.casesAuxOn<;>(intro q;cases q))
end
end
section
noncomputable section
variable{s₁:Shared}
noncomputable def gX(xs:List Int)(i:Nat):SV:= .lit (xs.getD i 0)
noncomputable def oV(xs:List Int):SV:= .ar ((aI xs.length).map (gX xs))
theorem YQ(B:Base w s₁):Inv (aj w s₁ ρ F) [] [] [] s₁:=
 ⟨fun _ _ e=>e,rfl,fun i o e=>(by induction i using Nat.casesAuxOn<;>cases e),fun i j p q e=>(by induction i using Nat.casesAuxOn<;>cases e),fun b m=>(by obtain⟨p,m,_⟩:=m;exact(aP m).elim),fun a m=>(by exact(aP m).elim),fun a m=>(by exact(aP m).elim),s₁.heap,s₁.toks,rfl⟩
theorem RO(B:Base w s₁)(ao:cp A (4*72+3)){xs:List Int}(hx:xs.length<64)(r0:cC w (CV (xs.take 24)) [] [] s₁.heap v (oV xs)):
  codeAny (model pw_sm0015_01 w) A (.call (.ref (aN.fa 106)) ⟨[v],[]⟩) (wants (B9 s₁) NE) s₁:=by
 let ρ:=CV (xs.take 24)
 let eD:En:=[(302,oV xs),(264,.ref 0)]
 let hE:Hp:=[.lst [.ar ((aI (HW xs.length 24)).map (gX xs)),.lit (zN 0)]]
 have Kv:=Ub (xs.take 24)
 have hd:=Gz (xs.take 24)
 refine pW (GH hd) fun h1 h2 kM D=> ?_
 have C:ax (aj w s₁ ρ (FE .none eD hE)):=fP B
 have Y:br (aj w s₁ ρ (FE .none eD hE)) 72 (fC (d5 (drawsOf (xs.take 24))) (lL (drawsOf (xs.take 24)))):=so B
 refine gz WD fun rw e1 e2 e3=> ?_
 refine ak W4 fun fn e4 e5=> ?_
 have hF:qC (aj w s₁ ρ (FE .none eD hE)) 106 fn.ps rw.sc (eg aw rw.b):=xi e1 e4
 rw[e5,e3,e2] at hF
 refine(zY C hF (m:=72) ao (YQ B) (bb _) (as:=[oV xs]) (.cons r0 .nil) rfl fun e s2 a T0 keep fresh=> ?_).2
 have sz:=T0.size
 rw[VS]
 have hm:=fk.mp (ZE (gX xs) (fC (d5 (drawsOf (xs.take 24))) (lL (drawsOf (xs.take 24)))) eJ cL) xs.length (dN.mpr hx)
 refine p9 C Y (jl (by decide:0<12)) a (k:=eJ) ?_ fun{s3 i6 h3 gU X3}q3 a3=> ?_
 ·show Ok ρ (FE .none eD hE) (cS (aY 0) aG _ 300 [(302,oV xs)] [] eJ cL)
  unfold oV
  rw[hm]
  exact⟨trivial,rfl,rfl,rfl⟩
 obtain⟨_,rfl,rfl⟩:7=7∧i6=eD∧h3=hE:=q3.2
 have a4:At (aj w s₁ ρ F0) 72 cJ (A.deeper e) e X3 gU s3 eD hE:=a3.toF
 have lt:(xs.take 24).length=HW xs.length 24:=by rw[OD,Nat.min_comm]
 have a5:At (aj w s₁ ρ F0) 72 cJ (A.deeper e) e X3 gU s3 eD [.lst [.c9,.lit (zN 0)]]:=WO (c:=aj w s₁ ρ F0) (ns:=xs.take 24) (g:=gX xs) (by rw[lt];exact Nat.min_le_right _ _) lt.symm (fun q hq=>by
  rw[List.getElem_take]
  have:q<xs.length:=by rw[OD] at hq;lia
  show SV.lit (xs.getD q 0)=_
  rw[N6,cA this];rfl) rfl a4
 have a6:At (aj w s₁ ρ F0) 72 cJ (A.deeper e) e X3 gU s3 [(264,.ref 0)] [.lst [.c9,.lit (zN 0)]]:=⟨a5.ao,a5.inv,a5.low,a5.fr.look fun x V e=> ?_,a5.sc⟩
 ·refine RP B Kv kM D a6 fun{s7 X7}a7=> ?_
  exact RS B Kv a7 fun v s' z=>z
 ·have e:cond (ag 264 x) (some (SV.ref 0)) none=some V:=e
  show cond (ag 302 x) (some (oV xs)) (cond (ag 264 x) (some (SV.ref 0)) none)=some V
  induction z:ag 264 x using Bool.casesOn with
  |false=>rw[z] at e;(exfalso;injection e)
  |true=>rw[z] at e;have:=aZ z;subst this;exact e
theorem E2:∀{ds:List WData},WShape.hasItems [] ds .int=true→∃xs:List Int,ds=xs.map .int
 | [],_=>⟨[],rfl⟩
 |d::ds,h=>by
  have h:(WShape.has [] d .int&&WShape.hasItems [] ds .int)=true:=by simpa [WShape.hasItems] using h
  refine a1 h fun h1 h2=> ?_
  refine av (hasW_int h1) fun i af=> ?_;subst af
  refine av (E2 h2) fun xs af=> ?_;subst af
  exact⟨i::xs,rfl⟩
theorem Gd{h:Heap}:∀{xs:List Int}{vs:List Value},WellAll w.params h vs (xs.map .int)→IntsAre vs xs
 | [],_,W=>by cases W;exact .nil
 |x::xs,_,W=>dK (wellAll_cons_inv W) fun v rP e a b=>by
  subst e
  refine av (Value.isInt_shape ((encInt pw_sm0015_01 w).is a).1) fun t e=> ?_;subst e
  exact .cons _ _ (Gd b)
theorem Q6{h:Heap}{xs:List Int}(ho:h.get? a=some {cls:= .type "list",data:= .seq vs.toArray})(hi:IntsAre vs xs):cC w ρ [] [] h (.ref a) (oV xs):=by
 have el:=vX hi
 refine .ar (f:=fun i=>(vs[i]?).getD .none) (ep:=0) ?_ (by intro m;exact(aP m).elim) fun i V e=> ?_
 ·rw[ho]
  congr 3
  rw[aT,dZ,←el]
  congr 1
  apply EI
  intro i
  rw[b0]
  rcases fq i vs.length with z|z
  ·rw[lq z,cA z];simp[z]
  ·rw[jg z,jg (by rwa [dZ])];rfl
 ·rw[b0] at e
  rcases fq i xs.length with z|z
  ·rw[lq z] at e
   (injection e with e1;subst e1)
   refine av (AW hi (cA z)) fun t ht=> ?_
   show VR _ _ _ _ _ _ _ ((vs[i]?).getD .none) (.lit (xs.getD i 0))
   rw[ht,N6,cA z]
   exact .lit _ t
  ·rw[jg (by rwa [dZ])] at e;(exfalso;injection e)
end
end
section
noncomputable section
theorem Uq:importsNone qV=true:=by kernel_rfl
theorem We(P:Params):nsIn (KT P) mainGlobals lV.name=some (some (.ref (aN.fa 106))):=by kernel_rfl
theorem Ud{xs:List Int}(h:(rw_sm0015_01.row.toRowW.pre).holds [] {args:=[.list (xs.map .int)]}=true):xs.length<64:=by
 rcases fq xs.length 64 with z|z
 ·exact z
 ·exfalso
  have e:(rw_sm0015_01.row.toRowW.pre).value [] {args:=[.list (xs.map .int)]}=some (.bool false):=by
   show(match(match(WTm.value [] (.lt (.lit (.int 63)) (.len (.arg 0))) {args:=[.list (xs.map .int)]}) with|some (.bool b)=>some (WData.bool (!b))|_=>none) with|some (.bool false)=>some (WData.bool false)|some (.bool true)=>some (.bool true)|_=>none)=_
   have:WTm.value [] (.lt (.lit (.int 63)) (.len (.arg 0))) {args:=[.list (xs.map .int)]}=some (.bool true):=by
    show some (WData.bool (decide ((63:Int)<((xs.map WData.int).length:Int))))=_
    rw[aT,decide_eq_true (by lia)]
   rw[this]
   rfl
  unfold WTm.holds at h
  rw[e] at h
  exact nf h
theorem S6{s₀ s₁:Shared}{mg mb:Str→Option Value}(G:Ground qV j7 [] (XL qV []) w s₀ mg mb s₁.heap)(Y:qv.says w s₁.heap):Base w s₁:=by
 refine⟨kIn_of (e:=IV) Y,⟨mg,mb,.inr ⟨G.T.g,G.T.b,G.T.nolimit,G.T.builtins⟩⟩,?_⟩
 obtain⟨mm,⟨o,_,_,ho,_⟩,_⟩:=(G.T.seer Uq).mods
 exact⟨o,ho⟩
theorem RQ(a:List WData):rw_sm0015_01.row.toRowW.claim.post a (.bool true) a=true:=by kernel_rfl
theorem RT:WalkO qV j7 (XL qV []) qv.says rw_sm0015_01.row.toRowW lV [] fun f vs=>PySem.call f vs:=by
 intro w s₀ s₁ mg mb G Y a o pm cd doc dV kV aao Kf aak aan hmg Xc args vals as YN aap hrd Xf aaq
 have B:Base w s₁:=S6 G Y
 refine ai (pre_splitW YN) fun p1 p2=> ?_
 refine dK (hasAllW_cons p1) fun d r af hd hr=> ?_;subst af
 refine ak (hasW_list hd) fun ds af hi=> ?_;subst af
 refine av (E2 hi) fun xs af=> ?_;subst af
 have:=hasAllW_nil hr
 subst this
 have hx:=Ud p2
 refine dK (wellAll_cons_inv Xf) fun v rP af W W'=> ?_;subst af
 cases W'
 cases W with
 |list ho hw=>
  rename_i a' vs
  have ea:a=aN.fa 106:=by
   have:=mg_of B.eA G.T.g (We w.params)
   rw[hmg] at this
   exact Value.ref.inj (Option.some.inj this)
  subst ea
  refine wpAny_call (codeAny_mono (RO B (A:=callerA) ⟨rfl,by decide,by decide⟩ hx (Q6 ho (Gd hw))) fun r s' z=> ?_)
  match r,z with
  | .ok (.ret v),z=>
   obtain⟨e0,keep,hp,tk,es⟩:B9 s₁ v s':=z
   subst e0
   refine⟨.inl ⟨_,.bool true,[],rfl,fun cls=>rfl,.bool true,RQ _,fun _=>⟨.nil,fun a m=>by exact(aP m).elim⟩⟩,.of_keep keep,by rw[es],by rw[es];exact .of_eq Xc⟩
  | .ok .next,z=>exact z.elim
  | .ok .brk,z=>exact z.elim
  | .ok .cont,z=>exact z.elim
  | .error e,z=>exact z.elim
theorem O9:rw_sm0015_01.row.toRowW.promised:=⟨[.list [.int 3]],by decide+kernel,by decide+kernel⟩
theorem law_holds:rw_sm0015_01.Holds:=Xa qv Wq RT O9
end
end
end Mine.Internal
theorem PySem.Challenge.cw_sm0015_01_holds : PySem.Challenge.rw_sm0015_01.Holds := by
  exact Mine.Internal.law_holds
