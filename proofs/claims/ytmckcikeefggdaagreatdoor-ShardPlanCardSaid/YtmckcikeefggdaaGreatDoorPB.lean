/- Part 2 of the proof. -/
import Derived.Orders
import Derived.Test.YtmckcikeefggdaaGreatDoorPA
set_option linter.unusedVariables false
set_option linter.unusedSimpArgs false
set_option linter.unusedSectionVars false
set_option maxRecDepth 100000
set_option maxHeartbeats 16000000
namespace Go.Pi
section
section
variable {P:Program} {e:Env} {G:Gh} {h h':Mem} {w:World} {s:Zf} {a:Act} {nt:Nat}
theorem Be(hC:CallOk P e)(hi:Inv G h w)(hs:SlotsRel G s a nt)(hg:GlobOk e G)(hl:Xd P e)(o:Oper){pop:POp}(htr:Yi P o.type o.op=some pop){z:X}(hev:evalOp e s h pop=some (z,h'))(hd:∀ i,o.dst=some i->i < nt){next:Act->World->Prop}{Q:Go.Exit->Act->World->Prop}
  (hn:XK P G h w (Yo s o.dst z) h' nt a next):o.wp P a w next Q:=by
 cases hic:pop.isCall with
 | true=>exact FA hC hi hs hg o htr hic hev hd hn
 | false=>exact OpOk.wp hi hs hd (Pn hi hs hg hl o htr hic hev) hn
theorem yx(hC:CallOk P e)(hi:Inv G h w)(hs:SlotsRel G s a nt)(hg:GlobOk e G)(hl:Xd P e){dr:Bool}(ops:Array Oper)(o:Oper){d:Option Nat}{pop:POp}(htr:UN P dr ops o=some (d,pop)){z:X}(hev:evalOp e s h pop=some (z,h'))(hd:∀ i,o.dst=some i->i < nt){next:Act->World->Prop}{Q:Go.Exit->Act->World->Prop}
  (hn:XK P G h w (Yo s d z) h' nt a next):o.wp P a w next Q:=by
 have plain:((Yi P o.type o.op).map (o.dst,·))=some (d,pop)->o.wp P a w next Q:=by
  intro hp;simp only[Zc,Prod.mk.injEq]at hp;obtain⟨q,h1,rfl,rfl⟩:=hp;exact Be hC hi hs hg hl o h1 hev hd hn
 unfold UN at htr;split at htr
 ·rename_i c hop;split at htr
  ·rename_i x y t hc hargs hdst;split at htr
   ·split at htr
    case h_2=>cases htr
    rename_i ta tb hat;split at htr
    case h_2=>cases htr
    rename_i el dd rx ry h1 h2 h3 h4;split at htr
    ·cases htr
    ·rename_i hcond;simp only[not_or]at hcond;cases htr;cases hz:YO P el with
     | none=>rw[hz]at hcond;simp at hcond
     | some zc=>
      obtain⟨cs,hrun⟩:=wP (P:=P) (w:=w) (a:=a) o hop hc;refine OpOk.wp hi hs hd (.of_run hrun ?_) hn;rw[DI hargs,Od hat];exact EP hi hs hg h1 h2 (uJ hcond.2.1) hcond.1 hz h3 h4 hev rfl
   ·exact plain htr
  ·exact plain htr
 ·rename_i t v i hop;split at htr
  ·split at htr
   ·rename_i el ri h1 h2;split at htr
    ·cases htr
    ·rename_i h0;cases htr;exact OpOk.wp hi hs hd (EN hi hs hg h1 h0 (x:=.tmp v) rfl h2 hev o hop) hn
   ·cases htr
  ·exact plain htr
 ·rename_i t p v hop;split at htr
  ·split at htr
   ·rename_i x _ _;split at htr
    ·split at htr
     ·rename_i rv hv;split at htr
      ·rename_i hcond;cases dr with
       | false=>
        simp only[Bool.false_eq_true,if_false,Option.some.injEq,Prod.mk.injEq]at htr;obtain⟨rfl,rfl⟩:=htr;obtain⟨w',G',hr,hst,hx,_⟩:=wl hi hs hg hcond.2 hv hev (q:=execOp a.eval o) (by simp only[execOp,hop])
        rw[Oper.wp,hr,Oper.upon_skip];rw[hcond.1];exact hn w' G' a hst ((hs.mono (hst.le hi.new)).upd hx) rfl
       | true=>
        simp only[if_true,Option.some.injEq,Prod.mk.injEq]at htr;obtain⟨rfl,rfl⟩:=htr;refine OpOk.wp hi hs hd (gJ hi hs hg hcond.2 hv hev (by simp only[execOp,hop])) ?_
        rw[hcond.1];exact hn
      ·cases htr
     ·cases htr
    ·exact plain htr
   ·exact plain htr
  ·exact plain htr
 ·exact plain htr
theorem CS{d:Option Nat}(h:¬ CT nt d=false):∀ i,d=some i->i < nt:=by
 rintro i rfl
 simp only[CT,Bool.not_eq_false]at h;exact Zg h
theorem Ux{dr:Bool}{ops:Array Oper}{o:Oper}{q:POper}(h:VZ P nt dr ops o=some q):(∀ i,o.dst=some i->i < nt)/\UN P dr ops o=some (q.dst,q.op)/\
  ((o.guard=none/\q.guard=none)\/∃ j b d,o.guard=some (j,b)/\(ops[j]?).bind (·.dst)=some d/\q.guard=some (d,b)/\q.dst=o.dst):=by
 unfold VZ at h;split at h
 ·cases h
 ·rename_i hd;refine⟨CS hd,?_⟩;split at h
  ·rename_i h1 h2;cases h;exact⟨h1,.inl ⟨h2,rfl⟩⟩
  ·rename_i dd q' j b h1 h2;split at h
   ·rename_i h3;split at h
    ·rename_i d h4;cases h;exact⟨h1,.inr ⟨j,b,d,h2,h4,rfl,h3⟩⟩
    ·cases h
   ·cases h
  ·cases h
theorem Uc(hs:SlotsRel G s a nt){ops:Array Oper}{o:Oper}{q:POper}{b:Bool}(h:(o.guard=none/\q.guard=none)\/∃ j b d,o.guard=some (j,b)/\(ops[j]?).bind (·.dst)=some d/\q.guard=some (d,b)/\q.dst=o.dst)
  (hw:wanted s q.guard=some b):Region.wanted o (yielded ops a.tmps)=b:=by
 rcases h with ⟨h1,h2⟩|⟨j,b',d,h1,h2,h3,_⟩
 ·rw[h2]at hw;simp[wanted]at hw;subst hw;simp[Region.wanted,h1]
 ·rw[h3]at hw;simp only[wanted]at hw;have hd:=hs.rd d
  split at hw
  ·rename_i c e1;cases hw;rw[e1]at hd;have hv:=hd.bool_inv
   have hget:a.tmps[d]?=some (.bool c):=by
    rw[Array.getD_eq_getD_getElem?]at hv;cases hq:a.tmps[d]? with
    | none=>rw[hq]at hv;cases hv
    | some u=>rw[hq]at hv;simpa using hv
   simp[Region.wanted,h1,yielded,h2,hget]
  ·rename_i e1;cases hw;rw[e1]at hd;have hv:=hd.tupnil_inv
   have:((a.tmps[d]?).getD undef)=undef:=by rw[<- Array.getD_eq_getD_getElem?];exact hv
   simp only[Region.wanted,h1,yielded,h2,Option.bind_some];cases hq:a.tmps[d]? with
   | none=>rfl
   | some u=>rw[hq]at this;simp at this;subst this;rfl
  ·cases hw
theorem BO(hC:CallOk P e)(hl:Xd P e){dr:Bool}(ops:Array Oper){Q:Go.Exit->Act->World->Prop}{o:Oper}{q:POper}{qs:List POper}{i:Nat}{rest:List Nat}{σ':St}(hq:VZ P nt dr ops o=some q)(hget:ops[i]?=some o)(hr:YN e (q::qs) ⟨s,h⟩=some σ')
  (hi:Inv G h w) (hs:SlotsRel G s a nt) (hg:GlobOk e G)
  (cont:∀ {G':Gh} {h':Mem} {w':World} {s':Zf} {a':Act},Step G h w G' h' w'->SlotsRel G' s' a' nt->a'.defers=a.defers->YN e qs ⟨s',h'⟩=some σ'->wpOps P ops Q rest a' w'):wpOps P ops Q (i::rest) a w:=by
 obtain⟨q1,q2,q3⟩:=Ux hq;simp only[wpOps,hget];simp only[YN]at hr;split at hr
 ·rename_i hw;have hwant:=Uc (ops:=ops) hs q3 hw
  rw[hwant];simp only[if_true];split at hr
  ·rename_i v h' hev
   left
   refine yx hC hi hs hg hl ops o q2 hev q1 ?_;intro w' G' a' st ss hdf;exact cont st ss hdf hr
  ·cases hr
 ·rename_i hw;have hwant:=Uc (ops:=ops) hs q3 hw
  rw[hwant];simp only[Bool.false_eq_true,if_false];rcases q3 with ⟨h1,h2⟩|⟨j,b',d,h1,h2,h3,h4⟩
  ·rw[h2]at hw;simp[wanted]at hw
  ·rw[h4]at hr;exact cont (Y5 hi) (hs.put q1 (.c _ _ (.tup [] [] rfl (λ i v c x=>by simp at x)))) (put_defers _ _) hr
 ·cases hr
theorem Ji{o c:Oper}{x y:POper}(h:Gz P nt o c=some (x,y)):∃ t n ps s i j el el' pop,o.op=.buildSlice t n ps/\c.op=.convert s s (.tmp i)/\o.dst=some i/\c.dst=some j/\o.guard=none/\c.guard=none/\
  P.underlying t=some (.slice el')/\P.underlying s=some (.slice el)/\P.underlying el=some (.int .u8)/\i < nt/\j < nt/\Yi P o.type (.buildSlice t n ps)=some pop/\x=⟨some i,pop,none⟩/\y=⟨some j,.mov (.t i),none⟩:=by
 unfold Gz at h;split at h
 case h_2=>cases h
 rename_i t n ps s d v ho hc;split at h
 case h_2=>cases h
 rename_i i j h1 h2 h3 h4;split at h
 case h_2=>cases h
 rename_i el' el h5 h6;split at h
 case h_2=>cases h
 rename_i h7;split at h
 case isFalse=>cases h
 rename_i h8;obtain⟨rfl,rfl,h9,h10⟩:=h8;split at h
 case h_2=>cases h
 rename_i pop h11;cases h;exact⟨t,n,ps,s,v,j,el,el',pop,ho,hc,h1,h2,h3,h4,h5,h6,h7,h9,h10,h11,rfl,rfl⟩
theorem EC(ops:Array Oper){Q:Go.Exit->Act->World->Prop}{o c:Oper}{x y:POper}{qs:List POper}{i:Nat}{rest:List Nat}{σ':St}(hq:Gz P nt o c=some (x,y))(hget:ops[i]?=some o)(hget':ops[i+1]?=some c)(hr:YN e (x::y::qs) ⟨s,h⟩=some σ')
  (hi:Inv G h w) (hs:SlotsRel G s a nt) (hg:GlobOk e G)
  (cont:∀ {G':Gh} {h':Mem} {w':World} {s':Zf} {a':Act},Step G h w G' h' w'->SlotsRel G' s' a' nt->a'.defers=a.defers->YN e qs ⟨s',h'⟩=some σ'->wpOps P ops Q rest a' w'):wpOps P ops Q (i::(i+1)::rest) a w:=by
 obtain⟨t,n,ps,sl,j,k,el,el',pop,ho,hc,h1,h2,h3,h4,h5,h6,h7,h8,h9,h10,rfl,rfl⟩:=Ji hq;simp only[Yi,h5]at h10;cases hz:YO P el' with
 | none=>rw[hz]at h10;cases h10
 | some z=>
  cases hl:Q2 ps.toList with
  | none=>rw[hz,hl]at h10;cases h10
  | some l=>
   rw[hz,hl]at h10;simp only at h10;split at h10
   case isFalse=>cases h10
   rename_i hb;cases h10;simp only[YN,wanted]at hr;cases hev:evalOp e s h (.buildSl (QZ P el') (Zy P el') n z.wk l) with
   | none=>rw[hev]at hr;cases hr
   | some r=>
    obtain⟨v,h'⟩:=r;rw[hev]at hr;obtain⟨cs',es,rfl,e2,hn,hrun,k2,k3,k4⟩:=Qb hi hs hg h5 hz hb.1 hb.2 hl hev o ho;simp only[evalOp,ZJ,e2]at hr;have hget0:Zm (Yo s (some j) (X.c (CV.sl true es))) j=.c (.sl true es):=by simp[Yo,Zm]
    rw[hget0]at hr;have hst:Step G h w (G.row w.heap.size cs'.toList) h (w.alloc (.cells cs' el' (cs'.size,cs'.size+1))):=
     Step.row hi (by rw[WR];exact Nat.le_succ _) (λ b hb=>YD w _ hb) rfl rfl rfl cs'.toList (λ i v hv=>⟨by rw[XN (YH w _)];simpa using hv,k3 v (ZI hv)⟩)
    have hrd:RdX (G.row w.heap.size cs'.toList) (.slice (some ⟨w.heap.size,0,none⟩) n n) (.c (.sl true es)):=by
     rw[hn];exact .c _ _ (RdC.row hi k4 k2 es.length true (λ _=>rfl) (Nat.le_refl _))
    have hle:=hst.le hi.new
    simp only[wpOps,hget,hget'];have hw1:Region.wanted o (yielded ops a.tmps)=true:=by simp[Region.wanted,h3]
    rw[hw1];simp only[if_true]
    left
    rw[Oper.wp,hrun,Oper.upon_value];have hw2:Region.wanted c (yielded ops (a.put o.dst (.slice (some ⟨w.heap.size,0,none⟩) n n)).tmps)=true:=by simp[Region.wanted,h4]
    rw[hw2];simp only[if_true]
    left
    have hs1:SlotsRel (G.row w.heap.size cs'.toList) (Yo s (some j) (.c (.sl true es))) (a.put (some j) (.slice (some ⟨w.heap.size,0,none⟩) n n)) nt:=(hs.mono hle).put (λ i hi=>by cases hi;exact h8) hrd
    have hev2:(a.put o.dst (.slice (some ⟨w.heap.size,0,none⟩) n n)).eval (.tmp j)=.slice (some ⟨w.heap.size,0,none⟩) n n:=by
     rw[h1];have hsz:=hs.size
     simp[Act.eval,Act.put,hsz,h8]
    have hrun2:(execOp (a.put o.dst (.slice (some ⟨w.heap.size,0,none⟩) n n)).eval c).run P (w.alloc (.cells cs' el'))=.ok (.value (.slice (some ⟨w.heap.size,0,none⟩) n n)) (w.alloc (.cells cs' el' (cs'.size,cs'.size+1))):=by
     simp only[execOp,hc,hev2,Sem.run_bind,zB w cs' el' h6 h7 n n,Result.andThen];rfl
    rw[Oper.wp,hrun2,Oper.upon_value,h1,h2];exact cont hst (hs1.put (λ i hi=>by cases hi;exact h9) hrd) (by rw[put_defers,put_defers]) hr
theorem yw(hC:CallOk P e)(hl:Xd P e)(ops:Array Oper){Q:Go.Exit->Act->World->Prop}:∀ (n:Nat) (l:List Oper),l.length<=n->∀ (ps:List POper) (i:Nat) (s:Zf) (h:Mem) (σ':St) (G:Gh) (w:World) (a:Act),Yp P nt ops l=some ps->ops.toList.drop i=l->YN e ps ⟨s,h⟩=some σ'->
  Inv G h w->SlotsRel G s a nt->GlobOk e G->(XK P G h w σ'.s σ'.h nt a (Q .normal))->wpOps P ops Q (List.range' i l.length) a w
 | _,[],_,ps,i,s,h,σ',G,w,a,ht,hd,hr,hi,hs,hg,hn=>by
  simp[Yp]at ht;subst ht;simp[YN]at hr;subst hr;exact hn w G a (Y5 hi) hs rfl
 | 0,_::_,hlen,ps,i,s,h,σ',G,w,a,ht,hd,hr,hi,hs,hg,hn=>by simp at hlen
 | n+1,[o],hlen,ps,i,s,h,σ',G,w,a,ht,hd,hr,hi,hs,hg,hn=>by
  simp only[Yp]at ht;split at ht
  case h_2=>cases ht
  rename_i q hq;cases ht;have hget:ops[i]?=some o:=by
   rw[<- Array.getElem?_toList];have:=congrArg (λ m=>m[0]?) hd
   simpa using this
  refine BO hC hl ops hq hget hr hi hs hg ?_;intro G' h' w' s' a' st ss hdf hr';simp[YN]at hr';subst hr';exact hn w' G' a' st ss hdf
 | n+1,o::c::r,hlen,ps,i,s,h,σ',G,w,a,ht,hd,hr,hi,hs,hg,hn=>by
  have hget:ops[i]?=some o:=by
   rw[<- Array.getElem?_toList];have:=congrArg (λ m=>m[0]?) hd
   simpa using this
  have hget':ops[i+1]?=some c:=by
   rw[<- Array.getElem?_toList];have:=congrArg (λ m=>m[1]?) hd
   simpa using this
  have hd1:ops.toList.drop (i+1)=c::r:=by
   have:=congrArg List.tail hd
   simpa using this
  have hd2:ops.toList.drop (i+2)=r:=by
   have:=congrArg List.tail hd1
   simpa using this
  have cont:∀ {l:List Oper} {qs:List POper} {k:Nat},l.length<=n->ops.toList.drop k=l->Yp P nt ops l=some qs->∀ {G':Gh} {h':Mem} {w':World} {s':Zf} {a':Act},Step G h w G' h' w'->SlotsRel G' s' a' nt->a'.defers=a.defers->YN e qs ⟨s',h'⟩=some σ'->wpOps P ops Q (List.range' k l.length) a' w':=by
   intro l qs k hln hdk htk G' h' w' s' a' st ss hdf hr';refine yw hC hl ops n l hln qs k s' h' σ' G' w' a' htk hdk hr' st.inv ss (hg.mono (st.le hi.new)) ?_;intro w2 G2 a2 st2 ss2 hdf2;exact hn w2 G2 a2 (st.trans st2) ss2 (hdf2.trans hdf)
  simp only[List.length_cons,List.range'_succ];simp only[Yp]at ht;split at ht
  ·rename_i x y hp;split at ht
   case h_2=>cases ht
   rename_i qs hqs;cases ht;exact EC ops hp hget hget' hr hi hs hg (cont (l:=r) (k:=i+1+1) (by simp at hlen;omega) hd2 hqs)
  ·split at ht
   case h_2=>cases ht
   rename_i q qs hq hqs;cases ht;exact BO hC hl ops hq hget hr hi hs hg (cont (l:=c::r) (k:=i+1) (by simp at hlen ⊢;omega) hd1 hqs)
theorem j8(hC:CallOk P e)(hl:Xd P e){id:Nat}{ops:Array Oper}{ps:List POper}{σ':St}(ht:Yp P nt ops ops.toList=some ps)(hr:YN e ps ⟨s,h⟩=some σ')(hi:Inv G h w)(hs:SlotsRel G s a nt)(hg:GlobOk e G){Q:Go.Exit->Act->World->Prop}
  (hn:XK P G h w σ'.s σ'.h nt a (Q .normal)):(Code.region id ops false).wp P Q a w:=by
 refine wp_region ?_;have:=yw hC hl ops ops.toList.length ops.toList (Nat.le_refl _) ps 0 s h σ' G w a ht (by simp) hr hi hs hg hn
 simpa [List.range_eq_range'] using this
theorem jU{dr:Bool}{ops:Array Oper}{o:Oper}{d:Option Nat}{f:Nat}{args:List Rand}(htr:UN P dr ops o=some (d,.call f args)):Yi P o.type o.op=some (.call f args)/\d=o.dst:=by
 have plain:((Yi P o.type o.op).map (o.dst,·))=some (d,.call f args)->Yi P o.type o.op=some (.call f args)/\d=o.dst:=by
  intro hp;simp only[Zc,Prod.mk.injEq]at hp;obtain⟨q,h1,h2,h3⟩:=hp;subst h3;exact⟨h1,h2.symm⟩
 unfold UN at htr;repeat' (first|exact plain htr | (cases htr;done)|(simp only[Option.some.injEq,Prod.mk.injEq]at htr;obtain⟨_,hx⟩:=htr;cases hx;done)|split at htr)
theorem vF{op:POp}(h0:∀ f args,op ≠ .call f args):XZ e s h op=evalOp e s h op:=by
 cases op<;>first|rfl | exact absurd rfl (h0 _ _)
theorem Bn(hC:CallOk P e)(hi:Inv G h w)(hs:SlotsRel G s a nt)(hg:GlobOk e G)(hl:Xd P e)(ops:Array Oper)(o:Oper){d:Option Nat}{pop:POp}(htr:UN P false ops o=some (d,pop)){z:X}(hev:XZ e s h pop=some (z,h'))(hd:∀ i,o.dst=some i->i < nt){next:Act->World->Prop}{Q:Go.Exit->Act->World->Prop}
  (hn:XK P G h w (Yo s d z) h' nt a next):o.wp P a w next Q:=by
 by_cases h0:∃ f args,pop=.call f args
 ·obtain⟨f,args,rfl⟩:=h0;obtain⟨h1,rfl⟩:=jU htr;exact Dg hC hi hs hg o h1 hev hd hn
 ·rw[vF (λ f args hx=>h0 ⟨f,args,hx⟩)]at hev
  exact yx hC hi hs hg hl ops o htr hev hd hn
theorem uC(hC:CallOk P e)(hl:Xd P e)(ops:Array Oper){Q:Go.Exit->Act->World->Prop}{o:Oper}{q:POper}{qs:List POper}{i:Nat}{rest:List Nat}{σ':St}(hq:VZ P nt false ops o=some q)(hget:ops[i]?=some o)(hr:YE e (q::qs) ⟨s,h⟩=some σ')
  (hi:Inv G h w) (hs:SlotsRel G s a nt) (hg:GlobOk e G)
  (cont:∀ {G':Gh} {h':Mem} {w':World} {s':Zf} {a':Act},Step G h w G' h' w'->SlotsRel G' s' a' nt->a'.defers=a.defers->YE e qs ⟨s',h'⟩=some σ'->wpOps P ops Q rest a' w'):wpOps P ops Q (i::rest) a w:=by
 obtain⟨q1,q2,q3⟩:=Ux hq;simp only[wpOps,hget];simp only[YE]at hr;split at hr
 ·rename_i hw;have hwant:=Uc (ops:=ops) hs q3 hw
  rw[hwant];simp only[if_true];split at hr
  ·rename_i v h' hev
   left
   refine Bn hC hi hs hg hl ops o q2 hev q1 ?_;intro w' G' a' st ss hdf;exact cont st ss hdf hr
  ·cases hr
 ·rename_i hw;have hwant:=Uc (ops:=ops) hs q3 hw
  rw[hwant];simp only[Bool.false_eq_true,if_false];rcases q3 with ⟨h1,h2⟩|⟨j,b',d,h1,h2,h3,h4⟩
  ·rw[h2]at hw;simp[wanted]at hw
  ·rw[h4]at hr;exact cont (Y5 hi) (hs.put q1 (.c _ _ (.tup [] [] rfl (λ i v c x=>by simp at x)))) (put_defers _ _) hr
 ·cases hr
theorem Bk(ops:Array Oper){Q:Go.Exit->Act->World->Prop}{o c:Oper}{x y:POper}{qs:List POper}{i:Nat}{rest:List Nat}{σ':St}(hq:Gz P nt o c=some (x,y))(hget:ops[i]?=some o)(hget':ops[i+1]?=some c)(hr:YE e (x::y::qs) ⟨s,h⟩=some σ')
  (hi:Inv G h w) (hs:SlotsRel G s a nt) (hg:GlobOk e G)
  (cont:∀ {G':Gh} {h':Mem} {w':World} {s':Zf} {a':Act},Step G h w G' h' w'->SlotsRel G' s' a' nt->a'.defers=a.defers->YE e qs ⟨s',h'⟩=some σ'->wpOps P ops Q rest a' w'):wpOps P ops Q (i::(i+1)::rest) a w:=by
 obtain⟨t,n,ps,sl,j,k,el,el',pop,ho,hc,h1,h2,h3,h4,h5,h6,h7,h8,h9,h10,rfl,rfl⟩:=Ji hq;simp only[Yi,h5]at h10;cases hz:YO P el' with
 | none=>rw[hz]at h10;cases h10
 | some z=>
  cases hl:Q2 ps.toList with
  | none=>rw[hz,hl]at h10;cases h10
  | some l=>
   rw[hz,hl]at h10;simp only at h10;split at h10
   case isFalse=>cases h10
   rename_i hb;cases h10;simp only[YE,wanted]at hr;cases hev:XZ e s h (.buildSl (QZ P el') (Zy P el') n z.wk l) with
   | none=>rw[hev]at hr;cases hr
   | some r=>
    obtain⟨v,h'⟩:=r;rw[hev]at hr;obtain⟨cs',es,rfl,e2,hn,hrun,k2,k3,k4⟩:=Qb hi hs hg h5 hz hb.1 hb.2 hl (ag:=QZ P el') hev o ho;simp only[XZ,evalOp,ZJ,e2]at hr;have hget0:Zm (Yo s (some j) (X.c (CV.sl true es))) j=.c (.sl true es):=by simp[Yo,Zm]
    rw[hget0]at hr;have hst:Step G h w (G.row w.heap.size cs'.toList) h (w.alloc (.cells cs' el' (cs'.size,cs'.size+1))):=
     Step.row hi (by rw[WR];exact Nat.le_succ _) (λ b hb=>YD w _ hb) rfl rfl rfl cs'.toList (λ i v hv=>⟨by rw[XN (YH w _)];simpa using hv,k3 v (ZI hv)⟩)
    have hrd:RdX (G.row w.heap.size cs'.toList) (.slice (some ⟨w.heap.size,0,none⟩) n n) (.c (.sl true es)):=by
     rw[hn];exact .c _ _ (RdC.row hi k4 k2 es.length true (λ _=>rfl) (Nat.le_refl _))
    have hle:=hst.le hi.new
    simp only[wpOps,hget,hget'];have hw1:Region.wanted o (yielded ops a.tmps)=true:=by simp[Region.wanted,h3]
    rw[hw1];simp only[if_true]
    left
    rw[Oper.wp,hrun,Oper.upon_value];have hw2:Region.wanted c (yielded ops (a.put o.dst (.slice (some ⟨w.heap.size,0,none⟩) n n)).tmps)=true:=by simp[Region.wanted,h4]
    rw[hw2];simp only[if_true]
    left
    have hs1:SlotsRel (G.row w.heap.size cs'.toList) (Yo s (some j) (.c (.sl true es))) (a.put (some j) (.slice (some ⟨w.heap.size,0,none⟩) n n)) nt:=(hs.mono hle).put (λ i hi=>by cases hi;exact h8) hrd
    have hev2:(a.put o.dst (.slice (some ⟨w.heap.size,0,none⟩) n n)).eval (.tmp j)=.slice (some ⟨w.heap.size,0,none⟩) n n:=by
     rw[h1];have hsz:=hs.size
     simp[Act.eval,Act.put,hsz,h8]
    have hrun2:(execOp (a.put o.dst (.slice (some ⟨w.heap.size,0,none⟩) n n)).eval c).run P (w.alloc (.cells cs' el'))=.ok (.value (.slice (some ⟨w.heap.size,0,none⟩) n n)) (w.alloc (.cells cs' el' (cs'.size,cs'.size+1))):=by
     simp only[execOp,hc,hev2,Sem.run_bind,zB w cs' el' h6 h7 n n,Result.andThen];rfl
    rw[Oper.wp,hrun2,Oper.upon_value,h1,h2];exact cont hst (hs1.put (λ i hi=>by cases hi;exact h9) hrd) (by rw[put_defers,put_defers]) hr
theorem uz(hC:CallOk P e)(hl:Xd P e)(ops:Array Oper){Q:Go.Exit->Act->World->Prop}:∀ (n:Nat) (l:List Oper),l.length<=n->∀ (ps:List POper) (i:Nat) (s:Zf) (h:Mem) (σ':St) (G:Gh) (w:World) (a:Act),Yp P nt ops l=some ps->ops.toList.drop i=l->YE e ps ⟨s,h⟩=some σ'->
  Inv G h w->SlotsRel G s a nt->GlobOk e G->(XK P G h w σ'.s σ'.h nt a (Q .normal))->wpOps P ops Q (List.range' i l.length) a w
 | _,[],_,ps,i,s,h,σ',G,w,a,ht,hd,hr,hi,hs,hg,hn=>by
  simp[Yp]at ht;subst ht;simp[YE]at hr;subst hr;exact hn w G a (Y5 hi) hs rfl
 | 0,_::_,hlen,ps,i,s,h,σ',G,w,a,ht,hd,hr,hi,hs,hg,hn=>by simp at hlen
 | n+1,[o],hlen,ps,i,s,h,σ',G,w,a,ht,hd,hr,hi,hs,hg,hn=>by
  simp only[Yp]at ht;split at ht
  case h_2=>cases ht
  rename_i q hq;cases ht;have hget:ops[i]?=some o:=by
   rw[<- Array.getElem?_toList];have:=congrArg (λ m=>m[0]?) hd
   simpa using this
  refine uC hC hl ops hq hget hr hi hs hg ?_;intro G' h' w' s' a' st ss hdf hr';simp[YE]at hr';subst hr';exact hn w' G' a' st ss hdf
 | n+1,o::c::r,hlen,ps,i,s,h,σ',G,w,a,ht,hd,hr,hi,hs,hg,hn=>by
  have hget:ops[i]?=some o:=by
   rw[<- Array.getElem?_toList];have:=congrArg (λ m=>m[0]?) hd
   simpa using this
  have hget':ops[i+1]?=some c:=by
   rw[<- Array.getElem?_toList];have:=congrArg (λ m=>m[1]?) hd
   simpa using this
  have hd1:ops.toList.drop (i+1)=c::r:=by
   have:=congrArg List.tail hd
   simpa using this
  have hd2:ops.toList.drop (i+2)=r:=by
   have:=congrArg List.tail hd1
   simpa using this
  have cont:∀ {l:List Oper} {qs:List POper} {k:Nat},l.length<=n->ops.toList.drop k=l->Yp P nt ops l=some qs->∀ {G':Gh} {h':Mem} {w':World} {s':Zf} {a':Act},Step G h w G' h' w'->SlotsRel G' s' a' nt->a'.defers=a.defers->YE e qs ⟨s',h'⟩=some σ'->wpOps P ops Q (List.range' k l.length) a' w':=by
   intro l qs k hln hdk htk G' h' w' s' a' st ss hdf hr';refine uz hC hl ops n l hln qs k s' h' σ' G' w' a' htk hdk hr' st.inv ss (hg.mono (st.le hi.new)) ?_;intro w2 G2 a2 st2 ss2 hdf2;exact hn w2 G2 a2 (st.trans st2) ss2 (hdf2.trans hdf)
  simp only[List.length_cons,List.range'_succ];simp only[Yp]at ht;split at ht
  ·rename_i x y hp;split at ht
   case h_2=>cases ht
   rename_i qs hqs;cases ht;exact Bk ops hp hget hget' hr hi hs hg (cont (l:=r) (k:=i+1+1) (by simp at hlen;omega) hd2 hqs)
  ·split at ht
   case h_2=>cases ht
   rename_i q qs hq hqs;cases ht;exact uC hC hl ops hq hget hr hi hs hg (cont (l:=c::r) (k:=i+1) (by simp at hlen ⊢;omega) hd1 hqs)
theorem j7(hC:CallOk P e)(hl:Xd P e){id:Nat}{ops:Array Oper}{ps:List POper}{σ':St}(ht:Yp P nt ops ops.toList=some ps)(hr:YE e ps ⟨s,h⟩=some σ')(hi:Inv G h w)(hs:SlotsRel G s a nt)(hg:GlobOk e G){Q:Go.Exit->Act->World->Prop}
  (hn:XK P G h w σ'.s σ'.h nt a (Q .normal)):(Code.region id ops false).wp P Q a w:=by
 refine wp_region ?_;have:=uz hC hl ops ops.toList.length ops.toList (Nat.le_refl _) ps 0 s h σ' G w a ht (by simp) hr hi hs hg hn
 simpa [List.range_eq_range'] using this
end
end
section
structure Gh.sub(G G':Gh):Prop where
 prot:∀ b o v,G.prot b o=some v->G'.prot b o=some v
 pmap:∀ b es,G.pmap b=some es->G'.pmap b=some es
theorem RdC.sub{G G':Gh}(hG:G.sub G'){v:Value}{c:CV}(h:RdC G v c):RdC G' v c:=by
 induction h with
 | bool b=>exact .bool b
 | int k n=>exact .int k n
 | str s=>exact .str s
 | nilptr=>exact .nilptr
 | nilfunc=>exact .nilfunc
 | nilmap=>exact .nilmap
 | nilif=>exact .nilif
 | rptr b o cs x h h' ih=>exact .rptr b o cs x (λ i c hc=>hG.prot _ _ _ (h i c hc)) ih
 | func f vs caps hl h ih=>exact .func f vs caps hl ih
 | imap b es ks vs hp hk hv h h' ih ih'=>exact .imap b es ks vs (hG.pmap _ _ hp) hk hv ih ih'
 | iface t v c h ih=>exact .iface t v c ih
 | agg vs cs hl h h1 ih=>exact .agg vs cs hl ih h1
 | tup vs cs hl h ih=>exact .tup vs cs hl ih
 | slnil a full=>exact .slnil a full
 | sl b o cap s full es x hs h h' hf hc ih=>exact .sl b o cap s full es x hs (λ i c j d a e=>hG.prot _ _ _ (h i c j d a e)) ih hf hc
theorem Elems.sub{G G':Gh}(hG:G.sub G'){b o s:Nat}{es:List CV}(h:Elems G b o s es):Elems G' b o s es:=
 ⟨h.1,λ i c j d a e=>let ⟨v,p,r⟩:=h.2 i c j d a e;⟨v,hG.prot _ _ _ p,r.sub hG⟩⟩
structure Moves(G G':Gh)(ρ:Nat->Option Nat):Prop where
 sub:G.sub G'
 loc:∀ i j b,ρ i=some j->G.loc i=some b->G'.loc j=some b
 tip:∀ i j v t,ρ i=some j->G.tip i v=some t->G'.tip j v=some t
mutual
theorem RdX.ren {G G':Gh} {ρ:Nat->Option Nat} (m:Moves G G' ρ):∀ (n:Nat) (x x':X) (v:Value),X.ren ρ n x=some x'->RdX G v x->RdX G' v x'
 | 0,_,_,_,h,_=>by simp[X.ren]at h
 | n+1,x,x',v,h,r=>by
  cases x with
  | undef=>simp[X.ren]at h;subst h;exact .undef v
  | c c=>simp[X.ren]at h;subst h;exact .c _ _ (r.c_inv.sub m.sub)
  | aptr=>simp[X.ren]at h;subst h;cases r;exact .aptr _
  | ptr id off=>
   simp only[X.ren]at h;split at h
   ·rename_i j hj;cases h;cases r;exact .ptr _ _ _ (m.loc _ _ _ hj ‹_›)
   ·cases h
  | own es id ver=>
   simp only[X.ren]at h;split at h
   ·rename_i j hj;cases h;cases r;exact .own _ _ _ _ _ _ (m.tip _ _ _ _ hj ‹_›) ‹_› ‹_› ‹_› (Elems.sub m.sub ‹_›)
   ·cases h
  | ms id off l st=>
   simp only[X.ren]at h;split at h
   ·rename_i j hj;cases h;cases r;exact .ms _ _ _ _ _ _ (m.loc _ _ _ hj ‹_›) ‹_›
   ·cases h
  | map id=>
   simp only[X.ren]at h;split at h
   ·rename_i j hj;cases h;cases r;exact .map _ _ (m.loc _ _ _ hj ‹_›)
   ·cases h
  | iter id=>
   simp only[X.ren]at h;split at h
   ·rename_i j hj;cases h;cases r;exact .iter _ _ (m.loc _ _ _ hj ‹_›)
   ·cases h
  | sdata es id ver=>
   simp only[X.ren]at h;split at h
   ·rename_i j hj;cases h;cases r;exact .sdata _ _ _ _ _ (m.tip _ _ _ _ hj ‹_›) ‹_› (Elems.sub m.sub ‹_›)
   ·cases h
  | pend es id ver=>
   simp only[X.ren]at h;split at h
   ·rename_i j hj;cases h;cases r;exact .pend _ _ _ _ _ _ (m.tip _ _ _ _ hj ‹_›) ‹_› ‹_› ‹_› (Elems.sub m.sub ‹_›)
   ·cases h
  | pptr k id ver=>
   simp only[X.ren]at h;split at h
   ·rename_i j hj;cases h;cases r;exact .pptr _ _ _ _ (m.tip _ _ _ _ hj ‹_›)
   ·cases h
  | func f caps=>
   simp only[X.ren]at h;split at h
   ·rename_i l hl;cases h;obtain⟨vs,rfl,hv⟩:=r.func_inv
    have:=RdL.ren m n caps l vs hl hv
    exact .func f vs l this.1 this.2
   ·cases h
  | agg cs=>
   simp only[X.ren]at h;split at h
   ·rename_i l hl;cases h;cases r;rename_i vs h1 hl1 hr1;have:=RdL.ren m n cs l vs hl ⟨hl1,hr1⟩
    exact .agg vs l this.1 this.2 h1
   ·cases h
  | tup cs=>
   simp only[X.ren]at h;split at h
   ·rename_i l hl;cases h;cases r;rename_i vs hl1 hr1;have:=RdL.ren m n cs l vs hl ⟨hl1,hr1⟩
    exact .tup vs l this.1 this.2
   ·cases h
theorem RdL.ren {G G':Gh} {ρ:Nat->Option Nat} (m:Moves G G' ρ):∀ (n:Nat) (xs xs':List X) (vs:List Value),X.ren.renL ρ n xs=some xs'->RdL G vs xs->RdL G' vs xs'
 | n,[],xs',vs,h,r=>by
  simp[X.ren.renL]at h;subst h;have:=r.inv_nil;subst this
  exact RdL.nil G'
 | n,x::xs,xs',vs,h,r=>by
  simp only[X.ren.renL]at h;split at h
  ·rename_i a b ha hb;cases h;obtain⟨v,us,rfl,r1,r2⟩:=r.inv_cons;exact RdL.cons (RdX.ren m n x a v ha r1) (RdL.ren m n xs b us hb r2)
  ·cases h
end
def V6(L:Nat)(i:Nat):Option Nat:=if i < L then some i else none
theorem J6(L:Nat):∀ (a b:List Nat),ZM L (a++b)=true->ZM L a=true/\ZM L b=true
 | [],b,h=>⟨rfl,h⟩
 | i::r,b,h=>by
  simp only[List.cons_append,ZM,Bool.and_eq_true]at h ⊢;obtain⟨h1,h2⟩:=J6 L r b h.2;exact⟨⟨h.1,h1⟩,h2⟩
mutual
theorem uK (L:Nat):∀ (n:Nat) (x:X) (l:List Nat),X.ids n x=some l->ZM L l=true->X.ren (V6 L) n x=some x
 | 0,_,_,h,_=>by simp[X.ids]at h
 | n+1,x,l,h,hb=>by
  have one:∀ id,l=[id]->V6 L id=some id:=by
   rintro id rfl
   simp only[ZM,Bool.and_true]at hb;have:=Zg hb
   simp[V6];omega
  cases x with
  | undef=>rfl
  | c c=>rfl
  | aptr=>rfl
  | ptr id off=>simp[X.ids]at h;simp[X.ren,one id h.symm]
  | own es id ver=>simp[X.ids]at h;simp[X.ren,one id h.symm]
  | ms id off l' st=>simp[X.ids]at h;simp[X.ren,one id h.symm]
  | map id=>simp[X.ids]at h;simp[X.ren,one id h.symm]
  | iter id=>simp[X.ids]at h;simp[X.ren,one id h.symm]
  | sdata es id ver=>simp[X.ids]at h;simp[X.ren,one id h.symm]
  | pend es id ver=>simp[X.ids]at h;simp[X.ren,one id h.symm]
  | pptr k id ver=>simp[X.ids]at h;simp[X.ren,one id h.symm]
  | func f caps=>simp only[X.ids]at h;simp[X.ren,Vu L n caps l h hb]
  | agg cs=>simp only[X.ids]at h;simp[X.ren,Vu L n cs l h hb]
  | tup vs=>simp only[X.ids]at h;simp[X.ren,Vu L n vs l h hb]
theorem Vu (L:Nat):∀ (n:Nat) (xs:List X) (l:List Nat),X.ids.idsL n xs=some l->ZM L l=true->X.ren.renL (V6 L) n xs=some xs
 | n,[],l,h,hb=>rfl
 | n,x::xs,l,h,hb=>by
  simp only[X.ids.idsL]at h;split at h
  ·rename_i a b ha hb';cases h;obtain⟨h1,h2⟩:=J6 L a b hb;simp[X.ren.renL,uK L n x a ha h1,Vu L n xs b hb' h2]
  ·cases h
end
def Gh.cut(G:Gh)(L:Nat):Gh:={ G with loc:=λ i=>if i < L then G.loc i else none,tip:=λ i v=>if i < L then G.tip i v else none }
theorem Gh.moves_cut(G:Gh)(L:Nat):Moves G (G.cut L) (V6 L):=by
 refine⟨⟨λ _ _ _ h=>h,λ _ _ h=>h⟩,λ i j b hj h=>?_,λ i j v t hj h=>?_⟩
 ·simp only[V6]at hj;split at hj
  ·rename_i hi;cases hj;show(if i < L then G.loc i else none)=some b;rw[if_pos hi];exact h
  ·cases hj
 ·simp only[V6]at hj;split at hj
  ·rename_i hi;cases hj;show(if i < L then G.tip i v else none)=some t;rw[if_pos hi];exact h
  ·cases hj
theorem RdX.cut{G:Gh}{L:Nat}{v:Value}{x:X}(h:RdX G v x)(hl:x.lt L=true):RdX (G.cut L) v x:=by
 unfold X.lt at hl;split at hl
 ·rename_i l hx;exact RdX.ren (G.moves_cut L) 6 x x v (uK L 6 x l hx hl) h
 ·cases hl
section
variable {P:Program} {e:Env} {G:Gh} {h h':Mem} {w:World} {s:Zf} {a:Act} {nt:Nat}
theorem ObRel.cut{G:Gh}{L id:Nat}{o:Ob}(hid:id < L)(h:ObRel G w id o)(hl:o.lt L=true):ObRel (G.cut L) w id o:=by
 have hloc:∀ b,G.loc id=some b->(G.cut L).loc id=some b:=λ b hb=>by
  show(if id < L then G.loc id else none)=some b;rw[if_pos hid];exact hb
 have htip:∀ v,(G.cut L).tip id v=G.tip id v:=λ v=>by
  show(if id < L then G.tip id v else none)=_;rw[if_pos hid]
 cases o with
 | dead=>trivial
 | cells t cs=>
  obtain⟨b,vs,fr,h1,h2,h3,h4,h5,h6,h7⟩:=h;have hcs:X.ren.renL (V6 L) 6 cs=some cs:=by
   unfold Ob.lt at hl;split at hl
   ·rename_i l hx;exact Vu L 6 cs l hx hl
   ·cases hl
  refine⟨b,vs,fr,hloc b h1,h2,h3,λ i c hc=>?_,h5,h6,h7⟩
  have hr:RdL G vs.toList cs:=⟨by simpa using h3,λ i v x hv hx=>by
   obtain⟨u,a1,a2,a3⟩:=h4 i x hx;have:vs[i]?=some v:=by simpa using hv
   rw[this]at a1;cases a1;exact a3⟩
  have hr':=RdL.ren (G.moves_cut L) 6 cs cs vs.toList hcs hr
  obtain⟨u,a1,a2,a3⟩:=h4 i c hc;exact⟨u,a1,a2,hr'.2 i u c (by simpa using a1) hc⟩
 | tip ver st el=>
  obtain⟨t,vs,fr,h1,h2,h3,h4,h5,h6,h7,h8,h9,h10⟩:=h;exact⟨t,vs,fr,by rw[htip];exact h1,h2,h3,h4,h5,h6,h7,h8,h9,λ u hu=>by rw[htip];exact h10 u hu⟩
 | tipF ver st el wv=>
  obtain⟨⟨t,vs,fr,h1,h2,h3,h4,h5,h6,h7,h8,h9,h10⟩,⟨t1,t0,f1,f2,f3,f4,f5,f6,f7,f8⟩⟩:=h;exact⟨⟨t,vs,fr,by rw[htip];exact h1,h2,h3,h4,h5,h6,h7,h8,h9,λ u hu=>by rw[htip];exact h10 u hu⟩,t1,t0,by rw[htip];exact f1,by rw[htip];exact f2,f3,f4,f5,f6,f7,f8.sub (G.moves_cut L).sub⟩
 | map ks vs=>
  obtain⟨b,es,clk,h1,h2,h3,h4,h5,h6,h7,h8⟩:=h;exact⟨b,es,clk,hloc b h1,h2,h3,h4,λ i e k a c=>(h5 i e k a c).sub (G.moves_cut L).sub,λ i e k a c=>(h6 i e k a c).sub (G.moves_cut L).sub,h7,h8⟩
 | siter st Xw=>
  obtain⟨b,h1,h2,h3,h4⟩:=h;exact⟨b,hloc b h1,h2,h3,h4⟩
 | miter ks vs Xw=>
  obtain⟨h0,b,k,es,h1,h2,h3,h4,h5,h6,h7,h8,h9⟩:=h;exact⟨h0,b,k,es,hloc b h1,h2,h3,h4,h5,λ i e k a c=>(h6 i e k a c).sub (G.moves_cut L).sub,λ i e k a c=>(h7 i e k a c).sub (G.moves_cut L).sub,h8,h9⟩
theorem QP{G:Gh}{L id b:Nat}{o:Ob}(h:blk (G.cut L) id o=some b):blk G id o=some b:=by
 cases o<;>simp only[blk,Gh.cut]at h ⊢
 all_goals first
  | (split at h<;>first|exact h | cases h)
  | exact h
theorem Ks{L:Nat}:∀ {m:Mem} {i:Nat} {o:Ob},ZL L m=true->m[i]?=some o->o.lt L=true
 | [],i,o,_,h=>by simp at h
 | x::r,i,o,hm,h=>by
  simp only[ZL,Bool.and_eq_true]at hm;cases i with
  | zero=>simp at h;subst h;exact hm.1
  | succ i=>exact Ks hm.2 (by simpa using h)
theorem Step.cut{G0:Gh}{h0:Mem}{w0:World}(st:Step G0 h0 w0 G h w){L:Nat}(hL:h0.length<=L)(hLh:L<=h.length)(hm:ZL L (h.take L)=true):Step G0 h0 w0 (G.cut L) (h.take L) w:=by
 have get:∀ {i o},(h.take L)[i]?=some o->i < L/\h[i]?=some o:=by
  intro i o hi;rw[List.getElem?_take]at hi;split at hi
  ·exact⟨‹_›,hi⟩
  ·cases hi
 refine⟨⟨st.inv.prot,st.inv.pmap,λ id o ho=>?_,λ i j oi oj bi bj hi hj hbi hbj he=>?_,λ id hid=>?_⟩,by simp;omega,st.fr,st.prot,st.pmap,λ i b hi x=>?_,λ i v t hi x=>?_,st.newp,st.newm,λ b x=>?_⟩
 ·obtain⟨h1,h2⟩:=get ho;exact(st.inv.ob id o h2).cut h1 (Ks hm ho)
 ·obtain⟨_,h1⟩:=get hi;obtain⟨_,h2⟩:=get hj;exact st.inv.inj i j oi oj bi bj h1 h2 (QP hbi) (QP hbj) he
 ·have:L<=id:=by simp at hid;omega
  exact⟨by simp[Gh.cut,Nat.not_lt.2 this],λ ver=>by simp[Gh.cut,Nat.not_lt.2 this]⟩
 ·show(if i < L then G.loc i else none)=some b;rw[if_pos (by omega)];exact st.loc i b hi x
 ·show(if i < L then G.tip i v else none)=some t;rw[if_pos (by omega)];exact st.tip i v t hi x
 ·obtain⟨id,o,h1,h2⟩:=x;exact st.newb b ⟨id,o,(get h1).2,QP h2⟩
theorem UY{L:Nat}:∀ {s:Zf} (i:Nat),Yy L s=true->(Zm s i).lt L=true
 | [],i,_=>rfl
 | (j,x)::r,i,h=>by
  simp only[Yy,Bool.and_eq_true]at h;rw[XA]
  split
  ·exact h.1
  ·exact UY i h.2
theorem Zan{G0:Gh}{h0:Mem}{w0:World}(st:Step G0 h0 w0 G h w){L:Nat}(hL:h0.length<=L)(hs:SlotsRel G s a nt):∃ G',Step G0 h0 w0 G' (gc L ⟨s,h⟩).h w/\SlotsRel G' (gc L ⟨s,h⟩).s a nt:=by
 unfold gc;cases h1:Nat.ble h.length L with
 | true=>simp only[h1,cond_true];exact⟨G,st,hs⟩
 | false=>
  simp only[h1,cond_false];cases h2:(Yy L s&&ZL L (h.take L)) with
  | false=>simp only[h2,cond_false];exact⟨G,st,hs⟩
  | true=>
   simp only[h2,cond_true];simp only[Bool.and_eq_true]at h2;have hlt:L<=h.length:=by
    rcases Zl L h.length with q | q
    ·omega
    ·rw[ZE q]at h1;cases h1
   exact⟨G.cut L,st.cut hL hlt h2.2,⟨hs.size,λ i=>(hs.rd i).cut (UY i h2.1)⟩⟩
theorem CZ{G0:Gh}{h0:Mem}{w0:World}(st:Step G0 h0 w0 G h w){L:Nat}(hL:h0.length<=L)(hs:SlotsRel G s a nt)(live:Option (List Nat)):∃ G',Step G0 h0 w0 G' (clean live L ⟨s,h⟩).h w/\SlotsRel G' (clean live L ⟨s,h⟩).s a nt:=by
 cases live with
 | none=>exact⟨G,st,hs⟩
 | some l=>exact Zan st hL (hs.prune l)
end
end
theorem Yd{a b:Nat}(h:Nat.beq a b=true):a=b:=Zd h
mutual
theorem CV.same_eq:∀ {a b:CV},CV.same a b=true->a=b
 | .bool a,b,h=>by cases b<;>simp[CV.same]at h;rw[h]
 | .int k n,b,h=>by
  cases b<;>simp[CV.same]at h
  rename_i k' n';rw[QE h.1,h.2]
 | .str s,b,h=>by cases b<;>simp[CV.same]at h;rw[h]
 | .nilptr,b,h=>by cases b<;>simp[CV.same]at h;rfl
 | .nilfunc,b,h=>by cases b<;>simp[CV.same]at h;rfl
 | .nilmap,b,h=>by cases b<;>simp[CV.same]at h;rfl
 | .nilif,b,h=>by cases b<;>simp[CV.same]at h;rfl
 | .rptr cs,b,h=>by cases b<;>simp[CV.same]at h;rw[CV.sameL_eq h]
 | .func f cs,b,h=>by
  cases b<;>simp only[CV.same,Bool.and_eq_true,Bool.false_eq_true]at h
  rw[Yd h.1,CV.sameL_eq h.2]
 | .imap x y,b,h=>by
  cases b<;>simp only[CV.same,Bool.and_eq_true,Bool.false_eq_true]at h
  rw[CV.sameL_eq h.1,CV.sameL_eq h.2]
 | .iface t v,b,h=>by
  cases b<;>simp only[CV.same,Bool.and_eq_true,Bool.false_eq_true]at h
  rw[Yd h.1,CV.same_eq h.2]
 | .agg cs,b,h=>by cases b<;>simp[CV.same]at h;rw[CV.sameL_eq h]
 | .tup cs,b,h=>by cases b<;>simp[CV.same]at h;rw[CV.sameL_eq h]
 | .sl f es,b,h=>by
  cases b<;>simp only[CV.same,Bool.and_eq_true,Bool.false_eq_true]at h
  rw[CV.sameL_eq h.2];rw[beq_iff_eq.1 h.1]
theorem CV.sameL_eq:∀ {a b:List CV},CV.sameL a b=true->a=b
 | [],b,h=>by cases b<;>simp[CV.sameL]at h;rfl
 | x::r,b,h=>by
  cases b<;>simp only[CV.sameL,Bool.and_eq_true,Bool.false_eq_true]at h
  rw[CV.same_eq h.1,CV.sameL_eq h.2]
end
mutual
theorem X.same_eq:∀ {a b:X},X.same a b=true->a=b
 | .undef,b,h=>by cases b<;>simp[X.same]at h;rfl
 | .aptr,b,h=>by cases b<;>simp[X.same]at h;rfl
 | .c v,b,h=>by cases b<;>simp[X.same]at h;rw[CV.same_eq h]
 | .ptr i o,b,h=>by
  cases b<;>simp only[X.same,Bool.and_eq_true,Bool.false_eq_true]at h
  rw[Yd h.1,Yd h.2]
 | .own es i v,b,h=>by
  cases b<;>simp only[X.same,Bool.and_eq_true,Bool.false_eq_true]at h
  rw[CV.sameL_eq h.1,Yd h.2.1,Yd h.2.2]
 | .ms i o l s,b,h=>by
  cases b<;>simp only[X.same,Bool.and_eq_true,Bool.false_eq_true]at h
  rw[Yd h.1,Yd h.2.1,Yd h.2.2.1,Yd h.2.2.2]
 | .map i,b,h=>by cases b<;>simp only[X.same,Bool.false_eq_true]at h;rw[Yd h]
 | .iter i,b,h=>by cases b<;>simp only[X.same,Bool.false_eq_true]at h;rw[Yd h]
 | .sdata es i v,b,h=>by
  cases b<;>simp only[X.same,Bool.and_eq_true,Bool.false_eq_true]at h
  rw[CV.sameL_eq h.1,Yd h.2.1,Yd h.2.2]
 | .pend es i v,b,h=>by
  cases b<;>simp only[X.same,Bool.and_eq_true,Bool.false_eq_true]at h
  rw[CV.sameL_eq h.1,Yd h.2.1,Yd h.2.2]
 | .pptr k i v,b,h=>by
  cases b<;>simp only[X.same,Bool.and_eq_true,Bool.false_eq_true]at h
  rw[Yd h.1,Yd h.2.1,Yd h.2.2]
 | .func f cs,b,h=>by
  cases b<;>simp only[X.same,Bool.and_eq_true,Bool.false_eq_true]at h
  rw[Yd h.1,X.sameL_eq h.2]
 | .agg cs,b,h=>by cases b<;>simp only[X.same,Bool.false_eq_true]at h;rw[X.sameL_eq h]
 | .tup cs,b,h=>by cases b<;>simp only[X.same,Bool.false_eq_true]at h;rw[X.sameL_eq h]
theorem X.sameL_eq:∀ {a b:List X},X.sameL a b=true->a=b
 | [],b,h=>by cases b<;>simp[X.sameL]at h;rfl
 | x::r,b,h=>by
  cases b<;>simp only[X.sameL,Bool.and_eq_true,Bool.false_eq_true]at h
  rw[X.same_eq h.1,X.sameL_eq h.2]
end
theorem Ob.same_eq{a b:Ob}(h:Ob.same a b=true):a=b:=by
 cases a<;>cases b<;>simp only[Ob.same,Bool.and_eq_true,Bool.false_eq_true]at h
 ·rfl
 ·rw[Yd h.1,X.sameL_eq h.2]
 ·rw[Yd h.1,Yd h.2.1,Yd h.2.2]
 ·rw[Yd h.1,Yd h.2.1,Yd h.2.2.1,CV.same_eq h.2.2.2]
 ·rw[CV.sameL_eq h.1,CV.sameL_eq h.2]
theorem Mem.same_eq:∀ {a b:Mem},Mem.same a b=true->a=b
 | [],b,h=>by cases b<;>simp[Mem.same]at h;rfl
 | x::r,b,h=>by
  cases b<;>simp only[Mem.same,Bool.and_eq_true,Bool.false_eq_true]at h
  rw[Ob.same_eq h.1,Mem.same_eq h.2]
theorem JG:∀ {a b:Zf},X9 a b=true->a=b
 | [],b,h=>by cases b<;>simp[X9]at h;rfl
 | (i,x)::r,b,h=>by
  cases b with
  | nil=>simp[X9]at h
  | cons p q=>
   obtain⟨j,y⟩:=p;simp only[X9,Bool.and_eq_true]at h;rw[Yd h.1,X.same_eq h.2.1,JG h.2.2]
theorem St.same_eq{a b:St}(h:St.same a b=true):a=b:=by
 obtain⟨s,m⟩:=a;obtain⟨s',m'⟩:=b;simp only[St.same,Bool.and_eq_true]at h;rw[JG h.1,Mem.same_eq h.2]
section
def PCode.erase:PCode->PCode
 | .seq a b=>.seq a.erase b.erase
 | .cond c a b=>.cond c a.erase b.erase
 | .block id b=>.block id b.erase
 | .loop _ b=>.loop none b.erase
 | .live _ c=>c.erase
 | .raw l=>.ops l
 | .mloop _ it nx c en id j l b=>.loop none (.seq (.ops [⟨some nx,.nextM (.t it),none⟩,⟨some c,.ext (.t nx) 0,none⟩]) (.seq (.cond (.t c) .skip (.exit id)) (.block j (.seq (.ops (⟨some en,.entry (.t it),none⟩::l)) b.erase))))
 | c=>c
def qz:Exit->Go.Exit
 | .normal=>.normal
 | .exit id=>.exit id
 | .ret=>.ret
def D0(P:Program)(e:Env):Prop:=∀ (nt:Nat) (id:Nat) (ops:Array Oper) (l:List POper) (anc:List (List Nat)) (s:Zf) (h:Mem) (σ':St) (G:Gh) (w:World) (a:Act) (Q:Go.Exit->Act->World->Prop),
 VG P nt true ops ops.toList=some l->yf l ops=some anc->QU e l anc ⟨s,h⟩=some σ'->Inv G h w->SlotsRel G s a nt->GlobOk e G->XK P G h w σ'.s σ'.h nt a (Q .normal)->(Code.region id ops true).wp P Q a w
section
variable {P:Program} {e:Env} {nt:Nat}
theorem Xi{c:Code}{pc:PCode}(h:tr P nt c=some pc) :
  (c=.skip/\pc=.skip)\/(∃ id ops l,c=.region id ops false/\Yp P nt ops ops.toList=some l/\pc=.ops l)\/
  (∃ id ops l anc,c=.region id ops true/\VG P nt true ops ops.toList=some l/\yf l ops=some anc/\pc=.dops l anc)\/
  (∃ a b pa pb,c=.seq a b/\tr P nt a=some pa/\tr P nt b=some pb/\pc=.seq pa pb)\/
  (∃ x a b r pa pb,c=.cond x a b/\Yx x=some r/\tr P nt a=some pa/\tr P nt b=some pb/\pc=.cond r pa pb)\/
  (∃ id b pb,c=.block id b/\tr P nt b=some pb/\pc=.block id pb)\/(∃ b pb,c=.loop b/\tr P nt b=some pb/\pc=.loop none pb)\/
  (∃ id,c=.exit id/\pc=.exit id)\/(c=.ret/\pc=.ret)\/pc=.ops [⟨none,Kw,none⟩]:=by
 cases c<;>(try simp only[tr]at h)
 case skip=>cases h;simp
 case region id ops draw=>
  cases draw
  ·simp only[tr,Zc]at h;obtain⟨l,hl,rfl⟩:=h
   right;left;exact⟨id,ops,l,rfl,hl,rfl⟩
  ·simp only[tr]at h;split at h
   ·rename_i l hl;simp only[Zc]at h;obtain⟨anc,ha,rfl⟩:=h
    right;right;left;exact⟨id,ops,l,anc,rfl,hl,ha,rfl⟩
   ·cases h
 case seq a b=>
  split at h
  ·rename_i pa pb h1 h2;cases h
   right;right;right;left;exact⟨a,b,pa,pb,rfl,h1,h2,rfl⟩
  ·cases h
 case cond x a b=>
  split at h
  ·rename_i r pa pb h0 h1 h2;cases h
   right;right;right;right;left;exact⟨x,a,b,r,pa,pb,rfl,h0,h1,h2,rfl⟩
  ·cases h
 case block id b=>
  simp only[Zc]at h;obtain⟨pb,h1,rfl⟩:=h
  right;right;right;right;right;left;exact⟨id,b,pb,rfl,h1,rfl⟩
 case loop b=>
  simp only[Zc]at h;obtain⟨pb,h1,rfl⟩:=h
  right;right;right;right;right;right;left;exact⟨b,pb,rfl,h1,rfl⟩
 case exit id=>cases h;simp
 case ret=>cases h;simp
 case refuse _=>cases h;simp
 all_goals cases h
theorem Ao{N:Nat}{σ:St}:Yn e N (.ops [⟨none,Kw,none⟩]) σ=none:=by
 simp[Yn,YN,wanted,Kw,evalOp,ZJ]
theorem vE{N:Nat}{σ:St}:Yn e N (.raw [⟨none,Kw,none⟩]) σ=none:=by
 simp[Yn,YE,XZ,wanted,Kw,evalOp,ZJ]
def qV(P:Program)(e:Env)(nt N:Nat)(pc:PCode):Prop:=∀ (code:Code) (s:Zf) (h:Mem) (x:Exit) (σ':St) (G:Gh) (w:World) (a:Act) (Q:Go.Exit->Act->World->Prop),
 tr P nt code=some pc.erase->Yn e N pc ⟨s,h⟩=some (x,σ')->Inv G h w->SlotsRel G s a nt->GlobOk e G->XK P G h w σ'.s σ'.h nt a (Q (qz x))->code.wp P Q a w
theorem uH{N:Nat}{pb:PCode}(hb:qV P e nt N pb){c:Code}(ht:tr P nt c=some pb.erase){live:Option (List Nat)}{x:Exit}{σ':St}{G0:Gh}{h0:Mem}{w0:World}{a0:Act}{Q:Go.Exit->Act->World->Prop}(hi0:Inv G0 h0 w0)(hg0:GlobOk e G0)
  (hn:XK P G0 h0 w0 σ'.s σ'.h nt a0 (Q (qz x))) (b:Frame) (k:List Item) (cs:List Frame):∀ (n:Nat) (s:Zf) (h:Mem) (G:Gh) (w:World) (a:Act),W3 (Yn e N pb) (clean live h0.length) n ⟨s,h⟩=some (x,σ')->
   Step G0 h0 w0 G h w->SlotsRel G s a nt->a.defers=a0.defers->∃ e' a' w',Q e' a' w'/\Arrives P (lone (b.at a (.code c::.inLoop c::k)) cs w) b k cs e' a' w'
 | 0,s,h,G,w,a,hr,_,_,_=>by simp[W3]at hr
 | n+1,s,h,G,w,a,hr,st,hs,hdf=>by
  obtain⟨G1,st1,hs1⟩:=CZ st (Nat.le_refl _) hs live;simp only[W3]at hr;generalize hσ:clean live h0.length ⟨s,h⟩=σ1 at hr st1 hs1;obtain⟨s1,h1⟩:=σ1;split at hr
  ·rename_i σ2 he;have key:=hb c s1 h1 .normal σ2 G1 w a (Exit.then (λ a' w'=>∃ e' a'' w'',Q e' a'' w''/\Arrives P (lone (b.at a' (.code c::.inLoop c::k)) cs w') b k cs e' a'' w'') Q) ht he st1.inv hs1 (hg0.mono (st1.le hi0.new)) (by
    intro w2 G2 a2 st2 ss2 hdf2;exact uH hb ht hi0 hg0 hn b k cs n σ2.s σ2.h G2 w2 a2 hr (st1.trans st2) ss2 (hdf2.trans hdf))
   obtain⟨e1,a1,w1,hq,harr⟩:=key b (.inLoop c::k) cs;cases e1 with
   | normal=>
    obtain⟨e2,a2,w2,hq2,harr2⟩:=hq;exact⟨e2,a2,w2,hq2,.of_steps (Steps.trans harr (.one step_inLoop)) harr2⟩
   | exit id=>exact⟨_,a1,w1,hq,.pass (x:=.inLoop c) rfl (λ _ _=>.inl (by simp)) harr⟩
   | goto l=>exact⟨_,a1,w1,hq,.pass (x:=.inLoop c) rfl (λ _ _=>.inl (by simp)) harr⟩
   | ret=>exact⟨_,a1,w1,hq,.pass (x:=.inLoop c) rfl (λ _ _=>.inl (by simp)) harr⟩
   | panic ch=>exact⟨_,a1,w1,hq,.pass (x:=.inLoop c) rfl (λ _ _=>.inl (by simp)) harr⟩
   | outgrown=>exact⟨_,a1,w1,hq,.pass (x:=.inLoop c) rfl (λ _ _=>.inl (by simp)) harr⟩
  ·rename_i r hnr;have key:=hb c s1 h1 x σ' G1 w a (Exit.then (λ _ _=>False) Q) ht hr st1.inv hs1 (hg0.mono (st1.le hi0.new)) (by
    intro w2 G2 a2 st2 ss2 hdf2;have hx:x ≠ .normal:=by rintro rfl;exact hnr _ hr
    cases x with
    | normal=>exact absurd rfl hx
    | exit id=>exact hn w2 G2 a2 (st1.trans st2) ss2 (hdf2.trans hdf)
    | ret=>exact hn w2 G2 a2 (st1.trans st2) ss2 (hdf2.trans hdf))
   obtain⟨e1,a1,w1,hq,harr⟩:=key b (.inLoop c::k) cs;cases e1 with
   | normal=>exact hq.elim
   | exit id=>exact⟨_,a1,w1,hq,.pass (x:=.inLoop c) rfl (λ _ _=>.inl (by simp)) harr⟩
   | goto l=>exact⟨_,a1,w1,hq,.pass (x:=.inLoop c) rfl (λ _ _=>.inl (by simp)) harr⟩
   | ret=>exact⟨_,a1,w1,hq,.pass (x:=.inLoop c) rfl (λ _ _=>.inl (by simp)) harr⟩
   | panic ch=>exact⟨_,a1,w1,hq,.pass (x:=.inLoop c) rfl (λ _ _=>.inl (by simp)) harr⟩
   | outgrown=>exact⟨_,a1,w1,hq,.pass (x:=.inLoop c) rfl (λ _ _=>.inl (by simp)) harr⟩
end
end
section
open Go.ChangeMaps Go.MapKept
section
variable {P:Program} {e:Env} {nt:Nat} {G:Gh} {h h':Mem} {w:World} {s:Zf} {a:Act}
theorem VY{ops:Array Oper}{l:List Oper}{q:POper}{qs:List POper}(h:Yp P nt ops l=some (q::qs))(hq:∀ ag st n z ps,q.op ≠ .buildSl ag st n z ps) :
  ∃ o r,l=o::r/\VZ P nt false ops o=some q/\Yp P nt ops r=some qs:=by
 match l with
 | []=>simp[Yp]at h
 | [o]=>
  simp only[Yp]at h;split at h
  ·rename_i x hx;cases h;exact⟨o,[],rfl,hx,rfl⟩
  ·cases h
 | o::c::r=>
  simp only[Yp]at h;split at h
  ·rename_i x y hp;split at h
   ·rename_i l' hl;cases h;obtain⟨t,n,ps,sl,i,j,el,el',pop,_,_,_,_,_,_,h1,_,_,_,_,h2,rfl,_⟩:=Ji hp;simp only[Yi,h1]at h2;cases hz:YO P el' with
    | none=>rw[hz]at h2;cases h2
    | some z=>
     cases hl':Q2 ps.toList with
     | none=>rw[hz,hl']at h2;cases h2
     | some l2=>
      rw[hz,hl']at h2;simp only at h2;split at h2
      ·cases h2;exact absurd rfl (hq _ _ _ _ _)
      ·cases h2
   ·cases h
  ·split at h
   ·rename_i x l' hx hl;cases h;exact⟨o,c::r,rfl,hx,hl⟩
   ·cases h
theorem zq{ops:Array Oper}{o:Oper}{d:Option Nat}{pop:POp}(htr:UN P false ops o=some (d,pop))(h1:∀ ag t s b x y,pop ≠ .appP ag t s b x y)(h2:∀ s x y,pop ≠ .idxP s x y)(h3:∀ n s a v,pop ≠ .storeP n s a v) :
  Yi P o.type o.op=some pop/\d=o.dst:=by
 have plain:((Yi P o.type o.op).map (o.dst,·))=some (d,pop)->Yi P o.type o.op=some pop/\d=o.dst:=by
  intro hp;simp only[Zc,Prod.mk.injEq]at hp;obtain⟨q,g1,g2,g3⟩:=hp;subst g3;exact⟨g1,g2.symm⟩
 unfold UN at htr;repeat' (first|exact plain htr | (cases htr;done)|exact absurd ‹false=true› (by simp)|(simp only[Option.some.injEq,Prod.mk.injEq]at htr;obtain⟨_,hx⟩:=htr;first|exact absurd hx.symm (h1 _ _ _ _ _ _)|exact absurd hx.symm (h2 _ _ _)|exact absurd hx.symm (h3 _ _ _ _))|split at htr)
theorem Gg{x:Operand}{i:Nat}(h:Yx x=some (.t i)):x=.tmp i:=by
 cases x with
 | tmp t=>simp[Yx]at h;rw[h]
 | const v=>simp only[Yx]at h;split at h<;>cases h
 | global g=>simp[Yx]at h
 | func f=>simp[Yx]at h
theorem V0{ty:TypeId}{ats:Array TypeId}{b:Builtin}{xs:List Operand}{pop:POp}(htr:WI P ty ats b xs=some pop):(∀ x,pop ≠ .nextM x)/\(∀ x,pop ≠ .entry x)/\(∀ x i,pop ≠ .ext x i):=by
 unfold WI at htr;split at htr
 case h_3=>simp only[Zc]at htr;obtain⟨l,_,rfl⟩:=htr;exact⟨λ _ h=>(by cases h),λ _ h=>(by cases h),λ _ _ h=>by cases h⟩
 case h_4=>simp only[Zc]at htr;obtain⟨l,_,rfl⟩:=htr;exact⟨λ _ h=>(by cases h),λ _ h=>(by cases h),λ _ _ h=>by cases h⟩
 all_goals repeat' (first|(cases htr;done)|(cases htr;exact⟨λ _ h=>(by cases h),λ _ h=>(by cases h),λ _ _ h=>by cases h⟩)|(cases htr;exact⟨λ _ h=>(by simp[Kw]at h),λ _ h=>(by simp[Kw]at h),λ _ _ h=>by simp[Kw]at h⟩)|split at htr)
theorem gx{ty:TypeId}{q:Op}{i:Nat}(htr:Yi P ty q=some (.nextM (.t i))):q=.next (.tmp i) false:=by
 cases q with
 | next x is=>
  cases is with
  | true=>simp[Yi]at htr
  | false=>
   simp only[Yi,Zc]at htr;obtain⟨r,hr,h2⟩:=htr;cases h2;rw[Gg hr]
 | call c=>
  exfalso;simp only[Yi]at htr;split at htr
  ·exact(V0 htr).1 _ rfl
  ·unfold VE at htr;repeat' (first|(cases htr;done)|(simp only[Zc]at htr;obtain⟨_,_,hx⟩:=htr;cases hx;done)|split at htr)
  ·cases htr
 | _=>
  exfalso;simp only[Yi]at htr;repeat' (first|(cases htr;done)|(simp only[Zc]at htr;obtain⟨_,_,hx⟩:=htr;cases hx;done)|split at htr)
theorem jS{ty:TypeId}{q:Op}{i:Nat}(htr:Yi P ty q=some (.entry (.t i))):q=.entry (.tmp i):=by
 cases q with
 | entry x=>
  simp only[Yi,Zc]at htr;obtain⟨r,hr,h2⟩:=htr;cases h2;rw[Gg hr]
 | next x is=>
  exfalso;cases is with
  | true=>simp[Yi]at htr
  | false=>simp only[Yi,Zc]at htr;obtain⟨_,_,hx⟩:=htr;cases hx
 | call c=>
  exfalso;simp only[Yi]at htr;split at htr
  ·exact(V0 htr).2.1 _ rfl
  ·unfold VE at htr;repeat' (first|(cases htr;done)|(simp only[Zc]at htr;obtain⟨_,_,hx⟩:=htr;cases hx;done)|split at htr)
  ·cases htr
 | _=>
  exfalso;simp only[Yi]at htr;repeat' (first|(cases htr;done)|(simp only[Zc]at htr;obtain⟨_,_,hx⟩:=htr;cases hx;done)|split at htr)
theorem A0{ty:TypeId}{q:Op}{i k:Nat}(htr:Yi P ty q=some (.ext (.t i) k)):q=.extract (.tmp i) k:=by
 cases q with
 | extract x j=>
  simp only[Yi,Zc]at htr;obtain⟨r,hr,h2⟩:=htr;cases h2;rw[Gg hr]
 | next x is=>
  exfalso;cases is with
  | true=>simp[Yi]at htr
  | false=>simp only[Yi,Zc]at htr;obtain⟨_,_,hx⟩:=htr;cases hx
 | call c=>
  exfalso;simp only[Yi]at htr;split at htr
  ·exact(V0 htr).2.2 _ _ rfl
  ·unfold VE at htr;repeat' (first|(cases htr;done)|(simp only[Zc]at htr;obtain⟨_,_,hx⟩:=htr;cases hx;done)|split at htr)
  ·cases htr
 | _=>
  exfalso;simp only[Yi]at htr;repeat' (first|(cases htr;done)|(simp only[Zc]at htr;obtain⟨_,_,hx⟩:=htr;cases hx;done)|split at htr)
theorem Uw{ops:Array Oper}{o:Oper}{d:Nat}{pop:POp}(h:VZ P nt false ops o=some ⟨some d,pop,none⟩)(h1:∀ ag t s b x y,pop ≠ .appP ag t s b x y)(h2:∀ s x y,pop ≠ .idxP s x y)(h3:∀ n s a v,pop ≠ .storeP n s a v) :
  o.dst=some d/\o.guard=none/\d < nt/\Yi P o.type o.op=some pop:=by
 obtain⟨q1,q2,q3⟩:=Ux h;obtain⟨p1,p2⟩:=zq q2 h1 h2 h3;have hg:o.guard=none:=by
  rcases q3 with ⟨g1,_⟩|⟨j,b,d',g1,g2,g3,g4⟩
  ·exact g1
  ·cases g3
 exact⟨p2.symm,hg,q1 d p2.symm,p1⟩
theorem AH(hi:Inv G h w){q:Nat}{o:Ob}(hq:h[q]?=some o){bi:Nat}(hb:blk G q o=some bi):Step G h w G (h.set q .dead) w/\¬ WD G (h.set q .dead) bi:=by
 have hlt:=(Za.1 hq).1
 have get:∀ {i:Nat} {x:Ob} {b:Nat},(h.set q .dead)[i]?=some x->blk G i x=some b->i ≠ q/\h[i]?=some x:=by
  intro i x b hx hbx;by_cases e:i=q
  ·subst e;rw[ZG hlt]at hx;cases hx;cases hbx
  ·rw[Zx (λ e'=>e e'.symm)]at hx;exact⟨e,hx⟩
 refine⟨⟨⟨hi.prot,hi.pmap,λ id x hx=>?_,λ i j oi oj b1 b2 h1 h2 hb1 hb2 e=>?_,λ id hid=>hi.new id (by simpa using hid)⟩,by simp,Fr.self _ _,λ _ _ _ x=>x,λ _ _ x=>x,λ _ _ _ x=>x,λ _ _ _ _ x=>x,λ _ _ _ x=>.inl x,λ _ _ x=>.inl x,λ b x=>.inl ?_⟩,?_⟩
 ·by_cases e:id=q
  ·subst e;rw[ZG hlt]at hx;cases hx;trivial
  ·rw[Zx (λ e'=>e e'.symm)]at hx;exact hi.ob id x hx
 ·exact hi.inj i j oi oj b1 b2 (get h1 hb1).2 (get h2 hb2).2 hb1 hb2 e
 ·obtain⟨id,x,hx,hbx⟩:=x;exact⟨id,x,(get hx hbx).2,hbx⟩
 ·rintro⟨id,x,hx,hbx⟩
  obtain⟨k1,k2⟩:=get hx hbx;exact k1 (hi.inj id q x o bi bi k2 hq hbx hb rfl)
theorem Step.poke{G0:Gh}{h0:Mem}{w0 w1:World}(st:Step G0 h0 w0 G h w){bi:Nat}(ho:WD G0 h0 bi)(hno:¬ WD G h bi)(hp:∀ o,G.prot bi o=none)(hm:G.pmap bi=none)
  (hsz:w1.heap.size=w.heap.size) (hsame:∀ b,b ≠ bi->w1.heap[b]?=w.heap[b]?) (hos:w1.os=w.os) (htp:w1.tape=w.tape) (hou:w1.output=w.output):Step G0 h0 w0 G h w1:=by
 refine⟨⟨λ b o v x=>?_,λ b es x=>?_,λ id o hx=>?_,st.inv.inj,st.inv.new⟩,st.len,⟨by rw[hsz];exact st.fr.size,λ b hb hob=>?_,hos.trans st.fr.os,htp.trans st.fr.tape,hou.trans st.fr.output⟩,st.prot,st.pmap,st.loc,st.tip,st.newp,st.newm,st.newb⟩
 ·have hb:b ≠ bi:=by rintro rfl;rw[hp]at x;cases x
  have:=st.inv.prot b o v x
  refine⟨?_,this.2⟩;rw[XX,hsame b hb,<- XX];exact this.1
 ·have hb:b ≠ bi:=by rintro rfl;rw[hm]at x;cases x
  obtain⟨clk,h1,h2⟩:=st.inv.pmap b es x;exact⟨clk,by rw[hsame b hb];exact h1,h2⟩
 ·exact(st.inv.ob id o hx).keep (Gh.le.self G) (λ b hb=>hsame b (by rintro rfl;exact hno ⟨id,o,hx,hb⟩)) (λ b _=>⟨λ q x=>x,rfl⟩) (λ u x=>x)
 ·rw[hsame b (by rintro rfl;exact hob ho)];exact st.fr.same b hb hob
theorem C9{G0:Gh}{h0:Mem}{w0:World}(st:Step G0 h0 w0 G h w){L:Nat}(hL:h0.length<=L)(hs:SlotsRel G s a nt)(l:List Nat):∃ G',Step G0 h0 w0 G' (clean (some l) L ⟨s,h⟩).h w/\SlotsRel G' (clean (some l) L ⟨s,h⟩).s a nt/\
  G'.prot=G.prot/\G'.pmap=G.pmap/\∀ b,WD G' (clean (some l) L ⟨s,h⟩).h b->WD G h b:=by
 have hs:=hs.prune l
 simp only[clean];generalize ZK l s=s' at hs;unfold gc;cases h1:Nat.ble h.length L with
 | true=>simp only[h1,cond_true];exact⟨G,st,hs,rfl,rfl,λ _ x=>x⟩
 | false=>
  simp only[h1,cond_false];cases h2:(Yy L s'&&ZL L (h.take L)) with
  | false=>simp only[h2,cond_false];exact⟨G,st,hs,rfl,rfl,λ _ x=>x⟩
  | true=>
   simp only[h2,cond_true];simp only[Bool.and_eq_true]at h2;have hlt:L<=h.length:=by
    rcases Zl L h.length with q | q
    ·omega
    ·rw[ZE q]at h1;cases h1
   refine⟨G.cut L,st.cut hL hlt h2.2,⟨hs.size,λ i=>(hs.rd i).cut (UY i h2.1)⟩,rfl,rfl,?_⟩
   rintro b ⟨id,o,ho,hb⟩
   rw[List.getElem?_take]at ho;split at ho
   ·exact⟨id,o,ho,QP hb⟩
   ·cases ho
theorem E4{α:Type}{p p':α->Bool}(hpp:∀ x,p' x=true->p x=true){x:α}(h1:p x=true)(h2:p' x=false):∀ {l:List α},x∈l->(l.filter p').length < (l.filter p).length:=by
 have le:∀ l:List α,(l.filter p').length<=(l.filter p).length:=by
  intro l
  induction l with
  | nil=>simp
  | cons y l ih=>
   simp only[List.filter_cons];cases hy':p' y with
   | true=>rw[hpp y hy'];simpa using ih
   | false=>cases p y<;>simp<;>omega
 intro l
 induction l with
 | nil=>intro h;simp at h
 | cons y l ih=>
  intro hx;simp only[List.filter_cons];rcases List.mem_cons.1 hx with e | hx
  ·subst e;rw[h1,h2];have:=le l
   simp;omega
  ·have:=ih hx
   cases hy':p' y with
   | true=>rw[hpp y hy'];simpa using this
   | false=>cases p y<;>simp<;>omega
theorem Jq{i j:Nat}:∀ {l:List Nat},j∈X8 i l->j∈l
 | [],h=>by simp[X8]at h
 | k::r,h=>by
  simp only[X8]at h;cases hb:Nat.beq i k with
  | true=>rw[hb]at h;exact Zq _ h
  | false=>
   rw[hb]at h;rcases List.mem_cons.1 h with e | h
   ·rw[e];exact Zv
   ·exact Zq _ (Jq h)
theorem qB{i j:Nat}:∀ {l:List Nat},j∈l->j ≠ i->j∈X8 i l
 | [],h,_=>by simp at h
 | k::r,h,hne=>by
  simp only[X8];cases hb:Nat.beq i k with
  | true=>
   have:=Zd hb
   rcases List.mem_cons.1 h with e | h
   ·exact absurd (e.trans this.symm) hne
   ·exact h
  | false=>
   rcases List.mem_cons.1 h with e | h
   ·rw[e];exact Zv
   ·exact Zq _ (qB h hne)
theorem wU{i j:Nat}:∀ {l:List Nat},l.Nodup->j∈X8 i l->j ≠ i
 | [],_,h=>by simp[X8]at h
 | k::r,hn,h=>by
  simp only[X8]at h;rw[List.nodup_cons]at hn;cases hb:Nat.beq i k with
  | true=>
   rw[hb]at h;have:=Zd hb
   rintro rfl
   exact hn.1 (this ▸ h)
  | false=>
   rw[hb]at h;rcases List.mem_cons.1 h with e | h
   ·rintro rfl;rw[e]at hb;simp at hb
   ·exact wU hn.2 h
theorem J3{i:Nat}:∀ {l:List Nat},l.Nodup->(X8 i l).Nodup
 | [],_=>by simp[X8]
 | k::r,hn=>by
  simp only[X8];rw[List.nodup_cons]at hn;cases Nat.beq i k with
  | true=>exact hn.2
  | false=>exact List.nodup_cons.2 ⟨λ h=>hn.1 (Jq h),J3 hn.2⟩
structure Hd(G:Gh)(h:Mem)(w:World)(bi:Nat)(ob:Obj):Prop where
 own:¬ WD G h bi
 prot:∀ o,G.prot bi o=none
 pmap:G.pmap bi=none
 at_:w.heap[bi]?=some ob
theorem Hd.step{G':Gh}{w':World}{bi:Nat}{ob:Obj}(hd:Hd G h w bi ob)(st:Step G h w G' h' w'):Hd G' h' w' bi ob:=by
 have hlt:=XF hd.at_
 refine⟨λ x=>?_,λ o=>?_,?_,?_⟩
 ·rcases st.newb bi x with y | y
  ·exact hd.own y
  ·omega
 ·cases hp:G'.prot bi o with
  | none=>rfl
  | some v=>
   rcases st.newp bi o v hp with y | y | y
   ·rw[hd.prot]at y;cases y
   ·exact absurd y hd.own
   ·omega
 ·cases hp:G'.pmap bi with
  | none=>rfl
  | some v=>
   rcases st.newm bi v hp with y | y | y
   ·rw[hd.pmap]at y;cases y
   ·exact absurd y hd.own
   ·omega
 ·rw[st.fr.same bi hlt hd.own];exact hd.at_
def D8(es:List MapEntry)(seen:Array Nat)(i:Nat):Prop:=∃ x,es[i]?=some x/\seen.contains x.born=false
def HY(es:List MapEntry)(seen:Array Nat):Nat:=(es.filter λ x=>!seen.contains x.born).length
theorem EZ{step:Nat->St->Option St}{σ:St}{i:Nat}(h:XU step σ i=true):step i σ=some σ:=by
 unfold XU at h;split at h
 ·rename_i σ' hs;rw[hs,St.same_eq h]
 ·cases h
theorem XW{seen:Array Nat}{b b':Nat}:(seen.push b).contains b'=(seen.contains b'||b'==b):=by
 rw[Bool.eq_iff_iff];simp
theorem B8{N:Nat}{pb:PCode}(hb:qV P e nt N pb)(hC:CallOk P e)(hl:Xd P e)
  {ia ib id j it nx c en:Nat} {opsA opsB:Array Oper} {R:Code} {oA oB oC:Oper} {rB:List Oper} {rops:List POper}
  (hA:opsA.toList=[oA,oB]) (hAo:oA.op=.next (.tmp it) false) (hAd:oA.dst=some nx) (hAg:oA.guard=none) (hnx:nx < nt)
  (hBo:oB.op=.extract (.tmp nx) 0) (hBd:oB.dst=some c) (hBg:oB.guard=none) (hc:c < nt)
  (hE:opsB.toList=oC::rB) (hCo:oC.op=.entry (.tmp it)) (hCd:oC.dst=some en) (hCg:oC.guard=none) (hen:en < nt)
  (hrB:Yp P nt opsB rB=some rops) (hR:tr P nt R=some pb.erase) (hic:it ≠ c) (hin:it ≠ nx)
  {live:List Nat} {G0:Gh} {h0:Mem} {w0:World} {a0:Act} {Q:Go.Exit->Act->World->Prop} (hi0:Inv G0 h0 w0) (hg0:GlobOk e G0) {q bi m:Nat} {es:List MapEntry} {ks vs:List CV}
  (hq:G0.loc q=some bi) (hql:q < h0.length) (hown:WD G0 h0 bi) (hpm:G0.pmap m=some es) (hk:es.length=ks.length) (hv:es.length=vs.length)
  (hks:∀ (i:Nat) x k,es[i]?=some x->ks[i]?=some k->RdC G0 x.key k) (hvs:∀ (i:Nat) x v,es[i]?=some x->vs[i]?=some v->RdC G0 x.val v)
  {fin:St} (hn:XK P G0 h0 w0 ((c,.c (.bool false))::(nx,.c (.tup [.bool false]))::fin.s) fin.h nt a0 (Q (.exit id)))
  (b:Frame) (k:List Item) (cs:List Frame):∀ (n:Nat) (seen:Array Nat) (must may:List Nat) (fu:Nat) (σ:St) (G:Gh) (w:World) (a:Act),
   HY es seen<=n->Vg (Vf e live h0.length it q nx c en j rops (Yn e N pb) ks vs) fin fu must may σ=true->must.Nodup->
   (∀ i∈must,XU (Vf e live h0.length it q nx c en j rops (Yn e N pb) ks vs) σ i=false->D8 es seen i)->(∀ i,D8 es seen i->i∈must\/i∈may)->
   Zm σ.s it=.iter q->Step G0 h0 w0 G σ.h w->SlotsRel G σ.s a nt->a.defers=a0.defers->Hd G σ.h w bi (.mapIter (some m) es.length seen es.length)->
   ∃ e' a' w',Q e' a' w'/\Arrives P (lone (b.at a (.code (.seq (.region ia opsA false) (.seq (.cond (.tmp c) .skip (.exit id)) (.block j (.seq (.region ib opsB false) R))))::.inLoop (.seq (.region ia opsA false) (.seq (.cond (.tmp c) .skip (.exit id)) (.block j (.seq (.region ib opsB false) R))))::k)) cs w) b k cs e' a' w':=by
 intro n
 induction n using Nat.strongRecOn with
 | ind n ih=>
 intro seen must may fu σ G w a hle hgood hnd hact hall hit st hs hdf hd;generalize hstep:Vf e live h0.length it q nx c en j rops (Yn e N pb) ks vs=step at *
 have hge:=st.le hi0.new
 have hg:GlobOk e G:=hg0.mono hge
 obtain⟨clk,hm0,hst⟩:=st.inv.pmap m es (st.pmap _ _ hpm);have hclk:clk=es.length:=hst.1
 subst hclk;have hev:a.eval (.tmp it)=.pointer (some ⟨bi,0,none⟩):=by
  have h1:=hs.rd it
  rw[hit]at h1;have h2:G.loc q=some bi:=st.loc q bi hql hq
  show a.tmps.getD it undef=_;generalize a.tmps.getD it undef=v at h1;cases h1 with
  | iter _ b' hb'=>rw[h2]at hb';cases hb';rfl
 have hA0:opsA[0]?=some oA:=by rw[<- Array.getElem?_toList,hA];rfl
 have hA1:opsA[1]?=some oB:=by rw[<- Array.getElem?_toList,hA];rfl
 have hAs:opsA.size=2:=by rw[<- Array.length_toList,hA];rfl
 have hB0:opsB[0]?=some oC:=by rw[<- Array.getElem?_toList,hE];rfl
 have hBs:opsB.size=rB.length+1:=by rw[<- Array.length_toList,hE];rfl
 have hdr:opsB.toList.drop 1=rB:=by rw[hE];rfl
 have hwA:∀ t,Region.wanted oA t=true:=λ t=>by simp[Region.wanted,hAg]
 have hwB:∀ t,Region.wanted oB t=true:=λ t=>by simp[Region.wanted,hBg]
 have hwC:∀ t,Region.wanted oC t=true:=λ t=>by simp[Region.wanted,hCg]
 obtain⟨fu,rfl⟩:∃ f,fu=f+1:=by
  cases fu with
  | zero=>simp[Vg]at hgood
  | succ f=>exact⟨f,rfl⟩
 simp only[Vg,Bool.and_eq_true]at hgood;obtain⟨hmay,hgood⟩:=hgood;have key:(Code.seq (.region ia opsA false) (.seq (.cond (.tmp c) .skip (.exit id)) (.block j (.seq (.region ib opsB false) R)))).wp P
   (Exit.then (λ a' w'=>∃ e' a'' w'',Q e' a'' w''/\Arrives P (lone (b.at a' (.code (.seq (.region ia opsA false) (.seq (.cond (.tmp c) .skip (.exit id)) (.block j (.seq (.region ib opsB false) R))))::.inLoop (.seq (.region ia opsA false) (.seq (.cond (.tmp c) .skip (.exit id)) (.block j (.seq (.region ib opsB false) R))))::k)) cs w') b k cs e' a'' w'') Q) a w:=by
  refine wp_seq (wp_region ?_);rw[hAs,show List.range 2=[0,1] from rfl]
  simp only[wpOps,hA0,hwA,if_true]
  left
  rcases run_next_at (P:=P) w oA.type bi m es.length es.length seen es.toArray es.length hd.at_ hm0 (λ x hx=>hst.2.1 x (by simpa using hx)) (Nat.le_refl _) with ⟨h0',hrun⟩|⟨x,hx,w1,hal,hrun⟩
  ·
   have hrunA:(execOp a.eval oA).run P w=.ok (.value (.tuple #[.bool false])) w:=by
    simp only[execOp,hAo,hev,Sem.run_bind,hrun,Result.andThen];rfl
   rw[Oper.wp,hrunA,Oper.upon_value,hAd];have hfin:σ=fin:=by
    have hall':=all_seen es.toArray seen h0'
    have:must.filter (λ i=>!(XU step σ i))=[]:=by
     rw[List.filter_eq_nil_iff];intro i hi hx;obtain⟨y,hy,hs'⟩:=hact i hi (by simpa using hx)
     have:=hall' y (by simpa using ZI hy)
     rw[this]at hs';cases hs'
    rw[this]at hgood;exact St.same_eq hgood
   have hs1:SlotsRel G (Yo σ.s (some nx) (.c (.tup [.bool false]))) (a.put (some nx) (.tuple #[.bool false])) nt:=hs.put (λ i hi=>by cases hi;exact hnx) (.c _ _ (.tup [.bool false] [.bool false] rfl (λ i v c h1 h2=>by
    cases i with
    | zero=>simp at h1 h2;subst h1;subst h2;exact .bool false
    | succ i=>simp at h1)))
   simp only[hA1,hwB,if_true]
   left
   refine OpOk.wp st.inv hs1 (λ i hi=>by rw[hBd]at hi;cases hi;exact hc) (va st.inv hs1 hg (x:=.tmp nx) (r:=.t nx) rfl (z:=.c (.bool false)) (h':=σ.h) (i:=0) (by simp[evalOp,ZJ,Yo,Zm]) oB hBo) ?_
   intro w2 G2 a2 st2 ss2 hdf2;rw[hBd]at ss2;have hv2:RdX G2 (a2.eval (.tmp c)) (.c (.bool false)):=by
    have h2:=ss2.rd c
    have hgs:Zm (Yo (Yo σ.s (some nx) (.c (.tup [.bool false]))) (some c) (.c (.bool false))) c=.c (.bool false):=by simp[Yo,Zm]
    rw[hgs]at h2;exact h2
   show Exit.then _ _ .normal a2 w2;refine wp_seq (wp_cond_false hv2.bool_inv (wp_exit ?_));show Q (.exit id) a2 w2;refine hn w2 G2 a2 (by rw[<- hfin];exact st.trans st2) ?_ ?_
   ·rw[<- hfin];exact ss2
   ·rw[hdf2,put_defers];exact hdf
  ·
   obtain⟨hxm,hxs⟩:=mem_left hx;have hxm:x∈es:=by simpa using hxm
   obtain⟨i,hi,hxi⟩:=List.mem_iff_getElem.1 hxm;have hxi:es[i]?=some x:=by rw[Zb hi,hxi]
   have huns:D8 es seen i:=⟨x,hxi,hxs⟩
   obtain⟨σ',must',may',fu',hstp,hgood',hnd',hact',hall'⟩:∃ σ' must' may' fu',step i σ=some σ'/\Vg step fin fu' must' may' σ'=true/\must'.Nodup/\
     (∀ i'∈must',XU step σ' i'=false->D8 es (seen.push x.born) i')/\(∀ i',D8 es (seen.push x.born) i'->i'∈must'\/i'∈may'):=by
    have uns_of:∀ i',D8 es (seen.push x.born) i'->D8 es seen i':=by
     rintro i' ⟨y,hy,hc'⟩
     rw[XW,ZZ]at hc';exact⟨y,hy,hc'.1⟩
    have uns_ne:∀ i',D8 es (seen.push x.born) i'->i' ≠ i:=by
     rintro i' ⟨y,hy,hc'⟩ rfl
     rw[hxi]at hy;cases hy;rw[XW,ZZ]at hc';simp at hc'
    have uns_to:∀ i',D8 es seen i'->i' ≠ i->D8 es (seen.push x.born) i':=by
     rintro i' ⟨y,hy,hc'⟩ hne
     refine⟨y,hy,?_⟩;rw[XW,hc',Bool.false_or,beq_eq_false_iff_ne];intro hbe;have h1:(es.map (·.born))[i']?=some y.born:=by simp[hy]
     have h2:(es.map (·.born))[i]?=some y.born:=by simp[hxi,hbe]
     have h3:=(Za.1 h1)
     have h4:=(Za.1 h2)
     exact hne ((List.getElem_inj (h₀:=h3.1) (h₁:=h4.1) hst.2.2).1 (by rw[h3.2,h4.2]))
    cases hid:XU step σ i with
    | true=>
     refine⟨σ,must,may,fu+1,EZ hid,?_,hnd,λ i' hi' hx'=>?_,λ i' hi'=>hall i' (uns_of i' hi')⟩
     ·simp only[Vg,Bool.and_eq_true];exact⟨hmay,hgood⟩
     ·refine uns_to i' (hact i' hi' hx') ?_
      rintro rfl
      rw[hid]at hx';cases hx'
    | false=>
     have him:i∈must:=by
      rcases hall i huns with h1 | h1
      ·exact h1
      ·have:=Zz.1 hmay i h1
       rw[hid]at this;cases this
     have hia:i∈must.filter (λ i=>!(XU step σ i)):=List.mem_filter.2 ⟨him,by simp[hid]⟩
     split at hgood
     ·rename_i h1;rw[h1]at hia;simp at hia
     ·rename_i a1 act h1;rw[<- h1]at hgood;have hgi:=Zz.1 hgood i hia
      split at hgi
      ·rename_i σ' hs';refine⟨σ',_,_,fu,hs',hgi,J3 (hnd.sublist List.filter_sublist),λ i' hi' _=>?_,λ i' hi'=>?_⟩
       ·have h2:=wU (hnd.sublist List.filter_sublist) hi'
        have h3:=List.mem_filter.1 (Jq hi')
        exact uns_to i' (hact i' h3.1 (by simpa using h3.2)) h2
       ·have h2:=uns_ne i' hi'
        rcases hall i' (uns_of i' hi') with h3 | h3
        ·cases hid':XU step σ i' with
         | true=>exact .inr (List.mem_append_left _ (List.mem_filter.2 ⟨h3,hid'⟩))
         | false=>exact .inl (qB (List.mem_filter.2 ⟨h3,by simp[hid']⟩) h2)
        ·exact .inr (List.mem_append_right _ h3)
      ·cases hgi
   have hlt:HY es (seen.push x.born) < n:=by
    refine Nat.lt_of_lt_of_le (E4 (p:=λ y:MapEntry=>!seen.contains y.born) (p':=λ y=>!(seen.push x.born).contains y.born) (λ y hy=>?_) (x:=x) ?_ ?_ hxm) hle
    ·simp only[XW,Bool.not_eq_true',ZZ]at hy ⊢;exact hy.1
    ·simp only[hxs,Bool.not_false]
    ·simp[XW]
   subst hstep;unfold Vf at hstp;split at hstp
   case h_2=>cases hstp
   rename_i kc vc hkc hvc;split at hstp
   case h_2=>cases hstp
   rename_i σ1 hr1;have hkey:RdC G x.key kc:=(hks i x kc hxi hkc).mono hge
   have hval:RdC G x.val vc:=(hvs i x vc hxi hvc).mono hge
   have hsb:=MapKept.heap_set (o':=.mapIter (some m) es.length (seen.push x.born) es.length) hd.at_
   have hw1:w1.heap=w.heap:=by rcases hal with rfl | rfl<;>rfl
   have hlt0:=XF hd.at_
   generalize hw2:setBlock w1 bi (.mapIter (some m) es.length (seen.push x.born) es.length)=w2 at hrun;have st2:Step G0 h0 w0 G σ.h w2:=by
    subst hw2;refine st.poke hown hd.own hd.prot hd.pmap ?_ (λ b hne=>?_) ?_ ?_ ?_
    ·simp[setBlock,hw1]
    ·simp only[setBlock,hw1];exact hsb.2 b hne
    ·rcases hal with rfl | rfl<;>rfl
    ·rcases hal with rfl | rfl<;>rfl
    ·rcases hal with rfl | rfl<;>rfl
   have hd2:Hd G σ.h w2 bi (.mapIter (some m) es.length (seen.push x.born) es.length):=by
    subst hw2;exact⟨hd.own,hd.prot,hd.pmap,by simp only[setBlock,hw1];exact hsb.1⟩
   have hrunA:(execOp a.eval oA).run P w=.ok (.value (.tuple #[.bool true,x.key,x.val])) w2:=by
    simp only[execOp,hAo,hev,Sem.run_bind,hrun,Result.andThen];rfl
   rw[Oper.wp,hrunA,Oper.upon_value,hAd];have hs1:SlotsRel G (Yo σ.s (some nx) (.c (.tup [.bool true,kc,vc]))) (a.put (some nx) (.tuple #[.bool true,x.key,x.val])) nt:=hs.put (λ i hi=>by cases hi;exact hnx) (.c _ _ (.tup [.bool true,x.key,x.val] [.bool true,kc,vc] rfl (λ i v c h1 h2=>by
    rcases i with _ | _ | _ | i
    ·simp at h1 h2;subst h1;subst h2;exact .bool true
    ·simp at h1 h2;subst h1;subst h2;exact hkey
    ·simp at h1 h2;subst h1;subst h2;exact hval
    ·simp at h1)))
   simp only[hA1,hwB,if_true]
   left
   refine OpOk.wp st2.inv hs1 (λ i hi=>by rw[hBd]at hi;cases hi;exact hc) (va st2.inv hs1 hg (x:=.tmp nx) (r:=.t nx) rfl (z:=.c (.bool true)) (h':=σ.h) (i:=0) (by simp[evalOp,ZJ,Yo,Zm]) oB hBo) ?_
   intro w3 G3 a3 st3 ss3 hdf3;rw[hBd]at ss3;have hd3:=hd2.step st3
   have hle3:=st3.le st2.inv.new
   have hv3:RdX G3 (a3.eval (.tmp c)) (.c (.bool true)):=by
    have h2:=ss3.rd c
    have hgs:Zm (Yo (Yo σ.s (some nx) (.c (.tup [.bool true,kc,vc]))) (some c) (.c (.bool true))) c=.c (.bool true):=by simp[Yo,Zm]
    rw[hgs]at h2;exact h2
   show Exit.then _ _ .normal a3 w3;refine wp_seq (wp_cond_true hv3.bool_inv (wp_skip ?_));show(Code.block j (.seq (.region ib opsB false) R)).wp P _ a3 w3;refine wp_block (wp_seq (wp_region ?_));have hrg:List.range opsB.size=0::List.range' 1 rB.length:=by
    rw[hBs,List.range_eq_range',List.range'_succ]
   rw[hrg];simp only[wpOps,hB0,hwC,if_true]
   left
   obtain⟨clk3,hm3,hst3⟩:=st3.inv.pmap m es (st3.pmap _ _ (st2.pmap _ _ hpm));have hclk3:clk3=es.length:=hst3.1
   subst hclk3;have hev3:a3.eval (.tmp it)=.pointer (some ⟨bi,0,none⟩):=by
    have h1:=ss3.rd it
    have h2:G3.loc q=some bi:=st3.loc q bi (Nat.lt_of_lt_of_le hql st2.len) (st2.loc q bi hql hq)
    show a3.tmps.getD it undef=_;have hgs:Zm (Yo (Yo σ.s (some nx) (.c (.tup [.bool true,kc,vc]))) (some c) (.c (.bool true))) it=.iter q\/it=c\/it=nx:=by
     by_cases h1:it=c
     ·exact .inr (.inl h1)
     ·by_cases h2:it=nx
      ·exact .inr (.inr h2)
      ·left;simp only[Yo,XA];rw[if_neg (λ e=>h1 e.symm),if_neg (λ e=>h2 e.symm)];exact hit
    rcases hgs with hgs | rfl | rfl
    ·rw[hgs]at h1;generalize a3.tmps.getD it undef=v at h1;cases h1 with
     | iter _ b' hb'=>rw[h2]at hb';cases hb';rfl
    ·exact absurd rfl hic
    ·exact absurd rfl hin
   have hrunC:=run_entry_at (P:=P) w3 bi m es.length seen es.toArray es.length x hd3.at_ hm3 (by simpa using hxm) (by simpa using hst3.2.2)
   have hrunC':(execOp a3.eval oC).run P w3=.ok (.value (.tuple #[x.key,x.val])) w3:=by
    simp only[execOp,hCo,hev3,Sem.run_bind,hrunC,Result.andThen];rfl
   rw[Oper.wp,hrunC',Oper.upon_value,hCd];have ss4:SlotsRel G3 (Yo (Yo (Yo σ.s (some nx) (.c (.tup [.bool true,kc,vc]))) (some c) (.c (.bool true))) (some en) (.c (.tup [kc,vc]))) (a3.put (some en) (.tuple #[x.key,x.val])) nt:=ss3.put (λ i hi=>by cases hi;exact hen) (.c _ _ (.tup [x.key,x.val] [kc,vc] rfl (λ i v c h1 h2=>by
    rcases i with _ | _ | i
    ·simp at h1 h2;subst h1;subst h2;exact hkey.mono hle3
    ·simp at h1 h2;subst h1;subst h2;exact hval.mono hle3
    ·simp at h1)))
   refine yw hC hl opsB rB.length rB (Nat.le_refl _) rops 1 _ _ σ1 G3 w3 _ hrB hdr hr1 st3.inv ss4 (hg.mono hle3) ?_;intro w4 G4 a4 st4 ss5 hdf4;show R.wp P _ a4 w4;have st24:=st2.trans (st3.trans st4)
   have hd4:=hd3.step st4
   have go:∀ (x5:Exit) (σ2:St),Yn e N pb σ1=some (x5,σ2)->UG it q (clean (some live) h0.length σ2)=some σ'->(x5=.normal\/x5=.exit j)->R.wp P (Exit.inBlock j (Exit.then (λ a' w'=>∃ e' a'' w'',Q e' a'' w''/\Arrives P (lone (b.at a' (.code (.seq (.region ia opsA false) (.seq (.cond (.tmp c) .skip (.exit id)) (.block j (.seq (.region ib opsB false) R))))::.inLoop (.seq (.region ia opsA false) (.seq (.cond (.tmp c) .skip (.exit id)) (.block j (.seq (.region ib opsB false) R))))::k)) cs w') b k cs e' a'' w'') Q)) a4 w4:=by
    intro x5 σ2 he hkp hx5;refine hb R σ1.s σ1.h x5 σ2 G4 w4 a4 _ hR he st4.inv ss5 ((hg.mono hle3).mono (st4.le st3.inv.new)) ?_;intro w5 G5 a5 st5 ss6 hdf5;have fin5:∃ e' a'' w'',Q e' a'' w''/\Arrives P (lone (b.at a5 (.code (.seq (.region ia opsA false) (.seq (.cond (.tmp c) .skip (.exit id)) (.block j (.seq (.region ib opsB false) R))))::.inLoop (.seq (.region ia opsA false) (.seq (.cond (.tmp c) .skip (.exit id)) (.block j (.seq (.region ib opsB false) R))))::k)) cs w5) b k cs e' a'' w'':=by
     have hd5:=hd4.step st5
     obtain⟨G6,st6,ss7,p1,p2,p3⟩:=C9 (st24.trans st5) (Nat.le_refl _) ss6 live;obtain⟨hk1,hk2⟩:Zm (clean (some live) h0.length σ2).s it=.iter q/\clean (some live) h0.length σ2=σ':=by
      unfold UG at hkp;split at hkp
      ·rename_i q' hq';cases hqq:Nat.beq q' q with
       | false=>rw[hqq]at hkp;cases hkp
       | true=>
        rw[hqq]at hkp;cases hkp;have:=Zd hqq
        subst this;exact⟨hq',rfl⟩
      ·cases hkp
     have hkk:clean (some live) h0.length ⟨σ2.s,σ2.h⟩=σ':=hk2
     rw[hkk]at st6 ss7 p3;rw[hk2]at hk1;refine ih _ hlt (seen.push x.born) must' may' fu' σ' G6 w5 a5 (Nat.le_refl _) hgood' hnd' hact' hall' hk1 st6 ss7 ?_ ⟨λ h=>hd5.own (p3 _ h),λ o=>by rw[p1];exact hd5.prot o,by rw[p2];exact hd5.pmap,hd5.at_⟩
     rw[hdf5,hdf4,put_defers,hdf3,put_defers];exact hdf
    rcases hx5 with rfl | rfl
    ·exact fin5
    ·simp only[qz,Exit.inBlock,if_true];exact fin5
   split at hstp
   ·rename_i σ2 he;exact go .normal σ2 he hstp (.inl rfl)
   ·rename_i i5 σ2 he;cases hbq:Nat.beq i5 j with
    | false=>rw[hbq]at hstp;cases hstp
    | true=>
     rw[hbq]at hstp;have:=Zd hbq
     subst this;exact go (.exit i5) σ2 he hstp (.inr rfl)
   ·cases hstp
 obtain⟨e1,a1,w1,hq1,harr⟩:=key b (.inLoop (.seq (.region ia opsA false) (.seq (.cond (.tmp c) .skip (.exit id)) (.block j (.seq (.region ib opsB false) R))))::k) cs;cases e1 with
 | normal=>
  obtain⟨e2,a2,w2,hq2,harr2⟩:=hq1;exact⟨e2,a2,w2,hq2,.of_steps (Steps.trans harr (.one step_inLoop)) harr2⟩
 | exit i=>exact⟨_,a1,w1,hq1,.pass (x:=.inLoop _) rfl (λ _ _=>.inl (by simp)) harr⟩
 | goto l=>exact⟨_,a1,w1,hq1,.pass (x:=.inLoop _) rfl (λ _ _=>.inl (by simp)) harr⟩
 | ret=>exact⟨_,a1,w1,hq1,.pass (x:=.inLoop _) rfl (λ _ _=>.inl (by simp)) harr⟩
 | panic ch=>exact⟨_,a1,w1,hq1,.pass (x:=.inLoop _) rfl (λ _ _=>.inl (by simp)) harr⟩
 | outgrown=>exact⟨_,a1,w1,hq1,.pass (x:=.inLoop _) rfl (λ _ _=>.inl (by simp)) harr⟩
theorem B7{N:Nat}{pb:PCode}(hb:qV P e nt N pb)(hC:CallOk P e)(hl:Xd P e)(live:List Nat)(it nx c en id j:Nat)(rops:List POper):qV P e nt N (.mloop live it nx c en id j rops pb):=by
 intro code s h x σ' G w a Q ht hr hi hs hg hn;simp only[PCode.erase]at ht;rcases Xi ht with ⟨_,hp⟩|⟨_,_,_,_,_,hp⟩|⟨_,_,_,_,_,_,_,hp⟩|⟨_,_,_,_,_,_,_,hp⟩|⟨_,_,_,_,_,_,_,_,_,_,hp⟩|⟨_,_,_,_,_,hp⟩|⟨B,pb',rfl,h1,hp⟩|⟨_,_,hp⟩|⟨_,hp⟩|hp<;>try (cases hp;done)
 simp only[PCode.loop.injEq,true_and]at hp;subst hp;rcases Xi h1 with ⟨_,hp⟩|⟨_,_,_,_,_,hp⟩|⟨_,_,_,_,_,_,_,hp⟩|⟨A,B1,pa,pb1,rfl,h2,h3,hp⟩|⟨_,_,_,_,_,_,_,_,_,_,hp⟩|⟨_,_,_,_,_,hp⟩|⟨_,_,_,_,hp⟩|⟨_,_,hp⟩|⟨_,hp⟩|hp<;>try (cases hp;done)
 simp only[PCode.seq.injEq]at hp;obtain⟨rfl,rfl⟩:=hp;rcases Xi h2 with ⟨_,hp⟩|⟨ia,opsA,la,rfl,hA,hp⟩|⟨_,_,_,_,_,_,_,hp⟩|⟨_,_,_,_,_,_,_,hp⟩|⟨_,_,_,_,_,_,_,_,_,_,hp⟩|⟨_,_,_,_,_,hp⟩|⟨_,_,_,_,hp⟩|⟨_,_,hp⟩|⟨_,hp⟩|hp<;>try (cases hp;done)
 simp only[PCode.ops.injEq]at hp;subst hp;rcases Xi h3 with ⟨_,hp⟩|⟨_,_,_,_,_,hp⟩|⟨_,_,_,_,_,_,_,hp⟩|⟨C1,C2,pc1,pc2,rfl,h4,h5,hp⟩|⟨_,_,_,_,_,_,_,_,_,_,hp⟩|⟨_,_,_,_,_,hp⟩|⟨_,_,_,_,hp⟩|⟨_,_,hp⟩|⟨_,hp⟩|hp<;>try (cases hp;done)
 simp only[PCode.seq.injEq]at hp;obtain⟨rfl,rfl⟩:=hp;rcases Xi h4 with ⟨_,hp⟩|⟨_,_,_,_,_,hp⟩|⟨_,_,_,_,_,_,_,hp⟩|⟨_,_,_,_,_,_,_,hp⟩|⟨y,T,F,r,pT,pF,rfl,h6,h7,h8,hp⟩|⟨_,_,_,_,_,hp⟩|⟨_,_,_,_,hp⟩|⟨_,_,hp⟩|⟨_,hp⟩|hp<;>try (cases hp;done)
 simp only[PCode.cond.injEq]at hp;obtain⟨rfl,rfl,rfl⟩:=hp;have hy:=Gg h6
 subst hy;rcases Xi h7 with ⟨rfl,_⟩|⟨_,_,_,_,_,hp⟩|⟨_,_,_,_,_,_,_,hp⟩|⟨_,_,_,_,_,_,_,hp⟩|⟨_,_,_,_,_,_,_,_,_,_,hp⟩|⟨_,_,_,_,_,hp⟩|⟨_,_,_,_,hp⟩|⟨_,_,hp⟩|⟨_,hp⟩|hp<;>try (cases hp;done)
 rcases Xi h8 with ⟨_,hp⟩|⟨_,_,_,_,_,hp⟩|⟨_,_,_,_,_,_,_,hp⟩|⟨_,_,_,_,_,_,_,hp⟩|⟨_,_,_,_,_,_,_,_,_,_,hp⟩|⟨_,_,_,_,_,hp⟩|⟨_,_,_,_,hp⟩|⟨id',rfl,hp⟩|⟨_,hp⟩|hp<;>try (cases hp;done)
 simp only[PCode.exit.injEq]at hp;subst hp;rcases Xi h5 with ⟨_,hp⟩|⟨_,_,_,_,_,hp⟩|⟨_,_,_,_,_,_,_,hp⟩|⟨_,_,_,_,_,_,_,hp⟩|⟨_,_,_,_,_,_,_,_,_,_,hp⟩|⟨j',D,pD,rfl,h9,hp⟩|⟨_,_,_,_,hp⟩|⟨_,_,hp⟩|⟨_,hp⟩|hp<;>try (cases hp;done)
 simp only[PCode.block.injEq]at hp;obtain⟨rfl,rfl⟩:=hp;rcases Xi h9 with ⟨_,hp⟩|⟨_,_,_,_,_,hp⟩|⟨_,_,_,_,_,_,_,hp⟩|⟨E1,R,pe,pr,rfl,h10,hR,hp⟩|⟨_,_,_,_,_,_,_,_,_,_,hp⟩|⟨_,_,_,_,_,hp⟩|⟨_,_,_,_,hp⟩|⟨_,_,hp⟩|⟨_,hp⟩|hp<;>try (cases hp;done)
 simp only[PCode.seq.injEq]at hp;obtain⟨rfl,rfl⟩:=hp;rcases Xi h10 with ⟨_,hp⟩|⟨ib,opsB,lb,rfl,hB,hp⟩|⟨_,_,_,_,_,_,_,hp⟩|⟨_,_,_,_,_,_,_,hp⟩|⟨_,_,_,_,_,_,_,_,_,_,hp⟩|⟨_,_,_,_,_,hp⟩|⟨_,_,_,_,hp⟩|⟨_,_,hp⟩|⟨_,hp⟩|hp<;>try (cases hp;done)
 simp only[PCode.ops.injEq]at hp;subst hp;obtain⟨oA,rA,eA,tA,hA2⟩:=VY hA (λ _ _ _ _ _ h=>by cases h)
 obtain⟨oB,rA2,eA2,tB,hA3⟩:=VY hA2 (λ _ _ _ _ _ h=>by cases h)
 have eA3:rA2=[]:=by
  cases rA2 with
  | nil=>rfl
  | cons o l=>
   exfalso;cases l with
   | nil=>simp only[Yp]at hA3;split at hA3<;>cases hA3
   | cons o2 l=>
    simp only[Yp]at hA3;repeat' (first|(cases hA3;done)|split at hA3)
 subst eA3;obtain⟨oC,rB,eB,tC,hB2⟩:=VY hB (λ _ _ _ _ _ h=>by cases h)
 obtain⟨a1,a2,a3,a4⟩:=Uw tA (λ _ _ _ _ _ _ h=>by cases h) (λ _ _ _ h=>by cases h) (λ _ _ _ _ h=>by cases h)
 obtain⟨b1,b2,b3,b4⟩:=Uw tB (λ _ _ _ _ _ _ h=>by cases h) (λ _ _ _ h=>by cases h) (λ _ _ _ _ h=>by cases h)
 obtain⟨c1,c2,c3,c4⟩:=Uw tC (λ _ _ _ _ _ _ h=>by cases h) (λ _ _ _ h=>by cases h) (λ _ _ _ _ h=>by cases h)
 simp only[Yn,vf]at hr;cases hci:(Nat.beq it c||Nat.beq it nx) with
 | true=>rw[hci]at hr;cases hr
 | false=>
 rw[hci]at hr;simp only[cond_false]at hr;simp only[ZZ]at hci;split at hr
 case h_2=>cases hr
 rename_i q hq;split at hr
 case h_2=>cases hr
 rename_i ks vs ho;split at hr
 case h_2=>cases hr
 rename_i σ0 hk0;split at hr
 case h_2=>cases hr
 rename_i fin hf;cases hgood:Vg (Vf e live h.length it q nx c en j rops (Yn e N pb) ks vs) fin (ks.length+1) (List.range ks.length) [] σ0 with
 | false=>rw[hgood]at hr;cases hr
 | true=>
 rw[hgood]at hr;simp only[cond_true,Option.some.injEq,Prod.mk.injEq]at hr;obtain⟨rfl,rfl⟩:=hr;obtain⟨_,bi,m,es,g1,g2,g3,g4,g5,g6,g7,g8,g9⟩:=hi.ob q _ ho;have hblk:blk G q (.miter ks vs 0)=some bi:=g1
 obtain⟨stk,hno⟩:=AH hi ho hblk;have hql:=(Za.1 ho).1
 obtain⟨G1,st1,ss1,p1,p2,p3⟩:=C9 (L:=h.length) stk (Nat.le_refl _) hs live;obtain⟨hk1,hk2⟩:Zm σ0.s it=.iter q/\clean (some live) h.length ⟨s,h.set q .dead⟩=σ0:=by
  unfold UG at hk0;split at hk0
  ·rename_i q' hq';cases hqq:Nat.beq q' q with
   | false=>rw[hqq]at hk0;cases hk0
   | true=>
    rw[hqq]at hk0;have hk0:=Option.some.inj hk0
    have:=Zd hqq
    subst this;exact⟨by rw[<- hk0];exact hq',hk0⟩
  ·cases hk0
 rw[hk2]at st1 ss1 p3;intro b k cs;obtain⟨e',a',w',hq',harr⟩:=B8 (ia:=ia) (ib:=ib) (id:=id) hb hC hl (by rw[eA,eA2]) (gx a4) a1 a2 a3 (A0 b4) b1 b2 b3 eB (jS c4) c1 c2 c3 hB2 hR
  (λ h=>by rw[h]at hci;simp at hci) (λ h=>by rw[h]at hci;simp at hci) (live:=live) (Q:=Q) hi hg g1 hql ⟨q,_,ho,hblk⟩ g3 g4 g5 g6 g7 hn b k cs
  (HY es #[]) #[] (List.range ks.length) [] (ks.length+1) σ0 G1 w a (Nat.le_refl _) hgood List.nodup_range (λ i hi' _=>by
   rw[List.mem_range,<- g4]at hi';exact⟨es[i],Zb hi',by simp⟩) (λ i hu=>by
   obtain⟨y,hy,_⟩:=hu;exact .inl (List.mem_range.2 (by rw[<- g4];exact(Za.1 hy).1))) hk1 st1 ss1 rfl ⟨λ h=>hno (p3 _ h),λ o=>by rw[p1];exact g8 o,by rw[p2];exact g9,g2⟩
 exact⟨e',a',w',hq',.of_steps (.one step_loop) harr⟩
end
end
section
section
variable {P:Program} {e:Env} {nt:Nat}
theorem uT(hC:CallOk P e)(hl:Xd P e)(hD:D0 P e)(N:Nat):∀ pc,qV P e nt N pc:=by
 intro pc
 induction pc with
 | skip=>
  intro code s h x σ' G w a Q ht hr hi hs hg hn;simp only[Yn,Option.some.injEq,Prod.mk.injEq]at hr;obtain⟨rfl,rfl⟩:=hr;rcases Xi ht with ⟨rfl,_⟩|⟨_,_,_,_,_,hp⟩|⟨_,_,_,_,_,_,_,hp⟩|⟨_,_,_,_,_,_,_,hp⟩|⟨_,_,_,_,_,_,_,_,_,_,hp⟩|⟨_,_,_,_,_,hp⟩|⟨_,_,_,_,hp⟩|⟨_,_,hp⟩|⟨_,hp⟩|hp<;>try (cases hp;done)
  exact wp_skip (hn w G a (Y5 hi) hs rfl)
 | ops l=>
  intro code s h x σ' G w a Q ht hr hi hs hg hn;rcases Xi ht with ⟨_,hp⟩|⟨id,ops,l',rfl,h1,hp⟩|⟨_,_,_,_,_,_,_,hp⟩|⟨_,_,_,_,_,_,_,hp⟩|⟨_,_,_,_,_,_,_,_,_,_,hp⟩|⟨_,_,_,_,_,hp⟩|⟨_,_,_,_,hp⟩|⟨_,_,hp⟩|⟨_,hp⟩|hp<;>try (cases hp;done)
  ·simp only[PCode.erase,PCode.ops.injEq]at hp;subst hp;simp only[Yn]at hr;split at hr
   ·rename_i σ1 he;simp only[Option.some.injEq,Prod.mk.injEq]at hr;obtain⟨rfl,rfl⟩:=hr;exact j8 hC hl h1 he hi hs hg hn
   ·cases hr
  ·simp only[PCode.erase,PCode.ops.injEq]at hp;subst hp;rw[Ao]at hr;cases hr
 | raw l=>
  intro code s h x σ' G w a Q ht hr hi hs hg hn;rcases Xi ht with ⟨_,hp⟩|⟨id,ops,l',rfl,h1,hp⟩|⟨_,_,_,_,_,_,_,hp⟩|⟨_,_,_,_,_,_,_,hp⟩|⟨_,_,_,_,_,_,_,_,_,_,hp⟩|⟨_,_,_,_,_,hp⟩|⟨_,_,_,_,hp⟩|⟨_,_,hp⟩|⟨_,hp⟩|hp<;>try (cases hp;done)
  ·simp only[PCode.erase,PCode.ops.injEq]at hp;subst hp;simp only[Yn]at hr;split at hr
   ·rename_i σ1 he;simp only[Option.some.injEq,Prod.mk.injEq]at hr;obtain⟨rfl,rfl⟩:=hr;exact j7 hC hl h1 he hi hs hg hn
   ·cases hr
  ·simp only[PCode.erase,PCode.ops.injEq]at hp;subst hp;rw[vE]at hr;cases hr
 | dops l anc=>
  intro code s h x σ' G w a Q ht hr hi hs hg hn;rcases Xi ht with ⟨_,hp⟩|⟨_,_,_,_,_,hp⟩|⟨id,ops,l',anc',rfl,h1,h2,hp⟩|⟨_,_,_,_,_,_,_,hp⟩|⟨_,_,_,_,_,_,_,_,_,_,hp⟩|⟨_,_,_,_,_,hp⟩|⟨_,_,_,_,hp⟩|⟨_,_,hp⟩|⟨_,hp⟩|hp<;>try (cases hp;done)
  simp only[PCode.erase,PCode.dops.injEq]at hp;obtain⟨rfl,rfl⟩:=hp;simp only[Yn]at hr;split at hr
  ·rename_i σ1 he;simp only[Option.some.injEq,Prod.mk.injEq]at hr;obtain⟨rfl,rfl⟩:=hr;exact hD nt id ops l anc s h σ1 G w a Q h1 h2 he hi hs hg hn
  ·cases hr
 | seq pa pb iha ihb=>
  intro code s h x σ' G w a Q ht hr hi hs hg hn;rcases Xi ht with ⟨_,hp⟩|⟨_,_,_,_,_,hp⟩|⟨_,_,_,_,_,_,_,hp⟩|⟨A,B,pa',pb',rfl,h1,h2,hp⟩|⟨_,_,_,_,_,_,_,_,_,_,hp⟩|⟨_,_,_,_,_,hp⟩|⟨_,_,_,_,hp⟩|⟨_,_,hp⟩|⟨_,hp⟩|hp<;>try (cases hp;done)
  simp only[PCode.erase,PCode.seq.injEq]at hp;obtain⟨rfl,rfl⟩:=hp;simp only[Yn]at hr;refine wp_seq ?_;split at hr
  ·rename_i σ1 he;refine iha A s h .normal σ1 G w a _ h1 he hi hs hg ?_;intro w1 G1 a1 st1 ss1 hdf1;refine ihb B σ1.s σ1.h x σ' G1 w1 a1 Q h2 hr st1.inv ss1 (hg.mono (st1.le hi.new)) ?_;intro w2 G2 a2 st2 ss2 hdf2;exact hn w2 G2 a2 (st1.trans st2) ss2 (hdf2.trans hdf1)
  ·rename_i hnr;refine iha A s h x σ' G w a _ h1 hr hi hs hg ?_;intro w1 G1 a1 st1 ss1 hdf1;have hx:x ≠ .normal:=by rintro rfl;exact hnr _ hr
   cases x with
   | normal=>exact absurd rfl hx
   | exit id=>exact hn w1 G1 a1 st1 ss1 hdf1
   | ret=>exact hn w1 G1 a1 st1 ss1 hdf1
 | cond c pa pb iha ihb=>
  intro code s h x σ' G w a Q ht hr hi hs hg hn;rcases Xi ht with ⟨_,hp⟩|⟨_,_,_,_,_,hp⟩|⟨_,_,_,_,_,_,_,hp⟩|⟨_,_,_,_,_,_,_,hp⟩|⟨y,A,B,r,pa',pb',rfl,h0,h1,h2,hp⟩|⟨_,_,_,_,_,hp⟩|⟨_,_,_,_,hp⟩|⟨_,_,hp⟩|⟨_,hp⟩|hp<;>try (cases hp;done)
  simp only[PCode.erase,PCode.cond.injEq]at hp;obtain⟨rfl,rfl,rfl⟩:=hp;have hv:=ZC hs hg h0
  simp only[Yn]at hr;split at hr
  ·rename_i e1;rw[e1]at hv;exact wp_cond_true hv.bool_inv (iha A s h x σ' G w a Q h1 hr hi hs hg hn)
  ·rename_i e1;rw[e1]at hv;exact wp_cond_false hv.bool_inv (ihb B s h x σ' G w a Q h2 hr hi hs hg hn)
  ·cases hr
 | block id pb ih=>
  intro code s h x σ' G w a Q ht hr hi hs hg hn;rcases Xi ht with ⟨_,hp⟩|⟨_,_,_,_,_,hp⟩|⟨_,_,_,_,_,_,_,hp⟩|⟨_,_,_,_,_,_,_,hp⟩|⟨_,_,_,_,_,_,_,_,_,_,hp⟩|⟨id',B,pb',rfl,h1,hp⟩|⟨_,_,_,_,hp⟩|⟨_,_,hp⟩|⟨_,hp⟩|hp<;>try (cases hp;done)
  simp only[PCode.erase,PCode.block.injEq]at hp;obtain⟨rfl,rfl⟩:=hp;simp only[Yn]at hr;refine wp_block ?_;split at hr
  ·rename_i i σ1 he;refine ih B s h (.exit i) σ1 G w a _ h1 he hi hs hg ?_;cases hb:Nat.beq i id with
   | true=>
    rw[hb]at hr;simp only[cond_true,Option.some.injEq,Prod.mk.injEq]at hr;obtain⟨rfl,rfl⟩:=hr;intro w1 G1 a1 st1 ss1 hdf1;simp only[qz,Exit.inBlock];rw[if_pos (Zd hb)];exact hn w1 G1 a1 st1 ss1 hdf1
   | false=>
    rw[hb]at hr;simp only[cond_false,Option.some.injEq,Prod.mk.injEq]at hr;obtain⟨rfl,rfl⟩:=hr;intro w1 G1 a1 st1 ss1 hdf1;simp only[qz,Exit.inBlock];rw[if_neg (by rintro rfl;simp at hb)]
    exact hn w1 G1 a1 st1 ss1 hdf1
  ·rename_i hnr;refine ih B s h x σ' G w a _ h1 hr hi hs hg ?_;intro w1 G1 a1 st1 ss1 hdf1;cases x with
   | normal=>exact hn w1 G1 a1 st1 ss1 hdf1
   | exit i=>exact absurd hr (hnr i σ')
   | ret=>exact hn w1 G1 a1 st1 ss1 hdf1
 | loop live pb ih=>
  intro code s h x σ' G w a Q ht hr hi hs hg hn;rcases Xi ht with ⟨_,hp⟩|⟨_,_,_,_,_,hp⟩|⟨_,_,_,_,_,_,_,hp⟩|⟨_,_,_,_,_,_,_,hp⟩|⟨_,_,_,_,_,_,_,_,_,_,hp⟩|⟨_,_,_,_,_,hp⟩|⟨B,pb',rfl,h1,hp⟩|⟨_,_,hp⟩|⟨_,hp⟩|hp<;>try (cases hp;done)
  simp only[PCode.erase,PCode.loop.injEq,true_and]at hp;subst hp;simp only[Yn]at hr;intro b k cs;obtain⟨e',a',w',hq,harr⟩:=uH ih h1 hi hg hn b k cs N s h G w a hr (Y5 hi) hs rfl;exact⟨e',a',w',hq,.of_steps (.one step_loop) harr⟩
 | exit id=>
  intro code s h x σ' G w a Q ht hr hi hs hg hn;simp only[Yn,Option.some.injEq,Prod.mk.injEq]at hr;obtain⟨rfl,rfl⟩:=hr;rcases Xi ht with ⟨_,hp⟩|⟨_,_,_,_,_,hp⟩|⟨_,_,_,_,_,_,_,hp⟩|⟨_,_,_,_,_,_,_,hp⟩|⟨_,_,_,_,_,_,_,_,_,_,hp⟩|⟨_,_,_,_,_,hp⟩|⟨_,_,_,_,hp⟩|⟨id',rfl,hp⟩|⟨_,hp⟩|hp<;>try (cases hp;done)
  simp only[PCode.erase,PCode.exit.injEq]at hp;subst hp;exact wp_exit (hn w G a (Y5 hi) hs rfl)
 | ret=>
  intro code s h x σ' G w a Q ht hr hi hs hg hn;simp only[Yn,Option.some.injEq,Prod.mk.injEq]at hr;obtain⟨rfl,rfl⟩:=hr;rcases Xi ht with ⟨_,hp⟩|⟨_,_,_,_,_,hp⟩|⟨_,_,_,_,_,_,_,hp⟩|⟨_,_,_,_,_,_,_,hp⟩|⟨_,_,_,_,_,_,_,_,_,_,hp⟩|⟨_,_,_,_,_,hp⟩|⟨_,_,_,_,hp⟩|⟨_,_,hp⟩|⟨rfl,hp⟩|hp<;>try (cases hp;done)
  exact wp_ret (hn w G a (Y5 hi) hs rfl)
 | live l c ih=>
  intro code s h x σ' G w a Q ht hr hi hs hg hn;simp only[Yn]at hr;exact ih code (ZK l s) h x σ' G w a Q ht hr hi (hs.prune l) hg hn
 | mloop live it nx c en id j l pb ih=>exact B7 ih hC hl live it nx c en id j l
end
end
section
section
variable {P:Program} {e:Env} {G:Gh} {h h':Mem} {w:World} {s:Zf} {a:Act} {nt:Nat}
theorem Uz(hi:Inv G h w)(hs:SlotsRel G s a nt):∀ {l:List ResultVar} {res:List PRes} {rs:List X},Q1 P l=some res->Pi.results ⟨s,h⟩ res=some rs->
  ∃ vs,(l.mapM (λ r:ResultVar=>match r with
   | .tmp t=>(pure (a.tmps.getD t undef):Sem Value)
   | .cell c t=>do loadVar t (<- asAddr (a.tmps.getD c undef)))).run P w=.ok vs w/\RdL G vs rs
 | [],res,rs,ht,hr=>by
  simp[Q1]at ht;subst ht;simp[Pi.results]at hr;subst hr;exact⟨[],by simp,RdL.nil G⟩
 | .tmp t::l,res,rs,ht,hr=>by
  simp only[Q1]at ht;split at ht
  ·rename_i q hq;cases ht;simp only[Pi.results]at hr;split at hr
   ·rename_i us hus;cases hr;obtain⟨vs,k1,k2⟩:=Uz hi hs hq hus;exact⟨_,by simp only[List.mapM_cons,Sem.run_bind,Sem.run_pure,Result.andThen,k1],RdL.cons (hs.rd t) k2⟩
   ·cases hr
  ·cases ht
 | .cell c t::l,res,rs,ht,hr=>by
  simp only[Q1]at ht;split at ht
  ·rename_i q hq;split at ht
   ·rename_i hok;cases ht;simp only[Pi.results]at hr;split at hr
    ·rename_i id off hp;have hv:=hs.rd c
     rw[hp]at hv;obtain⟨b,hb,hv⟩:=hv.ptr_inv;split at hr
     ·rename_i cs hm;obtain⟨t',hm⟩:=Xy hm;cases hbl:Nat.ble (off+Zy P t) cs.length with
      | false=>rw[hbl]at hr;simp at hr
      | true=>
       rw[hbl]at hr;simp only[cond_true]at hr;split at hr
       ·rename_i x us hof hus;cases hr;obtain⟨vs,k1,k2⟩:=Uz hi hs hq hus;have hle:=Zg hbl
        obtain⟨ws,fr,h2,h3,h4,_⟩:=hi.cellsAt hm hb;have hlen:=h3.1
        obtain⟨v,hr,hvx⟩:=Kl (w:=w) hok.1 hok.2 (b:=b) (off:=off) (vs:=(ws.toList.drop off).take (Zy P t)) (by simp at hlen ⊢;omega) (λ i v hv'=>by
          rw[List.getElem?_take]at hv';split at hv'
          ·rw[List.getElem?_drop]at hv';rw[XN h2];simpa using hv'
          ·cases hv') ((h3.drop off).take _) ((h4.drop off).take _) hof
        refine⟨v::vs,?_,RdL.cons hvx k2⟩;have ha:(asAddr (a.tmps.getD c undef)).run P w=.ok ⟨b,off,none⟩ w:=by rw[hv];rfl
        simp only[List.mapM_cons,Sem.run_bind,ha,Sem.run_pure,Result.andThen,hr,k1]
       ·cases hr
     ·cases hr
    ·cases hr
   ·cases ht
  ·cases ht
def In(vs:List Value):Value:=match vs with | [v]=>v | l=>.tuple l.toArray
theorem zz{fn:Func}{vs:List Value} (hr:(fn.results.toList.mapM (λ r:ResultVar=>match r with
   | .tmp t=>(pure (a.tmps.getD t undef):Sem Value)
   | .cell c t=>do loadVar t (<- asAddr (a.tmps.getD c undef)))).run P w=.ok vs w):(Go.results fn a.tmps).run P w=.ok (In vs) w:=by
 have hm:(fn.results.mapM (λ r:ResultVar=>match r with
   | .tmp t=>(pure (a.tmps.getD t undef):Sem Value)
   | .cell c t=>do loadVar t (<- asAddr (a.tmps.getD c undef)))).run P w=.ok vs.toArray w:=by
  rw[Array.mapM_eq_mapM_toList,map_eq_pure_bind];simp only[Sem.run_bind,hr,Result.andThen,Sem.run_pure]
 have e:(Go.results fn a.tmps).run P w=((Result.ok vs.toArray w:Result (Array Value)).andThen λ vs w'=>(pure (if h:vs.size=1 then vs[0] else .tuple vs):Sem Value).run P w'):=by
  rw[<- hm];simp only[Go.results,Sem.run_bind];rfl
 rw[e];simp only[Result.andThen,Sem.run_pure]
 match vs with
 | []=>rfl
 | [v]=>rfl
 | _::_::_=>simp[In]
theorem QS{vs:List Value}{rs:List X}(h:RdL G vs rs):RdX G (In vs) (oneOf rs):=by
 match vs,rs,h with
 | [],[],h=>exact qR h
 | [v],[x],h=>exact h.2 0 v x rfl rfl
 | v::u::vs,x::y::xs,h=>exact qR h
 | [],_::_,h=>exact absurd h.1 (by simp)
 | [_],[],h=>exact absurd h.1 (by simp)
 | [_],_::_::_,h=>exact absurd h.1 (by simp)
 | _::_::_,[],h=>exact absurd h.1 (by simp)
 | _::_::_,[_],h=>exact absurd h.1 (by simp)
open Classical in
noncomputable def Gh.froze (G:Gh) (h:Mem) (w:World) (m:Nat):Gh where
 prot:=λ b o=>match G.prot b o with
  | some v=>some v
  | none=>if ∃ id t cs,m<=id/\h[id]?=some (.cells t cs)/\G.loc id=some b then w.cell? ⟨b,o,none⟩ else none
 pmap:=λ b=>match G.pmap b with
  | some es=>some es
  | none=>if ∃ id ks vs,m<=id/\h[id]?=some (.map ks vs)/\G.loc id=some b then(match w.heap[b]? with | some (.map es _)=>some es.toList | _=>none) else none
 loc:=λ i=>if i < m then G.loc i else none
 tip:=λ i v=>if i < m then G.tip i v else none
theorem Kd(G:Gh)(h:Mem)(w:World)(m:Nat):G.sub (G.froze h w m):=by
 refine⟨λ b o v hv=>?_,λ b es hv=>?_⟩
 ·simp[Gh.froze,hv]
 ·simp[Gh.froze,hv]
theorem Vw{m b o:Nat}{v:Value}(hv:(G.froze h w m).prot b o=some v):G.prot b o=some v\/(∃ id t cs,m<=id/\h[id]?=some (.cells t cs)/\G.loc id=some b/\w.cell? ⟨b,o,none⟩=some v):=by
 simp only[Gh.froze]at hv;split at hv
 ·rename_i u hu;cases hv;exact .inl hu
 ·split at hv
  ·rename_i hex;obtain⟨id,t,cs,h1,h2,h3⟩:=hex;exact .inr ⟨id,t,cs,h1,h2,h3,hv⟩
  ·cases hv
theorem Vx{m b:Nat}{es:List MapEntry}(hv:(G.froze h w m).pmap b=some es):G.pmap b=some es\/(∃ id ks vs es' clk,m<=id/\h[id]?=some (.map ks vs)/\G.loc id=some b/\w.heap[b]?=some (.map es' clk)/\es=es'.toList):=by
 simp only[Gh.froze]at hv;split at hv
 ·rename_i u hu;cases hv;exact .inl hu
 ·split at hv
  ·rename_i hex;obtain⟨id,ks,vs,h1,h2,h3⟩:=hex;split at hv
   ·rename_i es' clk hb;cases hv;exact .inr ⟨id,ks,vs,es',clk,h1,h2,h3,hb,rfl⟩
   ·cases hv
  ·cases hv
theorem Step.froze{G0:Gh}{h0:Mem}{w0:World}(st:Step G0 h0 w0 G h w){m:Nat}(hL:h0.length<=m)(hLh:m<=h.length)(hm:ZL m (h.take m)=true):Step G0 h0 w0 (G.froze h w m) (h.take m) w:=by
 have get:∀ {i o},(h.take m)[i]?=some o->i < m/\h[i]?=some o:=by
  intro i o hi;rw[List.getElem?_take]at hi;split at hi
  ·exact⟨‹_›,hi⟩
  ·cases hi
 have sub:=Kd G h w m
 have blkf:∀ {id b:Nat} {o:Ob},blk (G.froze h w m) id o=some b->blk G id o=some b:=by
  intro id b o hb;exact QP (L:=m) (by cases o<;>exact hb)
 have apart:∀ {id b:Nat} {o:Ob},id < m->h[id]?=some o->blk G id o=some b->∀ id',m<=id'->∀ o',h[id']?=some o'->blk G id' o' ≠ some b:=by
  intro id b o hid ho hb id' hid' o' ho' hb';have:=st.inv.inj id id' o o' b b ho ho' hb hb' rfl
  omega
 refine⟨⟨λ b o v hv=>?_,λ b es hv=>?_,λ id o ho=>?_,λ i j oi oj bi bj hi hj hbi hbj he=>?_,λ id hid=>?_⟩,by simp;omega,st.fr,λ b o v hv=>sub.prot _ _ _ (st.prot b o v hv),λ b es hv=>sub.pmap _ _ (st.pmap b es hv),λ i b hi x=>?_,λ i v t hi x=>?_,λ b o v hv=>?_,λ b es hv=>?_,λ b x=>?_⟩
 ·rcases Vw hv with hv | ⟨id,t,cs,h1,h2,h3,h4⟩
  ·exact st.inv.prot b o v hv
  ·refine⟨h4,?_⟩;obtain⟨vs,fr,k1,k2,k3,_⟩:=st.inv.cellsAt h2 h3;rw[XN k1]at h4;exact k3 v (by simpa using Array.mem_of_getElem? h4)
 ·rcases Vx hv with hv | ⟨id,ks,vs,es',clk,h1,h2,h3,h4,h5⟩
  ·exact st.inv.pmap b es hv
  ·obtain⟨es2,clk2,g1,_,_,_,_,_,_,g8⟩:=st.inv.mapAt h2 h3;rw[h4]at g1;cases g1;exact⟨clk,by rw[h5];simpa using h4,by rw[h5];exact g8⟩
 ·obtain⟨h1,h2⟩:=get ho;have hr:=(st.inv.ob id o h2).cut h1 (Ks hm ho)
  have hp:∀ b,blk (G.cut m) id o=some b->(∀ q,(G.cut m).prot b q=none->(G.froze h w m).prot b q=none)/\(G.froze h w m).pmap b=(G.cut m).pmap b:=by
   intro b hb;have hb':=QP hb
   constructor
   ·intro q hq;cases hc:(G.froze h w m).prot b q with
    | none=>rfl
    | some v=>
     rcases Vw hc with hv | ⟨id',t,cs,k1,k2,k3,k4⟩
     ·have hq':G.prot b q=none:=hq
      rw[hq']at hv;cases hv
     ·exact absurd k3 (apart h1 h2 hb' id' k1 _ k2)
   ·have:(G.cut m).pmap b=G.pmap b:=rfl
    rw[this];cases hc:(G.froze h w m).pmap b with
    | none=>
     cases hg:G.pmap b with
     | none=>rfl
     | some es=>rw[sub.pmap _ _ hg]at hc;cases hc
    | some es=>
     rcases Vx hc with hv | ⟨id',ks,vs,es',clk,k1,k2,k3,k4,k5⟩
     ·exact hv.symm
     ·exact absurd k3 (apart h1 h2 hb' id' k1 _ k2)
  exact hr.keep (G':=G.froze h w m) ⟨sub.prot,sub.pmap,λ _ _ x=>x,λ _ _ _ x=>x⟩ (λ _ _=>rfl) hp (λ u hu=>hu)
 ·obtain⟨_,h1⟩:=get hi;obtain⟨_,h2⟩:=get hj;exact st.inv.inj i j oi oj bi bj h1 h2 (blkf hbi) (blkf hbj) he
 ·have:m<=id:=by simp at hid;omega
  exact⟨by simp[Gh.froze,Nat.not_lt.2 this],λ ver=>by simp[Gh.froze,Nat.not_lt.2 this]⟩
 ·show(if i < m then G.loc i else none)=some b;rw[if_pos (by omega)];exact st.loc i b hi x
 ·show(if i < m then G.tip i v else none)=some t;rw[if_pos (by omega)];exact st.tip i v t hi x
 ·rcases Vw hv with hv | ⟨id,t,cs,h1,h2,h3,h4⟩
  ·exact st.newp b o v hv
  ·exact .inr (st.newb b ⟨id,_,h2,h3⟩)
 ·rcases Vx hv with hv | ⟨id,ks,vs,es',clk,h1,h2,h3,h4,h5⟩
  ·exact st.newm b es hv
  ·exact .inr (st.newb b ⟨id,_,h2,h3⟩)
 ·obtain⟨id,o,h1,h2⟩:=x;exact st.newb b ⟨id,o,(get h1).2,blkf h2⟩
end
end
section
section
variable {P:Program} {e:Env} {G:Gh} {h h':Mem} {w:World} {s:Zf} {a:Act} {nt:Nat}
theorem qw(hi:Inv G h w){m id t b:Nat}{cs:List X}(hm:m<=id)(ho:h[id]?=some (.cells t cs))(hb:G.loc id=some b){vs:Array Value}{fr:Nat × Nat}(hw:w.heap[b]?=some (.cells vs t fr)){o:Nat}{v:Value}(hv:vs[o]?=some v) :
  (G.froze h w m).prot b o=some v:=by
 obtain⟨_,_,_,_,_,_,h6,_⟩:=hi.cellsAt ho hb;simp only[Gh.froze,h6];rw[if_pos ⟨id,t,cs,hm,ho,hb⟩,XN hw];exact hv
theorem jj{b off st n:Nat}{l:List CV}(hl:l.length=n*st){vs:List Value}(r:RdCL G vs l)(o1:Ones vs)(hp:∀ (i:Nat) v,vs[i]?=some v->G.prot b (off+i)=some v){ag:Bool}(hag:ag=false->st=1) :
  Elems G b off st ((XG st n l).map (elemOf ag))/\((XG st n l).map (elemOf ag)).length=n:=by
 obtain⟨c1,c2,c3⟩:=Jy st n l hl;have hflat:∀ c∈XG st n l,(elemOf ag c).cells=c:=by
  intro c hc;cases ag with
  | true=>rfl
  | false=>
   have h1:st=1:=hag rfl
   have hcl:=c2 c hc
   rw[h1]at hcl
   match c,hcl with
   | [d],_=>
    have hd:d∈l:=by rw[<- c3];exact List.mem_flatten.2 ⟨_,hc,by simp⟩
    obtain⟨i,hi',rfl⟩:=List.mem_iff_getElem.1 hd;have hil:i < vs.length:=by rw[r.1];exact hi'
    have:=r.2 i _ _ (Zb hil) (Zb hi')
    exact this.one (o1 _ (Zh _))
 have hfl:Yw ((XG st n l).map (elemOf ag))=l:=by
  unfold Yw;rw[List.map_map];have hm2:(XG st n l).map (CV.cells ∘ elemOf ag)=(XG st n l).map (λ c=>c):=List.map_congr_left (λ c hc=>hflat c hc)
  rw[hm2,List.map_id',c3]
 refine⟨WW (λ c hc=>?_) (by rw[hfl];exact r) hp,by simp[c1]⟩
 simp only[List.mem_map]at hc;obtain⟨d,hd,rfl⟩:=hc;rw[hflat d hd];exact c2 d hd
mutual
theorem Iz (hi:Inv G h w) (m:Nat):∀ (n:Nat) (x:X) (c:CV) (v:Value),frz h m n x=some c->RdX G v x->RdC (G.froze h w m) v c
 | 0,x,c,v,hf,r=>by simp[frz]at hf
 | n+1,x,c,v,hf,r=>by
  have sub:=Kd G h w m
  cases x with
  | undef=>simp[frz]at hf
  | c cv=>simp only[frz,Option.some.injEq]at hf;subst hf;exact(r.c_inv.wk).sub sub
  | own es id ver=>
   simp only[frz,Option.some.injEq]at hf;subst hf;obtain⟨o,cap,t,e1,_,_,_,hc,he⟩:=r.own_inv;rw[e1];exact Xn (he.sub sub) (by simp) hc
  | ptr id off=>
   obtain⟨b,hb,rfl⟩:=r.ptr_inv;simp only[frz]at hf;cases hm:Nat.ble m id with
   | false=>rw[hm]at hf;simp at hf
   | true=>
    rw[hm]at hf;simp only[cond_true]at hf;split at hf
    ·rename_i cs hcs;split at hf
     ·rename_i l hl;cases hf;obtain⟨t,ho⟩:=Xy hcs;obtain⟨vs,fr,k1,k2,k3,_⟩:=hi.cellsAt ho hb;have hr:=VO hi m n (cs.drop off) l (vs.toList.drop off) hl (k2.drop off)
      refine RdC.rptr_of λ i d hd=>?_
      have hlt:i < (vs.toList.drop off).length:=by rw[hr.1];exact(Za.1 hd).1
      have hv:=Zb hlt
      refine⟨_,qw hi (Zg hm) ho hb k1 (o:=off+i) ?_,hr.2 i _ d hv hd⟩;rw[<- Array.getElem?_toList,<- List.getElem?_drop];exact hv
     ·cases hf
    ·cases hf
  | ms id off len st=>
   obtain⟨b,cap,hb,rfl,hcap⟩:=r.ms_inv;simp only[frz]at hf;cases hm:Nat.ble m id with
   | false=>rw[hm]at hf;simp at hf
   | true=>
    rw[hm]at hf;simp only[cond_true]at hf;split at hf
    ·rename_i cs hcs;split at hf
     ·rename_i l hl;cases hn:Nat.beq l.length (len*st) with
      | false=>rw[hn]at hf;simp at hf
      | true=>
       rw[hn]at hf;simp only[cond_true,Option.some.injEq]at hf;subst hf;obtain⟨t,ho⟩:=Xy hcs;obtain⟨vs,fr,k1,k2,k3,_⟩:=hi.cellsAt ho hb;have hr:=VO hi m n ((cs.drop off).take (len*st)) l ((vs.toList.drop off).take (len*st)) hl ((k2.drop off).take _)
       have o1:=(k3.drop off).take (len*st)
       have key:=jj (G:=G.froze h w m) (b:=b) (off:=off) (st:=st) (n:=len) (Zd hn) hr o1 (λ i v hv=>by
          rw[List.getElem?_take]at hv;split at hv
          ·rw[List.getElem?_drop]at hv;exact qw hi (Zg hm) ho hb k1 (by simpa using hv)
          ·cases hv) (ag:=bif Nat.beq st 1 then false else true) (λ hag=>by
           cases hb1:Nat.beq st 1 with
           | true=>exact Zd hb1
           | false=>rw[hb1]at hag;cases hag)
       obtain⟨q1,q2⟩:=key;have:=Xn (full:=false) q1 (by simp) (by rw[q2];exact hcap)
       rw[q2]at this;exact this
     ·cases hf
    ·cases hf
  | map id=>
   obtain⟨b,hb,rfl⟩:=r.map_inv;simp only[frz]at hf;cases hm:Nat.ble m id with
   | false=>rw[hm]at hf;simp at hf
   | true=>
    rw[hm]at hf;simp only[cond_true]at hf;split at hf
    ·rename_i ks vs ho;cases hf;obtain⟨es,clk,g1,g2,g3,g4,g5,g6,g7,_⟩:=hi.mapAt ho hb;refine .imap b es.toList ks vs ?_ (by simpa using g2) (by simpa using g3) (λ i e k a c=>(g4 i e k (by simpa using a) c).sub sub) (λ i e k a c=>(g5 i e k (by simpa using a) c).sub sub)
     simp only[Gh.froze,g7];rw[if_pos ⟨id,ks,vs,Zg hm,ho,hb⟩,g1]
    ·cases hf
  | func f caps=>
   simp only[frz]at hf;split at hf
   ·rename_i l hl;cases hf;obtain⟨vs,rfl,hv⟩:=r.func_inv
    have:=VO hi m n caps l vs hl hv
    exact .func f vs l this.1 this.2
   ·cases hf
  | agg cs=>
   simp only[frz]at hf;split at hf
   ·rename_i l hl;cases hf;cases r;rename_i vs h1 hl1 hr1;have:=VO hi m n cs l vs hl ⟨hl1,hr1⟩
    exact .agg vs l this.1 this.2 h1
   ·cases hf
  | tup cs=>
   simp only[frz]at hf;split at hf
   ·rename_i l hl;cases hf;cases r;rename_i vs hl1 hr1;have:=VO hi m n cs l vs hl ⟨hl1,hr1⟩
    exact .tup vs l this.1 this.2
   ·cases hf
  | iter id=>simp[frz]at hf
  | sdata es id ver=>simp[frz]at hf
  | aptr=>simp[frz]at hf
  | pend es id ver=>simp[frz]at hf
  | pptr k id ver=>simp[frz]at hf
theorem VO (hi:Inv G h w) (m:Nat):∀ (n:Nat) (xs:List X) (cs:List CV) (vs:List Value),frz.frzL h m n xs=some cs->RdL G vs xs->RdCL (G.froze h w m) vs cs
 | n,[],cs,vs,hf,r=>by
  simp[frz.frzL]at hf;subst hf;have:=r.inv_nil;subst this
  exact RdCL.nil _
 | n,x::xs,cs,vs,hf,r=>by
  simp only[frz.frzL]at hf;split at hf
  ·rename_i a b ha hb;cases hf;obtain⟨v,us,rfl,r1,r2⟩:=r.inv_cons;exact RdCL.cons (Iz hi m n x a v ha r1) (VO hi m n xs b us hb r2)
  ·cases hf
end
theorem RdL.cut{G:Gh}{L:Nat}{vs:List Value}{xs:List X}{l:List Nat}(h:RdL G vs xs)(hx:X.ids.idsL 6 xs=some l)(hl:ZM L l=true):RdL (G.cut L) vs xs:=
 RdL.ren (G.moves_cut L) 6 xs xs vs (Vu L 6 xs l hx hl) h
theorem wJ{fn:PFn}{f:Func}{σ:St}{z:X}{G0:Gh}{h0:Mem}{w0:World}(hf:ZD fn h0.length σ=some (z,h'))(st:Step G0 h0 w0 G σ.h w)(hs:SlotsRel G σ.s a nt)(ht:Q1 P f.results.toList=some fn.res) :
  ∃ v G',(Go.results f a.tmps).run P w=.ok v w/\Step G0 h0 w0 G' h' w/\RdX G' v z:=by
 unfold ZD at hf;split at hf
 ·cases hf
 ·rename_i rs hrs;obtain⟨vs,hrun,hvs⟩:=Uz (P:=P) st.inv hs ht hrs;have hres:=zz hrun
  have hrs':RdL G vs (bif fn.keep then rs else rs.map X.wk):=by
   cases fn.keep
   ·exact hvs.wk
   ·exact hvs
  generalize (bif fn.keep then rs else rs.map X.wk)=rs' at hf hrs';have same:some (oneOf rs',σ.h)=some (z,h')->∃ v G',(Go.results f a.tmps).run P w=.ok v w/\Step G0 h0 w0 G' h' w/\RdX G' v z:=by
   intro he;simp only[Option.some.injEq,Prod.mk.injEq]at he;obtain⟨rfl,rfl⟩:=he;exact⟨_,G,hres,st,QS hrs'⟩
  simp only at hf;cases hm:ZL h0.length (σ.h.take h0.length) with
  | false=>rw[hm]at hf;exact same (by simpa using hf)
  | true=>
   rw[hm]at hf;simp only[cond_true]at hf;cases hx:X.ids.idsL 6 rs' with
   | none=>
    rw[hx]at hf;simp only[Option.elim_none,cond_false]at hf;cases hfr:fn.frz with
    | false=>rw[hfr]at hf;exact same (by simpa using hf)
    | true=>
     rw[hfr]at hf;simp only[cond_true]at hf;split at hf
     ·rename_i l hl;simp only[Option.some.injEq,Prod.mk.injEq]at hf;obtain⟨rfl,rfl⟩:=hf;exact⟨_,_,hres,st.froze (Nat.le_refl _) st.len hm,QS (VO st.inv h0.length 50 rs' l vs hl hrs').toX⟩
     ·exact same hf
   | some l=>
    rw[hx]at hf;simp only[Option.elim_some]at hf;cases hb:ZM h0.length l with
    | true=>
     rw[hb]at hf;simp only[cond_true,Option.some.injEq,Prod.mk.injEq]at hf;obtain⟨rfl,rfl⟩:=hf;exact⟨_,_,hres,st.cut (Nat.le_refl _) st.len hm,QS (hrs'.cut hx hb)⟩
    | false=>
     rw[hb]at hf;simp only[cond_false]at hf;cases hfr:fn.frz with
     | false=>rw[hfr]at hf;exact same (by simpa using hf)
     | true=>
      rw[hfr]at hf;simp only[cond_true]at hf;split at hf
      ·rename_i l hl;simp only[Option.some.injEq,Prod.mk.injEq]at hf;obtain⟨rfl,rfl⟩:=hf;exact⟨_,_,hres,st.froze (Nat.le_refl _) st.len hm,QS (VO st.inv h0.length 50 rs' l vs hl hrs').toX⟩
      ·exact same hf
end
end
section
def Gh.pickG(G:Gh)(ids:List Nat):Gh:={ G with loc:=λ k=>(ids[k]?).bind G.loc,tip:=λ k v=>(ids[k]?).bind (G.tip · v) }
theorem W2:∀ {ids:List Nat} {i k:Nat},Xw i ids=some k->ids[k]?=some i
 | [],i,k,h=>by simp[Xw]at h
 | j::r,i,k,h=>by
  simp only[Xw]at h;cases hb:Nat.beq j i with
  | true=>
   rw[hb]at h;simp at h;subst h;simp[Zd hb]
  | false=>
   rw[hb]at h;simp only[cond_false]at h;split at h
   ·rename_i k' hk;cases h;simpa using W2 hk
   ·cases h
theorem GU:∀ {ids:List Nat} {i:Nat},Xw i ids=none->i∉ids
 | [],i,h=>by simp
 | j::r,i,h=>by
  simp only[Xw]at h;cases hb:Nat.beq j i with
  | true=>rw[hb]at h;simp at h
  | false=>
   rw[hb]at h;simp only[cond_false]at h;split at h
   ·cases h
   ·rename_i hk;have:=GU hk
    intro hm;rcases List.mem_cons.1 hm with e | e
    ·subst e;simp at hb
    ·exact this e
theorem yu{ids:List Nat}(hnd:ids.Nodup){i k:Nat}(h:ids[k]?=some i):Xw i ids=some k:=by
 cases hp:Xw i ids with
 | none=>exact absurd (ZI h) (GU hp)
 | some k'=>
  have h':=W2 hp
  have h1:=(Za.1 h)
  have h2:=(Za.1 h')
  have:=(List.getElem_inj (h₀:=h2.1) (h₁:=h1.1) hnd).1 (by rw[h2.2,h1.2])
  rw[this]
theorem Qd{h:Mem}:∀ {n:Nat} {todo acc ids:List Nat},Xp h n todo acc=some ids->acc.Nodup->ids.Nodup
 | n,[],acc,ids,hr,ha=>by
  cases n<;>(simp[Xp]at hr;subst hr;exact ha)
 | 0,_::_,acc,ids,hr,ha=>by simp[Xp]at hr
 | n+1,i::r,acc,ids,hr,ha=>by
  simp only[Xp]at hr;cases hc:acc.contains i with
  | true=>rw[hc]at hr;exact Qd hr ha
  | false=>
   rw[hc]at hr;simp only[cond_false]at hr;split at hr
   ·split at hr
    ·refine Qd hr ?_;rw[List.nodup_append];refine⟨ha,by simp,?_⟩
     intro a hm b hb hab;simp at hb;subst hb;subst hab;simp[List.contains_eq_mem]at hc;exact hc hm
    ·cases hr
   ·cases hr
theorem Qf{h:Mem}:∀ {ids:List Nat} {sub:Mem},YM h ids=some sub->sub.length=ids.length/\∀ (k i:Nat),ids[k]?=some i->∃ o,h[i]?=some o/\sub[k]?=some o
 | [],sub,hp=>by simp[YM]at hp;subst hp;exact⟨rfl,λ k i hk=>by simp at hk⟩
 | j::r,sub,hp=>by
  simp only[YM]at hp;split at hp
  ·rename_i o l ho hl;cases hp;obtain⟨h1,h2⟩:=Qf hl;refine⟨by simp[h1],λ k i hk=>?_⟩
   cases k with
   | zero=>simp at hk;subst hk;exact⟨o,ho,rfl⟩
   | succ k=>exact h2 k i (by simpa using hk)
  ·cases hp
theorem Jr{ρ:Nat->Option Nat}:∀ {m m':Mem},Mem.ren ρ m=some m'->m'.length=m.length/\∀ (k:Nat) o',m'[k]?=some o'->∃ o,m[k]?=some o/\o.ren ρ=some o'
 | [],m',h=>by simp[Mem.ren]at h;subst h;exact⟨rfl,λ k o' hk=>by simp at hk⟩
 | o::r,m',h=>by
  simp only[Mem.ren]at h;split at h
  ·rename_i a b ha hb;cases h;obtain⟨h1,h2⟩:=Jr hb;refine⟨by simp[h1],λ k o' hk=>?_⟩
   cases k with
   | zero=>simp at hk;subst hk;exact⟨o,rfl,ha⟩
   | succ k=>exact h2 k o' (by simpa using hk)
  ·cases h
theorem Q5:∀ (ids:List Nat) (os:Mem) (h:Mem),(YS h ids os).length=h.length
 | [],os,h=>by simp[YS]
 | i::r,[],h=>by simp[YS]
 | i::r,o::os,h=>by simp[YS,Q5 r os]
theorem GR:∀ {ids:List Nat} {os:Mem} {h:Mem} (i:Nat),ids.Nodup->ids.length=os.length->i < h.length->(YS h ids os)[i]?=match Xw i ids with | some k=>os[k]? | none=>h[i]?
 | [],os,h,i,_,_,_=>by simp[YS,Xw]
 | j::r,[],h,i,_,hl,_=>by simp at hl
 | j::r,o::os,h,i,hn,hl,hi=>by
  rw[List.nodup_cons]at hn;simp only[YS];rw[GR i hn.2 (by simpa using hl) (by simpa using hi)]
  simp only[Xw];cases hb:Nat.beq j i with
  | true=>
   have e:=Zd hb;subst e
   have:Xw j r=none:=by
    cases hp:Xw j r with
    | none=>rfl
    | some k=>exact absurd (ZI (W2 hp)) hn.1
   rw[this];simp[hi]
  | false=>
   simp only[cond_false];cases hp:Xw i r with
   | none=>
    simp only;rw[Zx (by rintro rfl;simp at hb)]
   | some k=>simp
section
variable {P:Program} {e:Env} {G:Gh} {h h':Mem} {w:World} {s:Zf} {a:Act} {nt:Nat}
theorem ObRel.ren{G':Gh}{ρ:Nat->Option Nat}(m:Moves G G' ρ){id j:Nat}{o o':Ob}(hid:ρ id=some j)(h:ObRel G w id o)(hr:o.ren ρ=some o')(hprot:∀ b q,G'.prot b q=G.prot b q)(hpm:∀ b,G'.pmap b=G.pmap b)(htip:∀ u,G.tip id u=none->G'.tip j u=none):ObRel G' w j o':=by
 cases o with
 | dead=>simp[Ob.ren]at hr;subst hr;trivial
 | cells t cs=>
  simp only[Ob.ren]at hr;split at hr
  ·rename_i l hl;cases hr;obtain⟨b,vs,fr,h1,h2,h3,h4,h5,h6,h7⟩:=h;have hrd:RdL G vs.toList cs:=⟨by simpa using h3,λ i v x hv hx=>by
    obtain⟨u,a1,a2,a3⟩:=h4 i x hx;have:vs[i]?=some v:=by simpa using hv
    rw[this]at a1;cases a1;exact a3⟩
   have hr':=RdL.ren m 6 cs l vs.toList hl hrd
   refine⟨b,vs,fr,m.loc _ _ _ hid h1,h2,by simpa using hr'.1,λ i c hc=>?_,h5,λ q=>by rw[hprot];exact h6 q,by rw[hpm];exact h7⟩
   have hlt:=(Za.1 hc).1
   have hlv:i < vs.toList.length:=by rw[hr'.1];exact hlt
   have hcs:i < cs.length:=by simp at hlv;omega
   obtain⟨u,a1,a2,a3⟩:=h4 i cs[i] (Zb hcs);exact⟨u,a1,a2,hr'.2 i u c (by simpa using a1) hc⟩
  ·cases hr
 | tip ver st el=>
  simp[Ob.ren]at hr;subst hr;obtain⟨t,vs,fr,h1,h2,h3,h4,h5,h6,h7,h8,h9,h10⟩:=h;exact⟨t,vs,fr,m.tip _ _ _ _ hid h1,h2,h3,h4,h5,h6,h7,λ q hq=>by rw[hprot];exact h8 q hq,by rw[hpm];exact h9,λ u hu=>htip u (h10 u hu)⟩
 | tipF ver st el wv=>
  simp[Ob.ren]at hr;subst hr;obtain⟨⟨t,vs,fr,h1,h2,h3,h4,h5,h6,h7,h8,h9,h10⟩,⟨t1,t0,f1,f2,f3,f4,f5,f6,f7,f8⟩⟩:=h;exact⟨⟨t,vs,fr,m.tip _ _ _ _ hid h1,h2,h3,h4,h5,h6,h7,λ q hq=>by rw[hprot];exact h8 q hq,by rw[hpm];exact h9,λ u hu=>htip u (h10 u hu)⟩,t1,t0,m.tip _ _ _ _ hid f1,m.tip _ _ _ _ hid f2,f3,f4,f5,f6,f7,f8.sub m.sub⟩
 | map ks vs=>
  simp[Ob.ren]at hr;subst hr;obtain⟨b,es,clk,h1,h2,h3,h4,h5,h6,h7,h8⟩:=h;exact⟨b,es,clk,m.loc _ _ _ hid h1,h2,h3,h4,λ i e k a c=>(h5 i e k a c).sub m.sub,λ i e k a c=>(h6 i e k a c).sub m.sub,λ q=>by rw[hprot];exact h7 q,by rw[hpm];exact h8.1,h8.2⟩
 | siter st Xw=>
  simp[Ob.ren]at hr;subst hr;obtain⟨b,h1,h2,h3,h4⟩:=h;exact⟨b,m.loc _ _ _ hid h1,h2,λ q=>by rw[hprot];exact h3 q,by rw[hpm];exact h4⟩
 | miter ks vs Xw=>
  simp[Ob.ren]at hr;subst hr;obtain⟨h0,b,k,es,h1,h2,h3,h4,h5,h6,h7,h8,h9⟩:=h;exact⟨h0,b,k,es,m.loc _ _ _ hid h1,h2,by rw[hpm];exact h3,h4,h5,λ i e k a c=>(h6 i e k a c).sub m.sub,λ i e k a c=>(h7 i e k a c).sub m.sub,λ q=>by rw[hprot];exact h8 q,by rw[hpm];exact h9⟩
theorem u7{G':Gh}{ρ:Nat->Option Nat}{id j:Nat}{o o':Ob}(hr:o.ren ρ=some o')(hloc:G'.loc j=G.loc id)(htip:∀ u,G'.tip j u=G.tip id u):blk G' j o'=blk G id o:=by
 cases o with
 | cells t cs=>
  simp only[Ob.ren]at hr;split at hr
  ·cases hr;simp[blk,hloc]
  ·cases hr
 | dead=>simp[Ob.ren]at hr;subst hr;rfl
 | tip ver st el=>simp[Ob.ren]at hr;subst hr;simp[blk,htip]
 | tipF ver st el wv=>simp[Ob.ren]at hr;subst hr;simp[blk,htip]
 | map ks vs=>simp[Ob.ren]at hr;subst hr;simp[blk,hloc]
 | siter st Xw=>simp[Ob.ren]at hr;subst hr;simp[blk,hloc]
 | miter _ _ _=>simp[Ob.ren]at hr;subst hr;simp[blk,hloc]
theorem UE(G:Gh)(ids:List Nat):Moves G (G.pickG ids) (λ i=>Xw i ids):=by
 refine⟨⟨λ _ _ _ x=>x,λ _ _ x=>x⟩,λ i j b hj hb=>?_,λ i j v t hj ht=>?_⟩
 ·simp[Gh.pickG,W2 hj,hb]
 ·simp[Gh.pickG,W2 hj,ht]
theorem GW{ids:List Nat}{k i:Nat}(hk:ids[k]?=some i){o o':Ob}(hr:o.ren (λ i=>Xw i ids)=some o'):blk (G.pickG ids) k o'=blk G i o:=
 u7 hr (by simp[Gh.pickG,hk]) (λ u=>by simp[Gh.pickG,hk])
theorem GV(hi:Inv G h w){ids:List Nat}(hnd:ids.Nodup){sub sub':Mem}(hp:YM h ids=some sub)(hr:Mem.ren (λ i=>Xw i ids) sub=some sub') :
  Inv (G.pickG ids) sub' w/\sub'.length=ids.length/\∀ b,WD (G.pickG ids) sub' b->∃ (k i:Nat) (o:Ob),ids[k]?=some i/\h[i]?=some o/\blk G i o=some b:=by
 obtain⟨l1,l2⟩:=Qf hp;obtain⟨r1,r2⟩:=Jr hr;have at_:∀ {k:Nat} {o':Ob},sub'[k]?=some o'->∃ (i:Nat) (o:Ob),ids[k]?=some i/\h[i]?=some o/\o.ren (λ i=>Xw i ids)=some o':=by
  intro k o' hk;obtain⟨o,ho,hro⟩:=r2 k o' hk;have hlt:k < ids.length:=by
   have:=(Za.1 hk).1;omega
  obtain⟨o2,h2,h3⟩:=l2 k _ (Zb hlt);rw[ho]at h3;cases h3;exact⟨_,o,Zb hlt,h2,hro⟩
 refine⟨⟨hi.prot,hi.pmap,λ k o' hk=>?_,λ k1 k2 o1 o2 b1 b2 h1 h2 hb1 hb2 he=>?_,λ k hk=>?_⟩,by omega,λ b hb=>?_⟩
 ·obtain⟨i,o,h1,h2,h3⟩:=at_ hk;exact ObRel.ren (UE G ids) (yu hnd h1) (hi.ob i o h2) h3 (λ _ _=>rfl) (λ _=>rfl) (λ u hu=>by simp[Gh.pickG,h1,hu])
 ·obtain⟨i1,p1,a1,a2,a3⟩:=at_ h1;obtain⟨i2,p2,c1,c2,c3⟩:=at_ h2;rw[GW a1 a3]at hb1;rw[GW c1 c3]at hb2;have:=hi.inj i1 i2 p1 p2 b1 b2 a2 c2 hb1 hb2 he
  subst this;have e1:=yu hnd a1
  have e2:=yu hnd c1
  rw[e1]at e2;cases e2;rfl
 ·have:ids[k]?=none:=by simp;omega
  exact⟨by simp[Gh.pickG,this],λ ver=>by simp[Gh.pickG,this]⟩
 ·obtain⟨k,o',hk,hb⟩:=hb;obtain⟨i,o,h1,h2,h3⟩:=at_ hk;rw[GW h1 h3]at hb;exact⟨k,i,o,h1,h2,hb⟩
def Gh.back(G G':Gh)(n:Nat)(ids:List Nat):Gh where
 prot:=G'.prot
 pmap:=G'.pmap
 loc:=λ i=>if n<=i then G'.loc (ids.length+(i - n)) else match Xw i ids with | some k=>G'.loc k | none=>G.loc i
 tip:=λ i v=>if n<=i then G'.tip (ids.length+(i - n)) v else match Xw i ids with | some k=>G'.tip k v | none=>G.tip i v
def Va(n:Nat)(ids:List Nat)(k:Nat):Option Nat:=bif Nat.ble ids.length k then some (n+(k - ids.length)) else ids[k]?
theorem J7{G':Gh}{n:Nat}{ids:List Nat}(hnd:ids.Nodup)(hlt:∀ i∈ids,i < n){k j:Nat}(hk:Va n ids k=some j):(G.back G' n ids).loc j=G'.loc k/\∀ v,(G.back G' n ids).tip j v=G'.tip k v:=by
 unfold Va at hk;cases hb:Nat.ble ids.length k with
 | true=>
  rw[hb]at hk;simp only[cond_true,Option.some.injEq]at hk;subst hk;have:=Zg hb
  have e:ids.length+(n+(k - ids.length) - n)=k:=by omega
  simp only[Gh.back];rw[if_pos (by omega),e]
  exact⟨rfl,λ v=>by rw[if_pos (by omega)]⟩
 | false=>
  rw[hb]at hk;simp only[cond_false]at hk;have h1:=hlt j (ZI hk)
  have h2:=yu hnd hk
  simp only[Gh.back];rw[if_neg (by omega),h2]
  exact⟨rfl,λ v=>by rw[if_neg (by omega)]⟩
theorem Jp{G':Gh}{n:Nat}{ids:List Nat}(hnd:ids.Nodup)(hlt:∀ i∈ids,i < n):Moves G' (G.back G' n ids) (Va n ids):=by
 refine⟨⟨λ _ _ _ x=>x,λ _ _ x=>x⟩,λ i j b hj hb=>?_,λ i j v t hj ht=>?_⟩
 ·rw[(J7 hnd hlt hj).1];exact hb
 ·rw[(J7 hnd hlt hj).2];exact ht
theorem Kj(hi:Inv G h w){ids:List Nat}(hnd:ids.Nodup){sub sub':Mem}(hp:YM h ids=some sub)(hr:Mem.ren (λ i=>Xw i ids) sub=some sub'){G':Gh}{h1 h2:Mem}{w':World}(st:Step (G.pickG ids) sub' w G' h1 w')(hb:Mem.ren (Va h.length ids) h1=some h2) :
  Step G h w (G.back G' h.length ids) (YS h ids (h2.take ids.length)++h2.drop ids.length) w'/\∀ i∈ids,i < h.length:=by
 obtain⟨hsub,hlen,hown⟩:=GV hi hnd hp hr;obtain⟨b1,b2⟩:=Jr hb;obtain⟨l1,l2⟩:=Qf hp;have hlt:∀ i∈ids,i < h.length:=by
  intro i hm;obtain⟨k,hk⟩:=List.getElem?_of_mem hm;obtain⟨o,ho,_⟩:=l2 k i hk;exact(Za.1 ho).1
 refine⟨?_,hlt⟩;have hml:ids.length<=h2.length:=by have:=st.len;omega
 have hpl:=Q5 ids (h2.take ids.length) h
 have owned_back:∀ b,WD (G.pickG ids) sub' b->WD G h b:=λ b hb=>by
  obtain⟨k,i,o,_,h2,h3⟩:=hown b hb;exact⟨i,o,h2,h3⟩
 have get:∀ {i:Nat} {o:Ob},(YS h ids (h2.take ids.length)++h2.drop ids.length)[i]?=some o->(∃ (k:Nat) (o1:Ob),Va h.length ids k=some i/\h1[k]?=some o1/\o1.ren (Va h.length ids)=some o)\/(i < h.length/\Xw i ids=none/\h[i]?=some o):=by
  intro i o hio;rcases Zl i h.length with hl | hl
  ·rw[Zr (by omega),GR i hnd (by simp;omega) hl]at hio
   split at hio
   ·rename_i k hk;rw[List.getElem?_take]at hio;split at hio
    ·rename_i hk2;obtain⟨o1,q1,q2⟩:=b2 k o hio;refine .inl ⟨k,o1,?_,q1,q2⟩;unfold Va;have:Nat.ble ids.length k=false:=by
      cases hbb:Nat.ble ids.length k with
      | false=>rfl
      | true=>have:=Zg hbb;omega
     rw[this];exact W2 hk
    ·cases hio
   ·rename_i hk;exact .inr ⟨hl,hk,hio⟩
  ·rw[Zp (by omega),hpl,List.getElem?_drop]at hio
   obtain⟨o1,q1,q2⟩:=b2 _ o hio;refine .inl ⟨_,o1,?_,q1,q2⟩;unfold Va;rw[ZE (Nat.le_add_right _ _)];simp only[cond_true,Option.some.injEq];omega
 have hle:G.le (G.back G' h.length ids):=by
  refine⟨st.prot,st.pmap,λ i b x=>?_,λ i v t x=>?_⟩
  ·have hil:i < h.length:=by
    rcases Zl i h.length with q | q
    ·exact q
    ·rw[(hi.new i q).1]at x;cases x
   simp only[Gh.back];rw[if_neg (by omega)]
   split
   ·rename_i k hk;have hk2:=W2 hk
    exact st.loc k b (by have:=(Za.1 hk2).1;omega) (by simp[Gh.pickG,hk2,x])
   ·exact x
  ·have hil:i < h.length:=by
    rcases Zl i h.length with q | q
    ·exact q
    ·rw[(hi.new i q).2 v]at x;cases x
   simp only[Gh.back];rw[if_neg (by omega)]
   split
   ·rename_i k hk;have hk2:=W2 hk
    exact st.tip k v t (by have:=(Za.1 hk2).1;omega) (by simp[Gh.pickG,hk2,x])
   ·exact x
 have apart:∀ {i:Nat} {o:Ob} {b:Nat},Xw i ids=none->h[i]?=some o->blk G i o=some b->¬ WD (G.pickG ids) sub' b/\b < w.heap.size:=by
  intro i o b hpi ho hbi;refine⟨λ x=>?_,hi.blk_lt ho hbi⟩
  obtain⟨k,i',o',k1,k2,k3⟩:=hown b x;have:=hi.inj i i' o o' b b ho k2 hbi k3 rfl
  subst this;exact GU hpi (ZI k1)
 have blk_new:∀ {k i:Nat} {o1 o:Ob} {b:Nat},Va h.length ids k=some i->o1.ren (Va h.length ids)=some o->blk (G.back G' h.length ids) i o=some b->blk G' k o1=some b:=by
  intro k i o1 o b hk hro hb
  rwa [u7 hro (J7 hnd hlt hk).1 (J7 hnd hlt hk).2]at hb
 have blk_old:∀ {i:Nat} {o:Ob} {b:Nat},i < h.length->Xw i ids=none->blk (G.back G' h.length ids) i o=some b->blk G i o=some b:=by
  intro i o b hl hpi hb;have e1:(G.back G' h.length ids).loc i=G.loc i:=by simp only[Gh.back];rw[if_neg (by omega),hpi]
  have e2:∀ v,(G.back G' h.length ids).tip i v=G.tip i v:=λ v=>by simp only[Gh.back];rw[if_neg (by omega),hpi]
  cases o<;>simp only[blk,e1,e2]at hb ⊢<;>exact hb
 refine⟨⟨st.inv.prot,st.inv.pmap,λ i o hio=>?_,λ i j oi oj bi bj hii hjj hbi hbj he=>?_,λ i hil=>?_⟩,by simp;omega,⟨st.fr.size,λ b hb hno=>st.fr.same b hb (λ x=>hno (owned_back b x)),st.fr.os,st.fr.tape,st.fr.output⟩,
  st.prot,st.pmap,λ i b hil x=>hle.loc i b x,λ i v t hil x=>hle.tip i v t x,λ b o v x=>?_,λ b es x=>?_,λ b x=>?_⟩
 ·rcases get hio with ⟨k,o1,k1,k2,k3⟩|⟨hl,hpi,ho⟩
  ·exact ObRel.ren (Jp hnd hlt) k1 (st.inv.ob k o1 k2) k3 (λ _ _=>rfl) (λ _=>rfl) (λ u hu=>by rw[(J7 hnd hlt k1).2];exact hu)
  ·refine(hi.ob i o ho).keep hle (λ b hbi=>?_) (λ b hbi=>?_) (λ u hu=>?_)
   ·obtain⟨q1,q2⟩:=apart hpi ho hbi;exact st.fr.same b q2 q1
   ·obtain⟨q1,q2⟩:=apart hpi ho hbi;constructor
    ·intro q hq;cases hc:(G.back G' h.length ids).prot b q with
     | none=>rfl
     | some v=>
      rcases st.newp b q v hc with y | y | y
      ·have:G.prot b q=some v:=y
       rw[hq]at this;cases this
      ·exact absurd y q1
      ·omega
    ·cases hc:(G.back G' h.length ids).pmap b with
     | none=>
      cases hg:G.pmap b with
      | none=>rfl
      | some es=>rw[hle.pmap _ _ hg]at hc;cases hc
     | some es=>
      rcases st.newm b es hc with y | y | y
      ·exact y.symm
      ·exact absurd y q1
      ·omega
   ·simp only[Gh.back];rw[if_neg (by omega),hpi];exact hu
 ·rcases get hii with ⟨k,o1,k1,k2,k3⟩|⟨hl,hpi,ho⟩<;>rcases get hjj with ⟨k',o1',k1',k2',k3'⟩|⟨hl',hpi',ho'⟩
  ·have:=st.inv.inj k k' o1 o1' bi bj k2 k2' (blk_new k1 k3 hbi) (blk_new k1' k3' hbj) he
   subst this;rw[k1]at k1';cases k1';rfl
  ·exfalso;obtain⟨q1,q2⟩:=apart hpi' ho' (blk_old hl' hpi' hbj);rcases st.newb bi ⟨k,o1,k2,blk_new k1 k3 hbi⟩ with y | y
   ·rw[he]at y;exact q1 y
   ·omega
  ·exfalso;obtain⟨q1,q2⟩:=apart hpi ho (blk_old hl hpi hbi);rcases st.newb bj ⟨k',o1',k2',blk_new k1' k3' hbj⟩ with y | y
   ·rw[<- he]at y;exact q1 y
   ·omega
  ·exact hi.inj i j oi oj bi bj ho ho' (blk_old hl hpi hbi) (blk_old hl' hpi' hbj) he
 ·have hn:h.length<=i:=by simp at hil;omega
  have hn2:h1.length<=ids.length+(i - h.length):=by simp at hil;omega
  simp only[Gh.back];rw[if_pos hn];exact⟨(st.inv.new _ hn2).1,λ v=>by rw[if_pos hn];exact(st.inv.new _ hn2).2 v⟩
 ·rcases st.newp b o v x with y | y | y
  ·exact .inl y
  ·exact .inr (.inl (owned_back b y))
  ·exact .inr (.inr y)
 ·rcases st.newm b es x with y | y | y
  ·exact .inl y
  ·exact .inr (.inl (owned_back b y))
  ·exact .inr (.inr y)
 ·obtain⟨i,o,hio,hbi⟩:=x;rcases get hio with ⟨k,o1,k1,k2,k3⟩|⟨hl,hpi,ho⟩
  ·rcases st.newb b ⟨k,o1,k2,blk_new k1 k3 hbi⟩ with y | y
   ·exact .inl (owned_back b y)
   ·exact .inr y
  ·exact .inl ⟨i,o,ho,blk_old hl hpi hbi⟩
end
end
section
def KH(P:Program)(e:Env):Prop:=∀ (f:Nat) (args:List X) (h:Mem) (z:X) (h':Mem),e.call f args h=some (z,h')->
 ∀ (G:Gh) (w:World) (vs:List Value),Inv G h w->GlobOk e G->RdL G vs args->CallsAs P G h w f vs.toArray z h'
section
variable {P:Program} {e:Env} {G:Gh} {h h':Mem} {w:World} {s:Zf} {a:Act} {nt:Nat}
theorem CallsAs.map{G2:Gh}{h2 h2':Mem}{f:Nat}{vs:Array Value}{z z2:X}(hk:CallsAs P G h w f vs z h')(hm:∀ v w' G',Step G h w G' h' w'->RdX G' v z->∃ G2',Step G2 h2 w G2' h2' w'/\RdX G2' v z2):CallsAs P G2 h2 w f vs z2 h2':=by
 rcases hk with ⟨v,w',G',hr,hst,hx⟩|⟨f',vs',w0,hr,hc⟩
 ·obtain⟨G2',h1,h3⟩:=hm v w' G' hst hx;exact .inl ⟨v,w',G2',hr,h1,h3⟩
 ·refine .inr ⟨f',vs',w0,hr,hc.mono λ en w' hx=>?_⟩
  obtain⟨v,G',rfl,hst,hx⟩:=hx;obtain⟨G2',h1,h3⟩:=hm v w' G' hst hx;exact⟨v,G2',rfl,h1,h3⟩
theorem GlobOk.pick(hg:GlobOk e G)(ids:List Nat):GlobOk e (G.pickG ids):=λ g cs hgl i c hc=>
 let ⟨v,a,b⟩:=hg g cs hgl i c hc;⟨v,a,b.sub (UE G ids).sub⟩
theorem Qv(hB:KH P e):CallOk P e:=by
 intro h f args z h' hd G w vs hi hg hv;unfold Zi at hd;split at hd
 ·cases hd
 ·rename_i hids;have hren:X.ren.renL (λ i=>Xw i []) 6 args=some args:=by
   have:=Vu 0 6 args [] hids rfl
   have e1:(λ i=>Xw i [])=V6 0:=by funext i;simp[Xw,V6]
   rw[e1];exact this
  have hv':=RdL.ren (UE G []) 6 args args vs hren hv
  obtain⟨hsub,_,_⟩:=GV hi (ids:=[]) List.nodup_nil (sub:=[]) (sub':=[]) rfl rfl;have hbk:Va h.length []=λ k=>some (h.length+k):=by
   funext k
   have:Nat.ble 0 k=true:=ZE (Nat.zero_le k)
   simp[Va,this]
  split at hd
  ·rename_i r hr;cases hd;have hk:=hB f args [] z [] hr (G.pickG []) w vs hsub (hg.pick []) hv'
   refine hk.map λ v w' G' st hx=>?_
   obtain⟨s1,_⟩:=Kj hi (ids:=[]) List.nodup_nil (sub:=[]) (sub':=[]) rfl rfl st (h2:=[]) rfl;have s2:Step G h w (G.back G' h.length []) h w':=by simpa [YS] using s1
   have hle:G'.le (G.back G' h.length []):=by
    refine⟨λ _ _ _ x=>x,λ _ _ x=>x,λ i b x=>?_,λ i v t x=>?_⟩
    ·rw[(st.inv.new i (Nat.zero_le _)).1]at x;cases x
    ·rw[(st.inv.new i (Nat.zero_le _)).2 v]at x;cases x
   exact⟨G.back G' h.length [],s2,hx.mono hle⟩
  ·rename_i r nw hne hr;split at hd
   ·rename_i r' l hr1 hr2;cases hd;have hk:=hB f args [] r nw hr (G.pickG []) w vs hsub (hg.pick []) hv'
    refine hk.map λ v w' G' st hx=>?_
    rw[<- hbk]at hr1 hr2;obtain⟨s1,s2⟩:=Kj hi (ids:=[]) List.nodup_nil (sub:=[]) (sub':=[]) rfl rfl st hr2;exact⟨_,by simpa [YS] using s1,RdX.ren (Jp List.nodup_nil s2) 6 r z v hr1 hx⟩
   ·cases hd
  ·cases hd
 ·rename_i is hne hids;split at hd
  ·cases hd
  ·rename_i ids hreach;have hnd:=Qd hreach List.nodup_nil
   split at hd
   ·rename_i args' sub ha hp;split at hd
    ·rename_i sub' hr;split at hd
     ·rename_i r h1 hc;simp only at hd;split at hd
      ·rename_i r' h2 hr1 hr2;cases hd;obtain⟨hsub,_,_⟩:=GV hi hnd hp hr;have hv':=RdL.ren (UE G ids) 6 args args' vs ha hv
       have hk:=hB f args' sub' r h1 hc (G.pickG ids) w vs hsub (hg.pick ids) hv'
       refine hk.map λ v w' G' st hx=>?_
       obtain⟨s1,s2⟩:=Kj hi hnd hp hr st hr2;exact⟨_,s1,RdX.ren (Jp hnd s2) 6 r z v hr1 hx⟩
      ·cases hd
     ·cases hd
    ·cases hd
   ·cases hd
def JC(P:Program)(p:Prg)(f:Nat)(g:List X->Mem->Option (X × Mem)):Prop:=∀ (args:List X) (h:Mem) (z:X) (h':Mem),g args h=some (z,h')->
 ∀ (G:Gh) (w:World) (vs:List Value),Inv G h w->RdL G vs args->CallsAs P G h w f vs.toArray z h'
structure FnOk(P:Program)(f:Nat)(fn:PFn):Prop where
 ok:∃ fu c,P.funcs[f]?=some fu/\fu.body=some c/\(fu.name == "runtime.NumGoroutine")=false/\tr P fu.ntmps c=some fn.body.erase/\Q1 P fu.results.toList=some fn.res/\fn.np<=fu.ntmps
structure PrgOk(P:Program)(p:Prg):Prop where
 body:∀ f fn,p.fn f=some (.body fn)->FnOk P f fn
 prim:∀ f g,p.fn f=some (.prim g)->JC P p f g
 lies:∀ t n off u,p.lies t n off u=true->liesAt P P.depth t (n / P.cellsOf t) off u 1=true
theorem J8:∀ (xs:List X) (k i:Nat),Zm (Xb k xs) i=if k<=i then(xs[i - k]?).getD .undef else .undef
 | [],k,i=>by simp[Xb,Zm]
 | x::xs,k,i=>by
  simp only[Xb,XA];by_cases h:k=i
  ·subst h;simp
  ·rw[if_neg h,J8 xs (k+1) i];by_cases h2:k<=i
   ·rw[if_pos (by omega),if_pos h2,show i - k=(i - (k+1))+1 by omega];simp
   ·rw[if_neg (by omega),if_neg h2]
theorem jA{vs:List Value}{args:List X}(hv:RdL G vs args){nt:Nat}(hn:args.length<=nt):SlotsRel G (Xb 0 args) ⟨vs.toArray++Array.replicate (nt - vs.toArray.size) undef,[]⟩ nt:=by
 have hl:=hv.1
 refine⟨by simp;omega,λ i=>?_⟩
 rw[J8,if_pos (Nat.zero_le _),Nat.sub_zero];rcases Zl i args.length with q | q
 ·have h1:args[i]?=some args[i]:=Zb q
  have h2:vs[i]?=some (vs[i]'(by omega)):=Zb (by omega)
  rw[h1];simp only[Option.getD_some];have:(vs.toArray++Array.replicate (nt - vs.toArray.size) undef).getD i undef=vs[i]'(by omega):=by
   rw[Array.getD_eq_getD_getElem?,Array.getElem?_append_left (by simp;omega)]
   simp[h2]
  simp only[this];exact hv.2 i _ _ h2 h1
 ·rw[List.getElem?_eq_none q];exact .undef _
theorem yo{f:Nat}{fu:Func}{c:Code}(hf:P.funcs[f]?=some fu)(hb:fu.body=some c)(hn:(fu.name == "runtime.NumGoroutine")=false)(vs:Array Value):(callFunc f vs).run P w=.ok (.enter f vs) w:=by
 have hn':¬ fu.name = "runtime.NumGoroutine":=by simpa using hn
 simp[callFunc,hf,hb,hn',Result.andThen]
end
end
theorem Zaj{e:Env}{s:Zf}{h h1:Mem}{op:POp}{v:X}(hk:op.kind e s=0)(hev:evalOp e s h op=some (v,h1)):h1=h/\∀ h2,evalOp e s h2 op=some (v,h2):=by
 cases op
 case load ag n a=>
  simp only[POp.kind]at hk;simp only[evalOp]at hev ⊢;split at hk
  ·rename_i c hc;simp only[hc]at hev ⊢;split at hev
   ·rename_i e1;cases e1
   ·rename_i cs e1;cases hb:Nat.ble n cs.length with
    | false=>rw[hb]at hev;simp at hev
    | true=>
     rw[hb]at hev;simp only[cond_true]at hev;cases e1;cases ho:Z7 ag ((cs.take n).map X.c) with
     | none=>rw[ho]at hev;simp[V1]at hev
     | some z=>rw[ho]at hev;simp only[V1,Option.some.injEq,Prod.mk.injEq]at hev;obtain⟨rfl,rfl⟩:=hev;simp[hb,ho,V1]
   ·cases hev
  ·cases hk
 case call f args=>
  simp only[POp.kind]at hk;simp only[evalOp,Zi]at hev ⊢;split at hk
  ·rename_i hids;split at hk
   ·rename_i r hr;rw[hids]at hev;simp only[hr]at hev;simp only[Option.some.injEq,Prod.mk.injEq]at hev;obtain⟨rfl,rfl⟩:=hev;simp[hids,hr]
   ·cases hk
  ·cases hk
 all_goals first
  | (simp[POp.kind]at hk;done)
  | skip
 all_goals
  simp only[evalOp,yy,V1,VT,qr]at hev ⊢
  (repeat' split at hev)<;>simp_all [Bool.cond_eq_ite]<;>(try (obtain⟨_,hev⟩:=hev))<;>(try (split at hev<;>simp_all))<;>(try (intros;exfalso;omega))
theorem Zai{e:Env}{s:Zf}{h h1:Mem}{op:POp}{v:X}(hk:op.kind e s=1)(hev:evalOp e s h op=some (v,h1)):h1=h:=by
 cases op
 case call f args=>
  simp only[POp.kind]at hk;split at hk
  ·split at hk<;>cases hk
  ·cases hk
 case load ag n a=>
  simp only[evalOp,V1]at hev
  (repeat' split at hev)<;>simp_all [Bool.cond_eq_ite]<;>(try (obtain⟨_,hev⟩:=hev))<;>(try (split at hev<;>simp_all))<;>(try (intros;exfalso;omega))
 all_goals first
  | (simp[POp.kind]at hk;done)
  | skip
 all_goals
  simp only[evalOp,yy,V1,VT,qr]at hev
  (repeat' split at hev)<;>simp_all [Bool.cond_eq_ite]<;>(try (obtain⟨_,hev⟩:=hev))<;>(try (split at hev<;>simp_all))<;>(try (intros;exfalso;omega))
theorem Xa{i:Nat}:∀ {l:List Nat},mem i l=true↔i∈l
 | []=>by simp[mem]
 | j::r=>by
  simp only[mem,Bool.or_eq_true,Xa (l:=r),List.mem_cons];constructor
  ·rintro(h | h)
   ·exact .inl (Yd h)
   ·exact .inr h
  ·rintro(h | h)
   ·subst h;exact .inl (Nat.beq_refl _)
   ·exact .inr h
theorem XP:∀ (l:List (List Nat)) (i:Nat),Yv l i=(l[i]?).getD []
 | [],i=>by simp[Yv]
 | x::r,0=>by simp[Yv]
 | x::r,i+1=>by simp[Yv,XP r i]
theorem QC{j:Nat}:∀ {l:List Nat},j∈wW l↔j∈l
 | []=>by simp[wW]
 | a::r=>by
  simp only[wW];cases hm:mem a r with
  | true=>
   simp only[cond_true,QC,List.mem_cons];refine⟨.inr,λ h=>?_⟩
   rcases h with rfl | h
   ·exact Xa.1 hm
   ·exact h
  | false=>simp only[cond_false,List.mem_cons,QC]
def Xs(o:Oper):List Nat:=(o.after.toList.filter λ e=>Region.binds .any e).map (·.on)
theorem UL:∀ {l:List Oper} {i:Nat} {acc anc:List (List Nat)},qK l i acc=some anc->acc.length=i->
  anc.length=i+l.length/\(∀ j,j < i->Yv anc j=Yv acc j)/\∀ k o,l[k]?=some o->(∀ j∈Xs o,j < i+k)/\∀ j,j∈Xs o\/(∃ m∈Xs o,j∈Yv anc m)->j∈Yv anc (i+k)
 | [],i,acc,anc,h,ha=>by
  simp[qK]at h;subst h;exact⟨by simp[ha],λ _ _=>rfl,λ k o hk=>by simp at hk⟩
 | x::r,i,acc,anc,h,ha=>by
  simp only[qK]at h;split at h
  ·cases h
  ·rename_i hall;simp only[Bool.not_eq_false,Zz]at hall;obtain⟨h1,h2,h3⟩:=UL h (by simp[ha])
   have hle:∀ j∈Xs x,j < i:=λ j hj=>Zg (hall j hj)
   refine⟨by simp[h1];omega,λ j hj=>?_,λ k o hk=>?_⟩
   ·rw[h2 j (by omega),XP,XP,Zr (by omega)]
   ·cases k with
    | zero=>
     simp at hk;subst hk;refine⟨λ j hj=>by have:=hle j hj;omega,λ j hj=>?_⟩
     rw[Nat.add_zero,h2 i (by omega),XP,Zp (by omega)]
     simp only[ha,Nat.sub_self,List.getElem?_cons_zero,Option.getD_some,QC,List.mem_append];rcases hj with hj | ⟨m,hm,hj⟩
     ·exact .inl hj
     ·right
      rw[List.mem_flatten];refine⟨_,List.mem_map.2 ⟨m,hm,rfl⟩,?_⟩;have:=hle m hm
      rw[h2 m (by omega),XP,Zr (by omega),<- XP]at hj
      exact hj
    | succ k=>
     obtain⟨q1,q2⟩:=h3 k o (by simpa using hk)
     rw[show i+(k+1)=i+1+k by omega]
     exact⟨q1,q2⟩
theorem Qs{x y:POper}(h:V7 x y=true){d:Nat}(hd:x.dst=some d):d∉y.tmps/\y.dst ≠ some d:=by
 simp only[V7,hd,Bool.and_eq_true,Bool.not_eq_true']at h;refine⟨λ hm=>?_,λ hy=>?_⟩
 ·rw[Xa.2 hm]at h;simp at h
 ·rw[hy]at h;simp at h
theorem J9{anc:List (List Nat)}{i:Nat}{x:POper}:∀ {l:List POper} {j:Nat},apartAll.go anc i x l j=true->∀ k y,l[k]?=some y->i∈Yv anc (j+k)\/(V7 x y=true/\V7 y x=true)
 | [],j,h,k,y,hk=>by simp at hk
 | z::r,j,h,k,y,hk=>by
  simp only[apartAll.go,Bool.and_eq_true,Bool.or_eq_true]at h;cases k with
  | zero=>
   simp at hk;subst hk;rcases h.1 with h1 | h1
   ·exact .inl (by simpa using Xa.1 h1)
   ·exact .inr h1
  | succ k=>
   rw[show j+(k+1)=j+1+k by omega]
   exact J9 h.2 k y (by simpa using hk)
theorem Ja{anc:List (List Nat)}:∀ {l:List POper} {i:Nat},apartAll anc l i=true->∀ a b x y,a < b->l[a]?=some x->l[b]?=some y->i+a∈Yv anc (i+b)\/(V7 x y=true/\V7 y x=true)
 | [],i,h,a,b,x,y,_,ha,_=>by simp at ha
 | z::r,i,h,a,b,x,y,hab,ha,hb=>by
  simp only[apartAll,Bool.and_eq_true]at h;cases b with
  | zero=>omega
  | succ b=>
   cases a with
   | zero=>
    simp at ha;subst ha;have:=J9 h.1 b y (by simpa using hb)
    rw[show i+(b+1)=i+1+b by omega]
    exact this
   | succ a=>
    have:=Ja h.2 a b x y (by omega) (by simpa using ha) (by simpa using hb)
    rw[show i+(a+1)=i+1+a by omega,show i+(b+1)=i+1+b by omega]
    exact this
abbrev Wr:=Option Nat × X
def sl(S:Nat->Bool):List Wr->Nat->Zf->Zf
 | [],_,s=>s
 | (d,v)::r,i,s=>sl S r (i+1) (bif S i then Yo s d v else s)
theorem Um(s:Zf)(d:Option Nat)(v:X)(t:Nat):Zm (Yo s d v) t=if d=some t then v else Zm s t:=by
 cases d with
 | none=>simp[Yo]
 | some j=>
  simp only[Yo,XA,Option.some.injEq]
theorem UZ{S S':Nat->Bool}{t:Nat}:∀ {W:List Wr} {i:Nat} {s s':Zf},Zm s t=Zm s' t->(∀ k d v,W[k]?=some (d,v)->d=some t->S (i+k)=S' (i+k))->Zm (sl S W i s) t=Zm (sl S' W i s') t
 | [],i,s,s',hs,_=>hs
 | (d,v)::r,i,s,s',hs,h=>by
  simp only[sl];refine UZ ?_ (λ k d' v' hk hd=>by
   have:=h (k+1) d' v' (by simpa using hk) hd
   rwa [show i+(k+1)=i+1+k by omega]at this)
  by_cases hd:d=some t
  ·have:=h 0 d v rfl hd
   rw[Nat.add_zero]at this;rw[this];cases S' i
   ·simpa using hs
   ·simp only[cond_true,Um,if_pos hd]
  ·have e:∀ (b:Bool) (s:Zf),Zm (bif b then Yo s d v else s) t=Zm s t:=by
    intro b s;cases b
    ·rfl
    ·simp only[cond_true,Um,if_neg hd]
   rw[e,e];exact hs
theorem uq{S:Nat->Bool}{t:Nat}{v:X}:∀ {W:List Wr} {i k:Nat} {s:Zf},W[k]?=some (some t,v)->S (i+k)=true->(∀ m d u,k < m->W[m]?=some (d,u)->d=some t->S (i+m)=false)->Zm (sl S W i s) t=v
 | [],i,k,s,h,_,_=>by simp at h
 | (d,u)::r,i,0,s,h,hS,hn=>by
  simp at h;obtain⟨rfl,rfl⟩:=h;rw[Nat.add_zero]at hS;simp only[sl,hS,cond_true];have:Zm (sl S r (i+1) (Yo s (some t) u)) t=Zm (sl (λ _=>false) r (i+1) (Yo s (some t) u)) t:=by
   refine UZ rfl (λ k d' v' hk hd=>?_)
   have:=hn (k+1) d' v' (by omega) (by simpa using hk) hd
   rwa [show i+(k+1)=i+1+k by omega]at this
  rw[this];have none_:∀ (r:List Wr) (j:Nat) (s:Zf),sl (λ _=>false) r j s=s:=by
   intro r
   induction r with
   | nil=>intro j s;rfl
   | cons x r ih=>intro j s;obtain⟨d,v⟩:=x;simp only[sl,cond_false];exact ih _ _
  rw[none_,Um,if_pos rfl]
 | (d,u)::r,i,k+1,s,h,hS,hn=>by
  simp only[sl];refine uq (k:=k) (by simpa using h) (by rwa [show i+(k+1)=i+1+k by omega]at hS) (λ m d' u' hm hk hd=>?_)
  have:=hn (m+1) d' u' (by omega) (by simpa using hk) hd
  rwa [show i+(m+1)=i+1+m by omega]at this
theorem Er(W:List Wr)(k:Nat)(s:Zf)(t:Nat):Zm (sl (λ _=>true) (W.take k) 0 s) t=Zm (sl (λ j=>decide (j < k)) W 0 s) t:=by
 have h1:∀ (W V:List Wr) (i:Nat) (s:Zf) (S:Nat->Bool),(∀ j,j < W.length->S (i+j)=true)->(∀ j,j < V.length->S (i+W.length+j)=false)->sl S (W++V) i s=sl (λ _=>true) W i s:=by
  intro W
  induction W with
  | nil=>
   intro V
   induction V with
   | nil=>intro i s S _ _;rfl
   | cons x V ih=>
    intro i s S a b;obtain⟨d,v⟩:=x;have:=b 0 (by simp)
    simp only[List.length_nil,Nat.add_zero]at this;simp only[List.nil_append,sl,this,cond_false];exact ih (i+1) s S (λ j hj=>by simp at hj) (λ j hj=>by
     have:=b (j+1) (by simp;omega)
     simp only[List.length_nil,Nat.add_zero]at this ⊢
     rwa [show i+1+j=i+(j+1) by omega])
  | cons x W ih=>
   intro V i s S a b;obtain⟨d,v⟩:=x;have:=a 0 (by simp)
   rw[Nat.add_zero]at this;simp only[List.cons_append,sl,this,cond_true];exact ih V (i+1) _ S (λ j hj=>by
    have:=a (j+1) (by simp;omega)
    rwa [show i+1+j=i+(j+1) by omega]) (λ j hj=>by
    have:=b j hj
    simp only[List.length_cons]at this
    rwa [show i+1+W.length+j=i+(W.length+1)+j by omega])
 rcases Zl k W.length with hk | hk
 ·have:=h1 (W.take k) (W.drop k) 0 s (λ j=>decide (j < k)) (λ j hj=>by simp at hj ⊢;omega) (λ j hj=>by simp at hj ⊢;omega)
  rw[List.take_append_drop]at this;rw[this]
 ·rw[List.take_of_length_le hk];have:=h1 W [] 0 s (λ j=>decide (j < k)) (λ j hj=>by simp;omega) (λ j hj=>by simp at hj)
  rw[List.append_nil]at this;rw[this]
def wr(r:Rec):Wr:=(r.o.dst,r.v)
theorem UA{e:Env}:∀ {l:List POper} {s:Zf} {h:Mem} {rs:List Rec} {σ:St},Yq e l s h=some (rs,σ)->
  rs.length=l.length/\σ.s=sl (λ _=>true) (rs.map wr) 0 s/\∀ k r,rs[k]?=some r->l[k]?=some r.o/\r.s=ZK r.o.tmps (sl (λ _=>true) ((rs.map wr).take k) 0 s)/\wanted r.s r.o.guard=some r.run/\
   (r.run=true->∃ h1 h2,evalOp e r.s h1 r.o.op=some (r.v,h2))/\(r.run=false->r.v=.c (.tup []))
 | [],s,h,rs,σ,hp=>by
  simp[Yq]at hp;obtain⟨rfl,rfl⟩:=hp;exact⟨rfl,rfl,λ k r hk=>by simp at hk⟩
 | o::l,s,h,rs,σ,hp=>by
  simp only[Yq]at hp;have tail:∀ {run v h' rs' σ'},Yq e l (Yo s o.dst v) h'=some (rs',σ')->wanted (ZK o.tmps s) o.guard=some run->(run=true->∃ h1 h2,evalOp e (ZK o.tmps s) h1 o.op=some (v,h2))->(run=false->v=.c (.tup []))->
    (⟨ZK o.tmps s,o,run,v⟩::rs':List Rec).length=(o::l).length/\σ'.s=sl (λ _=>true) ((⟨ZK o.tmps s,o,run,v⟩::rs':List Rec).map wr) 0 s/\∀ k r,(⟨ZK o.tmps s,o,run,v⟩::rs':List Rec)[k]?=some r->(o::l)[k]?=some r.o/\r.s=ZK r.o.tmps (sl (λ _=>true) (((⟨ZK o.tmps s,o,run,v⟩::rs':List Rec).map wr).take k) 0 s)/\wanted r.s r.o.guard=some r.run/\
   (r.run=true->∃ h1 h2,evalOp e r.s h1 r.o.op=some (r.v,h2))/\(r.run=false->r.v=.c (.tup [])):=by
   intro run v h' rs' σ' hp' hw h1 h2;obtain⟨i1,i2,i3⟩:=UA hp';have shift:∀ (W:List Wr) (s:Zf),sl (λ _=>true) W 1 s=sl (λ _=>true) W 0 s:=by
    have:∀ (W:List Wr) (i j:Nat) (s:Zf),sl (λ _=>true) W i s=sl (λ _=>true) W j s:=by
     intro W
     induction W with
     | nil=>intro i j s;rfl
     | cons x W ih=>intro i j s;obtain⟨d,v⟩:=x;simp only[sl,cond_true];exact ih _ _ _
    exact λ W s=>this W 1 0 s
   refine⟨by simp[i1],?_,λ k r hk=>?_⟩
   ·rw[i2];simp only[List.map_cons,wr,sl,cond_true,Nat.zero_add];exact(shift _ _).symm
   ·cases k with
    | zero=>simp at hk;subst hk;exact⟨rfl,rfl,hw,h1,h2⟩
    | succ k=>
     obtain⟨j1,j2,j3,j4,j5⟩:=i3 k r (by simpa using hk)
     refine⟨by simpa using j1,?_,j3,j4,j5⟩
     rw[j2];simp only[List.map_cons,List.take_succ_cons,wr,sl,cond_true,Nat.zero_add];rw[shift]
  split at hp
  ·rename_i hw;split at hp
   ·rename_i v h' hev;split at hp
    ·rename_i rs' σ' hp';simp only[Option.some.injEq,Prod.mk.injEq]at hp;obtain⟨rfl,rfl⟩:=hp;exact tail hp' hw (λ _=>⟨h,h',hev⟩) (by simp)
    ·cases hp
   ·cases hp
  ·rename_i hw;split at hp
   ·rename_i rs' σ' hp';simp only[Option.some.injEq,Prod.mk.injEq]at hp;obtain⟨rfl,rfl⟩:=hp;exact tail hp' hw (by simp) (λ _=>rfl)
   ·cases hp
  ·cases hp
section
section
variable {P:Program} {e:Env} {G:Gh} {h h':Mem} {w:World} {s:Zf} {a:Act} {nt:Nat}
theorem SlotsRel.of_get{s':Zf}(hs:SlotsRel G s a nt)(h:∀ t,Zm s' t=Zm s t):SlotsRel G s' a nt:=⟨hs.size,λ i=>by rw[h i];exact hs.rd i⟩
theorem zY(l:List Nat)(s:Zf)(t:Nat):Zm (ZK l s) t=if t∈l then Zm s t else .undef:=by
 induction l with
 | nil=>simp[ZK,Zm]
 | cons j r ih=>
  simp only[ZK,List.map_cons,XA];by_cases e:j=t
  ·subst e;simp
  ·rw[if_neg e];have:t∈j::r↔t∈r:=by
    rw[List.mem_cons];constructor
    ·rintro(x | x)
     ·exact absurd x.symm e
     ·exact x
    ·exact .inr
   simp only[this];exact ih
theorem EW(op:POp)(e:Env)(s:Zf):op.kind e s=0\/op.kind e s=1\/op.kind e s=2:=by
 cases op<;>simp only[POp.kind]<;>(repeat' split)<;>simp
theorem HR{o:Oper}{next:Act->World->Prop}{Q:Go.Exit->Act->World->Prop}(hw:o.wp P a w (λ a' w'=>(a'.defers=a.defers->∃ u,a'=a.put o.dst u)->next a' w') Q):o.wp P a w next Q:=by
 unfold Oper.wp at *
 generalize (execOp a.eval o).run P w=r at *
 cases r with
 | ok n w'=>
  cases n<;>simp only[Oper.upon]at hw ⊢
  case value v=>exact hw (λ _=>⟨v,rfl⟩)
  case skip=>exact hw (λ _=>⟨_,rfl⟩)
  case enter f args=>
   refine hw.mono (λ e w'' he=>?_)
   cases e with
   | returned v=>exact he (λ _=>⟨v,rfl⟩)
   | panicked c=>exact he
   | outgrown=>exact he
  case row r args=>exact Rows.mono hw (λ v w'' he=>he (λ _=>⟨v,rfl⟩))
  case defer d=>
   refine hw (λ hd=>?_)
   exfalso;rw[Pi.put_defers]at hd;have:=congrArg List.length hd
   simp at this
 | halt x w'=>cases x<;>simp only[Oper.upon]at hw ⊢<;>exact hw
theorem gy{ops:Array Oper}{o:Oper}{d:Option Nat}{pop:POp}(h:UN P true ops o=some (d,pop)):d=o.dst:=by
 have plain:((Yi P o.type o.op).map (o.dst,·))=some (d,pop)->d=o.dst:=by
  intro hp;simp only[Zc,Prod.mk.injEq]at hp;obtain⟨_,_,h1,_⟩:=hp;exact h1.symm
 unfold UN at h;repeat' (first|exact plain h | (cases h;rfl)|(cases h;done)|split at h)
 ·rename_i hc _;simp only[Option.some.injEq,Prod.mk.injEq]at h;rw[hc.1];exact h.1.symm
 ·rename_i hx;exact absurd rfl hx
theorem UW{dr:Bool}{ops:Array Oper}:∀ {os:List Oper} {l:List POper},VG P nt dr ops os=some l->l.length=os.length/\∀ (k:Nat) (o:Oper),os[k]?=some o->∃ q:POper,l[k]?=some q/\VZ P nt dr ops o=some q
 | [],l,h=>by simp[VG]at h;subst h;exact⟨rfl,λ k o hk=>by simp at hk⟩
 | x::r,l,h=>by
  simp only[VG]at h;split at h
  ·rename_i q qs h1 h2;cases h;obtain⟨i1,i2⟩:=UW h2;refine⟨by simp[i1],λ k o hk=>?_⟩
   cases k with
   | zero=>simp at hk;subst hk;exact⟨q,rfl,h1⟩
   | succ k=>exact i2 k o (by simpa using hk)
  ·cases h
theorem QM{rs:List Rec}{j:Nat}:∀ {i:Nat},j∈YW e i rs↔∃ k r,j=i+k/\rs[k]?=some r/\r.eff e=true:=by
 induction rs with
 | nil=>intro i;simp[YW]
 | cons x rs ih=>
  intro i;simp only[YW];have step:(∃ k r,j=i+k/\(x::rs)[k]?=some r/\r.eff e=true)↔(j=i/\x.eff e=true)\/∃ k r,j=i+1+k/\rs[k]?=some r/\r.eff e=true:=by
   constructor
   ·rintro⟨k,r,h1,h2,h3⟩
    cases k with
    | zero=>simp at h2;subst h2;exact .inl ⟨by simpa using h1,h3⟩
    | succ k=>exact .inr ⟨k,r,by omega,by simpa using h2,h3⟩
   ·rintro(⟨h1,h2⟩|⟨k,r,h1,h2,h3⟩)
    ·exact⟨0,x,by simpa using h1,rfl,h2⟩
    ·exact⟨k+1,r,by omega,by simpa using h2,h3⟩
  rw[step];cases hx:x.eff e with
  | true=>simp[ih]
  | false=>simp[ih]
theorem JL{anc:List (List Nat)}{es done:List Nat}:∀ {rs:List Rec} {i:Nat},YF e anc es done h i rs=true->∀ k r,rs[k]?=some r->r.run=true->r.o.op.kind e r.s=1->YB anc es done (i+k)=true->∃ h',evalOp e r.s h r.o.op=some (r.v,h')
 | [],i,hr,k,r,hk,_,_,_=>by simp at hk
 | x::rs,i,hr,k,r,hk,h1,h2,h3=>by
  simp only[YF,Bool.and_eq_true]at hr;cases k with
  | zero=>
   simp at hk;subst hk;rw[Nat.add_zero]at h3;have:=hr.1
   rw[h1,h2,h3]at this;simp only[Nat.beq_refl,Bool.and_self,Bool.not_true,Bool.false_or]at this;split at this
   ·rename_i u h' he;rw[X.same_eq this]at he;exact⟨h',he⟩
   ·cases this
  | succ k=>
   exact JL hr.2 k r (by simpa using hk) h1 h2 (by rwa [show i+1+k=i+(k+1) by omega])
theorem uO(hi:Inv G h w){v:Value}{x:X}(hx:RdX G v x):RdX G v (vz h x):=by
 unfold vz
 split
 ·rename_i es id ver
  split
  ·rename_i v' s' t' wv hm;cases hb:Nat.beq v' (ver+1) with
   | false=>exact hx
   | true=>
    simp only[cond_true];have:=Yd hb;subst this
    obtain⟨_,t,t0,f1,f2,f3,f4,f5,f6,f7,f8⟩:=hi.ob id _ hm;obtain⟨o,cap,tp,e1,g1,g2,g3,g4,g5⟩:=hx.pend_inv;rw[Nat.add_sub_cancel]at f2;rw[g1]at f2;cases f2;rw[e1,f3];have hl:(es++[wv]).length=es.length+1:=by simp
    rw[<- hl];refine .own (es++[wv]) id (ver+1) o cap t f1 ?_ ?_ (by rw[hl];exact g4) ?_
    ·rw[hl,f7,<- f4,<- g2,f6,Nat.add_mul];omega
    ·rw[f7,<- f5];rw[f6]at g3;exact g3
    ·rw[f7];rw[f3,f6]at g5;rw[<- g2,f6]at f8;refine⟨λ i c hc=>?_,λ i c j d hc hd=>?_⟩
     ·rcases Zl i es.length with q | q
      ·rw[Zr q]at hc;exact g5.1 i c hc
      ·rw[Zp q]at hc;exact f8.1 _ c hc
     ·rcases Zl i es.length with q | q
      ·rw[Zr q]at hc;exact g5.2 i c j d hc hd
      ·rw[Zp q]at hc;have hi0:i - es.length=0:=by
        have:=(Za.1 hc).1
        simp at this;omega
       rw[hi0]at hc;obtain⟨u,k1,k2⟩:=f8.2 0 c j d hc hd;refine⟨u,?_,k2⟩;have:i=es.length:=by omega
       rw[this,<- k1];congr 1;omega
  ·exact hx
 ·exact hx
theorem ES{G0:Gh}{h0:Mem}{w0:World}(st:Step G0 h0 w0 G h w)(hs:SlotsRel G s a nt):Step G0 h0 w0 G (Qg ⟨s,h⟩).h w/\SlotsRel G (Qg ⟨s,h⟩).s a nt:=by
 unfold Qg;cases hf:hasF h with
 | false=>simp only[hf,cond_false];exact⟨st,hs⟩
 | true=>
  simp only[hf,cond_true];constructor
  ·refine st.reobs (by simp) (λ id o ho=>?_)
   simp only[List.getElem?_map,Zc]at ho;obtain⟨o1,h1,rfl⟩:=ho;refine⟨o1,h1,?_,?_⟩
   ·have hr:=st.inv.ob id o1 h1
    cases o1 with
    | cells t cs=>
     obtain⟨b,vs,fr,k1,k2,k3,k4,k5,k6,k7⟩:=hr;refine⟨b,vs,fr,k1,k2,by simpa using k3,λ i c hc=>?_,k5,k6,k7⟩
     simp only[List.getElem?_map,Zc]at hc;obtain⟨c0,hc0,rfl⟩:=hc;obtain⟨v,m1,m2,m3⟩:=k4 i c0 hc0;exact⟨v,m1,m2,uO st.inv m3⟩
    | tipF ver st' el wv=>exact hr.1
    | dead=>exact hr
    | tip _ _ _=>exact hr
    | map _ _=>exact hr
    | siter _ _=>exact hr
    | miter _ _ _=>exact hr
   ·cases o1<;>rfl
  ·refine⟨hs.size,λ i=>?_⟩
   have:∀ (s:Zf),Zm (s.map fun (i,x)=>(i,vz h x)) i=vz h (Zm s i):=by
    intro s
    induction s with
    | nil=>simp[Zm,vz]
    | cons p r ih=>
     obtain⟨j,x⟩:=p;simp only[List.map_cons,XA]
     split
     ·rfl
     ·exact ih
   rw[this];exact uO st.inv (hs.rd i)
end
end
section
structure Reg(P:Program)(e:Env)(nt:Nat)(ops:Array Oper) where
 l:List POper
 anc:List (List Nat)
 rs:List Rec
 s0:Zf
 σ:St
 h0:Mem
 tr:VG P nt true ops ops.toList=some l
 an:yf l ops=some anc
 pass:Yq e l s0 h0=some (rs,σ)
section
variable {P:Program} {e:Env} {nt:Nat} {ops:Array Oper}
def Reg.W(R:Reg P e nt ops):List Wr:=R.rs.map wr
structure Node(R:Reg P e nt ops)(G0:Gh)(w0:World)(a0:Act)(listed:Array Bool)(a:Act)(w:World):Prop where
 size:listed.size=ops.size
 closed:∀ i j,listed.getD i false=true->j∈Yv R.anc i->listed.getD j false=true
 mem:∃ (G:Gh) (h:Mem) (done:List Nat) (m:Nat),(∀ j,j∈done↔(j∈YW e 0 R.rs/\listed.getD j false=true))/\Yz e R.anc R.rs (YW e 0 R.rs) R.σ.h m done h=true/\
  Step G0 R.h0 w0 G h w/\SlotsRel G (sl (λ i=>listed.getD i false) R.W 0 R.s0) a nt
 defers:a.defers=a0.defers
theorem Reg.at_(R:Reg P e nt ops){i:Nat}{o:Oper}(ho:ops[i]?=some o):∃ r,R.rs[i]?=some r/\R.l[i]?=some r.o/\(∀ k,o.dst=some k->k < nt)/\UN P true ops o=some (r.o.dst,r.o.op)/\r.o.dst=o.dst/\
  ((o.guard=none/\r.o.guard=none)\/∃ j b d,o.guard=some (j,b)/\(ops[j]?).bind (·.dst)=some d/\r.o.guard=some (d,b)/\r.o.dst=o.dst):=by
 obtain⟨l1,l2⟩:=UW R.tr;obtain⟨p1,_,p3⟩:=UA R.pass;obtain⟨q,hq,ht⟩:=l2 i o (by simpa using ho)
 have hlt:i < R.rs.length:=by rw[p1];exact(Za.1 hq).1
 obtain⟨k1,_⟩:=p3 i _ (Zb hlt);rw[hq]at k1;have hqe:=Option.some.inj k1
 obtain⟨t1,t2,t3⟩:=Ux ht;rw[hqe]at t2 t3;refine⟨_,Zb hlt,by rw[hq,hqe],t1,t2,gy t2,t3⟩
theorem Reg.anc_spec(R:Reg P e nt ops):(∀ k o,ops[k]?=some o->(∀ j∈Xs o,j < k)/\∀ j,j∈Xs o\/(∃ m∈Xs o,j∈Yv R.anc m)->j∈Yv R.anc k)/\
  ∀ a b x y,a < b->R.l[a]?=some x->R.l[b]?=some y->a∈Yv R.anc b\/(V7 x y=true/\V7 y x=true):=by
 have h:=R.an
 unfold yf at h;split at h
 ·rename_i anc hg;split at h
  ·rename_i hap;cases h;obtain⟨_,_,h3⟩:=UL hg rfl;refine⟨λ k o hk=>?_,λ a b x y hab ha hb=>?_⟩
   ·have:=h3 k o (by simpa using hk)
    simpa using this
   ·have:=Ja hap a b x y hab ha hb
    simpa using this
  ·cases h
 ·cases h
theorem qJ:∀ {l:List Oper} {i:Nat} {acc anc:List (List Nat)},qK l i acc=some anc->acc.length=i->∀ k o,l[k]?=some o->∀ j,j∈Yv anc (i+k)->j∈Xs o\/∃ m∈Xs o,j∈Yv anc m
 | [],i,acc,anc,h,ha,k,o,hk,j,hj=>by simp at hk
 | x::r,i,acc,anc,h,ha,k,o,hk,j,hj=>by
  have hspec:=UL h ha
  simp only[qK]at h;split at h
  ·cases h
  ·rename_i hall;simp only[Bool.not_eq_false,Zz]at hall;obtain⟨h1,h2,h3⟩:=UL h (by simp[ha])
   have hle:∀ j∈Xs x,j < i:=λ j hj=>Zg (hall j hj)
   cases k with
   | zero=>
    simp at hk;subst hk;rw[Nat.add_zero,h2 i (by omega),XP,Zp (by omega)]at hj
    simp only[ha,Nat.sub_self,List.getElem?_cons_zero,Option.getD_some,QC,List.mem_append]at hj;rcases hj with hj | hj
    ·exact .inl hj
    ·rw[List.mem_flatten]at hj;obtain⟨q,hq,hjq⟩:=hj;obtain⟨m,hm,rfl⟩:=List.mem_map.1 hq
     right
     refine⟨m,hm,?_⟩;have:=hle m hm
     rw[h2 m (by omega),XP,Zr (by omega),<- XP]
     exact hjq
   | succ k=>
    rw[show i+(k+1)=i+1+k by omega]at hj
    exact qJ h (by simp[ha]) k o (by simpa using hk) j hj
theorem Reg.anc_only(R:Reg P e nt ops){k:Nat}{o:Oper}(hk:ops[k]?=some o){j:Nat}(hj:j∈Yv R.anc k):j∈Xs o\/∃ m∈Xs o,j∈Yv R.anc m:=by
 have h:=R.an
 unfold yf at h;split at h
 ·rename_i anc hg;split at h
  ·cases h;have:=qJ hg rfl k o (by simpa using hk) j (by simpa using hj)
   exact this
  ·cases h
 ·cases h
theorem Vv{l:Array Bool}{i j:Nat}(hi:i < l.size):(l.setIfInBounds i true).getD j false=if i=j then true else l.getD j false:=by
 rw[Array.getD_eq_getD_getElem?,Array.getD_eq_getD_getElem?];by_cases e:i=j
 ·subst e;simp[hi]
 ·rw[if_neg e,Array.getElem?_setIfInBounds_ne e]
theorem J0{anc:List (List Nat)}{rs:List Rec}{es:List Nat}{fin:Mem}{m:Nat}{done:List Nat}{h:Mem}(hx:Yz e anc rs es fin m done h=true) :
  YF e anc es done h 0 rs=true/\(es.all (λ j=>mem j done)=true->h=fin)/\
  ∀ i∈es,i∉done->YB anc es done i=true->∃ r h' m',rs[i]?=some r/\evalOp e r.s h r.o.op=some (r.v,h')/\Yz e anc rs es fin m' (i::done) h'=true:=by
 cases m with
 | zero=>simp[Yz]at hx
 | succ m=>
  simp only[Yz,Bool.and_eq_true]at hx;obtain⟨h1,h2⟩:=hx;refine⟨h1,λ ha=>?_,λ i hi hd hm=>?_⟩
  ·rw[ha]at h2;exact Mem.same_eq h2
  ·have hna:es.all (λ j=>mem j done)=false:=by
    cases hc:es.all (λ j=>mem j done) with
    | false=>rfl
    | true=>
     rw[Zz]at hc;exact absurd (Xa.1 (hc i hi)) hd
   rw[hna]at h2;simp only[cond_false,Zz]at h2;have:=h2 i hi
   have hmd:mem i done=false:=by
    cases hc:mem i done with
    | false=>rfl
    | true=>exact absurd (Xa.1 hc) hd
   rw[hmd,hm]at this;simp only[Bool.not_true,Bool.or_self,Bool.false_or]at this;split at this
   ·rename_i r hr;split at this
    ·rename_i u h' he;simp only[Bool.and_eq_true]at this;rw[X.same_eq this.1]at he;exact⟨r,h',m,hr,he,this.2⟩
    ·cases this
   ·cases this
theorem gU(hC:CallOk P e)(hl:Xd P e)(R:Reg P e nt ops){G0:Gh}{w0:World}{a0:Act}(hi0:Inv G0 R.h0 w0)(hg0:GlobOk e G0){Q:Go.Exit->Act->World->Prop}{listed:Array Bool}{a:Act}{w:World}(N:Node R G0 w0 a0 listed a w){i:Nat}{o:Oper}(ho:ops[i]?=some o)
  (hnot:listed.getD i false=false) (hready:∀ j∈Xs o,listed.getD j false=true) {K:Act->World->Prop} (hK:∀ a' w',Node R G0 w0 a0 (listed.setIfInBounds i true) a' w'->K a' w'):wpOp P ops Q i K a w:=by
 obtain⟨r,hr,hlr,hdst,htr,hd,hguard⟩:=R.at_ ho;obtain⟨G,h,done,m,hdone,hex,st,hs⟩:=N.mem;obtain⟨p1,p2,p3⟩:=UA R.pass;obtain⟨_,hrs,hwant,hrun,hskip⟩:=p3 i r hr;obtain⟨A1,A2⟩:=R.anc_spec;have hisz:i < listed.size:=by rw[N.size];exact(Array.getElem?_eq_some_iff.1 ho).1
 have ancS:∀ j∈Yv R.anc i,listed.getD j false=true:=by
  intro j hj;rcases R.anc_only ho hj with h1 | ⟨k,h1,h2⟩
  ·exact hready j h1
  ·exact N.closed k j (hready k h1) h2
 have hWget:∀ (k:Nat) (d:Option Nat) (v:X),R.W[k]?=some (d,v)->∃ q:Rec,R.rs[k]?=some q/\q.o.dst=d/\q.v=v/\R.l[k]?=some q.o:=by
  intro k d v hk;simp only[Reg.W,List.getElem?_map,Zc]at hk;obtain⟨q,hq,hw⟩:=hk;simp only[wr,Prod.mk.injEq]at hw;exact⟨q,hq,hw.1,hw.2,(p3 k q hq).1⟩
 have QI:R.W[i]?=some (r.o.dst,r.v):=by simp[Reg.W,hr,wr]
 have look:∀ t∈r.o.tmps,Zm (sl (λ _=>true) (R.W.take i) 0 R.s0) t=Zm (sl (λ j=>listed.getD j false) R.W 0 R.s0) t:=by
  intro t ht;rw[Er];refine UZ rfl (λ k d v hk hdt=>?_)
  rw[Nat.zero_add];obtain⟨q,hq,hqd,_,hlq⟩:=hWget k d v hk;rcases Nat.lt_trichotomy k i with hki | rfl | hki
  ·have:listed.getD k false=true:=by
    rcases A2 k i q.o r.o hki hlq hlr with h1 | ⟨h1,_⟩
    ·exact ancS k h1
    ·exact absurd ht (Qs h1 (by rw[hqd,hdt])).1
   rw[this];simp[hki]
  ·rw[hnot];simp
  ·have:listed.getD k false=false:=by
    cases hc:listed.getD k false with
    | false=>rfl
    | true=>
     rcases A2 i k r.o q.o hki hlr hlq with h1 | ⟨_,h1⟩
     ·rw[N.closed k i hc h1]at hnot;cases hnot
     ·exact absurd ht (Qs h1 (by rw[hqd,hdt])).1
   rw[this];simp;omega
 have hs1:SlotsRel G r.s a nt:=by
  refine⟨hs.size,λ t=>?_⟩
  rw[hrs,zY]
  split
  ·rename_i ht;have:=look t ht
   rw[Reg.W]at this;rw[this];exact hs.rd t
  ·exact .undef _
 have after:∀ t,Zm (sl (λ j=>(listed.setIfInBounds i true).getD j false) R.W 0 R.s0) t=if r.o.dst=some t then r.v else Zm (sl (λ j=>listed.getD j false) R.W 0 R.s0) t:=by
  intro t;by_cases hdt:r.o.dst=some t
  ·rw[if_pos hdt];refine uq (k:=i) (by rw[QI,hdt]) (by rw[Nat.zero_add,Vv hisz,if_pos rfl]) (λ k d v hk hWk hd2=>?_)
   rw[Nat.zero_add,Vv hisz,if_neg (by omega)]
   obtain⟨q,hq,hqd,_,hlq⟩:=hWget k d v hWk;cases hc:listed.getD k false with
   | false=>rfl
   | true=>
    rcases A2 i k r.o q.o hk hlr hlq with h1 | ⟨h1,_⟩
    ·rw[N.closed k i hc h1]at hnot;cases hnot
    ·exact absurd (by rw[hqd,hd2]) (Qs h1 hdt).2
  ·rw[if_neg hdt];refine UZ rfl (λ k d v hWk hd2=>?_)
   rw[Nat.zero_add,Vv hisz];by_cases hik:i=k
   ·subst hik;rw[QI]at hWk;cases hWk;exact absurd hd2 hdt
   ·rw[if_neg hik]
 have closed':∀ x j,(listed.setIfInBounds i true).getD x false=true->j∈Yv R.anc x->(listed.setIfInBounds i true).getD j false=true:=by
  intro x j hx hj;rw[Vv hisz]at hx ⊢;by_cases hij:i=j
  ·rw[if_pos hij]
  ·rw[if_neg hij];by_cases hix:i=x
   ·subst hix;exact ancS j hj
   ·rw[if_neg hix]at hx;exact N.closed x j hx hj
 have hle:=st.le hi0.new
 have hwanted:=Uc (ops:=ops) hs1 hguard hwant
 unfold wpOp;rw[ho];simp only;rw[hwanted];cases hrn:r.run with
 | false=>
  simp only[hrn,Bool.false_eq_true,if_false];refine hK _ _ ⟨by simp[N.size],closed',⟨G,h,done,m,λ j=>?_,hex,st,?_⟩,by rw[Pi.put_defers];exact N.defers⟩
  ·rw[hdone j,Vv hisz];constructor
   ·rintro⟨h1,h2⟩
    refine⟨h1,?_⟩
    split
    ·rfl
    ·exact h2
   ·rintro⟨h1,h2⟩
    refine⟨h1,?_⟩;split at h2
    ·rename_i hij;subst hij;obtain⟨k,r',e1,e2,e3⟩:=QM.1 h1;rw[Nat.zero_add]at e1;subst e1;rw[hr]at e2;cases e2;simp[Rec.eff,hrn]at e3
    ·exact h2
  ·have hv:r.v=.c (.tup []):=hskip hrn
   have:=hs.put hdst (v:=undef) (x:=r.v) (by rw[hv];exact .c _ _ (.tup [] [] rfl (λ i v c x=>by simp at x)))
   refine this.of_get (λ t=>?_)
   rw[after t,Um,hd]
 | true=>
  simp only[hrn,if_true]
  left
  refine HR ?_;have key:∃ h' done' m',evalOp e r.s h r.o.op=some (r.v,h')/\(∀ j,j∈done'↔(j∈YW e 0 R.rs/\(listed.setIfInBounds i true).getD j false=true))/\Yz e R.anc R.rs (YW e 0 R.rs) R.σ.h m' done' h'=true:=by
   obtain⟨x1,_,x3⟩:=J0 hex;have hmay:YB R.anc (YW e 0 R.rs) done i=true:=by
    simp only[YB,Bool.and_eq_true,Zz];refine⟨λ j hj=>?_,λ j hj=>?_⟩
    ·cases hc:mem j (Yv R.anc i) with
     | false=>simp
     | true=>
      have:=ancS j (Xa.1 hc)
      simp[Xa.2 ((hdone j).2 ⟨hj,this⟩)]
    ·cases hc:mem i (Yv R.anc j) with
     | false=>rfl
     | true=>
      have:=N.closed j i ((hdone j).1 hj).2 (Xa.1 hc)
      rw[hnot]at this;cases this
   obtain⟨h1,h2,hev⟩:=hrun hrn;have notEff:r.o.op.kind e r.s ≠ 2->∀ j,j∈done↔(j∈YW e 0 R.rs/\(listed.setIfInBounds i true).getD j false=true):=by
    intro hk j;rw[hdone j,Vv hisz];constructor
    ·rintro⟨q1,q2⟩
     refine⟨q1,?_⟩
     split
     ·rfl
     ·exact q2
    ·rintro⟨q1,q2⟩
     refine⟨q1,?_⟩;split at q2
     ·rename_i hij;subst hij;obtain⟨k,r',e1,e2,e3⟩:=QM.1 q1;rw[Nat.zero_add]at e1;subst e1;rw[hr]at e2;cases e2;simp only[Rec.eff,Bool.and_eq_true]at e3;exact absurd (Yd e3.2) hk
     ·exact q2
   rcases EW r.o.op e r.s with hk | hk | hk
   ·obtain⟨_,q⟩:=Zaj hk hev;exact⟨h,done,m,q h,notEff (by rw[hk];decide),hex⟩
   ·obtain⟨h',q⟩:=JL x1 i r hr hrn hk (by rw[Nat.zero_add];exact hmay)
    have:=Zai hk q;subst this
    exact⟨_,done,m,q,notEff (by rw[hk];decide),hex⟩
   ·have hiE:i∈YW e 0 R.rs:=QM.2 ⟨i,r,by simp,hr,by simp[Rec.eff,hrn,hk]⟩
    have hnd:i∉done:=λ hc=>by
     have:=((hdone i).1 hc).2
     rw[hnot]at this;cases this
    obtain⟨r',h',m',e1,e2,e3⟩:=x3 i hiE hnd hmay;rw[hr]at e1;cases e1;refine⟨h',i::done,m',e2,λ j=>?_,e3⟩
    rw[List.mem_cons,hdone j,Vv hisz];constructor
    ·rintro(rfl | ⟨q1,q2⟩)
     ·exact⟨hiE,by simp⟩
     ·refine⟨q1,?_⟩
      split
      ·rfl
      ·exact q2
    ·rintro⟨q1,q2⟩
     split at q2
     ·rename_i hij;exact .inl hij.symm
     ·exact .inr ⟨q1,q2⟩
  obtain⟨h',done',m',hev,hdone',hex'⟩:=key;refine yx hC st.inv hs1 (hg0.mono hle) hl ops o htr hev hdst ?_;intro w' G' a' st' ss' hdf hput;obtain⟨u,rfl⟩:=hput hdf;refine hK _ _ ⟨by simp[N.size],closed',⟨G',h',done',m',hdone',hex',st.trans st',⟨ss'.size,λ t=>?_⟩⟩,by rw[hdf];exact N.defers⟩
  rw[after t]
  split
  ·rename_i hdt;have:=ss'.rd t
   rw[Um,if_pos hdt]at this;exact this
  ·rename_i hdt;have h1:((a.put o.dst u).tmps.getD t undef)=a.tmps.getD t undef:=by
    cases hod:o.dst with
    | none=>rfl
    | some d=>
     have hne:d ≠ t:=by rintro rfl;exact hdt (by rw[hd,hod])
     simp only[Act.put,Array.getD_eq_getD_getElem?,Array.getElem?_setIfInBounds_ne hne]
   rw[h1];exact(hs.rd t).mono (st'.le st.inv.new)
end
end
section
section
variable {P:Program} {e:Env} {nt:Nat} {ops:Array Oper}
def HZ(listed:Array Bool):Nat:=listed.toList.countP (λ b=>!b)
theorem El{listed:Array Bool}{i:Nat}(hi:i < listed.size)(h:listed.getD i false=false):HZ listed=HZ (listed.setIfInBounds i true)+1:=by
 have hl:listed[i]=false:=by
  rw[Array.getD_eq_getD_getElem?]at h;simpa [hi] using h
 unfold HZ;rw[Array.toList_setIfInBounds,List.countP_set (by simpa using hi)]
 have h1:(listed.toList[i]'(by simpa using hi))=false:=by simpa using hl
 have h2:0 < listed.toList.countP (λ b=>!b):=by
  rw[List.countP_pos_iff];exact⟨false,by rw[<- h1];exact Zh _,rfl⟩
 simp only[h1,Bool.not_false,if_true,Bool.not_true,Bool.false_eq_true,if_false,Nat.add_zero];omega
theorem AY{listed:Array Bool}(h:HZ listed=0){i:Nat}(hi:i < listed.size):listed.getD i false=true:=by
 unfold HZ at h;rw[List.countP_eq_zero]at h;have:=h listed[i] (by simp)
 rw[Array.getD_eq_getD_getElem?]
 simpa [hi] using this
theorem Km{listed:Array Bool}(hs:listed.size=ops.size){i:Nat}:i∈Region.ready .any ops listed↔∃ o,ops[i]?=some o/\listed.getD i false=false/\∀ j∈Xs o,listed.getD j false=true:=by
 simp only[Region.ready,List.mem_filter,List.mem_range,Bool.and_eq_true,Bool.not_eq_true'];constructor
 ·rintro⟨hlt,h1,h2⟩
  have ho:ops[i]?=some ops[i]:=by simp[hlt]
  rw[ho]at h2;simp only[Option.map_some,Option.getD_some,Array.all_eq_true']at h2;refine⟨ops[i],ho,?_,λ j hj=>?_⟩
  ·rw[Array.getD_eq_getD_getElem?]at h1 ⊢;simp[hs,hlt]at h1 ⊢;exact h1
  ·simp only[Xs,List.mem_map,List.mem_filter]at hj;obtain⟨ed,⟨h3,h4⟩,rfl⟩:=hj;have:=h2 ed (by simpa using h3)
   simpa [h4] using this
 ·rintro⟨o,ho,h1,h2⟩
  have hlt:=(Array.getElem?_eq_some_iff.1 ho).1
  refine⟨hlt,?_,?_⟩
  ·rw[Array.getD_eq_getD_getElem?]at h1 ⊢;simp[hs,hlt]at h1 ⊢;exact h1
  ·rw[ho];simp only[Option.map_some,Option.getD_some,Array.all_eq_true'];intro ed hed;cases hb:Region.binds .any ed with
   | false=>simp
   | true=>
    have:=h2 ed.on (List.mem_map.2 ⟨ed,List.mem_filter.2 ⟨by simpa using hed,hb⟩,rfl⟩)
    simp[this]
theorem za{R:Reg P e nt ops}{listed:Array Bool}(hs:listed.size=ops.size)(hr:Region.ready .any ops listed=[]):∀ i,i < ops.size->listed.getD i false=true:=by
 intro i
 induction i using Nat.strongRecOn with
 | _ i ih=>
  intro hi;cases hc:listed.getD i false with
  | true=>rfl
  | false=>
   exfalso;have ho:ops[i]?=some ops[i]:=by simp[hi]
   have:i∈Region.ready .any ops listed:=(Km hs).2 ⟨_,ho,hc,λ j hj=>by
    have:=(R.anc_spec.1 i _ ho).1 j hj
    exact ih j this (by omega)⟩
   rw[hr]at this;cases this
theorem wq(R:Reg P e nt ops){G0:Gh}{w0:World}{a0:Act}(hi0:Inv G0 R.h0 w0){Q:Act->World->Prop}{listed:Array Bool}{a:Act}{w:World}(N:Node R G0 w0 a0 listed a w)(hall:∀ i,i < ops.size->listed.getD i false=true)
  (hn:XK P G0 R.h0 w0 (Qg R.σ).s (Qg R.σ).h nt a0 Q):Q a w:=by
 obtain⟨G,h,done,m,hdone,hex,st,hs⟩:=N.mem;obtain⟨_,x2,_⟩:=J0 hex;obtain⟨p1,p2,p3⟩:=UA R.pass;obtain⟨l1,_⟩:=UW R.tr;have hlen:R.rs.length=ops.size:=by rw[p1,l1];simp
 have hfin:h=R.σ.h:=by
  refine x2 (Zz.2 λ j hj=>Xa.2 ((hdone j).2 ⟨hj,?_⟩))
  obtain⟨k,r,e1,e2,_⟩:=QM.1 hj;rw[Nat.zero_add]at e1;subst e1;exact hall j (by rw[<- hlen];exact(Za.1 e2).1)
 subst hfin;have hs':SlotsRel G R.σ.s a nt:=by
  refine hs.of_get (λ t=>?_)
  rw[p2];refine(UZ rfl (λ k d v hk hd=>?_))
  rw[Nat.zero_add];have:k < ops.size:=by
   have:=(Za.1 hk).1
   simp only[List.length_map]at this;omega
  rw[hall k this]
 obtain⟨q1,q2⟩:=ES st hs';exact hn w G a q1 q2 N.defers
theorem zm(hC:CallOk P e)(hl:Xd P e)(R:Reg P e nt ops){G0:Gh}{w0:World}{a0:Act}(hi0:Inv G0 R.h0 w0)(hg0:GlobOk e G0){Q:Go.Exit->Act->World->Prop}(hn:XK P G0 R.h0 w0 (Qg R.σ).s (Qg R.σ).h nt a0 (Q .normal)) :
  ∀ (fuel:Nat) (listed:Array Bool) (a:Act) (w:World),HZ listed=fuel->Node R G0 w0 a0 listed a w->wpAny P .any ops Q fuel listed a w
 | 0,listed,a,w,hu,N=>by
  have hall:∀ i,i < ops.size->listed.getD i false=true:=λ i hi=>AY hu (by rw[N.size];exact hi)
  refine⟨?_,wq R hi0 N hall hn⟩;rw[List.eq_nil_iff_forall_not_mem];intro i hi;obtain⟨o,ho,h1,_⟩:=(Km N.size).1 hi;rw[hall i (Array.getElem?_eq_some_iff.1 ho).1]at h1;cases h1
 | fuel+1,listed,a,w,hu,N=>by
  refine⟨λ hr=>wq R hi0 N (za (R:=R) N.size hr) hn,λ i hi=>?_⟩
  obtain⟨o,ho,h1,h2⟩:=(Km N.size).1 hi;refine gU hC hl R hi0 hg0 N ho h1 h2 (λ a' w' N'=>zm hC hl R hi0 hg0 hn fuel _ a' w' ?_ N')
  have:=El (by rw[N.size];exact(Array.getElem?_eq_some_iff.1 ho).1) h1
  omega
theorem uX(hm:P.follows .mixedOrders=true)(hC:CallOk P e)(hl:Xd P e):D0 P e:=by
 intro nt id ops l anc s h σ' G w a Q ht ha hr hi hs hg hn;unfold QU at hr;split at hr
 case h_2=>cases hr
 rename_i rs σ hp;cases hx:Yz e anc rs (YW e 0 rs) σ.h (l.length+1) [] h with
 | false=>rw[hx]at hr;simp at hr
 | true=>
  rw[hx]at hr;simp only[cond_true,Option.some.injEq]at hr;subst hr
  let R:Reg P e nt ops:=⟨l,anc,rs,s,σ,h,ht,ha,hp⟩
  refine wp_region_any hm ?_;have hst:Step G h w G h { w with drawn:=w.drawn+1 }:=Step.heap_eq hi rfl rfl rfl rfl
  refine zm hC hl R (G0:=G) (w0:=w) (a0:=a) hi hg hn ops.size _ a _ ?_ ⟨by simp,λ i j hij=>?_,⟨G,h,[],l.length+1,λ j=>?_,hx,hst,hs.of_get (λ t=>?_)⟩,rfl⟩
  ·simp[HZ,List.countP_replicate]
  ·rw[Array.getD_eq_getD_getElem?,Array.getElem?_replicate]at hij;split at hij<;>simp at hij
  ·constructor
   ·intro hj;simp at hj
   ·rintro⟨_,hj⟩
    rw[Array.getD_eq_getD_getElem?,Array.getElem?_replicate]at hj;split at hj<;>simp at hj
  ·have none_:∀ (r:List Wr) (j:Nat) (s:Zf),sl (λ _=>false) r j s=s:=by
    intro r
    induction r with
    | nil=>intro j s;rfl
    | cons x r ih=>intro j s;obtain⟨d,v⟩:=x;simp only[sl,cond_false];exact ih _ _
   have hf:(λ i=>(Array.replicate ops.size false).getD i false)=λ _=>false:=by
    funext i
    rw[Array.getD_eq_getD_getElem?,Array.getElem?_replicate]
    split<;>rfl
   rw[hf,none_]
end
end
section
structure Ent where
 f:Nat
 args:List X
 h:Mem
 z:X
 h':Mem
def UO:List Ent->Nat->List X->Mem->Option (X × Mem)
 | [],_,_,_=>none
 | t::r,f,a,h=>bif Nat.beq t.f f&&(X.sameL t.args a&&Mem.same t.h h) then some (t.z,t.h') else UO r f a h
def Z5(e:Env)(N:Nat)(fn:PFn)(args:List X)(h:Mem):Option (X × Mem):=
 bif Nat.beq args.length fn.np then
  match Yn e N fn.body ⟨Xb 0 args,h⟩ with
  | some (.normal,σ)=>ZD fn h.length σ
  | some (.ret,σ)=>ZD fn h.length σ
  | _=>none
 else none
section
variable {P:Program} {e:Env} {G:Gh} {h h':Mem} {w:World}
theorem AA(hm:P.follows .mixedOrders=true)(hB:KH P e)(hL:Xd P e){f:Nat}{fn:PFn}(hf:FnOk P f fn){N:Nat}{args:List X}{z:X}(hr:Z5 e N fn args h=some (z,h'))(hi:Inv G h w)(hg:GlobOk e G){vs:List Value}(hv:RdL G vs args) :
  CallsAs P G h w f vs.toArray z h':=by
 have hC:CallOk P e:=Qv hB
 obtain⟨fu,c,h1,h2,h3,h4,h5,h6⟩:=hf.ok;unfold Z5 at hr;cases hb:Nat.beq args.length fn.np with
 | false=>rw[hb]at hr;simp at hr
 | true=>
  rw[hb]at hr;simp only[cond_true]at hr;have hlen:=Zd hb
  refine .inr ⟨f,vs.toArray,w,yo h1 h2 h3 _,?_⟩;have body:∀ x σ,Yn e N fn.body ⟨Xb 0 args,h⟩=some (x,σ)->(x=.normal\/x=.ret)->ZD fn h.length σ=some (z,h')->
    Calls P f vs.toArray w λ e w'=>∃ v G',e=.returned v/\Step G h w G' h' w'/\RdX G' v z:=by
   intro x σ he hx hfin;refine calls_of_wp h1 h2 ?_;refine uT hC hL (uX hm hC hL) N fn.body c (Xb 0 args) h x σ G w _ _ h4 he hi (jA hv (by omega)) hg ?_
   intro w' G' a' st ss hdf;obtain⟨v,G2,r1,r2,r3⟩:=wJ hfin st ss h5;rcases hx with rfl | rfl
   ·exact⟨hdf,v,r1,v,G2,rfl,r2,r3⟩
   ·exact⟨hdf,v,r1,v,G2,rfl,r2,r3⟩
  split at hr
  ·rename_i σ he;exact body _ σ he (.inl rfl) hr
  ·rename_i σ he;exact body _ σ he (.inr rfl) hr
  ·cases hr
end
end
noncomputable section
def fN(n:Nat)(k:Nat->Bool):Bool:=Nat.rec (motive:=λ _=>Bool) (k 0) (λ m _=>k (Nat.succ m)) n
theorem YV(n:Nat)(k:Nat->Bool):fN n k=k n:=by cases n<;>rfl
def fB(b:Bool)(k:Bool->Bool):Bool:=Bool.rec (motive:=λ _=>Bool) (k false) (k true) b
theorem Q8(b:Bool)(k:Bool->Bool):fB b k=k b:=by cases b<;>rfl
def fI(n:Int)(k:Int->Bool):Bool:=Int.rec (motive:=λ _=>Bool) (λ m=>fN m λ m=>k (Int.ofNat m)) (λ m=>fN m λ m=>k (Int.negSucc m)) n
theorem CG(n:Int)(k:Int->Bool):fI n k=k n:=by cases n<;>simp[fI,YV]
def fU(b:UInt8)(k:UInt8->Bool):Bool:=fN b.toNat λ n=>k (UInt8.ofNat n)
theorem Zas(b:UInt8)(k:UInt8->Bool):fU b k=k b:=by simp[fU,YV]
def fL{α:Type}(l:List α)(k:List α->Bool):Bool:=List.rec (motive:=λ _=>(List α->Bool)->Bool) (λ k=>k []) (λ a _ ih k=>ih λ l=>k (a::l)) l k
theorem UQ{α:Type}(l:List α)(k:List α->Bool):fL l k=k l:=by
 induction l generalizing k with
 | nil=>rfl
 | cons a l ih=>exact ih λ l=>k (a::l)
def uR{α:Type}(w:α->(α->Bool)->Bool)(l:List α)(k:List α->Bool):Bool:=List.rec (motive:=λ _=>(List α->Bool)->Bool) (λ k=>k []) (λ a _ ih k=>w a λ a=>ih λ l=>k (a::l)) l k
theorem W9{α:Type}{w:α->(α->Bool)->Bool}(hw:∀ a k,w a k=k a)(l:List α)(k:List α->Bool):uR w l k=k l:=by
 induction l generalizing k with
 | nil=>rfl
 | cons a l ih=>exact(hw _ _).trans (ih λ l=>k (a::l))
def fLB(l:List UInt8)(k:List UInt8->Bool):Bool:=uR fU l k
theorem CF(l:List UInt8)(k:List UInt8->Bool):fLB l k=k l:=W9 Zas l k
def fC(v:CV):(CV->Bool)->Bool:=
 CV.rec (motive_1:=λ _=>(CV->Bool)->Bool) (motive_2:=λ _=>(List CV->Bool)->Bool)
  (λ b k=>fB b λ b=>k (.bool b))
  (λ d n k=>fI n λ n=>k (.int d n))
  (λ s k=>fLB s λ s=>k (.str s))
  (λ k=>k .nilptr) (λ k=>k .nilfunc) (λ k=>k .nilmap) (λ k=>k .nilif)
  (λ _ ih k=>ih λ cs=>k (.rptr cs))
  (λ f _ ih k=>fN f λ f=>ih λ cs=>k (.func f cs))
  (λ _ _ ih1 ih2 k=>ih1 λ ks=>ih2 λ vs=>k (.imap ks vs))
  (λ t _ ih k=>fN t λ t=>ih λ v=>k (.iface t v))
  (λ _ ih k=>ih λ cs=>k (.agg cs))
  (λ _ ih k=>ih λ cs=>k (.tup cs))
  (λ b _ ih k=>fB b λ b=>ih λ es=>k (.sl b es))
  (λ k=>k [])
  (λ _ _ ih1 ih2 k=>ih1 λ v=>ih2 λ l=>k (v::l)) v
def E6(v:List CV):(List CV->Bool)->Bool:=
 CV.rec_1 (motive_1:=λ _=>(CV->Bool)->Bool) (motive_2:=λ _=>(List CV->Bool)->Bool)
  (λ b k=>fB b λ b=>k (.bool b))
  (λ d n k=>fI n λ n=>k (.int d n))
  (λ s k=>fLB s λ s=>k (.str s))
  (λ k=>k .nilptr) (λ k=>k .nilfunc) (λ k=>k .nilmap) (λ k=>k .nilif)
  (λ _ ih k=>ih λ cs=>k (.rptr cs))
  (λ f _ ih k=>fN f λ f=>ih λ cs=>k (.func f cs))
  (λ _ _ ih1 ih2 k=>ih1 λ ks=>ih2 λ vs=>k (.imap ks vs))
  (λ t _ ih k=>fN t λ t=>ih λ v=>k (.iface t v))
  (λ _ ih k=>ih λ cs=>k (.agg cs))
  (λ _ ih k=>ih λ cs=>k (.tup cs))
  (λ b _ ih k=>fB b λ b=>ih λ es=>k (.sl b es))
  (λ k=>k [])
  (λ _ _ ih1 ih2 k=>ih1 λ v=>ih2 λ l=>k (v::l)) v
theorem uS(v:CV):∀ k,fC v k=k v:=
 CV.rec (motive_1:=λ v=>∀ k,fC v k=k v) (motive_2:=λ l=>∀ k,E6 l k=k l)
  (λ b k=>by show fB b (λ b=>k (.bool b))=_;rw[Q8])
  (λ d n k=>by show fI n (λ n=>k (.int d n))=_;rw[CG])
  (λ s k=>by show fLB s (λ s=>k (.str s))=_;rw[CF])
  (λ k=>rfl) (λ k=>rfl) (λ k=>rfl) (λ k=>rfl)
  (λ cs ih k=>by show E6 cs (λ cs=>k (.rptr cs))=_;rw[ih])
  (λ f cs ih k=>by show fN f (λ f=>E6 cs (λ cs=>k (.func f cs)))=_;rw[YV,ih])
  (λ ks vs ih1 ih2 k=>by show E6 ks (λ ks=>E6 vs (λ vs=>k (.imap ks vs)))=_;rw[ih1,ih2])
  (λ t v ih k=>by show fN t (λ t=>fC v (λ v=>k (.iface t v)))=_;rw[YV,ih])
  (λ cs ih k=>by show E6 cs (λ cs=>k (.agg cs))=_;rw[ih])
  (λ cs ih k=>by show E6 cs (λ cs=>k (.tup cs))=_;rw[ih])
  (λ b es ih k=>by show fB b (λ b=>E6 es (λ es=>k (.sl b es)))=_;rw[Q8,ih])
  (λ k=>rfl)
  (λ v l ih1 ih2 k=>by show fC v (λ v=>E6 l (λ l=>k (v::l)))=_;rw[ih1,ih2]) v
def CH(l:List CV)(k:List CV->Bool):Bool:=uR fC l k
theorem yK(l:List CV)(k:List CV->Bool):CH l k=k l:=W9 uS l k
def fX(v:X):(X->Bool)->Bool:=
 X.rec (motive_1:=λ _=>(X->Bool)->Bool) (motive_2:=λ _=>(List X->Bool)->Bool)
  (λ k=>k .undef)
  (λ v k=>fC v λ v=>k (.c v))
  (λ i o k=>fN i λ i=>fN o λ o=>k (.ptr i o))
  (λ es i v k=>CH es λ es=>fN i λ i=>fN v λ v=>k (.own es i v))
  (λ i o l s k=>fN i λ i=>fN o λ o=>fN l λ l=>fN s λ s=>k (.ms i o l s))
  (λ i k=>fN i λ i=>k (.map i))
  (λ f _ ih k=>fN f λ f=>ih λ cs=>k (.func f cs))
  (λ i k=>fN i λ i=>k (.iter i))
  (λ es i v k=>CH es λ es=>fN i λ i=>fN v λ v=>k (.sdata es i v))
  (λ k=>k .aptr)
  (λ es i v k=>CH es λ es=>fN i λ i=>fN v λ v=>k (.pend es i v))
  (λ n i v k=>fN n λ n=>fN i λ i=>fN v λ v=>k (.pptr n i v))
  (λ _ ih k=>ih λ cs=>k (.agg cs))
  (λ _ ih k=>ih λ cs=>k (.tup cs))
  (λ k=>k [])
  (λ _ _ ih1 ih2 k=>ih1 λ v=>ih2 λ l=>k (v::l)) v
def fXL(v:List X):(List X->Bool)->Bool:=
 X.rec_1 (motive_1:=λ _=>(X->Bool)->Bool) (motive_2:=λ _=>(List X->Bool)->Bool)
  (λ k=>k .undef)
  (λ v k=>fC v λ v=>k (.c v))
  (λ i o k=>fN i λ i=>fN o λ o=>k (.ptr i o))
  (λ es i v k=>CH es λ es=>fN i λ i=>fN v λ v=>k (.own es i v))
  (λ i o l s k=>fN i λ i=>fN o λ o=>fN l λ l=>fN s λ s=>k (.ms i o l s))
  (λ i k=>fN i λ i=>k (.map i))
  (λ f _ ih k=>fN f λ f=>ih λ cs=>k (.func f cs))
  (λ i k=>fN i λ i=>k (.iter i))
  (λ es i v k=>CH es λ es=>fN i λ i=>fN v λ v=>k (.sdata es i v))
  (λ k=>k .aptr)
  (λ es i v k=>CH es λ es=>fN i λ i=>fN v λ v=>k (.pend es i v))
  (λ n i v k=>fN n λ n=>fN i λ i=>fN v λ v=>k (.pptr n i v))
  (λ _ ih k=>ih λ cs=>k (.agg cs))
  (λ _ ih k=>ih λ cs=>k (.tup cs))
  (λ k=>k [])
  (λ _ _ ih1 ih2 k=>ih1 λ v=>ih2 λ l=>k (v::l)) v
theorem JY(v:X):∀ k,fX v k=k v:=
 X.rec (motive_1:=λ v=>∀ k,fX v k=k v) (motive_2:=λ l=>∀ k,fXL l k=k l)
  (λ k=>rfl)
  (λ v k=>by show fC v (λ v=>k (.c v))=_;rw[uS])
  (λ i o k=>by simp only[fX,YV])
  (λ es i v k=>by simp only[fX,YV,yK])
  (λ i o l s k=>by simp only[fX,YV])
  (λ i k=>by simp only[fX,YV])
  (λ f cs ih k=>by show fN f (λ f=>fXL cs (λ cs=>k (.func f cs)))=_;rw[YV,ih])
  (λ i k=>by simp only[fX,YV])
  (λ es i v k=>by simp only[fX,YV,yK])
  (λ k=>rfl)
  (λ es i v k=>by simp only[fX,YV,yK])
  (λ n i v k=>by simp only[fX,YV])
  (λ cs ih k=>by show fXL cs (λ cs=>k (.agg cs))=_;rw[ih])
  (λ cs ih k=>by show fXL cs (λ cs=>k (.tup cs))=_;rw[ih])
  (λ k=>rfl)
  (λ v l ih1 ih2 k=>by show fX v (λ v=>fXL l (λ l=>k (v::l)))=_;rw[ih1,ih2]) v
def fXs(l:List X)(k:List X->Bool):Bool:=uR fX l k
theorem vA(l:List X)(k:List X->Bool):fXs l k=k l:=W9 JY l k
def fH(x:X)(k:X->Bool):Bool:=
 X.casesOn (motive_1:=λ _=>Bool) x (k .undef) (λ v=>k (.c v)) (λ i o=>k (.ptr i o)) (λ es i v=>k (.own es i v)) (λ i o l s=>k (.ms i o l s)) (λ i=>k (.map i)) (λ f cs=>k (.func f cs)) (λ i=>k (.iter i)) (λ es i v=>k (.sdata es i v)) (k .aptr) (λ es i v=>k (.pend es i v)) (λ n i v=>k (.pptr n i v)) (λ cs=>k (.agg cs)) (λ cs=>k (.tup cs))
theorem z8(x:X)(k:X->Bool):fH x k=k x:=by cases x<;>rfl
def OM(l:List X)(k:List X->Bool):Bool:=uR fH l k
theorem qx(l:List X)(k:List X->Bool):OM l k=k l:=W9 z8 l k
def fO(o:Ob)(k:Ob->Bool):Bool:=
 Ob.casesOn (motive:=λ _=>Bool) o (k .dead) (λ t cs=>fN t λ t=>fXs cs λ cs=>k (.cells t cs)) (λ v s t=>fN v λ v=>fN s λ s=>fN t λ t=>k (.tip v s t)) (λ v s t w=>fN v λ v=>fN s λ s=>fN t λ t=>fC w λ w=>k (.tipF v s t w)) (λ ks vs=>CH ks λ ks=>CH vs λ vs=>k (.map ks vs)) (λ s p=>fLB s λ s=>fN p λ p=>k (.siter s p)) (λ ks vs p=>CH ks λ ks=>CH vs λ vs=>fN p λ p=>k (.miter ks vs p))
theorem Zau(o:Ob)(k:Ob->Bool):fO o k=k o:=by cases o<;>simp only[fO,YV,vA,uS,yK,CF]
def fM(l:Mem)(k:Mem->Bool):Bool:=uR fO l k
theorem wN(l:Mem)(k:Mem->Bool):fM l k=k l:=W9 Zau l k
def Un{α:Type}(l:List α)(n:Nat):Option α:=List.rec (motive:=λ _=>Nat->Option α) (λ _=>none) (λ a _ ih n=>Nat.rec (motive:=λ _=>Option α) (some a) (λ m _=>ih m) n) l n
theorem XL{α:Type}(l:List α)(n:Nat):Un l n=l[n]?:=by
 induction l generalizing n with
 | nil=>simp[Un]
 | cons a l ih=>cases n with
  | zero=>rfl
  | succ n=>exact(ih n).trans (by simp)
def J2{α:Type}(n:Nat)(l:List α):List α:=Nat.rec (motive:=λ _=>List α->List α) (λ l=>l) (λ _ ih l=>List.rec (motive:=λ _=>List α) [] (λ _ t _=>ih t) l) n l
theorem W5{α:Type}(n:Nat)(l:List α):J2 n l=l.drop n:=by
 induction n generalizing l with
 | zero=>rfl
 | succ n ih=>cases l with
  | nil=>rfl
  | cons a l=>exact(ih l).trans (by simp)
def JF{α:Type}(n:Nat)(l:List α):List α:=Nat.rec (motive:=λ _=>List α->List α) (λ _=>[]) (λ _ ih l=>List.rec (motive:=λ _=>List α) [] (λ a t _=>a::ih t) l) n l
theorem WY{α:Type}(n:Nat)(l:List α):JF n l=l.take n:=by
 induction n generalizing l with
 | zero=>rfl
 | succ n ih=>cases l with
  | nil=>rfl
  | cons a l=>exact congrArg (a::·) (ih l)
def appF{α:Type}(a b:List α):List α:=List.rec (motive:=λ _=>List α) b (λ x _ ih=>x::ih) a
theorem VU{α:Type}(a b:List α):appF a b=a++b:=by
 induction a with
 | nil=>rfl
 | cons x a ih=>simpa [appF] using ih
def Wi{α:Type}(l:List α):Nat:=List.rec (motive:=λ _=>Nat) 0 (λ _ _ ih=>Nat.succ ih) l
theorem Y6{α:Type}(l:List α):Wi l=l.length:=by
 induction l with
 | nil=>rfl
 | cons x a ih=>simpa [Wi] using ih
def qf{α β:Type}(f:α->β)(l:List α):List β:=List.rec (motive:=λ _=>List β) [] (λ a _ ih=>f a::ih) l
theorem VM{α β:Type}(f:α->β)(l:List α):qf f l=l.map f:=by
 induction l with
 | nil=>rfl
 | cons x a ih=>simpa [qf] using ih
def Es{α:Type}(l:List α)(n:Nat)(x:α):List α:=List.rec (motive:=λ _=>Nat->List α) (λ _=>[]) (λ a t ih n=>Nat.rec (motive:=λ _=>List α) (x::t) (λ m _=>a::ih m) n) l n
theorem uu{α:Type}(l:List α)(n:Nat)(x:α):Es l n x=l.set n x:=by
 induction l generalizing n with
 | nil=>simp[Es]
 | cons a l ih=>cases n with
  | zero=>rfl
  | succ n=>exact congrArg (a::·) (ih n)
def FQ(a b:List UInt8):Bool:=List.rec (motive:=λ _=>List UInt8->Bool) (λ b=>List.rec (motive:=λ _=>Bool) true (λ _ _ _=>false) b) (λ x _ ih b=>List.rec (motive:=λ _=>Bool) false (λ y t _=>Bool.rec (motive:=λ _=>Bool) false (ih t) (Nat.beq x.toNat y.toNat)) b) a b
theorem H0(x y:UInt8):Nat.beq x.toNat y.toNat=(x==y):=by
 rw[Bool.eq_iff_iff];simp[Nat.beq_eq_true_eq,UInt8.toNat_inj]
theorem FP(a b:List UInt8):FQ a b=(a==b):=by
 induction a generalizing b with
 | nil=>cases b<;>rfl
 | cons x a ih=>cases b with
  | nil=>rfl
  | cons y b=>
   show Bool.rec (motive:=λ _=>Bool) false (FQ a b) (Nat.beq x.toNat y.toNat)=_
   rw[H0,ih];cases h:x==y<;>simp[h,List.cons_beq_cons]
end
noncomputable section
abbrev XR:=Nat->List X->Mem->(X->Mem->Bool)->Bool
def Xc(e:Env)(c:XR):Prop:=∀ f args h k,c f args h k=true->∃ r h',e.call f args h=some (r,h')/\k r h'=true
def gS(s:Zf)(i:Nat):X:=List.rec (motive:=λ _=>X) .undef (λ p _ ih=>Prod.rec (motive:=λ _=>X) (λ j v=>Bool.rec (motive:=λ _=>X) ih v (Nat.beq j i)) p) s
theorem z3(s:Zf)(i:Nat):gS s i=Zm s i:=by
 induction s with
 | nil=>rfl
 | cons p s ih=>
  obtain⟨j,v⟩:=p;show Bool.rec (motive:=λ _=>X) (gS s i) v (Nat.beq j i)=Zm ((j,v)::s) i
  rw[ih];simp only[Zm];cases Nat.beq j i<;>rfl
def eR(e:Env)(s:Zf)(r:Rand):X:=Rand.casesOn (motive:=λ _=>X) r (λ i=>gS s i) (λ v=>.c v) (λ n=>match e.glob n with | some cs=>.c (.rptr cs)|none=>.undef)
theorem XV(e:Env)(s:Zf)(r:Rand):eR e s r=ZJ e s r:=by cases r<;>simp[eR,ZJ,z3];rfl
def Mh(e:Env)(s:Zf)(l:List Rand):List X:=qf (eR e s) l
theorem yO(e:Env)(s:Zf)(l:List Rand):Mh e s l=Xr e s l:=by
 unfold Mh;rw[VM]
 induction l with
 | nil=>rfl
 | cons a l ih=>simp[Xr,XV,ih]
def kIx(k:IntKind):Nat:=IntKind.casesOn (motive:=λ _=>Nat) k 0 1 2 3 4 5 6 7
def kEq(a b:IntKind):Bool:=Nat.beq (kIx a) (kIx b)
theorem Iv(a b:IntKind):kEq a b=WO a b:=by cases a<;>cases b<;>rfl
def Ql(k:IntKind):Nat:=IntKind.casesOn (motive:=λ _=>Nat) k 256 65536 4294967296 18446744073709551616 256 65536 4294967296 18446744073709551616
def Uk(k:IntKind):Nat:=IntKind.casesOn (motive:=λ _=>Nat) k 128 32768 2147483648 9223372036854775808 256 65536 4294967296 18446744073709551616
theorem AQ(k:IntKind)(m:Nat):k.wrap (Int.ofNat m)=Bool.rec (motive:=λ _=>Int) (Bool.rec (motive:=λ _=>Int) (Int.ofNat (Nat.mod m (Ql k))) (Int.negSucc (Nat.sub (Nat.sub (Ql k) 1) (Nat.mod m (Ql k)))) (Nat.ble (Uk k) (Nat.mod m (Ql k)))) (Int.ofNat m) (Nat.blt m (Uk k)):=by
 have h1:(Nat.mod m (Ql k))=m % Ql k:=rfl
 rw[h1];cases hb:Nat.blt m (Uk k) with
 | true=>
  have hlt:m < Uk k:=by simpa [Nat.blt_eq] using hb
  cases k<;>simp only[Uk]at hlt<;>simp[IntKind.wrap,IntKind.bits,IntKind.signed]<;>omega
 | false=>
  have hge:¬ m < Uk k:=by intro h;rw[<- Nat.blt_eq,hb]at h;cases h
  cases hc:Nat.ble (Uk k) (m % Ql k) with
  | true=>
   have hh:Uk k<=m % Ql k:=Zg hc
   cases k<;>simp only[Uk,Ql]at *<;>simp[IntKind.wrap,IntKind.bits,IntKind.signed]<;>omega
  | false=>
   have hh:¬ Uk k<=m % Ql k:=by intro h;rw[<- Nat.ble_eq,hc]at h;cases h
   cases k<;>simp only[Uk,Ql]at *<;>simp[IntKind.wrap,IntKind.bits,IntKind.signed]<;>omega
def HQ(k:IntKind)(n:Int)(c:CV->Bool):Bool:=
 Int.casesOn (motive:=λ _=>Bool) n
  (λ m=>fN m λ m=>Bool.rec (motive:=λ _=>Bool) (fI (k.wrap (Int.ofNat m)) λ n=>c (.int k n)) (c (.int k (Int.ofNat m))) (Nat.blt m (Uk k)))
  (λ m=>fI (k.wrap (Int.negSucc m)) λ n=>c (.int k n))
theorem yj(k:IntKind)(n:Int)(c:CV->Bool):HQ k n c=c (Zn k n):=by
 cases n with
 | ofNat m=>
  simp only[HQ,YV,CG,Zn];cases hb:Nat.blt m (Uk k) with
  | false=>rfl
  | true=>
   have:=AQ k m
   rw[hb]at this;simp only[this]
 | negSucc m=>simp only[HQ,CG,Zn]
def OJ(a b:Int):Bool:=Int.casesOn (motive:=λ _=>Bool) a (λ m=>Int.casesOn (motive:=λ _=>Bool) b (λ n=>Nat.blt m n) (λ _=>false)) (λ m=>Int.casesOn (motive:=λ _=>Bool) b (λ _=>true) (λ n=>Nat.blt n m))
theorem yD(a b:Int):OJ a b=decide (a < b):=by
 cases a<;>cases b<;>simp only[OJ]<;>rw[Bool.eq_iff_iff,decide_eq_true_iff]<;>simp[Nat.blt_eq]<;>omega
def Fs(a b:Int):Bool:=Int.casesOn (motive:=λ _=>Bool) a (λ m=>Int.casesOn (motive:=λ _=>Bool) b (λ n=>Nat.beq m n) (λ _=>false)) (λ m=>Int.casesOn (motive:=λ _=>Bool) b (λ _=>false) (λ n=>Nat.beq m n))
theorem uW(a b:Int):Fs a b=(a==b):=by
 cases a<;>cases b<;>simp only[Fs]<;>rw[Bool.eq_iff_iff,beq_iff_eq]<;>simp[Nat.beq_eq_true_eq]<;>omega
def bK(b:Bool)(k:CV->Bool):Bool:=fB b λ b=>k (.bool b)
def AM(r:Option CV)(k:CV->Bool):Bool:=Option.casesOn (motive:=λ _=>Bool) r false (λ v=>fC v k)
def qq(op:BK)(d:IntKind)(a b:Int)(k:CV->Bool):Bool:=
 BK.casesOn (motive:=λ _=>Bool) op
  (HQ d (Int.add a b) k) (HQ d (Int.sub a b) k) (HQ d (Int.mul a b) k)
  (AM (Xe .quo d a b) k) (AM (Xe .rem d a b) k) (AM (Xe .and d a b) k) (AM (Xe .or d a b) k) (AM (Xe .xor d a b) k) (AM (Xe .andNot d a b) k) false false
  (bK (Fs a b) k) (bK (not (Fs a b)) k) (bK (OJ a b) k) (bK (not (OJ b a)) k) (bK (OJ b a) k) (bK (not (OJ a b)) k)
theorem Qo{r:Option CV}{k:CV->Bool}(h:AM r k=true):∃ v,r=some v/\k v=true:=by
 cases r with
 | none=>cases h
 | some v=>exact⟨v,rfl,by rw[<- uS v k];exact h⟩
theorem EX{op:BK}{d:IntKind}{a b:Int}{k:CV->Bool}(h:qq op d a b k=true):∃ v,Xe op d a b=some v/\k v=true:=by
 cases op with
 | quo=>exact Qo h
 | rem=>exact Qo h
 | and=>exact Qo h
 | or=>exact Qo h
 | xor=>exact Qo h
 | andNot=>exact Qo h
 | shl=>cases h
 | shr=>cases h
 | add=>simp only[qq,yj]at h;exact⟨_,rfl,h⟩
 | sub=>simp only[qq,yj]at h;exact⟨_,rfl,h⟩
 | mul=>simp only[qq,yj]at h;exact⟨_,rfl,h⟩
 | eql=>simp only[qq,bK,Q8,uW]at h;exact⟨_,rfl,h⟩
 | neq=>simp only[qq,bK,Q8,uW]at h;exact⟨_,rfl,h⟩
 | lss=>simp only[qq,bK,Q8,yD]at h;exact⟨_,rfl,h⟩
 | gtr=>simp only[qq,bK,Q8,yD]at h;exact⟨_,rfl,h⟩
 | leq=>
  simp only[qq,bK,Q8,yD]at h;refine⟨_,rfl,?_⟩;have:(!decide (b < a))=decide (a<=b):=by rw[Bool.eq_iff_iff];simp
  rw[<- this];exact h
 | geq=>
  simp only[qq,bK,Q8,yD]at h;refine⟨_,rfl,?_⟩;have:(!decide (a < b))=decide (b<=a):=by rw[Bool.eq_iff_iff];simp
  show k (.bool (decide (b<=a)))=true;rw[<- this];exact h
def Ib(op:BK)(a b:List UInt8)(k:CV->Bool):Bool:=
 BK.casesOn (motive:=λ _=>Bool) op
  (Bool.rec (motive:=λ _=>Bool) false (fL (appF a b) λ l=>k (.str l)) (Nat.ble (Nat.add (Wi a) (Wi b)) 4611686018427387904))
  false false false false false false false false false false
  (bK (FQ a b) k) (bK (not (FQ a b)) k) (AM (VH .lss a b) k) (AM (VH .leq a b) k) (AM (VH .gtr a b) k) (AM (VH .geq a b) k)
theorem Em{op:BK}{a b:List UInt8}{k:CV->Bool}(h:Ib op a b k=true):∃ v,VH op a b=some v/\k v=true:=by
 cases op<;>simp only[Ib,bK,Q8,UQ,FP,VU,Y6]at h<;>first|exact Qo h | (cases h;done)|skip
 ·cases hb:Nat.ble (Nat.add a.length b.length) 4611686018427387904 with
  | false=>rw[hb]at h;cases h
  | true=>
   rw[hb]at h;refine⟨_,?_,h⟩;have:a.length+b.length<=4611686018427387904:=Zg hb
   simp[VH,this]
 ·exact⟨_,rfl,h⟩
 ·exact⟨_,rfl,h⟩
def ME(op:BK)(x y:X)(k:CV->Bool):Bool:=
 match x,y with
 | .c (.int d a),.c (.int d' b)=>Bool.rec (motive:=λ _=>Bool) (AM (binOp op (.c (.int d a)) (.c (.int d' b))) k) (qq op d a b k) (Bool.rec (motive:=λ _=>Bool) (kEq d d') false (BK.casesOn (motive:=λ _=>Bool) op false false false false false false false false false true true false false false false false false))
 | .c (.str a),.c (.str b)=>Ib op a b k
 | _,_=>false
theorem FO{op:BK}{x y:X}{k:CV->Bool}(h:ME op x y k=true):∃ v,binOp op x y=some v/\k v=true:=by
 unfold ME at h;split at h
 ·rename_i d a d' b;cases hb:(Bool.rec (motive:=λ _=>Bool) (kEq d d') false (BK.casesOn (motive:=λ _=>Bool) op false false false false false false false false false true true false false false false false false):Bool) with
  | false=>rw[hb]at h;exact Qo h
  | true=>
   rw[hb]at h;obtain⟨v,h1,h2⟩:=EX h;refine⟨v,?_,h2⟩;cases op<;>simp only[Iv]at hb<;>first|(cases hb;done)|(simp only[binOp,hb,cond_true];exact h1)
 ·obtain⟨v,h1,h2⟩:=Em h;exact⟨v,by simpa [binOp] using h1,h2⟩
 ·cases h
end
section
noncomputable section
def dfl(e:Env)(s:Zf)(h:Mem)(op:POp)(k:X->Mem->Bool):Bool:=
 Option.casesOn (motive:=λ _=>Bool) (evalOp e s h op) false (λ p=>Prod.casesOn (motive:=λ _=>Bool) p λ v h'=>fX v λ v=>fM h' λ h'=>k v h')
def CY(e:Env)(s:Zf)(h:Mem)(op:POp)(k:X->Mem->Bool):Bool:=
 Option.casesOn (motive:=λ _=>Bool) (evalOp e s h op) false (λ p=>Prod.casesOn (motive:=λ _=>Bool) p λ v h'=>fX v λ v=>k v h')
def Ok(r:Option (X × Mem))(k:X->Mem->Bool):Prop:=∃ v h',r=some (v,h')/\k v h'=true
variable {e:Env} {s:Zf} {h:Mem} {k:X->Mem->Bool}
theorem Mi{op:POp}(hk:dfl e s h op k=true):Ok (evalOp e s h op) k:=by
 unfold dfl at hk;cases hr:evalOp e s h op with
 | none=>rw[hr]at hk;cases hk
 | some p=>obtain⟨v,h'⟩:=p;rw[hr]at hk;simp only[JY,wN]at hk;exact⟨v,h',rfl,hk⟩
theorem Fu{op:POp}(hk:CY e s h op k=true):Ok (evalOp e s h op) k:=by
 unfold CY at hk;cases hr:evalOp e s h op with
 | none=>rw[hr]at hk;cases hk
 | some p=>obtain⟨v,h'⟩:=p;rw[hr]at hk;simp only[JY]at hk;exact⟨v,h',rfl,hk⟩
def bT(b x:Bool):Bool:=Bool.casesOn (motive:=λ _=>Bool) b false x
theorem WA{b x:Bool}(hb:bT b x=true):b=true/\x=true:=by cases b<;>simp_all [bT]
def Oe(cs:List X)(k:X->Bool):Bool:=Option.casesOn (motive:=λ _=>Bool) (closedL cs) (OM cs λ cs=>k (.agg cs)) (λ l=>k (.c (.agg l)))
theorem FX(cs:List X)(k:X->Bool):Oe cs k=k (Yr cs):=by
 unfold Oe Yr;cases closedL cs<;>simp only[qx]
def ofK(ag:Bool)(cs:List X)(k:X->Bool):Bool:=
 Bool.casesOn (motive:=λ _=>Bool) ag (List.casesOn (motive:=λ _=>Bool) cs false (λ x t=>List.casesOn (motive:=λ _=>Bool) t (fH x k) (λ _ _=>false))) (Oe cs k)
theorem BR{ag:Bool}{cs:List X}{k:X->Bool}(h:ofK ag cs k=true):∃ x,Z7 ag cs=some x/\k x=true:=by
 cases ag with
 | true=>rw[ofK,FX]at h;exact⟨_,rfl,h⟩
 | false=>
  cases cs with
  | nil=>cases h
  | cons x t=>cases t with
   | nil=>simp only[ofK,z8]at h;exact⟨x,rfl,h⟩
   | cons _ _=>cases h
def Cb(e:Env)(s:Zf)(h:Mem)(ag:Bool)(n:Nat)(a:Rand)(k:X->Mem->Bool):Bool:=
 match eR e s a with
 | .ptr id off=>match Un h id with
  | some (.cells _ cs)=>bT (Nat.ble (Nat.add off n) (Wi cs)) (ofK ag (JF n (J2 off cs)) λ v=>k v h)
  | _=>false
 | .c (.rptr cs)=>bT (Nat.ble n (Wi cs)) (ofK ag (qf .c (JF n cs)) λ v=>k v h)
 | _=>false
theorem Ca{ag:Bool}{n:Nat}{a:Rand}(hk:Cb e s h ag n a k=true):Ok (evalOp e s h (.load ag n a)) k:=by
 unfold Cb at hk;simp only[XV,XL]at hk;unfold Ok;simp only[evalOp];split at hk
 ·rename_i id off hx;rw[hx];split at hk
  ·rename_i t cs hc;obtain⟨h1,h2⟩:=WA hk;rw[Y6]at h1;rw[WY,W5]at h2;obtain⟨x,h3,h4⟩:=BR h2;refine⟨x,h,?_,h4⟩;have h1':Nat.ble (off+n) cs.length=true:=h1
   simp only[ZN,hc,h1',cond_true,h3,V1]
  ·cases hk
 ·rename_i cs hx;rw[hx];obtain⟨h1,h2⟩:=WA hk;rw[Y6]at h1;rw[VM,WY]at h2;obtain⟨x,h3,h4⟩:=BR h2;refine⟨x,h,?_,h4⟩;simp only[h1,cond_true,h3,V1]
 ·cases hk
def Ic(cs:List X)(off:Nat)(vs:List X):List X:=appF (JF off cs) (appF vs (J2 (Nat.add off (Wi vs)) cs))
theorem Ep(cs:List X)(off:Nat)(vs:List X)(hl:off+vs.length<=cs.length):Ic cs off vs=setAt cs off vs:=by
 unfold Ic;simp only[VU,WY,W5,Y6];rw[GF vs cs off hl,List.append_assoc];rfl
def yV(x:X):Option (List X):=match x with
 | .c (.tup _)=>none
 | .c (.agg cs)=>some (qf .c cs)
 | .c v=>some [.c v]
 | .agg cs=>some cs
 | .undef=>none
 | .tup _=>none
 | x=>some [x]
theorem yb(x:X):yV x=x.cells:=by
 cases x with
 | c v=>cases v<;>simp[yV,X.cells,CV.cells,VM]
 | _=>rfl
def jY(e:Env)(s:Zf)(h:Mem)(n:Nat)(a v:Rand)(k:X->Mem->Bool):Bool:=
 match eR e s a with
 | .ptr id off=>match yV (eR e s v) with
  | some vs=>match Un h id with
   | some (.cells t cs)=>bT (Nat.beq (Wi vs) n) (bT (Nat.ble (Nat.add off n) (Wi cs)) (OM (Ic cs off vs) λ cs=>fL (Es h id (.cells t cs)) λ h=>k (.c (.tup [])) h))
   | _=>false
  | none=>false
 | _=>false
theorem gB{n:Nat}{a v:Rand}(hk:jY e s h n a v k=true):Ok (evalOp e s h (.store n a v)) k:=by
 unfold jY at hk;simp only[XV,XL,yb]at hk;unfold Ok;simp only[evalOp];split at hk
 ·rename_i id off hx;split at hk
  ·rename_i vs hv;split at hk
   ·rename_i t cs hc;obtain⟨h1,h2⟩:=WA hk;obtain⟨h3,h4⟩:=WA h2;simp only[Y6]at h1 h3;have e1:=Zd h1
    have e2:off+n<=cs.length:=Zg h3
    simp only[qx,UQ,uu]at h4;rw[Ep _ _ _ (by omega)]at h4
    refine⟨_,_,?_,h4⟩;have h3':Nat.ble (off+n) cs.length=true:=h3
    simp only[hx,hv,hc,h1,h3',Bool.and_true,cond_true]
   ·cases hk
  ·cases hk
 ·cases hk
def CA(e:Env)(s:Zf)(h:Mem)(off:Nat)(x:Rand)(k:X->Mem->Bool):Bool:=
 match eR e s x with
 | .ptr id o=>fN (Nat.add o off) λ o=>k (.ptr id o) h
 | .c (.rptr cs)=>k (.c (.rptr (J2 off cs))) h
 | _=>false
theorem Cz{off:Nat}{x:Rand}(hk:CA e s h off x k=true):Ok (evalOp e s h (.fldA off x)) k:=by
 unfold CA at hk;simp only[XV,YV,W5]at hk;unfold Ok;simp only[evalOp];split at hk
 ·rename_i id o hx;rw[hx];exact⟨_,_,rfl,hk⟩
 ·rename_i cs hx;rw[hx];exact⟨_,_,rfl,hk⟩
 ·cases hk
def gV(x:X):Option Nat:=match x with
 | .c (.int _ n)=>Int.casesOn (motive:=λ _=>Option Nat) n (λ m=>some m) (λ _=>none)
 | _=>none
theorem Gl(x:X):gV x=YA x:=by
 cases x with
 | c v=>cases v with
  | int k n=>cases n<;>simp[gV,YA]
  | _=>rfl
 | _=>rfl
def yF(e:Env)(s:Zf)(h:Mem)(x i:Rand)(k:X->Mem->Bool):Bool:=
 match eR e s x with
 | .c (.str l)=>match gV (eR e s i) with
  | some n=>match Un l n with
   | some b=>fN b.toNat λ n=>k (.c (.int .u8 (Int.ofNat n))) h
   | none=>false
  | none=>false
 | _=>false
theorem vn{x i:Rand}(hk:yF e s h x i k=true):Ok (evalOp e s h (.idxStr x i)) k:=by
 unfold yF at hk;simp only[XV,YV,Gl,XL]at hk;unfold Ok;simp only[evalOp];split at hk
 ·rename_i l hx;split at hk
  ·rename_i n hn;split at hk
   ·rename_i b hb;rw[hx];simp only[hn,hb];exact⟨_,_,rfl,hk⟩
   ·cases hk
  ·cases hk
 ·cases hk
def yG(e:Env)(s:Zf)(h:Mem)(n s':Nat)(x i:Rand)(k:X->Mem->Bool):Bool:=
 match gV (eR e s i) with
 | some m=>bT (Nat.ble (Nat.succ m) n) (match eR e s x with
  | .ptr id off=>fN (Nat.add off (Nat.mul m s')) λ o=>k (.ptr id o) h
  | .c (.rptr cs)=>k (.c (.rptr (J2 (Nat.mul m s') cs))) h
  | _=>false)
 | none=>false
theorem vp{n s':Nat}{x i:Rand}(hk:yG e s h n s' x i k=true):Ok (evalOp e s h (.idxArr n s' x i)) k:=by
 unfold yG at hk;simp only[XV,YV,Gl,W5]at hk;unfold Ok;simp only[evalOp];split at hk
 ·rename_i m hm;obtain⟨h1,h2⟩:=WA hk;rw[hm];have h1':Nat.ble (m+1) n=true:=h1
  simp only[h1',cond_true];split at h2
  ·rename_i hx;rw[hx];exact⟨_,_,rfl,h2⟩
  ·rename_i hx;rw[hx];exact⟨_,_,rfl,h2⟩
  ·cases h2
 ·cases hk
def It(e:Env)(s:Zf)(h:Mem)(x:Rand)(k:X->Mem->Bool):Bool:=fH (eR e s x) λ v=>k v h
theorem ET{x:Rand}(hk:It e s h x k=true):Ok (evalOp e s h (.mov x)) k:=by
 simp only[It,z8,XV]at hk;exact⟨_,_,rfl,hk⟩
def Bg(e:Env)(s:Zf)(h:Mem)(c a b:Rand)(k:X->Mem->Bool):Bool:=
 match eR e s c with
 | .c (.bool t)=>Bool.casesOn (motive:=λ _=>Bool) t (fH (eR e s b) λ v=>k v h) (fH (eR e s a) λ v=>k v h)
 | _=>false
theorem Bf{c a b:Rand}(hk:Bg e s h c a b k=true):Ok (evalOp e s h (.pick c a b)) k:=by
 unfold Bg at hk;simp only[XV,z8]at hk;unfold Ok;simp only[evalOp];split at hk
 ·rename_i t hx;rw[hx];cases t<;>exact⟨_,_,rfl,hk⟩
 ·cases hk
def oK(e:Env)(s:Zf)(h:Mem)(op:BK)(x y:Rand)(k:X->Mem->Bool):Bool:=ME op (eR e s x) (eR e s y) λ v=>k (.c v) h
theorem Zag{op:BK}{x y:Rand}(hk:oK e s h op x y k=true):Ok (evalOp e s h (.bin op x y)) k:=by
 simp only[oK,XV]at hk;obtain⟨v,h1,h2⟩:=FO hk;exact⟨.c v,h,by simp only[evalOp,h1,yy],h2⟩
def jV(e:Env)(s:Zf)(h:Mem)(d:IntKind)(x:Rand)(k:X->Mem->Bool):Bool:=
 match eR e s x with
 | .c (.int _ n)=>HQ d n λ v=>k (.c v) h
 | _=>false
theorem gA{d:IntKind}{x:Rand}(hk:jV e s h d x k=true):Ok (evalOp e s h (.toInt d x)) k:=by
 unfold jV at hk;simp only[XV,yj]at hk;unfold Ok;simp only[evalOp];split at hk
 ·rename_i hx;rw[hx];exact⟨_,_,rfl,hk⟩
 ·cases hk
def Ir(e:Env)(s:Zf)(h:Mem)(x:Rand)(k:X->Mem->Bool):Bool:=
 match eR e s x with
 | .c (.bool b)=>fB (not b) λ b=>k (.c (.bool b)) h
 | _=>false
theorem ER{x:Rand}(hk:Ir e s h x k=true):Ok (evalOp e s h (.not x)) k:=by
 unfold Ir at hk;simp only[XV,Q8]at hk;unfold Ok;simp only[evalOp];split at hk
 ·rename_i hx;rw[hx];exact⟨_,_,rfl,hk⟩
 ·cases hk
def yE(e:Env)(s:Zf)(h:Mem)(x:Rand)(k:X->Mem->Bool):Bool:=
 match eR e s x with
 | .c (.str l)=>fN (Wi l) λ n=>k (.c (.int .i64 (Int.ofNat n))) h
 | _=>false
theorem vk{x:Rand}(hk:yE e s h x k=true):Ok (evalOp e s h (.lenStr x)) k:=by
 unfold yE at hk;simp only[XV,YV,Y6]at hk;unfold Ok;simp only[evalOp];split at hk
 ·rename_i hx;rw[hx];exact⟨_,_,rfl,hk⟩
 ·cases hk
def vl(e:Env)(s:Zf)(h:Mem)(x:Rand)(k:X->Mem->Bool):Bool:=
 match KK (eR e s x) with
 | some n=>fN n λ n=>k (.c (.int .i64 (Int.ofNat n))) h
 | none=>false
theorem Aa{x:Rand}(hk:vl e s h x k=true):Ok (evalOp e s h (.lenSl x)) k:=by
 unfold vl at hk;simp only[XV,YV]at hk;unfold Ok;simp only[evalOp];split at hk
 ·rename_i n hx;rw[hx];exact⟨_,_,rfl,hk⟩
 ·cases hk
def Kr(e:Env)(s:Zf)(h:Mem)(x:Rand)(k:X->Mem->Bool):Bool:=
 match eR e s x with
 | .ptr id off=>k (.ptr id off) h
 | .c (.rptr cs)=>k (.c (.rptr cs)) h
 | .c (.func f l)=>k (.c (.func f l)) h
 | .func f l=>k (.func f l) h
 | _=>false
theorem yA{x:Rand}(hk:Kr e s h x k=true):Ok (evalOp e s h (.nilCheck x)) k:=by
 unfold Kr at hk;simp only[XV]at hk;unfold Ok;simp only[evalOp];split at hk
 ·rename_i hx;rw[hx];exact⟨_,_,rfl,hk⟩
 ·rename_i hx;rw[hx];exact⟨_,_,rfl,hk⟩
 ·rename_i hx;rw[hx];exact⟨_,_,rfl,hk⟩
 ·rename_i hx;rw[hx];exact⟨_,_,rfl,hk⟩
 ·cases hk
def MB(e:Env)(s:Zf)(h:Mem)(t:Nat)(x:Rand)(k:X->Mem->Bool):Bool:=
 match yV (eR e s x) with
 | some cs=>OM cs λ cs=>fN (Wi h) λ n=>fL (appF h [.cells t cs]) λ h=>k (.ptr n 0) h
 | none=>false
theorem FH{t:Nat}{x:Rand}(hk:MB e s h t x k=true):Ok (evalOp e s h (.box t x)) k:=by
 unfold MB at hk;simp only[XV,yb,qx,YV,UQ,Y6,VU]at hk;unfold Ok;simp only[evalOp];split at hk
 ·rename_i cs hx;rw[hx];exact⟨_,_,rfl,hk⟩
 ·cases hk
def uf(h:Mem)(t:Nat)(zs:List CV)(k:X->Mem->Bool):Bool:=
 OM (qf .c zs) λ cs=>fN (Wi h) λ n=>fL (appF h [.cells t cs]) λ h=>k (.ptr n 0) h
theorem AD{t:Nat}{zs:List CV}(hk:uf h t zs k=true):Ok (evalOp e s h (.alloc t zs)) k:=by
 unfold uf at hk;simp only[qx,YV,UQ,Y6,VU,VM]at hk;exact⟨_,_,rfl,hk⟩
def Mf(e:Env)(s:Zf)(h:Mem)(x:Rand)(i:Nat)(k:X->Mem->Bool):Bool:=
 match eR e s x with
 | .c (.tup vs)=>match Un vs i with | some v=>k (.c v) h | none=>false
 | .tup vs=>match Un vs i with | some v=>k v h | none=>false
 | _=>false
theorem Fm{x:Rand}{i:Nat}(hk:Mf e s h x i k=true):Ok (evalOp e s h (.ext x i)) k:=by
 unfold Mf at hk;simp only[XV,XL]at hk;unfold Ok;simp only[evalOp];split at hk
 ·rename_i vs hx;rw[hx];split at hk
  ·rename_i v hv;simp only[hv];exact⟨_,_,rfl,hk⟩
  ·cases hk
 ·rename_i vs hx;rw[hx];split at hk
  ·rename_i v hv;simp only[hv];exact⟨_,_,rfl,hk⟩
  ·cases hk
 ·cases hk
def y4(d:Nat)(x:Option X):Option Nat:=Option.casesOn (motive:=λ _=>Option Nat) x (some d) (λ x=>gV x)
theorem Az(d:Nat)(x:Option X):y4 d x=X2 d x:=by cases x<;>simp[y4,X2,Gl]
def EE(e:Env)(s:Zf)(r:Option Rand):Option X:=Option.casesOn (motive:=λ _=>Option X) r none (λ r=>some (eR e s r))
theorem ED(e:Env)(s:Zf)(r:Option Rand):EE e s r=r.map (ZJ e s):=by cases r<;>simp[EE,XV]
def j0(e:Env)(s:Zf)(h:Mem)(x:Rand)(lo hi:Option Rand)(k:X->Mem->Bool):Bool:=
 match eR e s x with
 | .c (.str l)=>match y4 0 (EE e s lo) with
  | some a=>match y4 (Wi l) (EE e s hi) with
   | some b=>fN (Wi l) λ n=>bT (Nat.ble a b) (bT (Nat.ble b n) (fL (J2 a (JF b l)) λ l=>k (.c (.str l)) h))
   | none=>false
  | none=>false
 | _=>false
theorem gC{x:Rand}{lo hi:Option Rand}(hk:j0 e s h x lo hi k=true):Ok (evalOp e s h (.slStr x lo hi)) k:=by
 unfold j0 at hk;simp only[XV,YV,UQ,Az,ED,Y6,WY,W5]at hk;unfold Ok;simp only[evalOp];split at hk
 ·rename_i l hx;rw[hx];split at hk
  ·rename_i a ha;split at hk
   ·rename_i b hb;obtain⟨h1,h2⟩:=WA hk;obtain⟨h3,h4⟩:=WA h2;refine⟨_,_,?_,h4⟩;simp only[Xu,ha,hb,h1,h3,Bool.and_true,cond_true]
   ·cases hk
  ·cases hk
 ·cases hk
def vo(e:Env)(s:Zf)(h:Mem)(s':Nat)(x i:Rand)(k:X->Mem->Bool):Bool:=
 match gV (eR e s i) with
 | some n=>match eR e s x with
  | .c (.sl _ es)=>match Un es n with | some v=>bT (Nat.beq (Wi v.cells) s') (k (.c (.rptr v.cells)) h)|none=>false
  | .own es _ _=>match Un es n with | some v=>bT (Nat.beq (Wi v.cells) s') (k (.c (.rptr v.cells)) h)|none=>false
  | .ms id off m s''=>bT (Nat.ble (Nat.succ n) m) (bT (Nat.beq s' s'') (fN (Nat.add off (Nat.mul n s')) λ o=>k (.ptr id o) h))
  | _=>false
 | none=>false
theorem Ag{s':Nat}{x i:Rand}(hk:vo e s h s' x i k=true):Ok (evalOp e s h (.idxSl s' x i)) k:=by
 unfold vo at hk;simp only[XV,YV,Gl,XL,Y6]at hk;unfold Ok;simp only[evalOp];split at hk
 ·rename_i n hn;rw[hn];split at hk
  ·rename_i es hx;rw[hx];split at hk
   ·rename_i v hv;obtain⟨h1,h2⟩:=WA hk;simp only[hv,h1,cond_true];exact⟨_,_,rfl,h2⟩
   ·cases hk
  ·rename_i es _ _ hx;rw[hx];split at hk
   ·rename_i v hv;obtain⟨h1,h2⟩:=WA hk;simp only[hv,h1,cond_true];exact⟨_,_,rfl,h2⟩
   ·cases hk
  ·rename_i id off m s'' hx;rw[hx];obtain⟨h1,h2⟩:=WA hk;obtain⟨h3,h4⟩:=WA h2;have h1':Nat.ble (n+1) m=true:=h1
   simp only[h1',h3,Bool.and_true,cond_true];exact⟨_,_,rfl,h4⟩
  ·cases hk
 ·cases hk
end
end
noncomputable section
def qt(g:X->Option (List Nat))(l:List X):Option (List Nat):=
 List.rec (motive:=λ _=>Option (List Nat)) (some []) (λ x _ ih=>Option.casesOn (motive:=λ _=>Option (List Nat)) (g x) none (λ a=>Option.casesOn (motive:=λ _=>Option (List Nat)) ih none (λ b=>some (appF a b)))) l
def zV(n:Nat):X->Option (List Nat):=
 Nat.rec (motive:=λ _=>X->Option (List Nat)) (λ _=>none) (λ _ ih x=>
  X.casesOn (motive_1:=λ _=>Option (List Nat)) x (some []) (λ _=>some []) (λ i _=>some [i]) (λ _ i _=>some [i]) (λ i _ _ _=>some [i]) (λ i=>some [i]) (λ _ cs=>qt ih cs) (λ i=>some [i]) (λ _ i _=>some [i]) (some []) (λ _ i _=>some [i]) (λ _ i _=>some [i]) (λ cs=>qt ih cs) (λ cs=>qt ih cs)) n
theorem zT{n:Nat}(h:∀ x,zV n x=X.ids n x)(l:List X):qt (zV n) l=X.ids.idsL n l:=by
 induction l with
 | nil=>simp[qt,X.ids.idsL]
 | cons x l ih=>
  show(Option.casesOn (motive:=λ _=>Option (List Nat)) (zV n x) none (λ a=>Option.casesOn (motive:=λ _=>Option (List Nat)) (qt (zV n) l) none (λ b=>some (appF a b))))=_
  rw[h,ih];simp only[X.ids.idsL];cases X.ids n x<;>cases X.ids.idsL n l<;>simp[VU]
theorem yH:∀ (n:Nat) (x:X),zV n x=X.ids n x
 | 0,x=>by simp[X.ids];rfl
 | n+1,x=>by
  cases x<;>simp only[X.ids]<;>first|rfl | exact zT (yH n) _
def zU(l:List X):Option (List Nat):=qt (zV 6) l
theorem JT(l:List X):zU l=X.ids.idsL 6 l:=zT (yH 6) l
def BW(o:Ob):Option (List Nat):=Ob.casesOn (motive:=λ _=>Option (List Nat)) o (some []) (λ _ cs=>zU cs) (λ _ _ _=>some []) (λ _ _ _ _=>some []) (λ _ _=>some []) (λ _ _=>some []) (λ _ _ _=>some [])
theorem BV(o:Ob):BW o=o.ids:=by cases o<;>simp only[Ob.ids]<;>first|rfl | exact JT _
def vZ(L:Nat)(l:List Nat):Bool:=List.rec (motive:=λ _=>Bool) true (λ i _ ih=>Bool.casesOn (motive:=λ _=>Bool) (Nat.ble (Nat.succ i) L) false ih) l
theorem KA(L:Nat)(l:List Nat):vZ L l=ZM L l:=by
 induction l with
 | nil=>rfl
 | cons i l ih=>
  show(Bool.casesOn (motive:=λ _=>Bool) (Nat.ble (Nat.succ i) L) false (vZ L l))=_
  rw[ih];simp only[ZM];have:Nat.ble (Nat.succ i) L=Nat.ble (i+1) L:=rfl
  rw[<- this];cases Nat.ble (Nat.succ i) L<;>rfl
def yv(L:Nat)(o:Option (List Nat)):Bool:=Option.casesOn (motive:=λ _=>Bool) o false (λ l=>vZ L l)
def yB(L:Nat)(l:Mem):Bool:=List.rec (motive:=λ _=>Bool) true (λ o _ ih=>Bool.casesOn (motive:=λ _=>Bool) (yv L (BW o)) false ih) l
theorem wx(L:Nat)(l:Mem):yB L l=ZL L l:=by
 induction l with
 | nil=>rfl
 | cons o l ih=>
  show(Bool.casesOn (motive:=λ _=>Bool) (yv L (BW o)) false (yB L l))=_
  rw[ih,BV];simp only[ZL,Ob.lt];cases o.ids with
  | none=>rfl
  | some a=>simp only[yv,KA];cases ZM L a<;>rfl
def GB(L:Nat)(l:Zf):Bool:=List.rec (motive:=λ _=>Bool) true (λ p _ ih=>Prod.casesOn (motive:=λ _=>Bool) p λ _ x=>Bool.casesOn (motive:=λ _=>Bool) (yv L (zV 6 x)) false ih) l
theorem zx(L:Nat)(l:Zf):GB L l=Yy L l:=by
 induction l with
 | nil=>rfl
 | cons p l ih=>
  obtain⟨i,x⟩:=p;show(Bool.casesOn (motive:=λ _=>Bool) (yv L (zV 6 x)) false (GB L l))=_
  rw[ih,yH];simp only[Yy,X.lt];cases X.ids 6 x with
  | none=>rfl
  | some a=>simp only[yv,KA];cases ZM L a<;>rfl
def Q4(g:X->Option X)(l:List X):Option (List X):=
 List.rec (motive:=λ _=>Option (List X)) (some []) (λ x _ ih=>Option.casesOn (motive:=λ _=>Option (List X)) (g x) none (λ a=>Option.casesOn (motive:=λ _=>Option (List X)) ih none (λ b=>some (a::b)))) l
def EQ(o:Option Nat)(f:Nat->X):Option X:=Option.casesOn (motive:=λ _=>Option X) o none (λ j=>some (f j))
def onL(o:Option (List X))(f:List X->X):Option X:=Option.casesOn (motive:=λ _=>Option X) o none (λ j=>some (f j))
def GQ(ρ:Nat->Option Nat)(n:Nat):X->Option X:=
 Nat.rec (motive:=λ _=>X->Option X) (λ _=>none) (λ _ ih x=>
  X.casesOn (motive_1:=λ _=>Option X) x (some .undef) (λ v=>some (.c v)) (λ i o=>EQ (ρ i) λ j=>.ptr j o) (λ es i v=>EQ (ρ i) λ j=>.own es j v) (λ i o l s=>EQ (ρ i) λ j=>.ms j o l s) (λ i=>EQ (ρ i) λ j=>.map j)
   (λ f cs=>onL (Q4 ih cs) λ l=>.func f l) (λ i=>EQ (ρ i) λ j=>.iter j) (λ es i v=>EQ (ρ i) λ j=>.sdata es j v) (some .aptr) (λ es i v=>EQ (ρ i) λ j=>.pend es j v) (λ k i v=>EQ (ρ i) λ j=>.pptr k j v)
   (λ cs=>onL (Q4 ih cs) λ l=>.agg l) (λ cs=>onL (Q4 ih cs) λ l=>.tup l)) n
theorem GP{ρ:Nat->Option Nat}{n:Nat}(h:∀ x,GQ ρ n x=X.ren ρ n x)(l:List X):Q4 (GQ ρ n) l=X.ren.renL ρ n l:=by
 induction l with
 | nil=>simp[Q4,X.ren.renL]
 | cons x l ih=>
  show(Option.casesOn (motive:=λ _=>Option (List X)) (GQ ρ n x) none (λ a=>Option.casesOn (motive:=λ _=>Option (List X)) (Q4 (GQ ρ n) l) none (λ b=>some (a::b))))=_
  rw[h,ih];simp only[X.ren.renL];cases X.ren ρ n x<;>cases X.ren.renL ρ n l<;>rfl
theorem Ip(o:Option Nat)(f:Nat->X):EQ o f=match o with | some j=>some (f j)|none=>none:=by cases o<;>rfl
theorem Io(o:Option (List X))(f:List X->X):onL o f=match o with | some j=>some (f j)|none=>none:=by cases o<;>rfl
theorem Gj(ρ:Nat->Option Nat):∀ (n:Nat) (x:X),GQ ρ n x=X.ren ρ n x
 | 0,x=>by simp[X.ren];rfl
 | n+1,x=>by
  cases x<;>simp only[X.ren]<;>first|rfl | exact Ip _ _ | (rw[<- GP (Gj ρ n)];exact Io _ _)
def uD(ρ:Nat->Option Nat)(o:Ob):Option Ob:=Ob.casesOn (motive:=λ _=>Option Ob) o (some .dead) (λ t cs=>Option.casesOn (motive:=λ _=>Option Ob) (Q4 (GQ ρ 6) cs) none (λ l=>some (.cells t l))) (λ v s t=>some (.tip v s t)) (λ v s t w=>some (.tipF v s t w)) (λ ks vs=>some (.map ks vs)) (λ s p=>some (.siter s p)) (λ ks vs p=>some (.miter ks vs p))
theorem BU(ρ:Nat->Option Nat)(o:Ob):uD ρ o=o.ren ρ:=by
 cases o<;>simp only[Ob.ren]<;>first|rfl | skip
 rename_i t cs;rw[<- GP (Gj ρ 6)];simp only[uD];cases Q4 (GQ ρ 6) cs<;>rfl
def qd(ρ:Nat->Option Nat)(l:Mem):Option Mem:=
 List.rec (motive:=λ _=>Option Mem) (some []) (λ x _ ih=>Option.casesOn (motive:=λ _=>Option Mem) (uD ρ x) none (λ a=>Option.casesOn (motive:=λ _=>Option Mem) ih none (λ b=>some (a::b)))) l
theorem gY(ρ:Nat->Option Nat)(l:Mem):qd ρ l=Mem.ren ρ l:=by
 induction l with
 | nil=>rfl
 | cons x l ih=>
  show(Option.casesOn (motive:=λ _=>Option Mem) (uD ρ x) none (λ a=>Option.casesOn (motive:=λ _=>Option Mem) (qd ρ l) none (λ b=>some (a::b))))=_
  rw[BU,ih];simp only[Mem.ren];cases o1:Ob.ren ρ x<;>cases o2:Mem.ren ρ l<;>rfl
def UP(g:X->Option CV)(l:List X):Option (List CV):=
 List.rec (motive:=λ _=>Option (List CV)) (some []) (λ x _ ih=>Option.casesOn (motive:=λ _=>Option (List CV)) (g x) none (λ a=>Option.casesOn (motive:=λ _=>Option (List CV)) ih none (λ b=>some (a::b)))) l
def gT(o:Option (List CV))(f:List CV->Option CV):Option CV:=Option.casesOn (motive:=λ _=>Option CV) o none f
def vu(h:Mem)(m:Nat)(ih:X->Option CV)(id off:Nat):Option CV:=
 Bool.casesOn (motive:=λ _=>Option CV) (Nat.ble m id) none (match Un h id with
  | some (.cells _ cs)=>gT (UP ih (J2 off cs)) λ l=>some (.rptr l)
  | _=>none)
def Cv(h:Mem)(m:Nat)(ih:X->Option CV)(id off len s:Nat):Option CV:=
 Bool.casesOn (motive:=λ _=>Option CV) (Nat.ble m id) none (match Un h id with
  | some (.cells _ cs)=>gT (UP ih (JF (Nat.mul len s) (J2 off cs))) λ l=>Bool.casesOn (motive:=λ _=>Option CV) (Nat.beq (Wi l) (Nat.mul len s)) none (some (.sl false (qf (elemOf (bif Nat.beq s 1 then false else true)) (XG s len l))))
  | _=>none)
def vx(h:Mem)(m:Nat)(id:Nat):Option CV:=
 Bool.casesOn (motive:=λ _=>Option CV) (Nat.ble m id) none (match Un h id with
  | some (.map ks vs)=>some (.imap ks vs)
  | _=>none)
def qv(h:Mem)(m:Nat)(n:Nat):X->Option CV:=
 Nat.rec (motive:=λ _=>X->Option CV) (λ _=>none) (λ _ ih x=>
  X.casesOn (motive_1:=λ _=>Option CV) x none (λ v=>some v.wk) (λ i o=>vu h m ih i o) (λ es i v=>some (.sl false es)) (λ i o l s=>Cv h m ih i o l s) (λ i=>vx h m i)
   (λ f cs=>gT (UP ih cs) λ l=>some (.func f l)) (λ i=>none) (λ es i v=>none) none (λ es i v=>none) (λ k i v=>none)
   (λ cs=>gT (UP ih cs) λ l=>some (.agg l)) (λ cs=>gT (UP ih cs) λ l=>some (.tup l))) n
theorem z5{h:Mem}{m n:Nat}(hh:∀ x,qv h m n x=frz h m n x)(l:List X):UP (qv h m n) l=frz.frzL h m n l:=by
 induction l with
 | nil=>simp[UP,frz.frzL]
 | cons x l ih=>
  show(Option.casesOn (motive:=λ _=>Option (List CV)) (qv h m n x) none (λ a=>Option.casesOn (motive:=λ _=>Option (List CV)) (UP (qv h m n) l) none (λ b=>some (a::b))))=_
  rw[hh,ih];simp only[frz.frzL];cases frz h m n x<;>cases frz.frzL h m n l<;>rfl
theorem uN(h:Mem)(m:Nat):∀ (n:Nat) (x:X),qv h m n x=frz h m n x
 | 0,x=>by simp[frz];rfl
 | n+1,x=>by
  have hL:=λ l=>z5 (uN h m n) l
  cases x with
  | ptr i o=>
   show vu h m (qv h m n) i o=_;simp only[frz,vu,ZN,XL,hL,W5];cases Nat.ble m i with
   | false=>rfl
   | true=>
    simp only[cond_true];generalize h[i]?=q
    match q with
    | none=>rfl
    | some (.cells t cs)=>simp only[gT];cases frz.frzL h m n (cs.drop o)<;>rfl
    | some .dead=>rfl
    | some (.tip _ _ _)=>rfl
    | some (.tipF _ _ _ _)=>rfl
    | some (.map _ _)=>rfl
    | some (.siter _ _)=>rfl
    | some (.miter _ _ _)=>rfl
  | ms i o l s=>
   show Cv h m (qv h m n) i o l s=_;simp only[frz,Cv,ZN,XL,hL,W5,WY,Y6,VM];cases Nat.ble m i with
   | false=>rfl
   | true=>
    simp only[cond_true];generalize h[i]?=q
    match q with
    | none=>rfl
    | some (.cells t cs)=>
     simp only[gT];have:(l.mul s)=l*s:=rfl
     rw[this];cases frz.frzL h m n ((cs.drop o).take (l*s)) with
     | none=>rfl
     | some r=>simp only[];cases Nat.beq r.length (l*s)<;>rfl
    | some .dead=>rfl
    | some (.tip _ _ _)=>rfl
    | some (.tipF _ _ _ _)=>rfl
    | some (.map _ _)=>rfl
    | some (.siter _ _)=>rfl
    | some (.miter _ _ _)=>rfl
  | map i=>
   show vx h m i=_;simp only[frz,vx,XL];cases Nat.ble m i with
   | false=>rfl
   | true=>
    simp only[cond_true];generalize h[i]?=q
    match q with
    | none=>rfl
    | some (.cells t cs)=>rfl
    | some .dead=>rfl
    | some (.tip _ _ _)=>rfl
    | some (.tipF _ _ _ _)=>rfl
    | some (.map _ _)=>rfl
    | some (.siter _ _)=>rfl
    | some (.miter _ _ _)=>rfl
  | func f cs=>
   show gT (UP (qv h m n) cs) _=_;simp only[frz,hL,gT];cases frz.frzL h m n cs<;>rfl
  | agg cs=>
   show gT (UP (qv h m n) cs) _=_;simp only[frz,hL,gT];cases frz.frzL h m n cs<;>rfl
  | tup cs=>
   show gT (UP (qv h m n) cs) _=_;simp only[frz,hL,gT];cases frz.frzL h m n cs<;>rfl
  | _=>simp only[frz];rfl
def Cw(h:Mem)(m:Nat)(l:List X):Option (List CV):=UP (qv h m 50) l
theorem Aj(h:Mem)(m:Nat)(l:List X):Cw h m l=frz.frzL h m 50 l:=z5 (uN h m 50) l
def CE(fn:PFn)(m:Nat)(s:Zf)(h:Mem)(k:X->Mem->Bool):Bool:=
 Option.casesOn (motive:=λ _=>Bool) (results ⟨s,h⟩ fn.res) false λ rs0=>
  fXs (Bool.casesOn (motive:=λ _=>List X) fn.keep (qf X.wk rs0) rs0) λ rs=>
   fL (JF m h) λ hm=>
   let all:=fX (oneOf rs) λ x=>k x h
   Bool.casesOn (motive:=λ _=>Bool) (yB m hm) all
    (Bool.casesOn (motive:=λ _=>Bool) (yv m (zU rs))
     (Bool.casesOn (motive:=λ _=>Bool) fn.frz all (Option.casesOn (motive:=λ _=>Bool) (Cw h m rs) all (λ l=>fX (oneOf (qf X.c l)) λ x=>k x hm)))
     (fX (oneOf rs) λ x=>k x hm))
theorem E3{fn:PFn}{m:Nat}{s:Zf}{h:Mem}{k:X->Mem->Bool}(hk:CE fn m s h k=true):Ok (ZD fn m ⟨s,h⟩) k:=by
 unfold CE at hk;unfold Ok ZD;cases hr:results ⟨s,h⟩ fn.res with
 | none=>rw[hr]at hk;cases hk
 | some rs0=>
  rw[hr]at hk;simp only[vA,UQ,JY,WY,wx,JT,Aj,VM]at hk;have hrs:(Bool.rec (motive:=λ _=>List X) (rs0.map X.wk) rs0 fn.keep)=bif fn.keep then rs0 else rs0.map X.wk:=by cases fn.keep<;>rfl
  rw[hrs]at hk
  dsimp only
  generalize (bif fn.keep then rs0 else rs0.map X.wk)=rs at hk ⊢;cases h1:ZL m (h.take m) with
  | false=>rw[h1]at hk;exact⟨_,_,rfl,hk⟩
  | true=>
   rw[h1]at hk;simp only[cond_true];have h2:yv m (X.ids.idsL 6 rs)=(X.ids.idsL 6 rs).elim false (ZM m):=by
    cases X.ids.idsL 6 rs with
    | none=>rfl
    | some a=>simp only[yv,KA,Option.elim]
   rw[h2]at hk;cases h3:(X.ids.idsL 6 rs).elim false (ZM m) with
   | true=>rw[h3]at hk;exact⟨_,_,rfl,hk⟩
   | false=>
    rw[h3]at hk;simp only[cond_false];cases h4:fn.frz with
    | false=>rw[h4]at hk;exact⟨_,_,rfl,hk⟩
    | true=>
     rw[h4]at hk;simp only[cond_true];cases h5:frz.frzL h m 50 rs with
     | none=>rw[h5]at hk;exact⟨_,_,rfl,hk⟩
     | some l=>rw[h5]at hk;exact⟨_,_,rfl,hk⟩
end
section
noncomputable section
variable {e:Env} {c:XR} {s:Zf} {h:Mem} {k:X->Mem->Bool}
def cvH(v:CV)(k:CV->Bool):Bool:=CV.casesOn (motive_1:=λ _=>Bool) v (λ b=>k (.bool b)) (λ d n=>k (.int d n)) (λ s=>k (.str s)) (k .nilptr) (k .nilfunc) (k .nilmap) (k .nilif) (λ cs=>k (.rptr cs)) (λ f cs=>k (.func f cs)) (λ a b=>k (.imap a b)) (λ t v=>k (.iface t v)) (λ cs=>k (.agg cs)) (λ cs=>k (.tup cs)) (λ f es=>k (.sl f es))
theorem Mj(v:CV)(k:CV->Bool):cvH v k=k v:=by cases v<;>rfl
def wkC(v:CV)(k:CV->Bool):Bool:=
 match v with
 | .sl _ es=>k (.sl false es)
 | .agg cs=>uR cvH (qf CV.wk0 cs) λ cs=>k (.agg cs)
 | v=>k v
theorem HW(v:CV)(k:CV->Bool):wkC v k=k v.wk:=by
 cases v<;>simp only[wkC,CV.wk,W9 Mj,VM]
def wkX(x:X)(k:X->Bool):Bool:=
 match x with
 | .c v=>wkC v λ v=>k (.c v)
 | .own es _ _=>k (.c (.sl false es))
 | .agg cs=>fX (Yr (cs.map X.wk0)) k
 | x=>k x
theorem HV(x:X)(k:X->Bool):wkX x k=k x.wk:=by
 cases x<;>simp only[wkX,X.wk,HW,JY]
def gp(l:List X)(k:List X->Bool):Bool:=List.rec (motive:=λ _=>(List X->Bool)->Bool) (λ k=>k []) (λ x _ ih k=>wkX x λ x=>ih λ l=>k (x::l)) l k
theorem yk(l:List X)(k:List X->Bool):gp l k=k (l.map X.wk):=by
 induction l generalizing k with
 | nil=>rfl
 | cons x l ih=>
  show wkX x (λ x=>gp l λ l=>k (x::l))=_
  rw[HV,ih];rfl
def BY(l:List X):Bool:=List.rec (motive:=λ _=>Bool) true (λ x _ ih=>X.casesOn (motive_1:=λ _=>Bool) x ih (λ _=>ih) (λ _ _=>false) (λ _ _ _=>false) (λ _ _ _ _=>false) (λ _=>false) (λ _ _=>false) (λ _=>false) (λ _ _ _=>false) ih (λ _ _ _=>false) (λ _ _ _=>false) (λ _=>false) (λ _=>false)) l
theorem BX(l:List X)(hl:BY l=true):X.ids.idsL 6 l=some []:=by
 induction l with
 | nil=>simp[X.ids.idsL]
 | cons x l ih=>
  cases x<;>first|(cases hl;done)|skip
  ·have:=ih hl;simp[X.ids.idsL,X.ids,this]
  ·have:=ih hl;simp[X.ids.idsL,X.ids,this]
  ·have:=ih hl;simp[X.ids.idsL,X.ids,this]
def up(c:XR)(h:Mem)(f:Nat)(args:List X)(k:X->Mem->Bool):Bool:=
 match zU args with
 | none=>false
 | some []=>
  c f args [] λ r nw=>
   match nw with
   | []=>k r h
   | nw=>match GQ (λ k=>some (Nat.add (Wi h) k)) 6 r,qd (λ k=>some (Nat.add (Wi h) k)) nw with
    | some r',some l=>fX r' λ r=>fM l λ l=>fL (appF h l) λ h=>k r h
    | _,_=>false
 | some is=>
  match Xp h 1000 is [] with
  | none=>false
  | some ids=>uR fN ids λ ids=>
   match Q4 (GQ (λ i=>Xw i ids) 6) args,YM h ids with
   | some args',some sub=>
    match qd (λ i=>Xw i ids) sub with
    | some sub'=>
     fXs args' λ args'=>fM sub' λ sub'=>c f args' sub' λ r h'=>
      let m:=Wi ids
      let back:=λ k=>Bool.casesOn (motive:=λ _=>Option Nat) (Nat.ble m k) (Un ids k) (some (Nat.add (Wi h) (Nat.sub k m)))
      match GQ back 6 r,qd back h' with
      | some r',some h''=>fX r' λ r=>fM h'' λ h''=>fL (appF (YS h ids (JF m h'')) (J2 m h'')) λ h=>k r h
      | _,_=>false
    | none=>false
   | _,_=>false
theorem Bb(ρ:Nat->Option Nat)(l:List X):Q4 (GQ ρ 6) l=X.ren.renL ρ 6 l:=GP (Gj ρ 6) l
theorem FR(h:Mem)(ids:List Nat):(λ k=>Bool.casesOn (motive:=λ _=>Option Nat) (Nat.ble ids.length k) ids[k]? (some (Nat.add h.length (Nat.sub k ids.length))))=λ k=>bif Nat.ble ids.length k then some (h.length+(k - ids.length)) else ids[k]?:=by
 funext k;cases Nat.ble ids.length k<;>rfl
theorem zw(hc:Xc e c){f:Nat}{args:List X}(hk:up c h f args k=true):Ok (Zi e h f args) k:=by
 unfold up at hk;simp only[JT,Gj,gY,Bb,Y6,XL,WY,W5,VU,FR]at hk;unfold Ok Zi;split at hk
 ·cases hk
 ·rename_i hi;rw[hi];obtain⟨r,h',h1,h2⟩:=hc _ _ _ _ hk;simp only[h1];cases h' with
  | nil=>exact⟨_,_,rfl,h2⟩
  | cons o l=>
   simp only at h2 ⊢;split at h2
   ·rename_i r' l' hr hl;simp only[JY,wN,UQ]at h2;refine⟨r',h++l',?_,h2⟩;have hr':r.ren (λ k=>some (h.length+k)) 6=some r':=hr
    have hl':Mem.ren (λ k=>some (h.length+k)) (o::l)=some l':=hl
    simp only[hr',hl']
   ·cases h2
 ·rename_i is hne hi;rw[hi];split at hk
  ·cases hk
  ·rename_i ids hr;rw[W9 YV]at hk;split at hk
   ·rename_i args' sub ha hs;split at hk
    ·rename_i sub' hm;simp only[vA,wN]at hk;obtain⟨r,h',h1,h2⟩:=hc _ _ _ _ hk;split at h2
     ·rename_i r' h'' hr' hh';simp only[JY,wN,UQ]at h2;refine⟨_,_,?_,h2⟩;cases is with
      | nil=>exact absurd rfl hne
      | cons i is=>simp only[hr,ha,hs,hm,h1,hr',hh']
     ·cases h2
    ·cases hk
   ·cases hk
def VQ(c:XR)(h:Mem)(f:Nat)(args:List X)(k:X->Mem->Bool):Bool:=
 Bool.casesOn (motive:=λ _=>Bool) (BY args) (up c h f args k) (c f args [] λ r nw=>List.casesOn (motive:=λ _=>Bool) nw (k r h) (λ _ _=>up c h f args k))
theorem WP(hc:Xc e c){f:Nat}{args:List X}(hk:VQ c h f args k=true):Ok (Zi e h f args) k:=by
 unfold VQ at hk;cases hn:BY args with
 | false=>rw[hn]at hk;exact zw hc hk
 | true=>
  rw[hn]at hk;obtain⟨r,h',h1,h2⟩:=hc _ _ _ _ hk;cases h' with
  | nil=>
   unfold Ok Zi;rw[BX _ hn];simp only[h1];exact⟨_,_,rfl,h2⟩
  | cons _ _=>exact zw hc h2
def vM(e:Env)(c:XR)(s:Zf)(h:Mem)(f:Nat)(args:List Rand)(k:X->Mem->Bool):Bool:=
 gp (Mh e s args) λ args=>VQ c h f args k
theorem Aw(hc:Xc e c){f:Nat}{args:List Rand}(hk:vM e c s h f args k=true):Ok (evalOp e s h (.call f args)) k:=by
 simp only[vM,yk,yO]at hk;exact WP hc hk
def vK(e:Env)(c:XR)(s:Zf)(h:Mem)(f:Rand)(args:List Rand)(k:X->Mem->Bool):Bool:=
 match eR e s f with
 | .c (.func n caps)=>gp (Mh e s args) λ args=>fL (appF args (qf X.c caps)) λ args=>VQ c h n args k
 | .func n caps=>gp (Mh e s args) λ args=>fL (appF args caps) λ args=>VQ c h n args k
 | _=>false
theorem Av(hc:Xc e c){f:Rand}{args:List Rand}(hk:vK e c s h f args k=true):Ok (evalOp e s h (.callv f args)) k:=by
 unfold vK at hk;simp only[XV,yk,yO,UQ,VU,VM]at hk;unfold Ok;simp only[evalOp];split at hk
 ·rename_i hx;rw[hx];exact WP hc hk
 ·rename_i hx;rw[hx];exact WP hc hk
 ·cases hk
def Hw(e:Env)(c:XR)(s:Zf)(h:Mem)(op:POp)(k:X->Mem->Bool):Bool:=
 match op with
 | .mov x=>It e s h x k
 | .pick c a b=>Bg e s h c a b k
 | .alloc t zs=>uf h t zs k
 | .box t x=>MB e s h t x k
 | .load ag n a=>Cb e s h ag n a k
 | .store n a v=>jY e s h n a v k
 | .nilCheck x=>Kr e s h x k
 | .bin op x y=>oK e s h op x y k
 | .not x=>Ir e s h x k
 | .toInt d x=>jV e s h d x k
 | .slStr x lo hi=>j0 e s h x lo hi k
 | .fldA o x=>CA e s h o x k
 | .idxSl s' x i=>vo e s h s' x i k
 | .idxArr n s' x i=>yG e s h n s' x i k
 | .idxStr x i=>yF e s h x i k
 | .ext x i=>Mf e s h x i k
 | .lenStr x=>yE e s h x k
 | .lenSl x=>vl e s h x k
 | .call f args=>vM e c s h f args k
 | .callv f args=>vK e c s h f args k
 | .compl x=>CY e s h (.compl x) k
 | .build zs ps=>CY e s h (.build zs ps) k
 | .mkFn f cs=>CY e s h (.mkFn f cs) k
 | op=>dfl e s h op k
theorem yM(hc:Xc e c){op:POp}(hk:Hw e c s h op k=true):Ok (evalOp e s h op) k:=by
 cases op<;>simp only[Hw]at hk<;>first
  | exact Mi hk | exact Fu hk | exact ET hk | exact Bf hk | exact AD hk | exact FH hk | exact Ca hk | exact gB hk | exact yA hk
  | exact Zag hk | exact ER hk | exact gA hk | exact gC hk | exact Cz hk | exact Ag hk | exact vp hk | exact vn hk | exact Fm hk
  | exact vk hk | exact Aa hk | exact Aw hc hk | exact Av hc hk
def Dh(e:Env)(c:XR)(s:Zf)(h:Mem)(f:Nat)(args:List Rand)(k:X->Mem->Bool):Bool:=
 OM (Mh e s args) λ args=>VQ c h f args k
def Fp(e:Env)(c:XR)(s:Zf)(h:Mem)(op:POp)(k:X->Mem->Bool):Bool:=
 match op with
 | .call f args=>Dh e c s h f args k
 | op=>Hw e c s h op k
theorem Fo(hc:Xc e c){op:POp}(hk:Fp e c s h op k=true):Ok (XZ e s h op) k:=by
 cases op<;>simp only[Fp]at hk<;>first|exact yM hc hk | skip
 simp only[Dh,qx,yO]at hk;exact WP hc hk
def KJ(s:Zf)(g:Option (Nat × Bool)):Option Bool:=
 Option.casesOn (motive:=λ _=>Option Bool) g (some true) (λ p=>Prod.casesOn (motive:=λ _=>Option Bool) p λ i b=>match gS s i with
  | .c (.bool a)=>some (Bool.rec (not b) b a)
  | .c (.tup [])=>some false
  | _=>none)
theorem Gw(s:Zf)(g:Option (Nat × Bool)):KJ s g=wanted s g:=by
 cases g with
 | none=>rfl
 | some p=>
  obtain⟨i,b⟩:=p;simp only[KJ,wanted,z3];generalize Zm s i=x;cases x with
  | c v=>cases v with
   | bool a=>cases a<;>cases b<;>rfl
   | tup l=>cases l<;>rfl
   | _=>rfl
  | _=>rfl
def Kn(s:Zf)(d:Option Nat)(v:X):Zf:=Option.casesOn (motive:=λ _=>Zf) d s (λ i=>(i,v)::s)
theorem Qy(s:Zf)(d:Option Nat)(v:X):Kn s d v=Yo s d v:=by cases d<;>rfl
def Bm(e:Env)(c:XR)(l:List POper):Zf->Mem->(Zf->Mem->Bool)->Bool:=
 List.rec (motive:=λ _=>Zf->Mem->(Zf->Mem->Bool)->Bool) (λ s h k=>k s h)
  (λ o _ ih s h k=>POper.casesOn (motive:=λ _=>Bool) o λ d op g=>
   Option.casesOn (motive:=λ _=>Bool) (KJ s g) false λ b=>
    Bool.casesOn (motive:=λ _=>Bool) b (ih (Kn s d (.c (.tup []))) h k) (Hw e c s h op λ v h=>ih (Kn s d v) h k)) l
theorem uB(hc:Xc e c)(l:List POper):∀ (s:Zf) (h:Mem) (k:Zf->Mem->Bool),Bm e c l s h k=true->∃ s' h',YN e l ⟨s,h⟩=some ⟨s',h'⟩/\k s' h'=true:=by
 induction l with
 | nil=>intro s h k hk;exact⟨s,h,rfl,hk⟩
 | cons o l ih=>
  intro s h k hk;obtain⟨d,op,g⟩:=o;have hk':(Option.casesOn (motive:=λ _=>Bool) (KJ s g) false λ b=>
    Bool.casesOn (motive:=λ _=>Bool) b (Bm e c l (Kn s d (.c (.tup []))) h k) (Hw e c s h op λ v h=>Bm e c l (Kn s d v) h k))=true:=hk
  rw[Gw]at hk';simp only[YN];cases hw:wanted s g with
  | none=>rw[hw]at hk';cases hk'
  | some b=>
   rw[hw]at hk';cases b with
   | false=>rw[Qy]at hk';exact ih _ _ _ hk'
   | true=>
    obtain⟨v,h',h1,h2⟩:=yM hc hk';simp only[Qy]at h2;simp only[h1];exact ih _ _ _ h2
def uA(e:Env)(c:XR)(l:List POper):Zf->Mem->(Zf->Mem->Bool)->Bool:=
 List.rec (motive:=λ _=>Zf->Mem->(Zf->Mem->Bool)->Bool) (λ s h k=>k s h)
  (λ o _ ih s h k=>POper.casesOn (motive:=λ _=>Bool) o λ d op g=>
   Option.casesOn (motive:=λ _=>Bool) (KJ s g) false λ b=>
    Bool.casesOn (motive:=λ _=>Bool) b (ih (Kn s d (.c (.tup []))) h k) (Fp e c s h op λ v h=>ih (Kn s d v) h k)) l
theorem Bl(hc:Xc e c)(l:List POper):∀ (s:Zf) (h:Mem) (k:Zf->Mem->Bool),uA e c l s h k=true->∃ s' h',YE e l ⟨s,h⟩=some ⟨s',h'⟩/\k s' h'=true:=by
 induction l with
 | nil=>intro s h k hk;exact⟨s,h,rfl,hk⟩
 | cons o l ih=>
  intro s h k hk;obtain⟨d,op,g⟩:=o;have hk':(Option.casesOn (motive:=λ _=>Bool) (KJ s g) false λ b=>
    Bool.casesOn (motive:=λ _=>Bool) b (uA e c l (Kn s d (.c (.tup []))) h k) (Fp e c s h op λ v h=>uA e c l (Kn s d v) h k))=true:=hk
  rw[Gw]at hk';simp only[YE];cases hw:wanted s g with
  | none=>rw[hw]at hk';cases hk'
  | some b=>
   rw[hw]at hk';cases b with
   | false=>rw[Qy]at hk';exact ih _ _ _ hk'
   | true=>
    obtain⟨v,h',h1,h2⟩:=Fo hc hk';simp only[Qy]at h2;simp only[h1];exact ih _ _ _ h2
def fS(s:Zf)(k:Zf->Bool):Bool:=uR (λ p k=>Prod.casesOn (motive:=λ _=>Bool) p λ i x=>fX x λ x=>k (i,x)) s k
theorem Zat(s:Zf)(k:Zf->Bool):fS s k=k s:=W9 (λ p k=>by obtain⟨i,x⟩:=p;exact JY x _) s k
def Jk(live:List Nat)(s:Zf)(k:Zf->Bool):Bool:=
 List.rec (motive:=λ _=>(Zf->Bool)->Bool) (λ k=>k []) (λ i _ ih k=>fH (gS s i) λ x=>ih λ r=>k ((i,x)::r)) live k
theorem Ko(live:List Nat)(s:Zf)(k:Zf->Bool):Jk live s k=k (ZK live s):=by
 induction live generalizing k with
 | nil=>rfl
 | cons i l ih=>
  show fH (gS s i) (λ x=>Jk l s λ r=>k ((i,x)::r))=_
  rw[z8,ih,z3];rfl
def qA(e:Env)(c:XR)(s:Zf)(h:Mem)(op:POp)(k:X->Mem->Nat->Bool):Bool:=
 match op with
 | .call f args=>gp (Mh e s args) λ args=>
  match zU args with
  | some []=>c f args [] λ r nw=>List.casesOn (motive:=λ _=>Bool) nw (k r h 0) (λ _ _=>VQ c h f args λ v h=>k v h 2)
  | _=>VQ c h f args λ v h=>k v h 2
 | op=>Hw e c s h op λ v h'=>fN (op.kind e s) λ n=>k v h' n
theorem Ap(hc:Xc e c){op:POp}{k:X->Mem->Nat->Bool}(hk:qA e c s h op k=true):∃ v h',evalOp e s h op=some (v,h')/\k v h' (op.kind e s)=true:=by
 cases op with
 | call f args=>
  simp only[qA,yk,yO,JT]at hk;simp only[POp.kind];split at hk
  ·rename_i hi;obtain⟨r,h',h1,h2⟩:=hc _ _ _ _ hk;cases h' with
   | nil=>
    refine⟨r,h,?_,by simp only[hi,h1];exact h2⟩
    simp only[evalOp,Zi,hi,h1]
   | cons o l=>
    obtain⟨v,h'',h3,h4⟩:=WP hc h2;exact⟨v,h'',h3,by simp only[hi,h1];exact h4⟩
  ·rename_i hne;obtain⟨v,h'',h3,h4⟩:=WP hc hk;refine⟨v,h'',h3,?_⟩
   split
   ·rename_i hi;exact absurd hi hne
   ·exact h4
 | _=>
  simp only[qA,YV]at hk;obtain⟨v,h',h1,h2⟩:=yM hc hk;exact⟨v,h',h1,h2⟩
def uy(e:Env)(c:XR)(l:List POper):Zf->Mem->(List Rec->List Nat->Zf->Mem->Bool)->Bool:=
 List.rec (motive:=λ _=>Zf->Mem->(List Rec->List Nat->Zf->Mem->Bool)->Bool) (λ s h k=>k [] [] s h)
  (λ o _ ih s h k=>uR fN o.tmps λ tm=>Jk tm s λ s1=>
   Option.casesOn (motive:=λ _=>Bool) (KJ s1 o.guard) false λ b=>
    Bool.casesOn (motive:=λ _=>Bool) b (ih (Kn s o.dst (.c (.tup []))) h λ rs ns s' h'=>k (⟨s1,o,false,.c (.tup [])⟩::rs) (0::ns) s' h')
     (qA e c s1 h o.op λ v h' n=>ih (Kn s o.dst v) (Bool.rec h h' (Nat.beq n 2)) λ rs ns s' h'=>k (⟨s1,o,true,v⟩::rs) (n::ns) s' h')) l
def UF(e:Env):List Rec->List Nat->Prop
 | [],[]=>True
 | r::rs,n::ns=>(r.run=true->n=r.o.op.kind e r.s)/\UF e rs ns
 | _,_=>False
theorem Bh(hc:Xc e c)(l:List POper):∀ (s:Zf) (h:Mem) (k:List Rec->List Nat->Zf->Mem->Bool),uy e c l s h k=true->
  ∃ rs ns s' h',Yq e l s h=some (rs,⟨s',h'⟩)/\UF e rs ns/\k rs ns s' h'=true:=by
 induction l with
 | nil=>intro s h k hk;exact⟨[],[],s,h,rfl,trivial,hk⟩
 | cons o l ih=>
  intro s h k hk;have hk':(uR fN o.tmps λ tm=>Jk tm s λ s1=>
   Option.casesOn (motive:=λ _=>Bool) (KJ s1 o.guard) false λ b=>
    Bool.casesOn (motive:=λ _=>Bool) b (uy e c l (Kn s o.dst (.c (.tup []))) h λ rs ns s' h'=>k (⟨s1,o,false,.c (.tup [])⟩::rs) (0::ns) s' h')
     (qA e c s1 h o.op λ v h' n=>uy e c l (Kn s o.dst v) (Bool.rec h h' (Nat.beq n 2)) λ rs ns s' h'=>k (⟨s1,o,true,v⟩::rs) (n::ns) s' h'))=true:=hk
  rw[W9 YV,Ko,Gw]at hk';simp only[Yq];cases hw:wanted (ZK o.tmps s) o.guard with
  | none=>rw[hw]at hk';cases hk'
  | some b=>
   rw[hw]at hk';cases b with
   | false=>
    rw[Qy]at hk';obtain⟨rs,ns,s',h',h1,h2,h3⟩:=ih _ _ _ hk';simp only[h1];exact⟨_,_,_,_,rfl,(by unfold UF;exact⟨λ hx=>absurd hx (by simp),h2⟩),h3⟩
   | true=>
    obtain⟨v,h',h1,h2⟩:=Ap hc hk';simp only[Qy]at h2;obtain⟨rs,ns,s',h'',h3,h4,h5⟩:=ih _ _ _ h2;have:(Bool.rec h h' (Nat.beq (o.op.kind e (ZK o.tmps s)) 2):Mem)=bif Nat.beq (o.op.kind e (ZK o.tmps s)) 2 then h' else h:=by
     cases Nat.beq (o.op.kind e (ZK o.tmps s)) 2<;>rfl
    rw[this]at h3;simp only[h1,h3];exact⟨_,_,_,_,rfl,(by unfold UF;exact⟨λ _=>rfl,h4⟩),h5⟩
def wT(i:Nat)(rs:List Rec)(ns:List Nat):List Nat:=
 match rs,ns with
 | r::rs,n::ns=>bif r.run&&Nat.beq n 2 then i::wT (i+1) rs ns else wT (i+1) rs ns
 | _,_=>[]
theorem jd:∀ {rs:List Rec} {ns:List Nat} (i:Nat),UF e rs ns->wT i rs ns=YW e i rs
 | [],[],i,_=>by simp[wT,YW]
 | r::rs,n::ns,i,h=>by
  simp only[UF]at h;have:(r.run&&Nat.beq n 2)=r.eff e:=by
   unfold Rec.eff;cases hr:r.run with
   | false=>simp
   | true=>rw[h.1 hr]
  simp only[wT,YW,this,jd (i+1) h.2]
 | [],_::_,_,h=>h.elim
 | _::_,[],_,h=>h.elim
def yC(i:Nat)(l:List Nat):Bool:=List.rec (motive:=λ _=>Bool) false (λ j _ ih=>Bool.rec ih true (Nat.beq i j)) l
theorem uF(i:Nat)(l:List Nat):yC i l=mem i l:=by
 induction l with
 | nil=>rfl
 | cons j l ih=>
  show Bool.rec (motive:=λ _=>Bool) (yC i l) true (Nat.beq i j)=_
  rw[ih];simp only[mem];cases Nat.beq i j<;>rfl
def Gd{α:Type}(l:List α)(p:α->Bool):Bool:=List.rec (motive:=λ _=>Bool) true (λ a _ ih=>Bool.rec false ih (p a)) l
theorem Gs{α:Type}(l:List α)(p:α->Bool):Gd l p=l.all p:=by
 induction l with
 | nil=>rfl
 | cons a l ih=>
  show Bool.rec (motive:=λ _=>Bool) false (Gd l p) (p a)=_
  rw[ih];simp only[List.all_cons];cases p a<;>rfl
def B9(anc:List (List Nat))(es done:List Nat)(i:Nat):Bool:=
 Bool.rec false (Gd done λ j=>not (yC i (Yv anc j))) (Gd es λ j=>Bool.rec true (yC j done) (yC j (Yv anc i)))
theorem uG(anc:List (List Nat))(es done:List Nat)(i:Nat):B9 anc es done i=YB anc es done i:=by
 have h1:(λ j=>(Bool.rec true (mem j done) (mem j (Yv anc i)):Bool))=λ j=>!(mem j (Yv anc i))||mem j done:=by
  funext j;cases mem j (Yv anc i)<;>rfl
 simp only[B9,YB,Gs,uF,h1];cases (es.all λ j=>!(mem j (Yv anc i))||mem j done)<;>simp
def Qc(e:Env)(anc:List (List Nat))(es done:List Nat)(h:Mem)(i:Nat)(rs:List Rec)(ns:List Nat):Bool:=
 match rs,ns with
 | r::rs,n::ns=>Bool.rec (Qc e anc es done h (i+1) rs ns)
   (Bool.rec (Qc e anc es done h (i+1) rs ns) (Bool.rec false (Qc e anc es done h (i+1) rs ns) (match evalOp e r.s h r.o.op with | some (u,_)=>X.same u r.v | none=>false)) (B9 anc es done i))
   (Bool.rec false (Nat.beq n 1) r.run)
 | [],[]=>true
 | _,_=>false
theorem Qx:∀ {rs:List Rec} {ns:List Nat} {anc:List (List Nat)} {es done:List Nat} {h:Mem} (i:Nat),UF e rs ns->Qc e anc es done h i rs ns=true->YF e anc es done h i rs=true
 | [],[],anc,es,done,h,i,_,_=>by simp[YF]
 | r::rs,n::ns,anc,es,done,h,i,hk,hr=>by
  simp only[UF]at hk;simp only[Qc,uG]at hr;simp only[YF];have hx:(r.run&&(Nat.beq (r.o.op.kind e r.s) 1&&YB anc es done i))=(Bool.rec false (YB anc es done i) (Bool.rec false (Nat.beq n 1) r.run:Bool):Bool):=by
   cases hr':r.run with
   | false=>rfl
   | true=>rw[<- hk.1 hr'];cases Nat.beq n 1<;>rfl
  rw[hx];cases h1:(Bool.rec false (Nat.beq n 1) r.run:Bool) with
  | false=>rw[h1]at hr;simp[Qx (i+1) hk.2 hr]
  | true=>
   rw[h1]at hr;cases h2:YB anc es done i with
   | false=>rw[h2]at hr;simp[Qx (i+1) hk.2 hr]
   | true=>
    rw[h2]at hr;simp only at hr ⊢;cases h3:(match evalOp e r.s h r.o.op with | some (u,_)=>X.same u r.v | none=>false) with
    | false=>rw[h3]at hr;cases hr
    | true=>rw[h3]at hr;rw[Qx (i+1) hk.2 hr];simp only[Bool.not_true,Bool.false_or,Bool.and_true];exact h3
 | [],_::_,_,_,_,_,_,h,_=>h.elim
 | _::_,[],_,_,_,_,_,h,_=>h.elim
def qy(e:Env)(c:XR)(anc:List (List Nat))(rs:List Rec)(ns:List Nat)(es:List Nat)(fin:Mem)(n:Nat):List Nat->Mem->Bool:=
 Nat.rec (motive:=λ _=>List Nat->Mem->Bool) (λ _ _=>false)
  (λ _ ih done h=>Bool.rec false
   (Bool.rec (Gd es λ i=>Bool.rec (Bool.rec true (match Un rs i with | some r=>Hw e c r.s h r.o.op λ u h'=>Bool.rec false (ih (i::done) h') (X.same u r.v)|none=>false) (B9 anc es done i)) true (yC i done))
    (Mem.same h fin) (Gd es λ j=>yC j done))
   (Qc e anc es done h 0 rs ns)) n
theorem KY(hc:Xc e c){anc:List (List Nat)}{rs:List Rec}{ns es:List Nat}{fin:Mem}(hn:UF e rs ns):∀ (n:Nat) (done:List Nat) (h:Mem),qy e c anc rs ns es fin n done h=true->Yz e anc rs es fin n done h=true
 | 0,done,h,hx=>by cases hx
 | n+1,done,h,hx=>by
  have hx':(Bool.rec false
   (Bool.rec (Gd es λ i=>Bool.rec (Bool.rec true (match Un rs i with | some r=>Hw e c r.s h r.o.op λ u h'=>Bool.rec false (qy e c anc rs ns es fin n (i::done) h') (X.same u r.v)|none=>false) (B9 anc es done i)) true (yC i done))
    (Mem.same h fin) (Gd es λ j=>yC j done))
   (Qc e anc es done h 0 rs ns):Bool)=true:=hx
  simp only[Yz];cases h1:Qc e anc es done h 0 rs ns with
  | false=>rw[h1]at hx';cases hx'
  | true=>
   rw[h1]at hx';rw[Qx 0 hn h1,Bool.true_and];simp only[Gs,uF,uG,XL]at hx';cases h2:(es.all λ j=>mem j done) with
   | true=>rw[h2]at hx';exact hx'
   | false=>
    rw[h2]at hx';simp only[cond_false];simp only[Zz]at hx' ⊢;intro i hi;have:=hx' i hi
    cases h3:mem i done with
    | true=>rfl
    | false=>
     rw[h3]at this;cases h4:YB anc es done i with
     | false=>rfl
     | true=>
      rw[h4]at this;simp only at this;cases h5:rs[i]? with
      | none=>rw[h5]at this;cases this
      | some r=>
       rw[h5]at this;obtain⟨u,h',h6,h7⟩:=yM hc this;simp only[h6];cases h8:X.same u r.v with
       | false=>simp only[h8]at h7;cases h7
       | true=>simp only[h8]at h7;simpa using KY hc hn n _ _ h7
def A9(e:Env)(c:XR)(l:List POper)(anc:List (List Nat))(s:Zf)(h:Mem)(k:Zf->Mem->Bool):Bool:=
 uy e c l s h λ rs ns s' h'=>uR fN (wT 0 rs ns) λ es=>bT (qy e c anc rs ns es h' (Nat.succ (Wi l)) [] h) (Bool.rec (k s' h') (fS (Qg ⟨s',h'⟩).s λ s=>fM (Qg ⟨s',h'⟩).h λ h=>k s h) (hasF h'))
theorem A8(hc:Xc e c){l:List POper}{anc:List (List Nat)}{k:Zf->Mem->Bool}(hk:A9 e c l anc s h k=true):∃ s' h',QU e l anc ⟨s,h⟩=some ⟨s',h'⟩/\k s' h'=true:=by
 obtain⟨rs,ns,s',h',h1,h2,h3⟩:=Bh hc l _ _ _ hk;rw[W9 YV,jd 0 h2,Y6]at h3;obtain⟨h4,h5⟩:=WA h3;have h6:=KY hc h2 _ _ _ h4
 refine⟨(Qg ⟨s',h'⟩).s,(Qg ⟨s',h'⟩).h,?_,?_⟩
 ·have h6':Yz e anc rs (YW e 0 rs) h' (l.length+1) [] h=true:=h6
  simp only[QU,h1,h6',cond_true]
 ·cases hf:hasF h' with
  | true=>rw[hf]at h5;simpa [Zat,wN] using h5
  | false=>rw[hf]at h5;simpa [Qg,hf] using h5
end
end
section
noncomputable section
variable {e:Env} {c:XR}
abbrev KE:=Exit->Zf->Mem->Bool
def V4(live:Option (List Nat))(L:Nat)(s:Zf)(h:Mem)(k:Zf->Mem->Bool):Bool:=
 Option.casesOn (motive:=λ _=>Bool) live (k s h) (λ l=>Jk l s λ s=>Bool.rec (Bool.rec (k s h) (fL (JF L h) λ hl=>Bool.rec (k s h) (k s hl) (yB L hl)) (GB L s)) (k s h) (Nat.ble (Wi h) L))
theorem QN(live:Option (List Nat))(L:Nat)(s:Zf)(h:Mem)(k:Zf->Mem->Bool):V4 live L s h k=k (clean live L ⟨s,h⟩).s (clean live L ⟨s,h⟩).h:=by
 cases live with
 | none=>rfl
 | some l=>
  simp only[V4,clean,Ko,UQ,Y6,zx,wx,WY];cases hb:Nat.ble h.length L with
  | true=>simp[gc,hb]
  | false=>
   cases h1:Yy L (ZK l s) with
   | false=>simp[gc,hb,h1]
   | true=>
    cases h2:ZL L (h.take L) with
    | false=>simp[gc,hb,h1,h2]
    | true=>simp[gc,hb,h1,h2]
def uI(step:Zf->Mem->KE->Bool)(cl:Zf->Mem->(Zf->Mem->Bool)->Bool)(n:Nat):Zf->Mem->KE->Bool:=
 Nat.rec (motive:=λ _=>Zf->Mem->KE->Bool) (λ _ _ _=>false) (λ _ ih s h k=>cl s h λ s h=>step s h λ x s h=>Exit.casesOn (motive:=λ _=>Bool) x (ih s h k) (λ i=>k (.exit i) s h) (k .ret s h)) n
def KB(step:Zf->Mem->KE->Bool)(f:St->Option (Exit × St)):Prop:=∀ s h k,step s h k=true->∃ x s' h',f ⟨s,h⟩=some (x,⟨s',h'⟩)/\k x s' h'=true
def zQ(it q:Nat)(s:Zf)(k:Bool):Bool:=match gS s it with | .iter q'=>bT (Nat.beq q' q) k | _=>false
theorem ql{it q:Nat}{s:Zf}{h:Mem}{k:Bool}(hk:zQ it q s k=true):UG it q ⟨s,h⟩=some ⟨s,h⟩/\k=true:=by
 unfold zQ at hk;rw[z3]at hk;unfold UG;split at hk
 ·rename_i q' hq;obtain⟨h1,h2⟩:=WA hk;simp only[hq,h1,cond_true];exact⟨trivial,h2⟩
 ·cases hk
def qa(e:Env)(c:XR)(live:List Nat)(L it q nx cc en j:Nat)(rops:List POper)(ex:Zf->Mem->KE->Bool)(ks vs:List CV)(i:Nat)(s:Zf)(h:Mem)(k:Zf->Mem->Bool):Bool:=
 Option.casesOn (motive:=λ _=>Bool) (Un ks i) false λ kc=>Option.casesOn (motive:=λ _=>Bool) (Un vs i) false λ vc=>
  Bm e c rops ((en,.c (.tup [kc,vc]))::(cc,.c (.bool true))::(nx,.c (.tup [.bool true,kc,vc]))::s) h λ s1 h1=>
   ex s1 h1 λ x s2 h2=>Exit.casesOn (motive:=λ _=>Bool) x (V4 (some live) L s2 h2 λ s3 h3=>zQ it q s3 (k s3 h3)) (λ n=>bT (Nat.beq n j) (V4 (some live) L s2 h2 λ s3 h3=>zQ it q s3 (k s3 h3))) false
theorem gW(hc:Xc e c){live:List Nat}{L it q nx cc en j:Nat}{rops:List POper}{exK:Zf->Mem->KE->Bool}{ex:St->Option (Exit × St)}(hex:KB exK ex){ks vs:List CV}{i:Nat}{s:Zf}{h:Mem}{k:Zf->Mem->Bool}
  (hk:qa e c live L it q nx cc en j rops exK ks vs i s h k=true):∃ s' h',Vf e live L it q nx cc en j rops ex ks vs i ⟨s,h⟩=some ⟨s',h'⟩/\k s' h'=true:=by
 unfold qa at hk;simp only[XL]at hk;unfold Vf;cases h1:ks[i]? with
 | none=>rw[h1]at hk;cases hk
 | some kc=>
  cases h2:vs[i]? with
  | none=>rw[h1,h2]at hk;cases hk
  | some vc=>
   rw[h1,h2]at hk;obtain⟨s1,m1,h3,h4⟩:=uB hc _ _ _ _ hk;obtain⟨x,s2,m2,h5,h6⟩:=hex _ _ _ h4;simp only[h3,h5];cases x with
   | normal=>
    rw[QN]at h6;obtain⟨h7,h8⟩:=ql h6;exact⟨_,_,h7,h8⟩
   | exit n=>
    obtain⟨h9,h10⟩:=WA h6;rw[QN]at h10;obtain⟨h7,h8⟩:=ql h10;simp only[h9,cond_true];exact⟨_,_,h7,h8⟩
   | ret=>cases h6
section
variable (stepK:Nat->Zf->Mem->(Zf->Mem->Bool)->Bool) (step:Nat->St->Option St)
def Kc:Prop:=∀ i s h k,stepK i s h k=true->∃ s' h',step i ⟨s,h⟩=some ⟨s',h'⟩/\k s' h'=true
def GI(s s':Zf)(h h':Mem):Bool:=bT (X9 s' s) (Mem.same h' h)
def wC(s:Zf)(h:Mem)(i:Nat):Bool:=stepK i s h λ s' h'=>GI s s' h h'
def zE(s:Zf)(h:Mem)(l:List Nat)(k:List Nat->List Nat->Bool):Bool:=
 List.rec (motive:=λ _=>(List Nat->List Nat->Bool)->Bool) (λ k=>k [] []) (λ i _ ih k=>Bool.rec (bT (stepK i s h λ s' h'=>not (GI s s' h h')) (ih λ a b=>k (i::a) b)) (ih λ a b=>k a (i::b)) (wC stepK s h i)) l k
def vh(l:List Nat):Zf->Mem->(Zf->Mem->Bool)->Bool:=
 List.rec (motive:=λ _=>Zf->Mem->(Zf->Mem->Bool)->Bool) (λ s h k=>k s h) (λ i _ ih s h k=>stepK i s h λ s h=>ih s h k) l
def vg(sf:Zf)(hf:Mem)(n:Nat):List Nat->List Nat->Zf->Mem->Bool:=
 Nat.rec (motive:=λ _=>List Nat->List Nat->Zf->Mem->Bool) (λ _ _ _ _=>false)
  (λ _ ih must may s h=>bT (Gd may (wC stepK s h)) (zE stepK s h must λ act idl=>
   List.casesOn (motive:=λ _=>Bool) act (GI sf s hf h) (λ a r=>Gd (a::r) λ i=>stepK i s h λ s' h'=>fL (X8 i (a::r)) λ d=>ih d (appF idl may) s' h'))) n
variable {stepK step}
theorem GH(s s':Zf)(h h':Mem):GI s s' h h'=St.same ⟨s',h'⟩ ⟨s,h⟩:=by
 unfold GI bT St.same;cases X9 s' s<;>rfl
theorem zW(ho:Kc stepK step){s:Zf}{h:Mem}{i:Nat}(hk:wC stepK s h i=true):XU step ⟨s,h⟩ i=true:=by
 obtain⟨s',h',h1,h2⟩:=ho _ _ _ _ hk;rw[GH]at h2;simp only[XU,h1,h2]
theorem GY(ho:Kc stepK step){s:Zf}{h:Mem}:∀ {l:List Nat} {k:List Nat->List Nat->Bool},zE stepK s h l k=true->k (l.filter λ i=>!(XU step ⟨s,h⟩ i)) (l.filter (XU step ⟨s,h⟩))=true
 | [],k,hk=>hk
 | i::l,k,hk=>by
  have hk':(Bool.rec (bT (stepK i s h λ s' h'=>not (GI s s' h h')) (zE stepK s h l λ a b=>k (i::a) b)) (zE stepK s h l λ a b=>k a (i::b)) (wC stepK s h i):Bool)=true:=hk
  cases hi:wC stepK s h i with
  | true=>
   rw[hi]at hk';have:=GY ho hk'
   have h1:=zW ho hi
   simp only[List.filter_cons,h1,Bool.not_true,Bool.false_eq_true,if_false,if_true];exact this
  | false=>
   rw[hi]at hk';obtain⟨h1,h2⟩:=WA hk';obtain⟨s',h',h3,h4⟩:=ho _ _ _ _ h1;rw[GH]at h4;have h5:XU step ⟨s,h⟩ i=false:=by simp only[XU,h3];simpa using h4
   have:=GY ho h2
   simp only[List.filter_cons,h5,Bool.not_false,Bool.false_eq_true,if_false,if_true];exact this
theorem ww(ho:Kc stepK step):∀ {l:List Nat} {s:Zf} {h:Mem} {k:Zf->Mem->Bool},vh stepK l s h k=true->∃ s' h',KN step l ⟨s,h⟩=some ⟨s',h'⟩/\k s' h'=true
 | [],s,h,k,hk=>⟨s,h,rfl,hk⟩
 | i::l,s,h,k,hk=>by
  obtain⟨s1,m1,h1,h2⟩:=ho _ _ _ _ (show stepK i s h (λ s h=>vh stepK l s h k)=true from hk)
  obtain⟨s2,m2,h3,h4⟩:=ww ho h2;exact⟨s2,m2,by simp only[KN,h1];exact h3,h4⟩
theorem wu(ho:Kc stepK step){sf:Zf}{hf:Mem}:∀ {n:Nat} {must may:List Nat} {s:Zf} {h:Mem},vg stepK sf hf n must may s h=true->Vg step ⟨sf,hf⟩ n must may ⟨s,h⟩=true
 | 0,must,may,s,h,hk=>by cases hk
 | n+1,must,may,s,h,hk=>by
  have hk':bT (Gd may (wC stepK s h)) (zE stepK s h must λ act idl=>
   List.casesOn (motive:=λ _=>Bool) act (GI sf s hf h) (λ a r=>Gd (a::r) λ i=>stepK i s h λ s' h'=>fL (X8 i (a::r)) λ d=>vg stepK sf hf n d (appF idl may) s' h'))=true:=hk
  obtain⟨h1,h2⟩:=WA hk';have h3:=GY ho h2
  rw[Gs]at h1;simp only[Vg,Bool.and_eq_true];refine⟨Zz.2 λ i hi=>zW ho (Zz.1 h1 i hi),?_⟩
  generalize hact:must.filter (λ i=>!(XU step ⟨s,h⟩ i))=act at h3
  cases act with
  | nil=>rw[GH]at h3;exact h3
  | cons a r=>
   simp only[Gs]at h3;refine Zz.2 λ i hi=>?_
   have h4:=Zz.1 h3 i hi
   obtain⟨s',h',h5,h6⟩:=ho _ _ _ _ h4;rw[UQ,VU]at h6;simp only[h5];exact wu ho h6
end
def Pk(n:Nat):List Nat:=Nat.rec (motive:=λ _=>List Nat->List Nat) (λ l=>l) (λ m ih l=>ih (m::l)) n []
theorem Ew(n:Nat):Pk n=List.range n:=by
 have:∀ (n:Nat) (l:List Nat),(Nat.rec (motive:=λ _=>List Nat->List Nat) (λ l=>l) (λ m ih l=>ih (m::l)) n l:List Nat)=List.range n++l:=by
  intro n
  induction n with
  | zero=>intro l;rfl
  | succ n ih=>intro l;rw[List.range_succ];simpa using ih (n::l)
 exact(this n []).trans (by simp)
def B6(e:Env)(c:XR)(live:List Nat)(it nx cc en id j:Nat)(rops:List POper)(ex:Zf->Mem->KE->Bool)(s:Zf)(h:Mem)(k:KE):Bool:=
 Bool.casesOn (motive:=λ _=>Bool) (Nat.beq it cc||Nat.beq it nx) (match gS s it with
 | .iter q=>match Un h q with
  | some (.miter ks vs 0)=>fN (Wi h) λ L=>uR fN (Pk (Wi ks)) λ rng=>fL (Es h q .dead) λ h1=>
   V4 (some live) L s h1 λ s0 h0=>zQ it q s0
    (vh (qa e c live L it q nx cc en j rops ex ks vs) rng s0 h0 λ sf hf=>
     bT (vg (qa e c live L it q nx cc en j rops ex ks vs) sf hf (Nat.succ (Wi ks)) rng [] s0 h0) (k (.exit id) ((cc,.c (.bool false))::(nx,.c (.tup [.bool false]))::sf) hf))
  | _=>false
 | _=>false) false
theorem B0(hc:Xc e c)(live:List Nat)(it nx cc en id j:Nat)(rops:List POper){exK:Zf->Mem->KE->Bool}{ex:St->Option (Exit × St)}(hex:KB exK ex):KB (B6 e c live it nx cc en id j rops exK) (vf e live it nx cc en id j rops ex):=by
 intro s h k hk;unfold B6 at hk;unfold vf;cases hci:(Nat.beq it cc||Nat.beq it nx) with
 | true=>rw[hci]at hk;cases hk
 | false=>
  rw[hci]at hk;simp only[cond_false];simp only[z3,XL,YV,Y6,W9 YV,Ew,UQ,uu]at hk;split at hk
  ·rename_i q hq;split at hk
   ·rename_i ks vs ho;rw[QN]at hk;obtain⟨h1,h2⟩:=ql (h:=(clean (some live) h.length ⟨s,h.set q .dead⟩).h) hk;have hm:Kc (qa e c live h.length it q nx cc en j rops exK ks vs) (Vf e live h.length it q nx cc en j rops ex ks vs):=λ i s h k hk=>gW hc hex hk
    obtain⟨sf,hf,h3,h4⟩:=ww hm h2;obtain⟨h5,h6⟩:=WA h4;have h7:=wu hm h5
    refine⟨_,_,_,?_,h6⟩;have h1':UG it q (clean (some live) h.length ⟨s,h.set q .dead⟩)=some (clean (some live) h.length ⟨s,h.set q .dead⟩):=h1
    have h3':KN (Vf e live h.length it q nx cc en j rops ex ks vs) (List.range ks.length) (clean (some live) h.length ⟨s,h.set q .dead⟩)=some ⟨sf,hf⟩:=h3
    have h7':Vg (Vf e live h.length it q nx cc en j rops ex ks vs) ⟨sf,hf⟩ (ks.length+1) (List.range ks.length) [] (clean (some live) h.length ⟨s,h.set q .dead⟩)=true:=h7
    simp only[hq,ho,h1',h3',h7',cond_true]
   ·cases hk
  ·cases hk
def wQ(e:Env)(c:XR)(N:Nat)(b:PCode):Zf->Mem->KE->Bool:=
 PCode.rec (motive:=λ _=>Zf->Mem->KE->Bool)
  (λ s h k=>k .normal s h)
  (λ l s h k=>Bm e c l s h λ s h=>k .normal s h)
  (λ l anc s h k=>A9 e c l anc s h λ s h=>k .normal s h)
  (λ _ _ iha ihb s h k=>iha s h λ x s h=>Exit.casesOn (motive:=λ _=>Bool) x (ihb s h k) (λ i=>k (.exit i) s h) (k .ret s h))
  (λ r _ _ iha ihb s h k=>match eR e s r with
   | .c (.bool t)=>Bool.casesOn (motive:=λ _=>Bool) t (ihb s h k) (iha s h k)
   | _=>false)
  (λ id _ ih s h k=>ih s h λ x s h=>Exit.casesOn (motive:=λ _=>Bool) x (k .normal s h) (λ i=>Bool.casesOn (motive:=λ _=>Bool) (Nat.beq i id) (k (.exit i) s h) (k .normal s h)) (k .ret s h))
  (λ live _ ih s h k=>fN (Wi h) λ L=>uI ih (λ s h k=>V4 live L s h k) N s h k)
  (λ id s h k=>k (.exit id) s h)
  (λ s h k=>k .ret s h)
  (λ l _ ih s h k=>Jk l s λ s=>ih s h k)
  (λ l s h k=>uA e c l s h λ s h=>k .normal s h)
  (λ live it nx cc en id j l _ ih s h k=>B6 e c live it nx cc en id j l ih s h k) b
theorem zK{step:Zf->Mem->KE->Bool}{f:St->Option (Exit × St)}(hs:KB step f)(live:Option (List Nat))(L:Nat):∀ n,KB (uI step (λ s h k=>V4 live L s h k) n) (W3 f (clean live L) n)
 | 0=>λ s h k hk=>by cases hk
 | n+1=>λ s h k hk=>by
  have hk':(V4 live L s h λ s h=>step s h λ x s h=>Exit.casesOn (motive:=λ _=>Bool) x (uI step (λ s h k=>V4 live L s h k) n s h k) (λ i=>k (.exit i) s h) (k .ret s h))=true:=hk
  rw[QN]at hk';obtain⟨x,s',h',h1,h2⟩:=hs _ _ _ hk';simp only[W3];have h1':f (clean live L ⟨s,h⟩)=some (x,⟨s',h'⟩):=h1
  rw[h1'];cases x with
  | normal=>exact zK hs live L n _ _ _ h2
  | exit i=>exact⟨_,_,_,rfl,h2⟩
  | ret=>exact⟨_,_,_,rfl,h2⟩
theorem Ww(hc:Xc e c)(N:Nat):∀ b:PCode,KB (wQ e c N b) (Yn e N b)
 | .skip=>λ s h k hk=>⟨_,_,_,rfl,hk⟩
 | .ops l=>λ s h k hk=>by
  obtain⟨s',h',h1,h2⟩:=uB hc l s h _ hk;exact⟨.normal,s',h',by simp only[Yn,h1],h2⟩
 | .dops l anc=>λ s h k hk=>by
  have hk':(A9 e c l anc s h λ s h=>k .normal s h)=true:=hk
  obtain⟨s',h',h1,h2⟩:=A8 hc hk';exact⟨.normal,s',h',by simp only[Yn,h1],h2⟩
 | .seq a b=>λ s h k hk=>by
  obtain⟨x,s',h',h1,h2⟩:=Ww hc N a s h _ hk;simp only[Yn,h1];cases x with
  | normal=>exact Ww hc N b _ _ _ h2
  | exit i=>exact⟨_,_,_,rfl,h2⟩
  | ret=>exact⟨_,_,_,rfl,h2⟩
 | .cond r a b=>λ s h k hk=>by
  have hk':(match eR e s r with
   | .c (.bool t)=>Bool.casesOn (motive:=λ _=>Bool) t (wQ e c N b s h k) (wQ e c N a s h k)
   | _=>false)=true:=hk
  simp only[XV]at hk';simp only[Yn];split at hk'
  ·rename_i t hx;rw[hx];cases t with
   | true=>exact Ww hc N a _ _ _ hk'
   | false=>exact Ww hc N b _ _ _ hk'
  ·cases hk'
 | .block id b=>λ s h k hk=>by
  obtain⟨x,s',h',h1,h2⟩:=Ww hc N b s h _ hk;simp only[Yn,h1];cases x with
  | normal=>exact⟨_,_,_,rfl,h2⟩
  | exit i=>
   cases hb:Nat.beq i id with
   | true=>simp only[hb]at h2;exact⟨_,_,_,by simp only[hb,cond_true],h2⟩
   | false=>simp only[hb]at h2;exact⟨_,_,_,by simp only[hb,cond_false],h2⟩
  | ret=>exact⟨_,_,_,rfl,h2⟩
 | .loop live b=>λ s h k hk=>by
  have hk':(fN (Wi h) λ L=>uI (wQ e c N b) (λ s h k=>V4 live L s h k) N s h k)=true:=hk
  rw[YV,Y6]at hk';exact zK (Ww hc N b) live h.length N s h k hk'
 | .exit id=>λ s h k hk=>⟨_,_,_,rfl,hk⟩
 | .ret=>λ s h k hk=>⟨_,_,_,rfl,hk⟩
 | .live l b=>λ s h k hk=>by
  have hk':(Jk l s λ s=>wQ e c N b s h k)=true:=hk
  rw[Ko]at hk';exact Ww hc N b _ _ _ hk'
 | .raw l=>λ s h k hk=>by
  obtain⟨s',h',h1,h2⟩:=Bl hc l s h _ hk;exact⟨.normal,s',h',by simp only[Yn,h1],h2⟩
 | .mloop live it nx cc en id j l b=>λ s h k hk=>B0 hc live it nx cc en id j l (Ww hc N b) s h k hk
def ZbL(l:List X):Nat->Zf:=List.rec (motive:=λ _=>Nat->Zf) (λ _=>[]) (λ x _ ih i=>(i,x)::ih (Nat.succ i)) l
theorem FW(l:List X)(i:Nat):ZbL l i=Xb i l:=by
 induction l generalizing i with
 | nil=>rfl
 | cons x l ih=>exact congrArg ((i,x)::·) (ih (i+1))
def u6(e:Env)(c:XR)(N:Nat)(fn:PFn)(args:List X)(h:Mem)(k:X->Mem->Bool):Bool:=
 bT (Nat.beq (Wi args) fn.np) (uR (λ p k=>Prod.casesOn (motive:=λ _=>Bool) p λ i x=>fN i λ i=>k (i,x)) (ZbL args 0) λ s=>fN (Wi h) λ m=>wQ e c N fn.body s h λ x s h=>Exit.casesOn (motive:=λ _=>Bool) x (CE fn m s h k) (λ _=>false) (CE fn m s h k))
theorem ju(hc:Xc e c){N:Nat}{fn:PFn}{args:List X}{h:Mem}{k:X->Mem->Bool}(hk:u6 e c N fn args h k=true):∃ z h',Z5 e N fn args h=some (z,h')/\k z h'=true:=by
 obtain⟨h1,h2⟩:=WA hk;rw[Y6]at h1;rw[W9 (λ p k=>by obtain⟨i,x⟩:=p;exact YV i _),FW,YV,Y6]at h2
 obtain⟨x,s',h',h3,h4⟩:=Ww hc N fn.body _ _ _ h2;simp only[Z5,h1,cond_true,h3];have fin:∀ {s' h'},CE fn h.length s' h' k=true->∃ z h'',ZD fn h.length ⟨s',h'⟩=some (z,h'')/\k z h''=true:=λ hf=>E3 hf
 cases x with
 | normal=>exact fin h4
 | exit i=>cases h4
 | ret=>exact fin h4
def KQ(t:List Ent)(f:Nat)(args:List X)(h:Mem):Option (X × Mem):=
 List.rec (motive:=λ _=>Option (X × Mem)) none (λ t _ ih=>Bool.casesOn (motive:=λ _=>Option (X × Mem)) (Nat.beq t.f f) ih (Bool.casesOn (motive:=λ _=>Option (X × Mem)) (X.sameL t.args args) ih (Bool.casesOn (motive:=λ _=>Option (X × Mem)) (Mem.same t.h h) ih (some (t.z,t.h'))))) t
theorem zL(t:List Ent)(f:Nat)(args:List X)(h:Mem):KQ t f args h=UO t f args h:=by
 induction t with
 | nil=>rfl
 | cons t l ih=>
  show(Bool.casesOn (motive:=λ _=>Option (X × Mem)) (Nat.beq t.f f) (KQ l f args h) (Bool.casesOn (motive:=λ _=>Option (X × Mem)) (X.sameL t.args args) (KQ l f args h) (Bool.casesOn (motive:=λ _=>Option (X × Mem)) (Mem.same t.h h) (KQ l f args h) (some (t.z,t.h')))))=_
  rw[ih];simp only[UO];cases Nat.beq t.f f<;>cases X.sameL t.args args<;>cases Mem.same t.h h<;>rfl
def yd(p:Prg)(t:List Ent)(N:Nat):Nat->Nat->List X->Mem->Option (X × Mem)
 | 0,f,args,h=>UO t f args h
 | n+1,f,args,h=>match UO t f args h with
  | some r=>some r
  | none=>match p.fn f with
   | some (.body fn)=>Z5 ⟨yd p t N n,p.glob,p.lies⟩ N fn args h
   | some (.prim g)=>g args h
   | none=>none
def Ft(p:Prg)(t:List Ent)(N n:Nat):Env:=⟨yd p t N n,p.glob,p.lies⟩
def vL(p:Prg)(t:List Ent)(N:Nat)(n:Nat):XR:=
 Nat.rec (motive:=λ _=>XR) (λ f args h k=>Option.casesOn (motive:=λ _=>Bool) (KQ t f args h) false (λ p=>Prod.casesOn (motive:=λ _=>Bool) p λ z h=>k z h))
  (λ n ih f args h k=>Option.casesOn (motive:=λ _=>Bool) (KQ t f args h)
   (match p.fn f with
   | some (.body fn)=>u6 (Ft p t N n) ih N fn args h k
   | some (.prim g)=>Option.casesOn (motive:=λ _=>Bool) (g args h) false (λ p=>Prod.casesOn (motive:=λ _=>Bool) p λ z h=>fX z λ z=>fM h λ h=>k z h)
   | none=>false)
   (λ p=>Prod.casesOn (motive:=λ _=>Bool) p λ z h=>k z h)) n
theorem yc(p:Prg)(t:List Ent)(N:Nat):∀ n,Xc (Ft p t N n) (vL p t N n)
 | 0=>λ f args h k hk=>by
  have hk':(Option.casesOn (motive:=λ _=>Bool) (KQ t f args h) false (λ p=>Prod.casesOn (motive:=λ _=>Bool) p λ z h=>k z h))=true:=hk
  rw[zL]at hk';show ∃ r h',UO t f args h=some (r,h')/\_;cases hl:UO t f args h with
  | none=>rw[hl]at hk';cases hk'
  | some q=>obtain⟨z,h'⟩:=q;rw[hl]at hk';exact⟨z,h',rfl,hk'⟩
 | n+1=>λ f args h k hk=>by
  have hk':(Option.casesOn (motive:=λ _=>Bool) (KQ t f args h)
   (match p.fn f with
   | some (.body fn)=>u6 (Ft p t N n) (vL p t N n) N fn args h k
   | some (.prim g)=>Option.casesOn (motive:=λ _=>Bool) (g args h) false (λ p=>Prod.casesOn (motive:=λ _=>Bool) p λ z h=>fX z λ z=>fM h λ h=>k z h)
   | none=>false)
   (λ p=>Prod.casesOn (motive:=λ _=>Bool) p λ z h=>k z h))=true:=hk
  rw[zL]at hk';show ∃ r h',yd p t N (n+1) f args h=some (r,h')/\_;simp only[yd];cases hl:UO t f args h with
  | some q=>obtain⟨z,h'⟩:=q;rw[hl]at hk';exact⟨z,h',rfl,hk'⟩
  | none=>
   rw[hl]at hk';simp only at hk' ⊢;split at hk'
   ·rename_i fn hf;exact ju (yc p t N n) hk'
   ·rename_i g hf;cases hg:g args h with
    | none=>rw[hg]at hk';cases hk'
    | some q=>obtain⟨z,h'⟩:=q;rw[hg]at hk';simp only[JY,wN]at hk';exact⟨z,h',rfl,hk'⟩
   ·cases hk'
end
end
end Go.Pi
namespace Go.Pi.S
def a(d:Nat)(p:POp):POper:=⟨some d,p,none⟩
def g(d:Nat)(p:POp)(i:Nat)(b:Bool):POper:=⟨some d,p,some (i,b)⟩
def n(p:POp):POper:=⟨none,p,none⟩
def m(d i:Nat):POper:=⟨some d,.mov (.t i),none⟩
def l(d i:Nat):POper:=⟨some d,.load false 1 (.t i),none⟩
def q(d k i:Nat):POper:=⟨some d,.fldA k (.t i),none⟩
def I(n:Nat):CV:=.int .i64 (.ofNat n)
def T(i:Nat):Rand:=.t i
@[simp]def ZkD(d:Nat)(v:CV):POper:=⟨some d,.mov (.k v),none⟩
@[simp]def ZkE(d f:Nat)(l:List Rand):POper:=⟨some d,.call f l,none⟩
@[simp]def ZkF(d n i:Nat):POper:=⟨some d,.load true n (.t i),none⟩
@[simp]def ZkG:Rand:=.k (.bool true)
@[simp]def ZkH:Rand:=.k (.bool false)
@[simp]def ZkI(n:Nat):Rand:=.k (I n)
@[simp]def ZkJ:CV:=.bool true
@[simp]def ZkK:CV:=.bool false
@[simp]def ZkL:CV:=.sl true []
@[simp]def ZkM:CV:=.sl false []
@[simp]def ZkN(l:List POper)(r:PCode):PCode:=.seq (.ops l) r
@[simp]def T0:=T 0
@[simp]def T1:=T 1
@[simp]def T2:=T 2
@[simp]def T3:=T 3
@[simp]def T4:=T 4
@[simp]def T5:=T 5
@[simp]def T6:=T 6
@[simp]def T7:=T 7
@[simp]def T8:=T 8
@[simp]def T9:=T 9
@[simp]def T10:=T 10
@[simp]def T11:=T 11
@[simp]def T12:=T 12
@[simp]def T13:=T 13
@[simp]def T14:=T 14
@[simp]def T15:=T 15
@[simp]def T16:=T 16
@[simp]def T17:=T 17
@[simp]def T18:=T 18
@[simp]def T19:=T 19
@[simp]def T20:=T 20
@[simp]def T21:=T 21
@[simp]def T22:=T 22
@[simp]def T23:=T 23
@[simp]def T24:=T 24
@[simp]def T25:=T 25
@[simp]def T26:=T 26
@[simp]def T27:=T 27
@[simp]def T28:=T 28
@[simp]def T29:=T 29
@[simp]def T30:=T 30
@[simp]def T31:=T 31
@[simp]def T32:=T 32
@[simp]def T33:=T 33
@[simp]def T34:=T 34
@[simp]def T35:=T 35
@[simp]def T36:=T 36
@[simp]def T37:=T 37
@[simp]def T38:=T 38
@[simp]def T39:=T 39
@[simp]def T40:=T 40
@[simp]def T41:=T 41
@[simp]def T42:=T 42
@[simp]def T43:=T 43
@[simp]def T44:=T 44
@[simp]def T45:=T 45
@[simp]def T46:=T 46
@[simp]def T47:=T 47
@[simp]def T48:=T 48
@[simp]def T49:=T 49
@[simp]def T50:=T 50
@[simp]def T51:=T 51
@[simp]def T52:=T 52
@[simp]def T53:=T 53
@[simp]def T54:=T 54
@[simp]def T55:=T 55
@[simp]def T56:=T 56
@[simp]def T57:=T 57
@[simp]def T58:=T 58
@[simp]def T59:=T 59
@[simp]def T60:=T 60
@[simp]def T61:=T 61
@[simp]def T62:=T 62
@[simp]def T63:=T 63
@[simp]def T64:=T 64
@[simp]def T65:=T 65
@[simp]def T66:=T 66
@[simp]def T67:=T 67
@[simp]def T68:=T 68
@[simp]def T69:=T 69
@[simp]def T70:=T 70
@[simp]def T71:=T 71
@[simp]def T72:=T 72
@[simp]def T73:=T 73
@[simp]def T74:=T 74
@[simp]def T75:=T 75
@[simp]def T76:=T 76
@[simp]def T77:=T 77
@[simp]def T78:=T 78
@[simp]def T79:=T 79
@[simp]def T80:=T 80
@[simp]def T81:=T 81
@[simp]def T82:=T 82
@[simp]def T83:=T 83
@[simp]def T84:=T 84
@[simp]def T85:=T 85
@[simp]def T86:=T 86
@[simp]def T87:=T 87
@[simp]def T88:=T 88
@[simp]def T89:=T 89
@[simp]def T90:=T 90
@[simp]def T91:=T 91
@[simp]def T92:=T 92
@[simp]def T93:=T 93
@[simp]def T94:=T 94
@[simp]def T95:=T 95
@[simp]def T96:=T 96
@[simp]def T97:=T 97
@[simp]def T98:=T 98
@[simp]def T99:=T 99
@[simp]def T100:=T 100
@[simp]def T101:=T 101
@[simp]def T102:=T 102
@[simp]def T103:=T 103
@[simp]def T104:=T 104
@[simp]def T105:=T 105
@[simp]def T106:=T 106
@[simp]def T107:=T 107
@[simp]def T108:=T 108
@[simp]def T109:=T 109
@[simp]def T110:=T 110
@[simp]def T111:=T 111
@[simp]def T112:=T 112
@[simp]def T113:=T 113
@[simp]def T114:=T 114
@[simp]def T115:=T 115
@[simp]def T116:=T 116
@[simp]def T117:=T 117
@[simp]def T118:=T 118
@[simp]def T119:=T 119
@[simp]def T120:=T 120
@[simp]def T121:=T 121
@[simp]def T122:=T 122
@[simp]def T123:=T 123
@[simp]def T124:=T 124
@[simp]def T125:=T 125
@[simp]def T126:=T 126
@[simp]def T127:=T 127
@[simp]def T128:=T 128
@[simp]def T129:=T 129
@[simp]def T130:=T 130
@[simp]def T131:=T 131
@[simp]def T132:=T 132
@[simp]def T133:=T 133
@[simp]def T134:=T 134
@[simp]def T135:=T 135
@[simp]def T136:=T 136
@[simp]def T137:=T 137
@[simp]def T138:=T 138
@[simp]def T139:=T 139
@[simp]def T140:=T 140
@[simp]def T141:=T 141
@[simp]def T142:=T 142
@[simp]def T143:=T 143
@[simp]def T144:=T 144
@[simp]def T145:=T 145
@[simp]def T146:=T 146
@[simp]def T147:=T 147
@[simp]def T148:=T 148
@[simp]def T149:=T 149
@[simp]def T150:=T 150
@[simp]def T151:=T 151
@[simp]def T152:=T 152
@[simp]def T153:=T 153
@[simp]def T154:=T 154
@[simp]def T155:=T 155
@[simp]def T156:=T 156
@[simp]def T157:=T 157
@[simp]def T158:=T 158
@[simp]def T160:=T 160
@[simp]def T161:=T 161
@[simp]def T162:=T 162
@[simp]def T163:=T 163
@[simp]def T164:=T 164
@[simp]def T165:=T 165
@[simp]def T166:=T 166
@[simp]def I0:=I 0
end Go.Pi.S
namespace Go.Pi
section
section
variable {P:Program}
def HM(P:Program)(p:Prg)(f:Nat):Fun->Prop
 | .body fn=>FnOk P f fn
 | .prim g=>JC P p f g
def RowOk(P:Program)(p:Prg):Nat->List (Option Fun)->Prop
 | _,[]=>True
 | i,none::r=>RowOk P p (i+1) r
 | i,some (.body fn)::r=>FnOk P i fn/\RowOk P p (i+1) r
 | i,some (.prim g)::r=>JC P p i g/\RowOk P p (i+1) r
def RowsOk(P:Program)(p:Prg):Nat->List (List (Option Fun))->Prop
 | _,[]=>True
 | i,row::r=>RowOk P p i row/\RowsOk P p (i+16) r
theorem RowOk.at{p:Prg}:∀ {l:List (Option Fun)} {i k:Nat} {x:Fun},RowOk P p i l->l[k]?=some (some x)->HM P p (i+k) x
 | [],i,k,x,h,hx=>by simp at hx
 | none::r,i,0,x,h,hx=>by simp at hx
 | none::r,i,k+1,x,h,hx=>by
  have:=RowOk.at (i:=i+1) (k:=k) (x:=x) (by simpa only[RowOk] using h) (by simpa using hx)
  rw[show i+1+k=i+(k+1) by omega]at this;exact this
 | some (.body fn)::r,i,0,x,h,hx=>by
  simp at hx;subst hx;exact h.1
 | some (.prim g)::r,i,0,x,h,hx=>by
  simp at hx;subst hx;exact h.1
 | some (.body fn)::r,i,k+1,x,h,hx=>by
  have:=RowOk.at (i:=i+1) (k:=k) (x:=x) h.2 (by simpa using hx)
  rw[show i+1+k=i+(k+1) by omega]at this;exact this
 | some (.prim g)::r,i,k+1,x,h,hx=>by
  have:=RowOk.at (i:=i+1) (k:=k) (x:=x) h.2 (by simpa using hx)
  rw[show i+1+k=i+(k+1) by omega]at this;exact this
theorem RowsOk.at{p:Prg}:∀ {t:List (List (Option Fun))} {i k:Nat} {row:List (Option Fun)},RowsOk P p i t->t[k]?=some row->RowOk P p (i+16*k) row
 | [],i,k,row,h,hx=>by simp at hx
 | r::t,i,0,row,h,hx=>by simp at hx;subst hx;exact h.1
 | r::t,i,k+1,row,h,hx=>by
  have:=RowsOk.at (i:=i+16) (k:=k) (row:=row) h.2 (by simpa using hx)
  rw[show i+16+16*k=i+16*(k+1) by omega]at this;exact this
noncomputable def fnT(t:List (List (Option Fun)))(i:Nat):Option Fun:=match Un t (Nat.div i 16) with
 | some l=>match Un l (Nat.mod i 16) with
  | some x=>x
  | none=>none
 | none=>none
theorem Cy{p:Prg}{t:List (List (Option Fun))}(h:RowsOk P p 0 t){f:Nat}{x:Fun}(hx:fnT t f=some x):HM P p f x:=by
 unfold fnT at hx;simp only[XL]at hx;split at hx
 ·rename_i l hl;split at hx
  ·rename_i y hy;subst hx;have:=(h.at hl).at hy
   have e:0+16*Nat.div f 16+Nat.mod f 16=f:=by
    have h1:Nat.div f 16=f / 16:=rfl
    have h2:Nat.mod f 16=f % 16:=rfl
    rw[h1,h2];omega
   rw[e]at this;exact this
  ·cases hx
 ·cases hx
noncomputable def KR(l:List (Nat × Nat × Nat × Nat))(t n off u:Nat):Bool:=List.rec (motive:=λ _=>Bool) false (λ q _ ih=>Bool.rec ih (Bool.rec ih (Bool.rec ih (Bool.rec ih true (Nat.beq q.2.2.2 u)) (Nat.beq q.2.2.1 off)) (Nat.beq q.2.1 n)) (Nat.beq q.1 t)) l
theorem zM:∀ {l:List (Nat × Nat × Nat × Nat)} {t n off u:Nat},KR l t n off u=true->(t,n,off,u)∈l
 | [],t,n,off,u,h=>by cases h
 | q::r,t,n,off,u,h=>by
  obtain⟨a,b,c,d⟩:=q;have h':(Bool.rec (KR r t n off u) (Bool.rec (KR r t n off u) (Bool.rec (KR r t n off u) (Bool.rec (KR r t n off u) true (Nat.beq d u)) (Nat.beq c off)) (Nat.beq b n)) (Nat.beq a t):Bool)=true:=h
  by_cases hr:KR r t n off u=true
  ·exact Zq _ (zM hr)
  ·simp only[Bool.not_eq_true]at hr;rw[hr]at h';cases h1:Nat.beq a t with
   | false=>rw[h1]at h';cases h'
   | true=>
    cases h2:Nat.beq b n with
    | false=>rw[h1,h2]at h';cases h'
    | true=>
     cases h3:Nat.beq c off with
     | false=>rw[h1,h2,h3]at h';cases h'
     | true=>
      cases h4:Nat.beq d u with
      | false=>rw[h1,h2,h3,h4]at h';cases h'
      | true=>
       rw[Zd h1,Zd h2,Zd h3,Zd h4];exact Zv
theorem PrgOk.of{p:Prg}{t:List (List (Option Fun))}(hf:p.fn=fnT t)(ht:RowsOk P p 0 t){l:List (Nat × Nat × Nat × Nat)}(hl:p.lies=KR l)(hlo:∀ q∈l,liesAt P P.depth q.1 (q.2.1 / P.cellsOf q.1) q.2.2.1 q.2.2.2 1=true):PrgOk P p:=
 ⟨λ f fn h=>by rw[hf]at h;exact Cy ht h,λ f g h=>by rw[hf]at h;exact Cy ht h,λ t n off u h=>by rw[hl]at h;exact hlo _ (zM h)⟩
noncomputable def JS(p:Prg)(zt:List Ent)(t:Ent):Bool:=match p.fn t.f with
 | some (.body fn)=>u6 (Ft p zt 100000 100) (vL p zt 100000 100) 100000 fn t.args t.h (λ r m=>bT (X.same r t.z) (Mem.same m t.h'))
 | _=>false
abbrev Call:=Nat->List X->Mem->Option (X × Mem)
end
end
section
section
variable {S S':Call} {g:Nat->Option (List CV)} {l:Nat->Nat->Nat->Nat->Bool}
def Call.le(S S':Call):Prop:=∀ f a h r,S f a h=some r->S' f a h=some r
theorem Vz(S S':Call)(g:Nat->Option (List CV))(l:Nat->Nat->Nat->Nat->Bool):ZJ ⟨S,g,l⟩=ZJ ⟨S',g,l⟩:=by
 funext s r;cases r<;>rfl
theorem Wd(S S':Call)(g:Nat->Option (List CV))(l:Nat->Nat->Nat->Nat->Bool)(s:Zf):∀ rs,Xr ⟨S,g,l⟩ s rs=Xr ⟨S',g,l⟩ s rs
 | []=>rfl
 | r::rs=>by simp only[Xr,Wd S S' g l s rs,Vz S S']
theorem VP(hS:S.le S'){h:Mem}{f:Nat}{args:List X}{r:X × Mem}(hd:Zi ⟨S,g,l⟩ h f args=some r):Zi ⟨S',g,l⟩ h f args=some r:=by
 unfold Zi at hd ⊢;cases hi:X.ids.idsL 6 args with
 | none=>rw[hi]at hd;cases hd
 | some is=>
  rw[hi]at hd;cases is with
  | nil=>
   simp only at hd ⊢;cases hc:S f args [] with
   | none=>simp only[hc]at hd;cases hd
   | some q=>simp only[hc]at hd;simp only[hS _ _ _ _ hc];exact hd
  | cons i is=>
   simp only at hd ⊢;split at hd
   ·cases hd
   ·rename_i ids hids;split at hd
    ·rename_i a' sub h1 h2;split at hd
     ·rename_i sub' h3;cases hc:S f a' sub' with
      | none=>simp only[hc]at hd;cases hd
      | some q=>
       simp only[hc]at hd;simp only[hids,h1,h2,h3,hS _ _ _ _ hc];exact hd
     ·cases hd
    ·cases hd
theorem jb{s:Zf}{h:Mem}{op:POp}(hn:op.isCall=false):evalOp ⟨S,g,l⟩ s h op=evalOp ⟨S',g,l⟩ s h op:=by
 cases op<;>first|(simp only[evalOp,Vz S S',Wd S S'];done)|(simp[POp.isCall]at hn;done)|rfl
theorem W4(hS:S.le S'){s:Zf}{h:Mem}{op:POp}{r:X × Mem}(he:evalOp ⟨S,g,l⟩ s h op=some r):evalOp ⟨S',g,l⟩ s h op=some r:=by
 cases hn:op.isCall with
 | false=>rw[<- jb (S:=S) hn];exact he
 | true=>
  cases op<;>first|(cases hn;done)|skip
  ·simp only[evalOp]at he ⊢;rw[<- Wd S S'];exact VP hS he
  ·simp only[evalOp]at he ⊢;rw[<- Wd S S',<- Vz S S'];split at he
   ·exact VP hS he
   ·exact VP hS he
   ·cases he
theorem yL(hS:S.le S'){s:Zf}{h:Mem}{op:POp}{r:X × Mem}(he:XZ ⟨S,g,l⟩ s h op=some r):XZ ⟨S',g,l⟩ s h op=some r:=by
 cases op<;>simp only[XZ]at he ⊢<;>first|(exact W4 hS he;done)|skip
 rw[<- Wd S S'];exact VP hS he
theorem VJ(hS:S.le S'):∀ {ops:List POper} {σ σ':St},YN ⟨S,g,l⟩ ops σ=some σ'->YN ⟨S',g,l⟩ ops σ=some σ'
 | [],_,_,h=>h
 | o::r,σ,σ',h=>by
  simp only[YN]at h ⊢;split at h
  ·rename_i hw;split at h
   ·rename_i v h2 hv;rw[W4 hS hv];exact VJ hS h
   ·cases h
  ·exact VJ hS h
  ·cases h
theorem Uy(hS:S.le S'):∀ {ops:List POper} {σ σ':St},YE ⟨S,g,l⟩ ops σ=some σ'->YE ⟨S',g,l⟩ ops σ=some σ'
 | [],_,_,h=>h
 | o::r,σ,σ',h=>by
  simp only[YE]at h ⊢;split at h
  ·rename_i hw;split at h
   ·rename_i v h2 hv;rw[yL hS hv];exact Uy hS h
   ·cases h
  ·exact Uy hS h
  ·cases h
theorem wA(hS:S.le S'){s:Zf}{h:Mem}{op:POp}{r:X × Mem}(he:evalOp ⟨S,g,l⟩ s h op=some r):op.kind ⟨S',g,l⟩ s=op.kind ⟨S,g,l⟩ s:=by
 cases op<;>first|rfl | (simp only[POp.kind,Vz S S'];done)|skip
 simp only[POp.kind,<- Wd S S'];simp only[evalOp,Zi]at he
 split
 ·rename_i hi;rw[hi]at he;simp only at he;cases hc:S _ ((Xr ⟨S,g,l⟩ s _).map X.wk) [] with
  | none=>simp only[hc]at he;cases he
  | some q=>simp only[hc,hS _ _ _ _ hc]
 ·rfl
def DS(e:Env)(rs:List Rec):Prop:=∀ r∈rs,r.run=true->∃ h v,evalOp e r.s h r.o.op=some v
theorem Jn(hS:S.le S'):∀ {ops:List POper} {s:Zf} {h:Mem} {rs:List Rec} {σ:St},Yq ⟨S,g,l⟩ ops s h=some (rs,σ)->Yq ⟨S',g,l⟩ ops s h=some (rs,σ)/\DS ⟨S,g,l⟩ rs
 | [],_,_,rs,σ,h=>⟨h,by simp[Yq]at h;rw[h.1];intro r hr;simp at hr⟩
 | o::r,s,h,rs,σ,hp=>by
  simp only[Yq]at hp ⊢;split at hp
  ·rename_i hw;split at hp
   ·rename_i v h2 hv;split at hp
    ·rename_i rs' σ' hr;cases hp;obtain⟨h3,h4⟩:=Jn hS hr;rw[W4 hS hv];simp only[wA hS hv,h3];refine⟨trivial,λ q hq=>?_⟩
     rcases List.mem_cons.1 hq with rfl | hq
     ·exact λ _=>⟨_,_,hv⟩
     ·exact h4 q hq
    ·cases hp
   ·cases hp
  ·rename_i hw;split at hp
   ·rename_i rs' σ' hr;cases hp;obtain⟨h3,h4⟩:=Jn hS hr;simp only[h3];refine⟨trivial,λ q hq=>?_⟩
    rcases List.mem_cons.1 hq with rfl | hq
    ·exact λ h=>by cases h
    ·exact h4 q hq
   ·cases hp
  ·cases hp
theorem jf(hS:S.le S'){rs:List Rec}(hs:DS ⟨S,g,l⟩ rs):∀ r∈rs,(r.run=true->r.o.op.kind ⟨S',g,l⟩ r.s=r.o.op.kind ⟨S,g,l⟩ r.s)/\r.eff ⟨S',g,l⟩=r.eff ⟨S,g,l⟩:=by
 intro r hr;have h1:r.run=true->r.o.op.kind ⟨S',g,l⟩ r.s=r.o.op.kind ⟨S,g,l⟩ r.s:=λ h=>by
  obtain⟨m,v,hv⟩:=hs r hr h;exact wA hS hv
 refine⟨h1,?_⟩;cases hq:r.run with
 | false=>simp[Rec.eff,hq]
 | true=>simp only[Rec.eff,h1 hq]
theorem wS(hS:S.le S'):∀ {rs:List Rec} (i:Nat),DS ⟨S,g,l⟩ rs->YW ⟨S',g,l⟩ i rs=YW ⟨S,g,l⟩ i rs
 | [],_,_=>rfl
 | r::rs,i,hs=>by
  simp only[YW,(jf hS hs r Zv).2,wS hS (i+1) (λ q hq=>hs q (Zq _ hq))]
theorem JN(hS:S.le S'){anc:List (List Nat)}{es done:List Nat}{h:Mem}:∀ {rs:List Rec} (i:Nat),DS ⟨S,g,l⟩ rs->YF ⟨S,g,l⟩ anc es done h i rs=true->YF ⟨S',g,l⟩ anc es done h i rs=true
 | [],_,_,_=>rfl
 | r::rs,i,hs,hr=>by
  simp only[YF,Bool.and_eq_true,Bool.or_eq_true]at hr ⊢;refine⟨?_,JN hS (i+1) (λ q hq=>hs q (Zq _ hq)) hr.2⟩
  rcases hr.1 with h1 | h1
  ·left
   cases hq:r.run with
   | false=>simp
   | true=>rw[(jf hS hs r Zv).1 hq];simpa [hq] using h1
  ·right
   split at h1
   ·rename_i u m hv;rw[W4 hS hv];exact h1
   ·cases h1
theorem J1(hS:S.le S'){anc:List (List Nat)}{rs:List Rec}{es:List Nat}{fin:Mem}(hs:DS ⟨S,g,l⟩ rs):∀ (n:Nat) (done:List Nat) (h:Mem),Yz ⟨S,g,l⟩ anc rs es fin n done h=true->Yz ⟨S',g,l⟩ anc rs es fin n done h=true
 | 0,_,_,h=>by simp[Yz]at h
 | n+1,done,h,hx=>by
  simp only[Yz,Bool.and_eq_true]at hx ⊢;refine⟨JN hS 0 hs hx.1,?_⟩;cases hb:es.all (λ j=>mem j done) with
  | true=>rw[hb]at hx;exact hx.2
  | false=>
   rw[hb]at hx;simp only[cond_false,Zz]at hx ⊢;intro i hi;have:=hx.2 i hi
   simp only[Bool.or_eq_true]at this ⊢;rcases this with h1 | h1
   ·exact .inl h1
   ·right
    split at h1
    ·rename_i r hr;split at h1
     ·rename_i u m hv;simp only[Bool.and_eq_true]at h1;simp only[hr,W4 hS hv,Bool.and_eq_true];exact⟨h1.1,J1 hS hs n _ _ h1.2⟩
     ·cases h1
    ·cases h1
theorem gF(hS:S.le S'){ops:List POper}{anc:List (List Nat)}{σ σ':St}(h:QU ⟨S,g,l⟩ ops anc σ=some σ'):QU ⟨S',g,l⟩ ops anc σ=some σ':=by
 simp only[QU]at h ⊢;split at h
 ·rename_i rs σ1 hp;obtain⟨h1,h2⟩:=Jn hS hp;simp only[h1,wS hS 0 h2];cases hb:Yz ⟨S,g,l⟩ anc rs (YW ⟨S,g,l⟩ 0 rs) σ1.h (ops.length+1) [] σ.h with
  | true=>rw[hb]at h;rw[J1 hS h2 _ _ _ hb];exact h
  | false=>rw[hb]at h;cases h
 ·cases h
theorem qg{st st':St->Option (Exit × St)}{cl:St->St}(hs:∀ σ r,st σ=some r->st' σ=some r):∀ {N N':Nat} {σ:St} {r:Exit × St},N<=N'->W3 st cl N σ=some r->W3 st' cl N' σ=some r
 | 0,_,_,_,_,h=>by simp[W3]at h
 | N+1,N',σ,r,hN,h=>by
  obtain⟨M,rfl⟩:∃ M,N'=M+1:=⟨N' - 1,by omega⟩
  simp only[W3]at h ⊢;cases hc:st (cl σ) with
  | none=>rw[hc]at h;cases h
  | some q=>
   obtain⟨x,σ1⟩:=q;rw[hs _ _ hc];rw[hc]at h;cases x with
   | normal=>exact qg hs (by omega) h
   | exit k=>exact h
   | ret=>exact h
def En(st st':Nat->St->Option St):Prop:=∀ i σ r,st i σ=some r->st' i σ=some r
theorem qc{st st':Nat->St->Option St}(hs:En st st'):∀ {is:List Nat} {σ r:St},KN st is σ=some r->KN st' is σ=some r
 | [],_,_,h=>h
 | i::is,σ,r,h=>by
  simp only[KN]at h ⊢;cases hc:st i σ with
  | none=>rw[hc]at h;cases h
  | some σ1=>rw[hc]at h;rw[hs _ _ _ hc];exact qc hs h
theorem wB{st st':Nat->St->Option St}(hs:En st st'){i:Nat}{σ σ1:St}(h:st i σ=some σ1):XU st' σ i=XU st σ i:=by
 simp only[XU,h,hs _ _ _ h]
theorem qb{st st':Nat->St->Option St}(hs:En st st'){fin:St}:∀ (n:Nat) (must may:List Nat) (σ:St),Vg st fin n must may σ=true->Vg st' fin n must may σ=true
 | 0,_,_,_,h=>by simp[Vg]at h
 | n+1,must,may,σ,h=>by
  simp only[Vg,Bool.and_eq_true]at h ⊢;have hidle:∀ i,XU st σ i=true->XU st' σ i=true:=by
   intro i hi;cases hc:st i σ with
   | none=>simp[XU,hc]at hi
   | some σ1=>rw[wB hs hc];exact hi
  refine⟨?_,?_⟩
  ·rw[Zz]at h ⊢;exact λ i hi=>hidle i (h.1 i hi)
  ·
   have hmust:∀ i∈must,XU st' σ i=XU st σ i:=by
    intro i hi;cases hq:XU st σ i with
    | true=>exact hidle i hq
    | false=>
     have hm:i∈must.filter (λ i=>!(XU st σ i)):=List.mem_filter.2 ⟨hi,by simp[hq]⟩
     cases hc:st i σ with
     | some σ1=>rw[wB hs hc];exact hq
     | none=>
      have h2:=h.2
      split at h2
      ·rename_i he;rw[he]at hm;simp at hm
      ·rename_i a act he;rw[he]at hm;have:=Zz.1 h2 i hm
       simp[hc]at this
   have hf:must.filter (λ i=>!(XU st' σ i))=must.filter (λ i=>!(XU st σ i)):=List.filter_congr λ i hi=>by rw[hmust i hi]
   have hf2:must.filter (XU st' σ)=must.filter (XU st σ):=List.filter_congr λ i hi=>by rw[hmust i hi]
   rw[hf,hf2];have h2:=h.2
   split at h2
   ·exact h2
   ·rename_i a act he;rw[Zz]at h2 ⊢;intro i hi;have:=h2 i hi
    cases hc:st i σ with
    | none=>rw[hc]at this;cases this
    | some σ1=>rw[hc]at this;rw[hs _ _ _ hc];exact qb hs n _ _ _ this
theorem G9(hS:S.le S'){live:List Nat}{L it q nx c en j:Nat}{rops:List POper}{ex ex':St->Option (Exit × St)}(hx:∀ σ r,ex σ=some r->ex' σ=some r){ks vs:List CV} :
  En (Vf ⟨S,g,l⟩ live L it q nx c en j rops ex ks vs) (Vf ⟨S',g,l⟩ live L it q nx c en j rops ex' ks vs):=by
 intro i σ r h;simp only[Vf]at h ⊢;split at h
 ·rename_i k v hk hv;split at h
  ·rename_i σ1 hr;rw[VJ hS hr];simp only;cases hc:ex σ1 with
   | none=>rw[hc]at h;cases h
   | some p=>rw[hc]at h;rw[hx _ _ hc];exact h
  ·cases h
 ·cases h
theorem gX(hS:S.le S'){live:List Nat}{it nx c en id j:Nat}{rops:List POper}{ex ex':St->Option (Exit × St)}(hx:∀ σ r,ex σ=some r->ex' σ=some r){σ:St}{r:Exit × St}
  (h:vf ⟨S,g,l⟩ live it nx c en id j rops ex σ=some r):vf ⟨S',g,l⟩ live it nx c en id j rops ex' σ=some r:=by
 simp only[vf]at h ⊢;cases hb:(Nat.beq it c||Nat.beq it nx) with
 | true=>rw[hb]at h;cases h
 | false=>
  rw[hb]at h;simp only[cond_false]at h ⊢;split at h
  ·rename_i q hq;split at h
   ·rename_i ks vs hm;split at h
    ·rename_i σ0 h0;split at h
     ·rename_i fin hf;rw[qc (G9 hS hx) hf];simp only;cases hg:Vg (Vf ⟨S,g,l⟩ live σ.h.length it q nx c en j rops ex ks vs) fin (ks.length+1) (List.range ks.length) [] σ0 with
      | true=>rw[hg]at h;rw[qb (G9 hS hx) _ _ _ _ hg];exact h
      | false=>rw[hg]at h;cases h
     ·cases h
    ·cases h
   ·cases h
  ·cases h
theorem wO(hS:S.le S'){N N':Nat}(hN:N<=N'):∀ (c:PCode) {σ:St} {r:Exit × St},Yn ⟨S,g,l⟩ N c σ=some r->Yn ⟨S',g,l⟩ N' c σ=some r:=by
 intro c
 induction c with
 | skip=>exact λ h=>h
 | exit=>exact λ h=>h
 | ret=>exact λ h=>h
 | ops l=>
  intro σ r h;simp only[Yn]at h ⊢;split at h
  ·rename_i σ' hr;rw[VJ hS hr];exact h
  ·cases h
 | raw l=>
  intro σ r h;simp only[Yn]at h ⊢;split at h
  ·rename_i σ' hr;rw[Uy hS hr];exact h
  ·cases h
 | dops l anc=>
  intro σ r h;simp only[Yn]at h ⊢;split at h
  ·rename_i σ' hr;rw[gF hS hr];exact h
  ·cases h
 | seq a b iha ihb=>
  intro σ r h;simp only[Yn]at h ⊢;cases ha:Yn ⟨S,g,l⟩ N a σ with
  | none=>rw[ha]at h;cases h
  | some q=>
   obtain⟨x,σ1⟩:=q;rw[ha]at h;rw[iha ha];cases x with
   | normal=>exact ihb h
   | exit k=>exact h
   | ret=>exact h
 | cond c a b iha ihb=>
  intro σ r h;simp only[Yn,<- Vz S S']at h ⊢;split at h
  ·exact iha h
  ·exact ihb h
  ·cases h
 | block id b ih=>
  intro σ r h;simp only[Yn]at h ⊢;cases hb:Yn ⟨S,g,l⟩ N b σ with
  | none=>rw[hb]at h;cases h
  | some q=>rw[hb]at h;rw[ih hb];exact h
 | loop live b ih=>
  intro σ r h;simp only[Yn]at h ⊢;exact qg (λ σ r h=>ih h) hN h
 | live l c ih=>intro σ r h;exact ih h
 | mloop live it nx c en id j rops b ih=>
  intro σ r h;simp only[Yn]at h ⊢;exact gX hS (λ σ r h=>ih h) h
theorem JK(hS:S.le S'){N N':Nat}(hN:N<=N'){fn:PFn}{args:List X}{h:Mem}{r:X × Mem}(hr:Z5 ⟨S,g,l⟩ N fn args h=some r):Z5 ⟨S',g,l⟩ N' fn args h=some r:=by
 simp only[Z5]at hr ⊢;cases hb:Nat.beq args.length fn.np with
 | false=>rw[hb]at hr;cases hr
 | true=>
  rw[hb]at hr;simp only[cond_true]at hr ⊢;split at hr
  ·rename_i σ he;rw[wO hS hN _ he];exact hr
  ·rename_i σ he;rw[wO hS hN _ he];exact hr
  ·cases hr
end
end
inductive Good(p:Prg):Nat->List X->Mem->X->Mem->Prop
 | body (S:Call) (N f:Nat) (fn:PFn) (args:List X) (h:Mem) (z:X) (h':Mem) (hf:p.fn f=some (.body fn))
   (hS:∀ f a h z h',S f a h=some (z,h')->Good p f a h z h') (hr:Z5 ⟨S,p.glob,p.lies⟩ N fn args h=some (z,h')):Good p f args h z h'
 | prim (f:Nat) (g:List X->Mem->Option (X × Mem)) (args:List X) (h:Mem) (z:X) (h':Mem) (hf:p.fn f=some (.prim g)) (hr:g args h=some (z,h')):Good p f args h z h'
theorem Good.uniq{p:Prg}{f:Nat}{args:List X}{h:Mem}{z:X}{h':Mem}(a:Good p f args h z h'):∀ {z2:X} {h2:Mem},Good p f args h z2 h2->z=z2/\h'=h2:=by
 induction a with
 | prim f g args h z h' hf hr=>
  intro z2 h2 b;cases b with
  | prim _ g' _ _ _ _ hf' hr'=>rw[hf]at hf';cases hf';rw[hr]at hr';cases hr';exact⟨rfl,rfl⟩
  | body _ _ _ _ _ _ _ _ hf'=>rw[hf]at hf';cases hf'
 | body S N f fn args h z h' hf hS hr ih=>
  intro z2 h2 b;cases b with
  | prim _ _ _ _ _ _ hf'=>rw[hf]at hf';cases hf'
  | body S' N' _ fn' _ _ _ _ hf' hS' hr'=>
   rw[hf]at hf';cases hf'
   let U:Call:=λ f a h=>match S f a h with | some r=>some r | none=>S' f a h
   have h1:S.le U:=λ f a h r e=>by simp only[U,e]
   have h2':S'.le U:=λ f a h r e=>by
    simp only[U];cases hc:S f a h with
    | none=>exact e
    | some q=>
     obtain⟨q1,q2⟩:=q;obtain⟨r1,r2⟩:=r;have:=ih f a h q1 q2 hc (hS' f a h r1 r2 e)
     simp only[this.1,this.2]
   have a1:=JK h1 (Nat.le_max_left N N') hr
   have a2:=JK h2' (Nat.le_max_right N N') hr'
   rw[a1]at a2;cases a2;exact⟨rfl,rfl⟩
open Classical in
noncomputable def Ul (p:Prg):Call:=λ f a h=>if hx:∃ r:X × Mem,Good p f a h r.1 r.2 then some (Classical.choose hx) else none
theorem qu{p:Prg}{f:Nat}{a:List X}{h:Mem}{z:X}{h':Mem}(hc:Ul p f a h=some (z,h')):Good p f a h z h':=by
 simp only[Ul]at hc;split at hc
 ·rename_i hx;have:=Classical.choose_spec hx
  have e:=Option.some.inj hc
  rw[e]at this;exact this
 ·cases hc
theorem Good.call{p:Prg}{f:Nat}{a:List X}{h:Mem}{z:X}{h':Mem}(hg:Good p f a h z h'):Ul p f a h=some (z,h'):=by
 have hx:∃ r:X × Mem,Good p f a h r.1 r.2:=⟨(z,h'),hg⟩
 simp only[Ul,dif_pos hx];have:=hg.uniq (Classical.choose_spec hx)
 rw[this.1,this.2]
noncomputable def Zo(p:Prg):Env:=⟨Ul p,p.glob,p.lies⟩
theorem Z4{p:Prg}{N f:Nat}{fn:PFn}{args:List X}{h:Mem}{z:X}{h':Mem}(hf:p.fn f=some (.body fn))(hr:Z5 (Zo p) N fn args h=some (z,h')):Ul p f args h=some (z,h'):=
 Good.call (.body (Ul p) N f fn args h z h' hf (λ _ _ _ _ _ e=>qu e) hr)
theorem wG{p:Prg}{f:Nat}{g:List X->Mem->Option (X × Mem)}{args:List X}{h:Mem}{z:X}{h':Mem}(hf:p.fn f=some (.prim g))(hr:g args h=some (z,h')):Ul p f args h=some (z,h'):=Good.call (.prim f g args h z h' hf hr)
theorem E0{P:Program}(hm:P.follows .mixedOrders=true){p:Prg}(hP:PrgOk P p):KH P (Zo p):=by
 have key:∀ {f args h z h'},Good p f args h z h'->∀ (G:Gh) (w:World) (vs:List Value),Inv G h w->GlobOk (Zo p) G->RdL G vs args->CallsAs P G h w f vs.toArray z h':=by
  intro f args h z h' hg
  induction hg with
  | prim f g args h z h' hf hr=>
   intro G w vs hi hgl hv;exact hP.prim f g hf args h z h' hr G w vs hi hv
  | body S N f fn args h z h' hf hS hr ih=>
   intro G w vs hi hgl hv;have hB:KH P ⟨S,p.glob,p.lies⟩:=λ f a h z h' e G w vs hi hgl hv=>ih f a h z h' e G w vs hi hgl hv
   exact AA hm hB hP.lies (hP.body f fn hf) hr hi hgl hv
 intro f args h z h' hc;exact key (qu hc)
def Xg(p:Prg)(t:Ent):Prop:=Good p t.f t.args t.h t.z t.h'
theorem Jt{p:Prg}:∀ {zt:List Ent},(∀ t∈zt,Xg p t)->∀ {f:Nat} {a:List X} {h:Mem} {z:X} {h':Mem},UO zt f a h=some (z,h')->Good p f a h z h'
 | [],_,f,a,h,z,h',hl=>by simp[UO]at hl
 | t::r,hall,f,a,h,z,h',hl=>by
  simp only[UO]at hl;cases hb:(Nat.beq t.f f&&(X.sameL t.args a&&Mem.same t.h h)) with
  | false=>
   rw[hb]at hl;simp only[cond_false]at hl;exact Jt (λ t ht=>hall t (Zq _ ht)) hl
  | true=>
   rw[hb]at hl;simp only[cond_true,Option.some.injEq,Prod.mk.injEq]at hl;obtain⟨rfl,rfl⟩:=hl;simp only[Bool.and_eq_true]at hb;have e1:=Yd hb.1
   have e2:=X.sameL_eq hb.2.1
   have e3:=Mem.same_eq hb.2.2
   subst e1;subst e2;subst e3;exact hall t Zv
theorem qE{p:Prg}{zt:List Ent}(hall:∀ t∈zt,Xg p t)(N:Nat):∀ (n f:Nat) (a:List X) (h:Mem) (z:X) (h':Mem),yd p zt N n f a h=some (z,h')->Good p f a h z h'
 | 0,f,a,h,z,h',hc=>Jt hall hc
 | n+1,f,a,h,z,h',hc=>by
  simp only[yd]at hc;cases hl:UO zt f a h with
  | some r=>
   rw[hl]at hc;refine Jt hall (h:=h) ?_;rw[hl];exact hc
  | none=>
   rw[hl]at hc;simp only at hc;split at hc
   ·rename_i fn hf;exact .body _ N f fn a h z h' hf (qE hall N n) hc
   ·rename_i g hf;exact .prim f g a h z h' hf hc
   ·cases hc
theorem Y9{p:Prg}{zt:List Ent}(hall:∀ t∈zt,Xg p t){t:Ent}(hk:JS p zt t=true):Xg p t:=by
 unfold JS at hk;split at hk
 ·rename_i fn hf;obtain⟨z,h',h1,h2⟩:=ju (yc p zt 100000 100) hk;obtain⟨h3,h4⟩:=WA h2;rw[X.same_eq h3,Mem.same_eq h4]at h1;exact .body _ 100000 t.f fn t.args t.h t.z t.h' hf (qE hall 100000 100) h1
 ·cases hk
inductive Hi where
 | n
 | v (l:List Nat) (h:Hi)
 | p (a b:Hi)
 | o (h:Hi)
 | q (l:List Nat) (h:Hi)
 | r
 | w (l:List Nat) (h:Hi)
def DJ:Hi->PCode->PCode
 | .v l h,c=>.live l (DJ h c)
 | .p a b,.seq x y=>.seq (DJ a x) (DJ b y)
 | .p a b,.cond c x y=>.cond c (DJ a x) (DJ b y)
 | .o h,.block i x=>.block i (DJ h x)
 | .q l h,.loop none x=>.loop (some l) (DJ h x)
 | .r,.ops l=>.raw l
 | .w live h,.loop none (.seq (.ops [⟨some nx,.nextM (.t it),none⟩,⟨some c,.ext (.t nx') 0,none⟩]) (.seq (.cond (.t c') .skip (.exit id)) (.block j (.seq (.ops (⟨some en,.entry (.t it'),none⟩::l)) b))))=>
  bif Nat.beq nx nx'&&Nat.beq c c'&&Nat.beq it it' then .mloop live it nx c en id j l (DJ h b)
  else .loop none (.seq (.ops [⟨some nx,.nextM (.t it),none⟩,⟨some c,.ext (.t nx') 0,none⟩]) (.seq (.cond (.t c') .skip (.exit id)) (.block j (.seq (.ops (⟨some en,.entry (.t it'),none⟩::l)) b))))
 | _,c=>c
theorem AC(h:Hi)(c:PCode):(DJ h c).erase=c.erase:=by
 fun_induction DJ h c with
 | case1 l h c ih=>simp only[PCode.erase,ih]
 | case2 a b x y ih1 ih2=>simp only[PCode.erase,ih1,ih2]
 | case3 a b c x y ih1 ih2=>simp only[PCode.erase,ih1,ih2]
 | case4 h i x ih=>simp only[PCode.erase,ih]
 | case5 l h x ih=>simp only[PCode.erase,ih]
 | case6 l=>rfl
 | case7 live h nx it c nx' c' id j en it' l b hb ih=>
  simp only[Bool.and_eq_true]at hb;obtain⟨⟨h1,h2⟩,h3⟩:=hb;cases Zd h1;cases Zd h2;cases Zd h3;simp only[PCode.erase,ih]
 | case8=>rfl
 | case9=>rfl
theorem AZ{P:Program}{nt:Nat}:∀ (k:Code) {c:PCode},tr P nt k=some c->c.erase=c:=by
 intro k
 induction k with
 | skip=>intro c h;cases h;rfl
 | region id ops draw=>
  intro c h;cases draw with
  | true=>
   simp only[tr]at h;split at h
   ·rw[Zc]at h;obtain⟨_,_,rfl⟩:=h;rfl
   ·cases h
  | false=>simp only[tr,Zc]at h;obtain⟨_,_,rfl⟩:=h;rfl
 | seq a b ih1 ih2=>
  intro c h;simp only[tr]at h;split at h
  ·rename_i x y hx hy;cases h;simp only[PCode.erase,ih1 hx,ih2 hy]
  ·cases h
 | cond c a b ih1 ih2=>
  intro c h;simp only[tr]at h;split at h
  ·rename_i r x y hr hx hy;cases h;simp only[PCode.erase,ih1 hx,ih2 hy]
  ·cases h
 | block id b ih=>
  intro c h;simp only[tr,Zc]at h;obtain⟨x,hx,rfl⟩:=h;simp only[PCode.erase,ih hx]
 | loop b ih=>
  intro c h;simp only[tr,Zc]at h;obtain⟨x,hx,rfl⟩:=h;simp only[PCode.erase,ih hx]
 | exit id=>intro c h;cases h;rfl
 | ret=>intro c h;cases h;rfl
 | refuse _=>intro c h;cases h;rfl
 | _=>intro c h;cases h
def Ky(fu:Func):Code:=match fu.body with | some c=>c | none=>.skip
def ZY(P:Program)(fu:Func)(np:Nat)(res:List PRes)(h:Hi)(keep frz:Bool):PFn:=⟨np,res,DJ h (match tr P fu.ntmps (Ky fu) with | some c=>c | none=>.skip),keep,frz⟩
def Hu(P:Program)(fu:Func)(np:Nat)(res:List PRes):Bool:=
 match fu.body with
 | some c=>!(fu.name == "runtime.NumGoroutine")&&(tr P fu.ntmps c).isSome&&Nat.ble np fu.ntmps
 | none=>false
theorem FnOk.free{P:Program}{f:Nat}{fu:Func}{np:Nat}{res:List PRes}{h:Hi}{keep frz:Bool}(hf:P.funcs[f]?=some fu)(hb:Hu P fu np res=true)(hr:Q1 P fu.results.toList=some res):FnOk P f (ZY P fu np res h keep frz):=by
 unfold Hu at hb;split at hb
 ·rename_i c hc;simp only[Bool.and_eq_true,Bool.not_eq_true']at hb;obtain⟨⟨h1,h2⟩,h3⟩:=hb;cases ht:tr P fu.ntmps c with
  | none=>rw[ht]at h2;cases h2
  | some d=>
   refine⟨⟨fu,c,hf,hc,h1,?_,hr,Zg h3⟩⟩;have hco:Ky fu=c:=by simp only[Ky,hc]
   simp only[ZY,hco,ht,AC,AZ c ht]
 ·cases hb
end Go.Pi
