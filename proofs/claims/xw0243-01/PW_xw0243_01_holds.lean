import PyProof.Rows.All
import Wide.All
import OpenK.AllK
import Wide.FinOn
import OpenK.XOpen
import Open.Tops
import Lean
import PySem.Challenge.RW_xw0243_01
open PySem PySem.W PyProof.Rows
set_option Elab.async false
set_option maxRecDepth 100000
set_option maxHeartbeats 0
set_option linter.unusedVariables false
set_option linter.unusedSimpArgs false
noncomputable section
set_option hygiene false
local macro_rules | `(tactic| walk_at "aa") => `(tactic| (
 rw[hw,Bool.true_or,Bool.or_true] at z
 rw[hw] at hz
 simp only[cond_true] at z hz
 refine And.intro hlen ?_
 refine And.intro hx1 ?_
 refine And.intro hx2 ?_
 refine And.intro ?_ ?_
 ·refine And.intro ?_ ?_
  ·intro vals M k X z
   obtain⟨srcs,n,s,colv,w,met,i,fs,rfl,rfl,ok,hi,e,hz,z⟩:=z
   have e2:s.cols.length - i=0:=by
    have:=congrArg List.length e
    simpa using this.symm
   have e3:s.cols.drop i=[]:=List.drop_eq_nil_iff.mpr (by omega)
   rw[e3] at z
   have z:k .next [.v s.c,.v colv,.v (aP w),.ref 5,.v (.bool met)] (scM true srcs [] n++[.lst [],.lst (fs++[])]):=z
   rw[List.append_nil] at z
   exact z
  ·intro c cs vals M k X z
   obtain⟨srcs,n,s,colv,w,met,i,fs,rfl,rfl,ok,hi,e,hz,z⟩:=z
   have hlt:i < s.cols.length:=by
    have:=congrArg List.length e
    simp at this;omega
   rw[bl hlt,List.map_cons] at e
   obtain⟨e1,e2⟩:=List.cons.inj e
   rw[Int.zero_add] at e1
   subst e1
   obtain⟨cl,hcl⟩:∃cl,s.cols[i]?=some cl:=⟨s.cols[i],List.getElem?_eq_getElem hlt⟩
   have hd:s.cols.drop i=cl::s.cols.drop (i+1):=by
    rw[List.drop_eq_getElem_cons hlt];congr 1
    rw[List.getElem?_eq_getElem hlt] at hcl;exact Option.some.inj hcl
   rw[hd,cC] at z hz
   have hm:(s.cols.map aJ)[i]?=some (aJ cl):=by rw[List.getElem?_map,hcl];rfl
   have hn:(match bP (s.cols.map aJ) (i:Int) with|some c=>some (AV.v c)|none=>none)=some (AV.v (aJ cl)):=by rw[jB hm]
   have hlen:(s.cols.map aJ).length≤1000:=by rw[List.length_map];exact ok.cols.1
   have hnm:=ok.cols.2 _ (List.mem_of_getElem? hcl)
   have hu:(s.us.map ag).length≤1000∧∀c∈s.us.map ag,Cm 8 c (.str (ae cl.1)):=⟨by rw[List.length_map];exact ok.us,fun c hc=>by
    obtain⟨y,_,rfl⟩:=List.mem_map.mp hc
    show kOk 3 3=true;rfl⟩
   have step:∀{l:List Out},fs.length+(l++aO w s (s.cols.drop (i+1)) (i+1)).length≤900→k .next [.v s.c,.v colv,.v (aP w),.ref 5,.v (.bool met)] (scM true srcs [] n++[.lst [],.lst (fs++(l++aO w s (s.cols.drop (i+1)) (i+1)).map ax)])→starLp2.spec cs [.v s.c,.v colv,.v (aP w),.ref 5,.v (.bool met)] (scM true srcs [] n++[.lst [],.lst (fs++l.map ax)]) k X:=fun {l} hz z=>by
    rw[List.map_append,←List.append_assoc] at z
    exact⟨srcs,n,s,colv,w,met,i+1,fs++l.map ax,rfl,rfl,ok,hlt,e2,by simp only[List.length_append,List.length_map] at hz ⊢;omega,z⟩
   refine af (v:=.v (aJ cl)) hn ?_
   refine And.intro hlen ?_
   refine And.intro (leB rfl) ?_
   cases w with
   |some t=>
    have hf:fs.length≤999:=by simp only[Option.isSome_some,Bool.true_or,cond_true,List.length_cons] at hz;omega
    refine⟨rfl,?_⟩
    refine⟨rfl,s.alias,cl.1,s,i,cl,hcl,ok.cols.1,.inr (.inl ⟨rfl,rfl⟩),?_⟩
    refine And.intro (leB rfl) ?_
    refine And.intro hf ?_
    exact step (l:=[(cl.1,.nm s.alias cl.1 s.num i cl.2.1 cl.2.2)]) hz z
   |none=>
    refine And.intro hnm ?_
    refine And.intro hu ?_
    refine aA (fun h1=>?_) (fun h1=>?_)
    ·have h2:(Option.isSome (none:Option Str) || !inC (.str (ae cl.1)) (s.us.map ag))=true:=h1
     rw[h2] at z hz
     have hf:fs.length≤999:=by simp only[cond_true,List.length_cons] at hz;omega
     refine⟨rfl,?_⟩
     refine⟨rfl,s.alias,cl.1,s,i,cl,hcl,ok.cols.1,.inr (.inl ⟨rfl,rfl⟩),?_⟩
     refine And.intro (leB rfl) ?_
     refine And.intro hf ?_
     exact step (l:=[(cl.1,.nm s.alias cl.1 s.num i cl.2.1 cl.2.2)]) hz z
    ·have h2:(Option.isSome (none:Option Str) || !inC (.str (ae cl.1)) (s.us.map ag))=false:=h1
     rw[h2] at z hz
     have z2:=step (l:=[]) hz z
     rw[List.map_nil,List.append_nil] at z2
     exact z2))
local macro_rules | `(tactic| walk_at "ab") => `(tactic| (
 refine And.intro (leB rfl) ?_))
local macro_rules | `(tactic| walk_at "ac") => `(tactic| (
 have back:∀{fz' m' M' xo s'},Sub fz fz'→St D.cls D.h₀ D.os fc fz' m' M' xo s'→∃oC mC,St D.cls D.h₀ D.os (f.more C oC) fz' m M' xo s'∧NsD oC.2 mC:=by
  intro fz' m' M' xo s' k ⟨⟨mr',cells',fo',ml',H'⟩,g',o'⟩
  obtain⟨oC,esC,epC,hCg,hCd,hCk,hCf⟩:=H'.F.ns
  have hfos:=H'.fos
  cases hfos with
  |@cons _ _ oL' _ fo3 hd hr=>
  have hL':=H'.N (f.L,oL') (by simp[aa])
  have sub:∀p∈aa fz' f.pin cells fo3 ml' xo,p∈aa fz' fc.pin cells' ((f.L,oL')::fo3) ml' xo:=fun p hp=>by
   simp only[aa,List.mem_append,List.mem_cons,fc,a8] at hp ⊢
   rcases hp with q|q|q|q|q|q<;>simp[q]
  have nd:=H'.nd
  have nd2:(f.L::(aa fz' f.pin cells fo3 ml' xo).map (·.1)).Nodup:=by
   have p:((aa fz' fc.pin cells' ((f.L,oL')::fo3) ml' xo).map (·.1)).Perm (cells'.map (·.1)++(f.L::(aa fz' f.pin cells fo3 ml' xo).map (·.1))):=by
    refine List.perm_iff_count.mpr fun b=>?_
    simp only[aa,List.map_append,List.map_cons,List.count_append,List.count_cons,fc,a8]
    omega
   exact(List.nodup_append.mp (p.nodup_iff.mp nd)).2.1
  rw[List.nodup_cons] at nd2
  refine⟨(oC.cls,oC.data),_,⟨⟨mr,cells,(C,oC)::fo3,ml',⟨⟨⟨oL',es,ep,hL'.1,(Prod.mk.inj hd).2.trans hLd,hLk,hLf⟩,H'.F.keep,H₁.F.above⟩,fun p hp=>?_,?_,H₁.cellsAre,.cons rfl hr,H'.mrs,fun y c e=>(H₁.loc y c e).mono k⟩⟩,g',o'⟩,esC,epC,hCd,hCk,hCf⟩
  ·have hc:p∈aa fz' f.pin cells fo3 ml' xo∨p=(C,oC):=by
    simp only[aa,List.mem_append,List.mem_cons] at hp ⊢
    rcases hp with q|q|q|(q|q)|q|q<;>simp[q]
   rcases hc with q|rfl
   ·exact⟨(H'.N p (sub p q)).1,fun e=>nd2.1 (e▸List.mem_map_of_mem q),(H'.N p (sub p q)).2.2⟩
   ·exact⟨hCg,Ne.symm hLC,hC0⟩
  ·have big:(C::(aa fz' f.pin cells fo3 ml' xo).map (·.1)).Nodup:=List.nodup_cons.mpr ⟨fun q=>by
    obtain⟨p,hp,e⟩:=List.mem_map.mp q
    exact(H'.N p (sub p hp)).2.1 e,nd2.2⟩
   refine(List.Perm.nodup_iff ?_).mp big
   refine List.perm_iff_count.mpr fun b=>?_
   simp only[aa,List.map_append,List.map_cons,List.count_append,List.count_cons]
   omega
 have post:∀r s',(match r with|.ok _=>∃fz' m' M',Sub fz fz'∧SS D fc fz' m' M' s'∧Ξ accA M'|.error e=>∃fz' M' xo msg,Sub fz fz'∧St D.cls D.h₀ D.os fc fz' [] M' xo s'∧ExT D xo fz' msg e∧X msg M') →
   compPost (model D.prog D.w) A (XP D f fz X) use Q (.ref accA) C r s':=by
  intro r s' z
  cases r with
  |ok fl=>
   obtain⟨fz',m',M',k,S',z⟩:=z
   obtain⟨oC,mC,S2,hn⟩:=back k S'
   have:=hok accA C oC.1 fz' M' s' oC.2 mC k S2 hn z
   cases use<;>exact this
  |error e=>
   obtain⟨fz',M',xo,msg,k,S',ex,z⟩:=z
   obtain⟨oC,mC,S2,esC,epC,hn1,hn2,hn3⟩:=back k S'
   have hCat:∃o,s'.heap.get? C=some o∧o.data=oC.2:=by
    obtain⟨⟨mr',cells',fo',ml',H'⟩,g',o'⟩:=S2
    have hfos:=H'.fos
    cases hfos with
    |@cons _ _ ob _ _ hd hr=>exact⟨ob,(H'.N (C,ob) (by simp[aa])).1,(Prod.mk.inj hd).2⟩
   obtain⟨ob,hob,hobd⟩:=hCat
   refine⟨mC,⟨ob,esC,epC,hob,hobd.trans hn1,hn2,hn3⟩,fun h' hs cenv' hcenv=>?_⟩
   have S3:St D.cls D.h₀ D.os f fz' m M' xo { s' with heap:=h' }:=by
    have S2':=S2.less1
    obtain⟨⟨mr',cells',fo',ml',H'⟩,g',o'⟩:=S2
    have hfos:=H'.fos
    cases hfos with
    |@cons _ _ ob2 _ fo4 hd hr=>
    have hCL:=(H'.N (C,ob2) (by simp[aa])).2
    have nd:=H'.nd
    have nd1:(C::(aa fz' f.pin cells' fo4 ml' xo).map (·.1)).Nodup:=by
     refine(List.Perm.nodup_iff ?_).mp nd
     refine List.perm_iff_count.mpr fun b=>?_
     simp only[aa,List.map_append,List.map_cons,List.count_append,List.count_cons]
     omega
    have sub:∀p∈aa fz' f.pin cells' fo4 ml' xo,p∈aa fz' f.pin cells' ((C,ob2)::fo4) ml' xo:=fun p hp=>by
     simp only[aa,List.mem_append,List.mem_cons] at hp ⊢
     rcases hp with q|q|q|q|q|q<;>simp[q]
    exact⟨⟨mr',cells',fo4,ml',⟨H'.F.change hs hCL.1 hCL.2,fun p hp=>⟨(hs.2 _ fun q=>(List.nodup_cons.mp nd1).1 (List.mem_map.mpr ⟨p,hp,q⟩)).trans (H'.N p (sub p hp)).1,(H'.N p (sub p hp)).2⟩,(List.nodup_cons.mp nd1).2,H'.cellsAre,hr,H'.mrs,H'.loc⟩⟩,g',o'⟩
   obtain⟨e',C',dx,vs,sl,n,t,u,hev,hC',hdx,hsz,T,tc,td,ts,tsl,rfl,h1,hts⟩:=id ex
   subst hev
   obtain⟨⟨mr',cells',fo',ml',H'⟩,g',o'⟩:=id S3
   unfold PySem.passOn
   refine wpAny_bind (wpAny_field (H'.N (e',⟨.ref C',some dx,.fields vs,sl⟩) (by simp[aa])).1 rfl h1 ?_)
   rw[if_neg (by simp)]
   refine wpAny_bind (du S3 ex fun xo' s4 S4 ex4=>?_)
   exact wpAny_throw ⟨fz',M',xo',msg,k,S4.forget,ex4.ex,z⟩))
local macro_rules | `(tactic| walk_at "ad") => `(tactic| (
 have hn12:bR names:=i9 (by rw[List.length_map,List.length_range] at hlen;omega)
 have hnsh:∀s∈names,Sh s:=fun s hs=>(hall s hs).sh
 have hnl:(names.map ag).length≤1000:=by
  rw[List.length_map]
  obtain⟨a,rfl|⟨b,rfl⟩⟩:=hn12<;>exact leB rfl
 refine And.intro hnl ?_
 refine And.intro ?_ ?_
 ·refine And.intro ?_ ?_
  ·intro vals M k X z
   obtain⟨p,rows,th,names,todo,rfl,rfl,e,h1,h2,h3,h4,z⟩:=z
   cases todo with
   |nil=>exact z
   |cons s r=>cases e
  ·intro c cs vals M k X z
   obtain⟨p,rows,th,names,todo,rfl,rfl,e,h1,h2,h3,h4,z⟩:=z
   cases todo with
   |nil=>cases e
   |cons s r=>
    cases e
    have hs:=h4 s (.head _)
    have h4':∀x∈r,Sh x:=fun x hx=>h4 x (.tail _ hx)
    have hin:((aB rows).map ag).length≤1000∧∀c∈(aB rows).map ag,Cm 8 c (.str (ae s)):=⟨by rw[List.length_map];omega,fun c hc=>by
     obtain⟨y,_,rfl⟩:=List.mem_map.mp hc
     show kOk 3 3=true;rfl⟩
    unfold aK at z
    refine And.intro ⟨Nat.le_trans hs.1 (by decide),hs.2⟩ ?_
    refine⟨rfl,rows,rfl,rfl,h1,h2,h3,?_⟩
    refine And.intro hin ?_
    cases hb:inC (.str (ae s)) ((aB rows).map ag) with
    |true=>
     rw[hb] at z
     first|refine ai hb ?_|refine ai rfl ?_
     refine And.intro ⟨Nat.le_trans hs.1 (by decide),hs.2⟩ ?_
     exact And.intro rfl ⟨p,rows,th,names,r,rfl,rfl,rfl,h1,h2,h3,h4',z⟩
    |false=>
     rw[hb] at z
     first|refine aj hb ?_|refine aj rfl ?_
     exact And.intro rfl ⟨p,rows,th,names,r,rfl,rfl,rfl,h1,h2,h3,h4',z⟩))
local macro_rules | `(tactic| walk_at "ae") => `(tactic| (
 have Sc:SS D (fc.more it (dts 0)) fz [] ((accA,.lst [])::M) { s with heap:=h₂,toks:=s.toks+([]:List (Str×Value)).length }:=by
  refine⟨⟨_,[],(it,oit)::(f.L,oL)::fo2,ml1,⟨⟨hns,fun b o e=>keep b o (H₁.F.keep b o e),?_⟩,?_,?_,fun y c hm=>(by cases hm),.cons hdit (.cons rfl hfr),H₁.mrs,fun _ _ e=>by cases e⟩⟩,gn,os⟩
  ·show D.h₀.objs.size≤C
   have e1:D.h₀.objs.size≤f.L:=H₁.F.above
   have e2:f.L < h₁.objs.size:=Heap.lt_size hL
   exact Nat.le_trans e1 (Nat.le_of_lt (hC▸e2))
  ·intro p hp
   have hc:p∈aa fz f.pin cells ((it,oit)::fo2) ml1 []∨p=(f.L,oL):=by
    change p∈aa fz (cells++f.pin) [] ((it,oit)::(f.L,oL)::fo2) ml1 [] at hp
    simp only[aa,List.mem_append,List.mem_cons,List.nil_append,List.not_mem_nil,false_or,or_false] at hp ⊢
    rcases hp with q|(q|q)|(q|q|q)|q<;>simp[q]
   rcases hc with q|rfl
   ·exact⟨keep _ _ (H₁.N p q).1,notC p q,(H₁.N p q).2.2⟩
   ·exact⟨keep _ _ hL,hLC,hLh0⟩
  ·have big:(f.L::(aa fz f.pin cells ((it,oit)::fo2) ml1 []).map (·.1)).Nodup:=List.nodup_cons.mpr ⟨fun q=>by
    obtain⟨p,hp,e⟩:=List.mem_map.mp q
    exact(H₁.N p hp).2.1 e,H₁.nd⟩
   refine(List.Perm.nodup_iff ?_).mp big
   refine List.perm_iff_count.mpr fun b=>?_
   simp only[aa,List.map_append,List.map_cons,List.count_append,List.count_cons,List.map_nil,List.count_nil,List.nil_append,fc,a8]
   omega
 have aC:AOk fc d A:=by
  refine⟨a.handled,a.frames,a.depth,a.units,a.guards,⟨ci.kind,rfl,ok.glo,ok.blt,fun e he=>?_,ok.top,fun x y ad h1 h2=>ok.inj x y ad (ci.cells x ad h1) (ci.cells y ad h2)⟩⟩
  obtain⟨h1,ad,h2,h3⟩:=ok.fr e he
  refine⟨h1,ad,h2,.inr ?_⟩
  rcases h3 with rfl|⟨dd,h3,h4⟩
  ·exact⟨(oL.cls,oL.data),.head _,fun vs q=>by rw[hLd] at q;cases q⟩
  ·exact⟨dd,.tail _ h3,h4⟩
 have hmc:∀dt fz' m' M' s',Sub fz fz'→SS D (fc.more it dt) fz' m' M' s'→SS D (fc.more it dt) fz' mc M' s':=by
  intro dt fz' m' M' s' k ⟨⟨mr',cells',fo',ml',H'⟩,g',o'⟩
  refine⟨⟨mr',cells',fo',ml',⟨H'.F,H'.N,H'.nd,H'.cellsAre,H'.fos,H'.mrs,fun x c e=>?_⟩⟩,g',o'⟩
  obtain⟨e1,e2,e3,e4⟩:=cap x c e
  obtain⟨ad,e4⟩:=Option.isSome_iff_exists.mp e4
  rcases H₁.loc x c e1 with ⟨q,_⟩|⟨_,ad',o,v,q1,q2,q3,q4⟩
  ·rw[show f.env.kindOf x=some .local from q] at e2;rcases e2 with e2|e2<;>cases e2
  ·have:=ci.cells x ad e4
   rw[show f.env.cells.lookup x=some ad' from q1] at this
   cases this
   refine .inr ⟨e3,ad,o,v,e4,List.mem_append_left _ ?_,q3,q4.mono k⟩
   rcases List.mem_append.mp q2 with q2|q2
   ·exact List.mem_append_right _ q2
   ·exact List.mem_append_left _ q2))
local macro_rules | `(tactic| walk_at "af") => `(tactic| (
 have hlt:j < names.length:=by
  have:=congrArg List.length e
  simp at this;omega
 rw[bl hlt,List.map_cons] at e
 obtain⟨e1,e2⟩:=List.cons.inj e
 rw[Int.zero_add] at e1
 subst e1
 obtain⟨nm,hnm⟩:∃nm,names[j]?=some nm:=⟨names[j],List.getElem?_eq_getElem hlt⟩
 have hd:names.drop j=nm::names.drop (j+1):=by
  rw[List.drop_eq_getElem_cons hlt];congr 1
  rw[List.getElem?_eq_getElem hlt] at hnm;exact Option.some.inj hnm
 rw[hd,ew] at z hz
 have hm:(names.map ag)[j]?=some (ag nm):=by rw[List.getElem?_map,hnm];rfl
 have hn:(match bP (names.map ag) (j:Int) with|some c=>some (AV.v c)|none=>none)=some (AV.v (ag nm)):=by rw[jB hm]
 have hlen:(names.map ag).length≤1000:=by rw[List.length_map];omega
 have hsh:=h3 _ (List.mem_of_getElem? hnm)
 have hu:(us.map ag).length≤1000∧∀c∈us.map ag,Cm 8 c (.str (ae nm)):=⟨by rw[List.length_map];omega,fun c hc=>by
  obtain⟨y,_,rfl⟩:=List.mem_map.mp hc
  show kOk 3 3=true;rfl⟩
 have step:∀{l:List br},fs.length+(l++b0 tbl us i (names.drop (j+1)) (j+1)).length≤900→k .next [.v rc,.v (aP tbl),.ref 0,.v (.bool met),.v (.int i),.v (.lst (names.map ag)),.v (.lst (us.map ag))] [.lst (fs++(l++b0 tbl us i (names.drop (j+1)) (j+1)).map bf),.lst []]→lsLp2.spec cs [.v rc,.v (aP tbl),.ref 0,.v (.bool met),.v (.int i),.v (.lst (names.map ag)),.v (.lst (us.map ag))] [.lst (fs++l.map bf),.lst []] k X:=fun {l} hz z=>by
  rw[List.map_append,←List.append_assoc] at z
  exact⟨rc,tbl,met,i,names,us,j+1,fs++l.map bf,rfl,rfl,h1,h2,h3,hlt,e2,by simp only[List.length_append,List.length_map] at hz ⊢;omega,z⟩))
local macro_rules | `(tactic| walk_at "ag") => `(tactic| (
 repeat walk_at "n_3"))
local macro_rules | `(tactic| walk_at "ah") => `(tactic| (
 rw[List.map_append,cN] at fin
 refine And.intro (by show ((outs.map ax)++[ax (onm srcs (some x) re,re)]).length≤1000;rw[List.length_append];simp only[List.length_cons,List.length_nil];omega) ?_))
local macro_rules | `(tactic| walk_at "ai") => `(tactic| (
 refine And.intro hal2 ?_
 refine And.intro ?_ ?_
 ·refine And.intro ?_ ?_
  ·intro vals M k X z
   obtain⟨b,tbl,col,todo,rfl,rfl,e,h1,h2,z⟩:=z
   cases todo with
   |nil=>exact z
   |cons s r=>cases e
  ·intro c cs vals M k X z
   obtain⟨b,tbl,col,todo,rfl,rfl,e,h1,h2,z⟩:=z
   cases todo with
   |nil=>cases e
   |cons a r=>
    cases e
    have ha:=h1 a (.head _)
    have h1':∀x∈r,Sh x.1:=fun x hx=>h1 x (.tail _ hx)
    unfold dY at z
    cases b<;>cases tbl with
    |some t=>
     first
      |exact And.intro rfl ⟨false,some t,col,r,rfl,rfl,rfl,h1',h2,z⟩
      |exact And.intro rfl ⟨true,some t,col,r,rfl,rfl,rfl,h1',h2,z⟩
    |none=>
     refine And.intro ⟨Nat.le_trans ha.1 (by decide),ha.2⟩ ?_
     refine And.intro ⟨Nat.le_trans h2.1 (by decide),h2.2⟩ ?_
     cases hb:sEq (ae a.1) (ae col) with
     |true=>
      rw[hb] at z
      first|refine ai hb ?_|refine ai rfl ?_|skip
      first
       |exact And.intro rfl ⟨false,none,col,r,rfl,rfl,rfl,h1',h2,z⟩
       |exact And.intro rfl ⟨true,none,col,r,rfl,rfl,rfl,h1',h2,z⟩
     |false=>
      rw[hb] at z
      first|refine aj hb ?_|refine aj rfl ?_|skip
      first
       |exact And.intro rfl ⟨false,none,col,r,rfl,rfl,rfl,h1',h2,z⟩
       |exact And.intro rfl ⟨true,none,col,r,rfl,rfl,rfl,h1',h2,z⟩))
local macro_rules | `(tactic| walk_at "aj") => `(tactic| (
 refine⟨rfl,p,abc.map ag,rfl,rfl,hp,by decide,by decide,fun c hc q2 hq2=>?_⟩
 obtain⟨s,hs,rfl⟩:=List.mem_map.mp hc
 have hsh:=sU s hs
 refine⟨rfl,q2,s,rfl,rfl,hq2,Nat.le_trans hsh.1 (by decide),hsh.2,fun q3 hq3=>?_,fun q3 hq3=>?_⟩
 ·exact⟨q3,rc,th,rfl,rfl,hq3,fun names q hlen hall hq=>z (s::names) q (by simp[hlen]) (fun x hx=>by
   cases hx with
   |head=>exact⟨s,hs,.inl rfl⟩
   |tail _ hx=>exact hall x hx) hq⟩
 ·exact⟨q3,rc,th,rfl,rfl,hq3,fun names q hlen hall hq=>z (upS s::names) q (by simp[hlen]) (fun x hx=>by
   cases hx with
   |head=>exact⟨s,hs,.inr rfl⟩
   |tail _ hx=>exact hall x hx) hq⟩))
local macro_rules | `(tactic| walk_at "ak") => `(tactic| (
 obtain⟨⟨mr,cells,fo,ml,H⟩,g,o⟩:=S))
local macro_rules | `(tactic| walk_at "al") => `(tactic| (
 ·intro y c hm
  obtain⟨o,h1,h2⟩:=eD Y y c hm
  exact⟨o,_,h1,h2⟩
 ·intro y c e
  obtain⟨v,hv,r⟩:=bd.find e
  have hmem:(y,c)∈m0:=by
   have:∀l:List (Str×CV),lk y l=some c→(y,c)∈l:=fun l=>by
    induction l with
    |nil=>intro h;cases h
    |cons p l ih=>
     obtain⟨z,b⟩:=p
     intro h
     unfold lk at h
     by_cases q:z=y
     ·rw[if_pos q] at h;cases h;subst q;exact .head _
     ·rw[if_neg q] at h;exact .tail _ (ih h)
   exact this _ e
  have hkind:=List.all_eq_true.mp kinds _ hmem
  have bnd:(binds.map (·.1)).Nodup:=hnm▸nd0
  rcases Bool.or_eq_true_iff.mp hkind with q|q
  ·have q':scope.names.lookup y=some .local:=by simpa using q
   exact .inl ⟨q',v,nc bnd hv q',r⟩
  ·have q':scope.names.lookup y=some .cell:=by simpa using q
   obtain⟨ad,had⟩:=Option.isSome_iff_exists.mp (cellsFrom_some scope.names (s.heap.objs.size+1) [] (.inl q'))
   obtain⟨o,h1,h2⟩:=eD Y y ad (mem_of_lookup had)
   have hb:bindC (envOfC qual scope s.heap.objs.size fa cdv).kindOf binds (fun _=>none) y=some v:=nf bnd hv (by show scope.names.lookup y≠_;rw[q'];decide)
   have h2':o.data=.cell (some v):=h2.trans (congrArg Data.cell hb)
   exact .inr ⟨.inl q',ad,o,v,had,List.mem_append_right _ h1,h2',r⟩))
local macro_rules | `(tactic| walk_at "am") => `(tactic| (
 refine And.intro hal2 ?_
 refine And.intro ?_ ?_
 ·refine And.intro ?_ ?_
  ·intro vals M k X z
   obtain⟨b,tbl,col,todo,rfl,rfl,e,h1,h2,z⟩:=z
   cases todo with
   |nil=>exact z
   |cons s r=>cases e
  ·intro c cs vals M k X z
   obtain⟨b,tbl,col,todo,rfl,rfl,e,h1,h2,z⟩:=z
   cases todo with
   |nil=>cases e
   |cons a r=>
    cases e
    have ha:=h1 a (.head _)
    have h1':∀x∈r,Sh x.1:=fun x hx=>h1 x (.tail _ hx)
    unfold dY at z
    cases b<;>cases tbl with
    |some t=>
     first
      |exact⟨false,some t,col,r,rfl,rfl,rfl,h1',h2,z⟩
      |exact⟨true,some t,col,r,rfl,rfl,rfl,h1',h2,z⟩
    |none=>
     refine And.intro ⟨Nat.le_trans ha.1 (by decide),ha.2⟩ ?_
     refine And.intro ⟨Nat.le_trans h2.1 (by decide),h2.2⟩ ?_
     cases hb:sEq (ae a.1) (ae col) with
     |true=>
      rw[hb] at z
      first|refine ai hb ?_|refine ai rfl ?_|skip
      first
       |exact⟨false,none,col,r,rfl,rfl,rfl,h1',h2,z⟩
       |exact⟨true,none,col,r,rfl,rfl,rfl,h1',h2,z⟩
     |false=>
      rw[hb] at z
      first|refine aj hb ?_|refine aj rfl ?_|skip
      first
       |exact⟨false,none,col,r,rfl,rfl,rfl,h1',h2,z⟩
       |exact⟨true,none,col,r,rfl,rfl,rfl,h1',h2,z⟩))
local macro_rules | `(tactic| walk_at "an") => `(tactic| (
 refine⟨rfl,?_⟩
 refine .inl ⟨rfl,rfl,.inl ⟨rfl,?_⟩⟩
 refine And.intro hro2 ?_
 refine And.intro (And.intro ?_ ?_) ?_
 ·intro vals M k X z
  obtain⟨g,srcs,als,n,cols,src,gl,outs,cs,todo,rfl,rfl,e,hz,z⟩:=z
  cases todo with
  |nil=>
   have z:k .next [coF g,.v (.lst gl),.v .none,.v (.lst (cs++[]))] _:=z
   rw[List.append_nil] at z
   exact z
  |cons s r=>cases e
 ·intro c cs vals M k X z
  obtain⟨g,srcs,als,n,cols,src,gl,outs,cs,todo,rfl,rfl,e,hz,z⟩:=z
  cases todo with
  |nil=>cases e
  |cons o r=>
   cases e
   have h1:o.2.aggs.length≤1:=by unfold RE.aggs;cases o.2.isC<;>simp
   have hz':cs.length+(r.length+1)≤900:=hz
   have z:k .next [coF g,.v (.lst gl),.v .none,.v (.lst (cs++(o.2.aggs++dC r)))] _:=z
   rw[←List.append_assoc] at z
   cases g
   ·refine .inl ⟨rfl,rfl,.inr ⟨o.2,rfl,?_⟩⟩
    refine And.intro (by omega) ?_
    exact⟨false,srcs,als,n,cols,src,gl,outs,cs++o.2.aggs,r,rfl,rfl,rfl,by rw[List.length_append];omega,z⟩
   ·refine .inl ⟨rfl,rfl,.inr ⟨o.2,rfl,?_⟩⟩
    refine And.intro (by omega) ?_
    exact⟨true,srcs,als,n,cols,src,gl,outs,cs++o.2.aggs,r,rfl,rfl,rfl,by rw[List.length_append];omega,z⟩))
local macro_rules | `(tactic| walk_at "ao") => `(tactic| (
 have H₁:=H.pushM (a:=s.heap.objs.size) (o:=.lst []) (lx:=[(s.heap.objs.size,be [] 0)]) F₁ N₁ (bp lt1 H.nd) (.lst .nil)
 have hget:M.get s.heap.objs.size=none:=H.noM (Heap.get?_none_of_le (Nat.le_refl _))
 obtain⟨J,hJ0,hfin,hstep⟩:=h s.heap.objs.size hget
 generalize s.heap.objs.size=accA at *
 generalize hml1:[(accA,be [] 0)]++ml=ml1 at H₁
 clear hml1 H N₁ F₁ lt1
 refine wpAny_newFunctionEnv ci.nocell (by intro y hy;simp at hy) (fun h₂ hns hsb=>?_) ci.kind
 dsimp only at hns hsb ⊢
 have keep:∀b o,h₁.get? b=some o→h₂.get? b=some o:=fun b o e=>by
  have hb:b≠h₁.objs.size:=Nat.ne_of_lt (Heap.lt_size e)
  exact(hsb.2 b hb).trans (Heap.get?_push_of_some _ e)
 obtain⟨oL,es,ep,hL,hLd,hLk,hLf⟩:=H₁.F.ns
 have hLh0:D.h₀.get? f.L=none:=Heap.get?_none_of_le H₁.F.above
 generalize hC:h₁.objs.size=C at hns hsb ⊢
 have hCn:h₁.get? C=none:=hC▸Heap.get?_none_of_le (Nat.le_refl _)
 have hC0:D.h₀.get? C=none:=by
  cases q:D.h₀.get? C with
  |none=>rfl
  |some o=>have:=H₁.F.keep _ _ q;rw[hCn] at this;cases this))
local macro_rules | `(tactic| walk_at "ap") => `(tactic| (
 have err:∀{f2:Led} {e:Value} {s2:Shared},Sub fz f2→XP D f f2 X e s2→notedBy (model D.prog D.w) A f.env (fun e s'=>∃fz' M' xo msg,Sub fz fz'∧St D.cls D.h₀ D.os f fz' [] M' xo s'∧ExT D xo fz' msg e∧X msg M') e s2:=
  fun kk hx=>jC a hx fun s' _ ⟨a1,a2,a3,a4,b1,b2,b3,b4⟩=>⟨a1,a2,a3,a4,kk.tr b1,b2,b3,b4⟩))
local macro_rules | `(tactic| walk_at "aq") => `(tactic| (
 obtain⟨as1,a,Mh1,s1,r1,v1,h1⟩:=q))
local macro_rules | `(tactic| walk_at "ar") => `(tactic| (
 refine(List.Perm.nodup_iff ?_).mp nd
 refine List.perm_iff_count.mpr fun b=>?_
 simp only[aa,List.map_append,List.map_cons,List.map_nil,List.count_append,List.count_cons,List.count_nil]
 omega))
local macro_rules | `(tactic| walk_at "as") => `(tactic| (
 refine aA (fun h1=>?_) (fun _=>?_)
 ·exact absurd (hneg.symm.trans h1) (by decide)
 refine af (v:=AV.v (aJ c)) hn ?_
 refine And.intro hl ?_
 refine And.intro (by show 3≤1000;omega) ?_))
local macro_rules | `(tactic| walk_at "at") => `(tactic| (
 cases e
 have o1:=ok s (.head _)
 have ok':∀x∈r,gi x:=fun x hx=>ok x (.tail _ hx)
 rw[i4] at z hz
 have z:k .next [.v colv,.v (aP w),.ref 5,.v (.bool (met||(a7 w s||r.any (a7 w))))] (scM true srcs [] n++[.lst [],.lst (fs++(bif a7 w s then aO w s s.cols 0++bV w r else bV w r).map ax)]):=z
 have hlen:(s.cols.map aJ).length≤1000:=by rw[List.length_map];exact o1.cols.1
 have hx1:(0:Int)≤((s.cols.map aJ).length:Int)∧((s.cols.map aJ).length:Int)≤1000:=⟨by omega,by omega⟩
 have hx2:(0:Int)≤0∧((s.cols.map aJ).length:Int)≤1000∧(0:Int)≤((s.cols.map aJ).length:Int):=⟨by omega,by omega,by omega⟩
 have hit:(List.range (((s.cols.map aJ).length:Int) - 0).toNat).map (fun(j:Nat)=>CV.int ((0:Int)+j))=(List.range' 0 (s.cols.length - 0)).map (fun(j:Nat)=>CV.int ((0:Int)+j)):=by
  rw[List.length_map,show ((s.cols.length:Int) - 0).toNat=s.cols.length - 0 by omega,List.range_eq_range']))
local macro_rules | `(tactic| walk_at "au") => `(tactic| (
 obtain⟨i,j,r,s,rfl,hri,hsj⟩:=il hm
 have e0:fL rs (.col i j)=s:=by show ((rs[i]?).bind (fun r=>r.names[j]?)).getD "" = s;rw[hri];show (r.names[j]?).getD "" = s;rw[hsj];rfl
 have e1:aX rs (.ex (.nm t c) al)=.ok [(al.getD s,.col i j)]:=by show (match ac rs [] t c with|.no m=>_|.ok tag=>_)=_;rw[hm];show Res.ok [(al.getD (fL rs (.col i j)),_)]=_;rw[e0]
 have e2:bO rs (.ex (.nm t c) al)=al:=by show (match aX rs (.ex (.nm t c) al) with|.no _=>_|.ok _=>_)=_;rw[e1]
 rw[e1,e2] at hh
 have hnr:(match bP (rs.map Row.cv) (i:Int) with|some c=>some (AV.v c)|none=>none)=some (AV.v r.cv):=by rw[jB (by rw[List.getElem?_map,hri];rfl)]
 have hns:(match bP (r.names.map ag) (j:Int) with|some c=>some (AV.v c)|none=>none)=some (AV.v (ag s)):=by rw[jB (by rw[List.getElem?_map,hsj];rfl)]
 have hnl:(r.names.map ag).length≤1000:=by rw[List.length_map];have:=(hr r (List.mem_of_getElem? hri)).nlen;omega))
local macro_rules | `(tactic| walk_at "av") => `(tactic| (
 obtain⟨ea,hea,_,_⟩:=lT S3 ex3
 subst hea
 refine wpAny_handleBy_cons (codeAny_handlers_test ?_) (by intro q;cases q)
 have ok:=a.fc
 obtain⟨⟨mr,cells,fo,ml,H⟩,g,os⟩:=id S3
 refine Calls.Name_function_global ok.kind hx (Calls.loadGlobal_global (ok.glo▸D.T.g.keeps H.F.keep) (mg_of D.X D.T.g hg) ?_) (by decide)
 obtain⟨e',C',dx,vs,sl,n',t,u,hev,hC',hdx,hsz,T,tc,td,ts,tsl,hxo,h1,hts⟩:=id ex3
 cases hev
 rw[ek.k.cls] at hC'
 cases hC'
 have hob:=(H.N (ea,⟨.ref C,some dx,.fields vs,sl⟩) (by rw[hxo];simp[aa])).1
 have hbase:bm.contains (.type "BaseException")=true:=by
  have z:=ek.k.base
  unfold mroIn clsIn at z
  rw[hl] at z
  simp only[Option.bind_some] at z
  split at z
  ·cases z
  ·simpa using z
 obtain⟨h3,g3,d3,t3,o3⟩:=s3
 refine wpAny_excMatches_sub_self (D.X.keeps H.F.keep _ _ hl) hob rfl hbase ?_))
local macro_rules | `(tactic| walk_at "aw") => `(tactic| (
 first|refine af (cI (Res.no (aH false (outs.map am).length))) ?_|skip
 refine And.intro (bw (Res.no (aH false (outs.map am).length))) ?_
 cases hno:Res.isNo (Res.no (aH false (outs.map am).length)) with
 |true=>
  first|refine ai ((bj (Res.no (aH false (outs.map am).length))).trans hno) ?_|skip
  obtain⟨m,hm⟩:=eA hno
  have go:=mk (Ex.lit n) hch q2 hq2
  rw[hstep (Ex.lit n),kZ (((show aq rs outs als false (Ex.lit n)=Res.no (aH false (outs.map am).length) from (by rw[jF hr,List.length_map]))).trans hm)] at go
  have go2:∀L:List CV,L=bu (.no m)→grpLp.spec cs [.ref 0,.v (.lst (rs.map Row.cv)),.v (.lst (outs.map am)),.v (.lst (als.map alT)),.ref 1,.v (.tup L)] [ak q2,.lst (([]++[(Ex.lit n)]).map Ex.d),.lst []] k X:=fun L hL=>by
   subst hL;exact go
  exact go2 _ (congrArg bu hm)
 |false=>cases hno))
local macro_rules | `(tactic| walk_at "ax") => `(tactic| (
 first|refine af (cI (Res.no (aH true (outs.map am).length))) ?_|skip
 refine And.intro (bw (Res.no (aH true (outs.map am).length))) ?_
 cases hno:Res.isNo (Res.no (aH true (outs.map am).length)) with
 |true=>
  first|refine ai ((bj (Res.no (aH true (outs.map am).length))).trans hno) ?_|skip
  obtain⟨m,hm⟩:=eA hno
  have go:=mk (Ex.lit n) hch q2 hq2
  rw[hstep (Ex.lit n),kZ (((show aq rs outs als true (Ex.lit n)=Res.no (aH true (outs.map am).length) from (by rw[jF hr,List.length_map]))).trans hm)] at go
  have go2:∀L:List CV,L=bu (.no m)→grpLp.spec cs [.ref 0,.v (.lst (rs.map Row.cv)),.v (.lst (outs.map am)),.v (.lst (als.map alT)),.ref 1,.v (.tup L)] [ak q2,.lst (([g]++[(Ex.lit n)]).map Ex.d),.lst []] k X:=fun L hL=>by
   subst hL;exact go
  exact go2 _ (congrArg bu hm)
 |false=>cases hno))
local macro_rules | `(tactic| walk_at "ay") => `(tactic| (
 intro fz m A s v w _ S r1 r2;cases r1;cases r2))
local macro_rules | `(tactic| walk_at "az") => `(tactic| (
 have hT:s.TypeIs (.ref it) "range_iterator":=⟨_,ho,hc⟩
 unfold pyNext
 refine wpAny_bind (wpAny_attempt (wpAny_callSpecial?_slot (name:=Str.ofString "__next__") hT PySem.F.slot_range_iterator_next
  (wpAny_call_entry PySem.F.slot_range_iterator_next hT PySem.F.entry_range_iterator_next ?_ (PySem.F.args_range_iterator_next_1 _))))
 show wpAny _ _ (field (.ref it) 0 >>= _) _ _ s
 refine wpAny_bind (wpAny_field ho hd (x:=rawInt x) rfl ?_)
 show wpAny _ _ (field (.ref it) 1 >>= _) _ _ s
 refine wpAny_bind (wpAny_field ho hd (x:=rawInt left) rfl ?_)
 show wpAny _ _ (field (.ref it) 2 >>= _) _ _ s
 refine wpAny_bind (wpAny_field ho hd (x:=rawInt 1) rfl ?_)
 show wpAny _ _ (if left≤0 then _ else _) _ _ s))
local macro_rules | `(tactic| walk_at "aA") => `(tactic| (
 have hnm:=bd.names
 have kb:(binds.all fun y=>scope.names.lookup y.1 == some .local||scope.names.lookup y.1 == some .cell)=true:=by
  have e1:∀l:List (Str×CV),(l.all fun y=>scope.names.lookup y.1 == some .local||scope.names.lookup y.1 == some .cell)=((l.map (·.1)).all fun y=>scope.names.lookup y == some .local||scope.names.lookup y == some .cell):=fun l=>by simp[List.all_map,Function.comp_def]
  have e2:∀l:List (Str×Value),(l.all fun y=>scope.names.lookup y.1 == some .local||scope.names.lookup y.1 == some .cell)=((l.map (·.1)).all fun y=>scope.names.lookup y == some .local||scope.names.lookup y == some .cell):=fun l=>by simp[List.all_map,Function.comp_def]
  rw[e2,hnm,←e1];exact kinds))
local macro_rules | `(tactic| walk_at "aB") => `(tactic| (
 refine⟨rfl,?_⟩))
local macro_rules | `(tactic| walk_at "aC") => `(tactic| (
 refine(o.e _ _ _ _ _ _ _ _ _ _ _ F T (l.mono s1.1) r1 h1).mono (fun c2 M2 q=>?_) fun _ _ z=>z.tr s1
 obtain⟨as2,b,Mh2,s2,r2,v2,h2⟩:=q))
local macro_rules | `(tactic| walk_at "aD") => `(tactic| (
 rw[bl hlt,List.map_cons] at e
 obtain⟨e1,e2⟩:=List.cons.inj e
 rw[Int.zero_add] at e1
 subst e1))
local macro_rules | `(tactic| walk_at "aE") => `(tactic| (
 intro fz m A s vs a S r
 obtain⟨v,rfl,r'⟩:=r.one
 show wpAny _ _ (call _ _) _ _ _
 cases r'))
local macro_rules | `(tactic| walk_at "aF") => `(tactic| (
 refine⟨rfl,p,aliL.map aP,rfl,rfl,hp,by decide,by decide,fun c hc q hq=>?_⟩
 obtain⟨al,hal,rfl⟩:=List.mem_map.mp hc
 refine⟨rfl,q,2,rfl,rfl,hq,by decide,by decide,fun d q2 hq2 d0 d1=>?_⟩
 refine And.intro ⟨by omega,by omega⟩ ?_
 refine And.intro ⟨by omega,by omega,by omega⟩ ?_
 refine And.intro ?_ ?_))
local macro_rules | `(tactic| walk_at "aG") => `(tactic| (
 have hlen:i=vals.length:=by
  have:=List.getElem?_eq_none_iff.mp hv
  omega
 subst hlen
 obtain⟨hP,hF⟩:=fin M1 hi
 refine wpAny_bind (wpAny_mono ((pr.nx f d vals.length f1 m1 M1 s' A _ calm a (k0.tr k1) hP S1).2 hv) (fun r s2 h2=>?_) fun _ _ z=>z)
 obtain⟨rfl,S2⟩:=h2
 exact wpAny_pure ⟨f1,m1,M1,k1,S2,hF⟩))
local macro_rules | `(tactic| walk_at "aH") => `(tactic| (
 have hlt:=(List.getElem?_eq_some_iff.mp hv).1
 obtain⟨hP,hW⟩:=step i c M1 (dts (i+1)) hv hi
 refine wpAny_bind (wpAny_mono ((pr.nx f d i f1 m1 M1 s' A _ calm a (k0.tr k1) hP S1).1 c hv) (fun r s2 h2=>?_) fun _ _ z=>z)
 obtain⟨v,f2,rfl,k2,S2,r2⟩:=h2
 have S2c:=hmc _ _ _ _ _ ((k0.tr k1).tr k2) S2))
local macro_rules | `(tactic| walk_at "aI") => `(tactic| (
 refine⟨rfl,false,srcs,als,n',rfl,.inl ⟨rfl,?_⟩⟩
 have hro2:(r.1.map ax).length≤1000:=by rw[List.length_map];omega
 refine And.intro hro2 ?_
 refine And.intro (And.intro ?_ ?_) ?_
 ·intro vals M k X z
  obtain⟨g,srcs,als,n,outs,rfl,e,z⟩:=z
  cases outs with
  |nil=>exact z
  |cons s r=>cases e
 ·intro c cs vals M k X z
  obtain⟨g,srcs,als,n,outs,rfl,e,z⟩:=z
  cases outs with
  |nil=>cases e
  |cons o r=>
   cases e
   cases g
   ·refine⟨rfl,?_⟩
    exact⟨false,srcs,als,n,r,rfl,rfl,z⟩
   ·refine⟨rfl,?_⟩
    exact⟨true,srcs,als,n,r,rfl,rfl,z⟩))
local macro_rules | `(tactic| walk_at "aJ") => `(tactic| (
 refine And.intro (And.intro ?_ ?_) ?_))
local macro_rules | `(tactic| walk_at "aK") => `(tactic| (
 have hf:fs.length≤999:=by simp only[Option.isSome_some,Bool.true_or,cond_true,List.length_cons] at hz;omega))
local macro_rules | `(tactic| walk_at "aL") => `(tactic| (
 rw[hr] at h
 refine⟨rfl,srcs,n,e,al,re,rfl,rfl,so.len,hcl,h1.2 re hr,?_⟩))
local macro_rules | `(tactic| walk_at "aM") => `(tactic| (
 obtain⟨o,ho,hn⟩:=kC hr
 obtain⟨hr1,hr2⟩:=(show decide (1≤n)=true∧decide (n≤(outs.length:Int))=true from Bool.and_eq_true_iff.mp hr)
 rw[←hlo] at hr2
 refine ai hr1 ?_
 refine And.intro hol ?_
 refine ai hr2 ?_
 refine af hn ?_
 refine And.intro hol ?_))
local macro_rules | `(tactic| walk_at "aN") => `(tactic| (
 rw[List.map_append] at fin
 refine And.intro (by rw[List.length_map,List.length_map];omega) ?_
 exact fin))
local macro_rules | `(tactic| walk_at "aO") => `(tactic| (
 have lt:∀p∈aa fz f.pin cells fo ml [],p.1 < s.heap.objs.size:=fun p hp=>Heap.lt_size (H.N p hp).1))
local macro_rules | `(tactic| walk_at "aP") => `(tactic| (
 rw[List.map_append,List.map_cons,List.nodup_append] at nd
 obtain⟨n1,n2,n3⟩:=nd
 rw[List.nodup_cons] at n2
 rcases List.mem_append.mp hp with hp|hp
 ·exact n3 _ (List.mem_map_of_mem hp) _ (.head _) q
 ·exact n2.1 (List.mem_map.mpr ⟨p,hp,q⟩)))
local macro_rules | `(tactic| walk_at "aQ") => `(tactic| (
 refine And.intro ⟨by omega,by omega⟩ ?_
 refine And.intro ⟨by omega,by omega,by omega⟩ ?_))
local macro_rules | `(tactic| walk_at "aR") => `(tactic| (
 have:=congrArg List.length e))
local macro_rules | `(tactic| walk_at "aS") => `(tactic| (
 obtain⟨f1,c1,M1,k1,S1,r1,w1⟩:=h₁
 refine wpAny_mono (w1 f1 A s₁ a S1) (fun v2 s₂ h₂=>?_) fun _ _ z=>z.sub k1
 obtain⟨f2,c2,M2,k2,S2,r2,w2⟩:=h₂))
local macro_rules | `(tactic| walk_at "aT") => `(tactic| (
 ·refine wpAny_mono core (fun acc s3 h3=>wpAny_mono h3 (fun cenv s4 h4=>codeAny_mono h4 fun r s5 h5=>?_) fun _ _ z=>z.sub k1) fun _ _ z=>z.sub k1
  cases r with
  |ok fl=>exact h5
  |error e=>
   obtain⟨mm,hn,hr⟩:=h5
   exact⟨mm,hn,fun h' hs cenv' hc=>wpAny_mono (hr h' hs cenv' hc) (fun _ _ z=>z) fun _ _ z=>z.sub k1⟩
 ·intro accA C o fz' M' s2 fl mm k S2 hn z
  exact⟨mm,S2.nsC hn,fun h' hs=>⟨fz',.ref accA,M',k1.tr k,S2.done (tk:=s2.toks) hs.extBut,.ref _,z⟩⟩))
local macro_rules | `(tactic| walk_at "aU") => `(tactic| (
 refine codeAny_loop rfl (fun n s'=>∃i fz' m' M',i+n=vals.length∧Sub fz fz'∧SS D (f.more it (dts i)) fz' m' M' s'∧J i M') (fun n s' hI=>?_) vals.length ⟨0,fz,m,M,by omega,Sub.rfl',S,h0⟩
 obtain⟨i,f1,m1,M1,hn,k1,S1,hi⟩:=hI))
local macro_rules | `(tactic| walk_at "aV") => `(tactic| (
 have hr2:decide (n≤((outs.map am).length:Int))=false:=by
  have:(decide (1≤n)&&decide (n≤(outs.length:Int)))=false:=hr
  rw[hr1,Bool.true_and] at this
  rw[hlo];exact this
 refine ai hr1 ?_
 refine And.intro hol ?_
 refine aj hr2 ?_))
local macro_rules | `(tactic| walk_at "aW") => `(tactic| (
 refine⟨rfl,q,(["a","k"]:List Str).map ag,rfl,rfl,hq,by decide,by decide,fun cv hcv q2 hq2=>?_⟩
 obtain⟨c,hc,rfl⟩:=List.mem_map.mp hcv
 have hkc:=sR hc
 have hch:GrpCh (.nm none c):=.inr (.inr ⟨none,c,rfl,by simp[tblL],hkc⟩)))
local macro_rules | `(tactic| walk_at "aX") => `(tactic| (
 rw[h2] at z hz
 have hf:fs.length≤999:=by simp only[cond_true,List.length_cons] at hz;omega))
local macro_rules | `(tactic| walk_at "aY") => `(tactic| (
 refine And.intro hlen ?_))
local macro_rules | `(tactic| walk_at "aZ") => `(tactic| (
 obtain⟨ci,hci⟩:=fh hi
 obtain⟨cj,hcj⟩:=fh hj
 walk_at "n_3"
 refine⟨rfl,true,s,ae c,rfl,rfl,os,?_⟩
 rw[hi]
 walk_at "n_3"
 refine⟨rfl,false,a,ae c,rfl,rfl,oa,?_⟩
 rw[hj]
 walk_at "n_3"
 refine⟨rfl,a.alias,c,a,j,cj,hcj,oa.1,.inr (.inl ⟨rfl,rfl⟩),?_⟩
 walk_at "n_3"
 refine⟨rfl,s.alias,c,s,i,ci,hci,os.1,.inr (.inr ⟨rfl,rfl⟩),?_⟩
 walk_at "n_3"
 exact h (.nm a.alias c a.num j cj.2.1 cj.2.2) (.nm s.alias c s.num i ci.2.1 ci.2.2) rfl rfl))
local macro_rules | `(tactic| walk_at "a0") => `(tactic| (
 obtain⟨fz',M',k,S',h1,h2⟩:=h₁
 cases v with
 |true=>exact wpAny_mono (h1 rfl fz' A s₁ a S') (fun _ _ z=>z.sub k) fun _ _ z=>z.sub k
 |false=>exact wpAny_mono (h2 rfl fz' A s₁ a S') (fun _ _ z=>z.sub k) fun _ _ z=>z.sub k))
local macro_rules | `(tactic| walk_at "a1") => `(tactic| (
 obtain⟨f1,c1,M1,k1,S1,v1,w1⟩:=h₁
 refine wpAny_mono (w1 f1 A s₁ a S1) (fun v2 s₂ h₂=>?_) fun _ _ z=>z.sub k1
 obtain⟨f2,c2,M2,k2,S2,v2',w2⟩:=h₂
 refine wpAny_mono (w2 f2 m A s₂ v v2 a S2 (v1.mono k2) v2') (fun v3 s₃ h₃=>?_) fun _ _ z=>z.sub (k1.tr k2)
 obtain⟨f3,c3,M3,k3,S3,v3',w3⟩:=h₃
 refine wpAny_mono (w3 f3 m A s₃ v3 a S3 v3') (fun t s₄ h₄=>?_) fun _ _ z=>z.sub ((k1.tr k2).tr k3)
 obtain⟨f4,M4,k4,S4,z1,z2⟩:=h₄))
local macro_rules | `(tactic| walk_at "a2") => `(tactic| (
 obtain⟨⟨cdv,qual,fd,fa',m0,b1,b2,b3⟩,_⟩:=F
 have hl:=rv.length
 have hl2:=rf.length
 have hkn:(kws.map (·.1)).length=kn.length:=by rw[h2]
 simp only[List.length_map] at hkn
 obtain⟨n1,n2⟩:=b3 (cs++ck.map (·.2)) (by simp;omega)
 refine pz (m0:=m0 (cs++ck.map (·.2))) fa' (fun fz s vs ks K r1 r2=>?_) n1 n2 fun L envs frs pin=>?_
 ·have:=b1 fz s vs ks cs (ck.map (·.2)) K r1 r2 (by omega) (by simp;omega)
  rw[h2];exact this))
local macro_rules | `(tactic| walk_at "a3") => `(tactic| (
 refine And.intro hx1 ?_
 refine And.intro hx2 ?_
 refine And.intro ?_ ?_))
local macro_rules | `(tactic| walk_at "a4") => `(tactic| (
 refine aA (fun h1=>?_) (fun h1=>?_)))
local macro_rules | `(tactic| walk_at "a5") => `(tactic| (
 exact go2 _ (congrArg bu hm)))
local macro_rules | `(tactic| walk_at "a6") => `(tactic| (
 intro fz A s a S
 refine wpAny_Try_except (wpAny_mono (h fz A s a S) (fun fl s₁ h₁=>?_) (fun e s₁ h₁=>?_))
 ·cases fl<;>first|exact wpAny_execs_nil h₁|exact h₁
 obtain⟨f1,M1,xo,msg,k1,S1,ex,hh⟩:=h₁
 refine oX a.fc a.frames S1 ex fun xo2 s2 S2 ex2=>du S2 ex2 fun xo3 s3 S3 ex3=>?_
 have hC:=ek.obj
 obtain⟨nm,q,N,bs,bm,hdct,sn,sub,ab,col,dd,k0,k1',k2,k3,k5,hl,hB,hA,hN⟩:=ek.obj
 have aM:=a.mark (some e)))
local macro_rules | `(tactic| walk_at "a7") => `(tactic| (
 have W:=fm (D:=D) (f:=f.more it (dts (i+1))) (d:=d) (c:=c5) (X:=X) (Φ:=fun _ M'=>M'=M5.set accA (.lst (vs++[c5]))) hg hz rfl
 refine wpAny_bind (wpAny_mono (W f5 m3 A s5 [.ref accA,x] a.more S5 (.cons (.ref _) (.cons r5 .nil))) (fun y s6 h6=>?_) fun _ _ z=>err kk5 z.less1)
 obtain⟨f6,c6,M6,k6,S6,r6,rfl⟩:=h6
 exact wpAny_pure (wpAny_pure ⟨rfl,n - 1,by omega,i+1,f6,m3,_,by omega,kk5.tr k6,S6,hJ⟩)))
local macro_rules | `(tactic| walk_at "a8") => `(tactic| (
 ·refine⟨srcs,n,s,colv,(some t),true,0,fs,rfl,rfl,o1,Nat.zero_le _,hit,by rw[List.drop_zero];simp only[List.length_append] at hz;omega,?_⟩
  exact And.intro rfl ⟨srcs,n,colv,(some t),true,r,fs++(aO (some t) s s.cols 0).map ax,rfl,rfl,rfl,ok',by simp only[List.length_append,List.length_map] at hz ⊢;omega,by
   rw[List.map_append,←List.append_assoc] at z;rw[Bool.true_or];exact z⟩))
local macro_rules | `(tactic| walk_at "a9") => `(tactic| (
 have fin:=ih 0 2 g1 g2 g3 (ColE.ex e (some x)).c re.c (outs++[(onm srcs (some x) re,re)]) (als++[(x,re,(((outs.map ax)++[ax (onm srcs (some x) re,re)]).length:Int) - 1)]) hp (.inr (.inl rfl)) hs' hc' (by rw[List.length_append];simp only[List.length_cons,List.length_nil];omega) (by simp only[List.length_append,List.length_cons,List.length_nil];omega) (by rw[List.map_append];exact h)))
local macro_rules | `(tactic| walk_at "ba") => `(tactic| (
 have fin:=ih 1 2 g1 g2 g3 (ColE.ex e (some x)).c re.c (outs++[(onm srcs (some x) re,re)]) (als++[(x,re,(((outs.map ax)++[ax (onm srcs (some x) re,re)]).length:Int) - 1)]) hp (.inr (.inl rfl)) hs' hc' (by rw[List.length_append];simp only[List.length_cons,List.length_nil];omega) (by simp only[List.length_append,List.length_cons,List.length_nil];omega) (by rw[List.map_append];exact h)))
local macro_rules | `(tactic| walk_at "bb") => `(tactic| (
 have fin:=ih 2 2 g1 g2 g3 (ColE.ex e (some x)).c re.c (outs++[(onm srcs (some x) re,re)]) (als++[(x,re,(((outs.map ax)++[ax (onm srcs (some x) re,re)]).length:Int) - 1)]) hp (.inr (.inl rfl)) hs' hc' (by rw[List.length_append];simp only[List.length_cons,List.length_nil];omega) (by simp only[List.length_append,List.length_cons,List.length_nil];omega) (by rw[List.map_append];exact h)))
local macro_rules | `(tactic| walk_at "bc") => `(tactic| (
 have fin:=ih 3 2 g1 g2 g3 (ColE.ex e (some x)).c re.c (outs++[(onm srcs (some x) re,re)]) (als++[(x,re,(((outs.map ax)++[ax (onm srcs (some x) re,re)]).length:Int) - 1)]) hp (.inr (.inl rfl)) hs' hc' (by rw[List.length_append];simp only[List.length_cons,List.length_nil];omega) (by simp only[List.length_append,List.length_cons,List.length_nil];omega) (by rw[List.map_append];exact h)))
local macro_rules | `(tactic| walk_at "bd") => `(tactic| (
 unfold ac at h
 have hc3:=hc.1
 generalize aL tbl col rs 0=fs at h hfl ⊢
 have amb:(p q:Nat×Nat)→(r:List (Nat×Nat))→decide ((1:Int) < ((p::q::r).map jz).length)=true:=fun p q r=>decide_eq_true (by simp only[List.length_map,List.length_cons];omega)
 have hL1:("no such column: " : Str).length=16:=by kernel_rfl
 have hL2:("ambiguous column name: " : Str).length=23:=by kernel_rfl))
local macro_rules | `(tactic| walk_at "be") => `(tactic| (
 ·refine⟨srcs,n,s,colv,none,true,0,fs,rfl,rfl,o1,Nat.zero_le _,hit,by rw[List.drop_zero];simp only[List.length_append] at hz;omega,?_⟩
  exact And.intro rfl ⟨srcs,n,colv,none,true,r,fs++(aO none s s.cols 0).map ax,rfl,rfl,rfl,ok',by simp only[List.length_append,List.length_map] at hz ⊢;omega,by
   rw[List.map_append,←List.append_assoc] at z;rw[Bool.true_or];exact z⟩))
local macro_rules | `(tactic| walk_at "bf") => `(tactic| (
 obtain⟨as1,Mh1,s1,r1,h1⟩:=q
 refine⟨fun e=>?_,fun e=>?_⟩))
local macro_rules | `(tactic| walk_at "bg") => `(tactic| (
 have ht3:=(ht t rfl).1
 have hd:("." : Str).length=1:=rfl
 have hl1:(t ++ "." : Str).length=t.length+1:=dR _ _
 have hl2:(t ++ "." ++ col:Str).length=t.length+1+col.length:=by rw[dR,hl1]
 refine And.intro (by show _+("." : Str).length≤1000;omega) ?_
 refine And.intro (by show (t ++ "." : Str).length+_≤1000;omega) ?_
 refine And.intro hfl ?_
 rcases fs with _|⟨p,_|⟨q,r⟩⟩))
local macro_rules | `(tactic| walk_at "bh") => `(tactic| (
 have z2:=step (l:=[]) hz z
 rw[List.map_nil,List.append_nil] at z2
 exact z2))
local macro_rules | `(tactic| walk_at "bi") => `(tactic| (
 obtain⟨f2,M2,k2,S2,rm2,un,_,F⟩:=da (b:=b) S1 rm (by rw[←rm.len,←hb];exact st.1.len)
 have e:=fe st.1 hb
 rw[e] at rm2))
local macro_rules | `(tactic| walk_at "bj") => `(tactic| (
 obtain⟨y,ws,n2,rfl,h2,q1⟩:=VRs.inv_tup q
 have g2:=bg (n:=n2) (hat h2)))
local macro_rules | `(tactic| walk_at "bk") => `(tactic| (
 obtain⟨y,ws,n2,rfl,h2,q1⟩:=VRs.inv_lst q
 have g2:=aR (n:=n2) (hat h2)))
local macro_rules | `(tactic| walk_at "bl") => `(tactic| (
 have go:=mk (Ex.lit n) hch q2 hq2))
local macro_rules | `(tactic| walk_at "bm") => `(tactic| (
 have hlt:=(List.getElem?_eq_some_iff.mp hv).1))
local macro_rules | `(tactic| walk_at "bn") => `(tactic| (
 ·intro vals M k X z
  obtain⟨b,os,l,rfl,e,z⟩:=z
  cases l with
  |nil=>exact z
  |cons s r=>cases e
 ·intro c cs vals M k X z
  obtain⟨b,os,l,rfl,e,z⟩:=z
  cases l with
  |nil=>cases e
  |cons s r=>
   cases e
   cases b
   ·refine⟨rfl,rfl,s,rfl,?_⟩
    exact⟨false,os,r,rfl,rfl,z⟩
   ·refine⟨rfl,rfl,s,rfl,?_⟩
    exact⟨true,os,r,rfl,rfl,z⟩))
local macro_rules | `(tactic| walk_at "bo") => `(tactic| (
 obtain⟨ad,mo,h1,h2,h3⟩:=r.live hi (by intro q;cases q)))
local macro_rules | `(tactic| walk_at "bp") => `(tactic| (
 refine wpAny_bind (wpAny_mono (hW f2 A s2 v a.more S2c r2) (fun _ s3 h3=>?_) fun _ _ z=>err (k1.tr k2) z.less1)
 obtain⟨f3,m3,M3,k3,S3,hB⟩:=h3
 have kk3:=(k1.tr k2).tr k3))
local macro_rules | `(tactic| walk_at "bq") => `(tactic| (
 refine .inl ⟨rfl,rfl,.inl ⟨rfl,?_⟩⟩))
local macro_rules | `(tactic| walk_at "br") => `(tactic| (
 rw[List.map_append] at go
 rw[←Tag.c_l];exact go))
local macro_rules | `(tactic| walk_at "bs") => `(tactic| (
 intro p hp
 rcases List.mem_append.mp hp with hp|hp
 ·have:=N p (List.mem_append_left _ hp)
  exact⟨(hs.2 _ (hap p (List.mem_append_left _ hp))).trans this.1,this.2⟩))
local macro_rules | `(tactic| walk_at "bt") => `(tactic| (
 unfold ca at h
 rw[Bool.and_eq_true,decide_eq_true_eq,decide_eq_true_eq] at h
 obtain⟨h1,h2⟩:=h
 have hlt:(i - 1).toNat < outs.length:=by omega
 refine⟨outs[(i - 1).toNat],List.getElem?_eq_getElem hlt,?_⟩
 unfold bP
 rw[decide_eq_true (by omega:(0:Int)≤i - 1),cond_true,List.getElem?_map,List.getElem?_eq_getElem hlt]
 rfl))
local macro_rules | `(tactic| walk_at "bu") => `(tactic| (
 obtain⟨⟨mr,cells,fo,ml,H⟩,g,o⟩:=id S))
local macro_rules | `(tactic| walk_at "bv") => `(tactic| (
 refine wpAny_bind (wpAny_field (H.N (e,⟨.ref C,some dx,.fields vs,sl⟩) (by simp[aa])).1 rfl h1 ?_)))
local macro_rules | `(tactic| walk_at "bw") => `(tactic| (
 refine(ie (X:=PostX as M X) r1 v1 h1).mono (fun b M2 q=>?_) fun _ _ z=>z
 obtain⟨as2,Mh2,s2,r2,h2⟩:=q
 refine⟨fun e=>?_,fun e=>?_⟩
 ·subst e;exact(ih (l.mono (s1.tr s2).1) r2 h2).mono (fun _ _ z=>z.tr (s1.tr s2)) fun _ _ z=>z.tr (s1.tr s2)
 ·subst e;exact⟨as2,a,Mh2,s1.tr s2,r2,v1.mono s2.1,h2⟩))
local macro_rules | `(tactic| walk_at "bx") => `(tactic| (
 obtain⟨f1,c1,M1,k1,S1,r1,w1⟩:=h₁))
local macro_rules | `(tactic| walk_at "by") => `(tactic| (
 intro fz A s a S
 rw[eval_ListComp]
 refine wpAny_comprehension_free (use:=none) rfl hs ci.clos ci.kind ci.names (wpAny_mono (h fz A s a S) (fun v s₁ h₁=>?_) fun _ _ z=>z)
 obtain⟨f1,c,M1,k1,S1,r1,vals,P,ib,hP,hh⟩:=h₁
 refine ib f d f1 m M1 s₁ A v _ _ calm a S1 r1 hP fun it dts s' S0 pr=>?_))
local macro_rules | `(tactic| walk_at "bz") => `(tactic| (
 have sh:=hr r (List.mem_of_getElem? hrr)
 have hm:(rs.map Row.cv)[i]?=some r.cv:=by rw[List.getElem?_map,hrr];rfl
 have hn:(match bP (rs.map Row.cv) (i:Int) with|some c=>some (AV.v c)|none=>none)=some (AV.v r.cv):=by rw[jB hm]
 have hlen:(rs.map Row.cv).length≤1000:=by rw[List.length_map];omega))
local macro_rules | `(tactic| walk_at "bA") => `(tactic| (
 ·intro vals M k X z
  obtain⟨srcs,n,colv,w,met,todo,fs,rfl,rfl,e,ok,hz,z⟩:=z
  cases todo with
  |nil=>
   have z:k .next [.v colv,.v (aP w),.ref 5,.v (.bool (met||false))] (scM true srcs [] n++[.lst [],.lst (fs++[])]):=z
   rw[List.append_nil,Bool.or_false] at z
   exact z
  |cons s r=>cases e))
local macro_rules | `(tactic| walk_at "bB") => `(tactic| (
 rw[List.drop_eq_getElem_cons hlt]
 rw[(List.getElem?_eq_some_iff.mp hv).2]))
local macro_rules | `(tactic| walk_at "bC") => `(tactic| (
 refine And.intro (by rw[List.length_map];simp only[List.length_cons,List.length_nil];omega) ?_))
local macro_rules | `(tactic| walk_at "bD") => `(tactic| (
 refine⟨rfl,rfl,rs,cols,gs,_,rfl,ok.rq,ok.rl,ok.rq.bare,fun c hc=>(ok.cq c hc).q,by omega,by omega,ok.gl,fun e he=>(ok.gq e he).ok,ht,?_⟩))
local macro_rules | `(tactic| walk_at "bE") => `(tactic| (
 refine⟨rfl,p,4,rfl,rfl,hp,by decide,by decide,fun d q hq d0 d1=>?_⟩
 have e:d=0∨d=1∨d=2∨d=3:=by omega
 rcases e with rfl|rfl|rfl|rfl))
local macro_rules | `(tactic| walk_at "bF") => `(tactic| (
 have fin:=ih 0 2 g1 g2 g3 (ColE.ex e none).c re.c (outs++[(onm srcs none re,re)]) als hp (.inr (.inl rfl)) hs' hc' (by rw[List.length_append];simp only[List.length_cons,List.length_nil];omega) (by rw[List.length_append];omega) h
 rw[List.map_append] at fin
 exact fin))
local macro_rules | `(tactic| walk_at "bG") => `(tactic| (
 have fin:=ih 1 2 g1 g2 g3 (ColE.ex e none).c re.c (outs++[(onm srcs none re,re)]) als hp (.inr (.inl rfl)) hs' hc' (by rw[List.length_append];simp only[List.length_cons,List.length_nil];omega) (by rw[List.length_append];omega) h
 rw[List.map_append] at fin
 exact fin))
local macro_rules | `(tactic| walk_at "bH") => `(tactic| (
 have fin:=ih 2 2 g1 g2 g3 (ColE.ex e none).c re.c (outs++[(onm srcs none re,re)]) als hp (.inr (.inl rfl)) hs' hc' (by rw[List.length_append];simp only[List.length_cons,List.length_nil];omega) (by rw[List.length_append];omega) h
 rw[List.map_append] at fin
 exact fin))
local macro_rules | `(tactic| walk_at "bI") => `(tactic| (
 have fin:=ih 3 2 g1 g2 g3 (ColE.ex e none).c re.c (outs++[(onm srcs none re,re)]) als hp (.inr (.inl rfl)) hs' hc' (by rw[List.length_append];simp only[List.length_cons,List.length_nil];omega) (by rw[List.length_append];omega) h
 rw[List.map_append] at fin
 exact fin))
local macro_rules | `(tactic| walk_at "bJ") => `(tactic| (
 obtain⟨h₁,tk,rfl,_⟩:=x.done
 have hk₁:=x.toInCall.keep
 obtain⟨cells',NC,Y⟩:=Cl.news (h₀:=s.heap) (Nat.le_refl _) fun n c hm=>⟨x.cell n c (lookup_of_mem_nodup (cellsFrom_names scope.names 0 (s.heap.objs.size+1) [] [] rfl▸cnd) hm),x.above n c hm⟩))
local macro_rules | `(tactic| walk_at "bK") => `(tactic| (
 have fin:=step (l:=[]) (by decide) hh
 rw[List.map_nil,List.append_nil] at fin
 exact fin))
local macro_rules | `(tactic| walk_at "bL") => `(tactic| (
 have go:=mk (Ex.nm none c) hch q2 hq2))
local macro_rules | `(tactic| walk_at "bM") => `(tactic| (
 refine And.intro hl2 ?_))
local macro_rules | `(tactic| walk_at "bN") => `(tactic| (
 repeat walk_at "c_2"
 exact h))
local macro_rules | `(tactic| walk_at "bO") => `(tactic| (
 have:=N p (List.mem_append_right _ (.tail _ hp))
 exact⟨(hs.2 _ (hap p (List.mem_append_right _ hp))).trans this.1,this.2⟩))
local macro_rules | `(tactic| walk_at "bP") => `(tactic| (
 obtain⟨vs',e1,e2,e3,e4⟩:=aT r va h1
 obtain⟨ws',g1,g2,g3,g4⟩:=aT r vb h2
 obtain rfl:=e4 _ _ rfl
 obtain rfl:=g4 _ _ rfl))
local macro_rules | `(tactic| walk_at "bQ") => `(tactic| (
 have st2:Step as M as M2:=⟨Pre.rfl',fun ad mo x y=>by
  obtain⟨z1,z2⟩:=st.2 ad mo x y
  exact⟨x,un ad mo z1 z2⟩⟩))
local macro_rules | `(tactic| walk_at "bR") => `(tactic| (
 have hch:GrpCh (.lit n):=.inl ⟨n,rfl,n0,n1⟩
 refine And.intro hol ?_
 refine And.intro hoi ?_
 refine And.intro hcat ?_))
local macro_rules | `(tactic| walk_at "bS") => `(tactic| (
 first|refine aj ((aI (Res.no (aH true (outs.map am).length))).trans hcn) ?_|skip))
local macro_rules | `(tactic| walk_at "bT") => `(tactic| (
 have go:=mk (Ex.nm t c) hch q2 hq2))
local macro_rules | `(tactic| walk_at "bU") => `(tactic| (
 have cgt:∀p∈cells',s.heap.objs.size < p.1:=fun p hp=>by
  have:p.1∈(cellsFrom (s.heap.objs.size+1) scope.names []).map (·.2):=de Y▸List.mem_map_of_mem hp
  obtain⟨q,hq,e⟩:=List.mem_map.mp this
  exact e▸x.above q.1 q.2 hq))
local macro_rules | `(tactic| walk_at "bV") => `(tactic| (
 refine(jM o F T (l.mono s1.1) r1 h1).mono (fun cs M2 q=>?_) fun _ _ z=>z.tr s1
 obtain⟨as2,l2,Mh2,s2,r2,v2,h2⟩:=q))
local macro_rules | `(tactic| walk_at "bW") => `(tactic| (
 refine And.intro hl3 ?_
 exact fin))
local macro_rules | `(tactic| walk_at "bX") => `(tactic| (
 have e1:aX rs (.ex (.nm t c) al)=.no m:=by show (match ac rs [] t c with|.no m=>_|.ok tag=>_)=_;rw[hm]
 have e2:bO rs (.ex (.nm t c) al)=none:=by show (match aX rs (.ex (.nm t c) al) with|.no _=>_|.ok _=>_)=_;rw[e1]
 rw[e1,e2] at hh))
local macro_rules | `(tactic| walk_at "bY") => `(tactic| (
 obtain⟨r,hrr⟩:∃r,rs[i]?=some r:=⟨rs[i],List.getElem?_eq_getElem hlt⟩
 have hd:rs.drop i=r::rs.drop (i+1):=by
  rw[List.drop_eq_getElem_cons hlt];congr 1
  rw[List.getElem?_eq_getElem hlt] at hrr;exact Option.some.inj hrr))
local macro_rules | `(tactic| walk_at "bZ") => `(tactic| (
 obtain⟨⟨mr,cells,fo,ml,H⟩,gn,os⟩:=S
 have ok:=a.fc
 refine newList_N H.F H.N (fun h₁ F₁ N₁=>?_) (by decide)
 have lt1:∀p∈aa fz f.pin cells fo ml [],p.1 < s.heap.objs.size:=fun p hp=>Heap.lt_size (H.N p hp).1))
local macro_rules | `(tactic| walk_at "b0") => `(tactic| (
 refine And.intro (by show _+(t ++ "." ++ col:Str).length≤1000;omega) ?_))
local macro_rules | `(tactic| walk_at "b1") => `(tactic| (
 refine .inr ⟨rfl,rfl,o.2,dB,rfl,leB (by kernel_rfl),by kernel_rfl,?_⟩))
local macro_rules | `(tactic| walk_at "b2") => `(tactic| (
 refine .inr ⟨rfl,rfl,re,dB,rfl,leB (by kernel_rfl),by kernel_rfl,?_⟩))
local macro_rules | `(tactic| walk_at "b3") => `(tactic| (
 refine wpAny_bind (wpAny_standAt ?_)))
local macro_rules | `(tactic| walk_at "b4") => `(tactic| (
 have hr:=H.mrs
 rw[eM] at hr
 obtain⟨l1,lx,l2,el,p1,p2,p3⟩:=hr.split))
local macro_rules | `(tactic| walk_at "b5") => `(tactic| (
 obtain⟨rc,tbl,met,i,names,us,j,fs,rfl,rfl,h1,h2,h3,hj,e,hz,z⟩:=z))
local macro_rules | `(tactic| walk_at "b6") => `(tactic| (
 ·rename_i vs hq
  obtain⟨cs,q1,q2,q3,q4⟩:=aT r1 v1 hq
  obtain⟨h2,h3⟩:=fV hps h1
  have hl:=q2.length
  exact⟨cs,q1,by rw[h3];exact hl,as1,.next,_,Mh1,s1,r1,tV nd h3 q2 (l.mono s1.1),trivial,h2⟩))
local macro_rules | `(tactic| walk_at "b7") => `(tactic| (
 ·intro vals M k X z
  obtain⟨p,rc,th,rfl,rfl,hp,z⟩:=z
  exact z [] p rfl (fun s h=>(nomatch h)) hp))
local macro_rules | `(tactic| walk_at "b8") => `(tactic| (
 have e1:(min as.length bs.length)=min vs.toArray.size ws.toArray.size:=by simp[r1.length,q1.length]
 have e2:(as.length == bs.length)=(vs.toArray.size == ws.toArray.size):=by simp[r1.length,q1.length]))
local macro_rules | `(tactic| walk_at "b9") => `(tactic| (
 intro fz m A s v w a S r1 r2))
local macro_rules | `(tactic| walk_at "ca") => `(tactic| (
 refine And.intro (ba (Res.no (aH true (outs.map am).length))) ?_))
local macro_rules | `(tactic| walk_at "cb") => `(tactic| (
 rw[hstay] at go
 exact go))
local macro_rules | `(tactic| walk_at "cc") => `(tactic| (
 obtain⟨o,ho,hc,hd⟩:=S.thing))
local macro_rules | `(tactic| walk_at "cd") => `(tactic| (
 refine⟨rfl,names,rfl,rfl,hn12,?_⟩))
local macro_rules | `(tactic| walk_at "ce") => `(tactic| (
 intro fz A s a S
 rw[eval_Subscript]
 refine wpAny_bind (wpAny_mono (h fz A s a S) (fun ov s₁ h₁=>wpAny_bind (wpAny_holding ?_)) fun _ _ x=>x)
 obtain⟨f1,oc,M1,k1,S1,r1,w1⟩:=h₁))
local macro_rules | `(tactic| walk_at "cf") => `(tactic| (
 ·have hw:a7 (some t) s=false:=h1
  rw[hw,Bool.false_or] at z
  rw[hw] at hz
  simp only[cond_false] at z hz
  exact And.intro rfl ⟨srcs,n,colv,some t,met,r,fs,rfl,rfl,rfl,ok',hz,z⟩))
local macro_rules | `(tactic| walk_at "cg") => `(tactic| (
 intro fz A s a S
 rw[arm_eval_Attribute,hb]
 refine wpAny_bind (wpAny_mono (h fz A s a S) (fun ov s₁ h₁=>wpAny_bind (wpAny_standAt (wpAny_bind (wpAny_holding ?_)))) fun _ _ z=>z)))
local macro_rules | `(tactic| walk_at "ch") => `(tactic| (
 first|refine And.intro (leB rfl) ?_|skip
 refine And.intro (ba (Res.ok (Tag.valS "q"))) ?_))
local macro_rules | `(tactic| walk_at "ci") => `(tactic| (
 refine And.intro hf ?_
 exact step (l:=[(nm,.col i j)]) hz z))
local macro_rules | `(tactic| walk_at "cj") => `(tactic| (
 refine⟨rfl,rfl,rs,tbl,col,rfl,hl,hr,ht,hc,?_⟩
 have hfl:((aL tbl col rs 0).map jz).length≤1000:=by rw[List.length_map];have:=fP (tbl:=tbl) (col:=col) (rs:=rs) (i:=0);omega))
local macro_rules | `(tactic| walk_at "ck") => `(tactic| (
 refine And.intro (by show _≤1000;omega) ?_))
local macro_rules | `(tactic| walk_at "cl") => `(tactic| (
 obtain⟨as1,a,Mh1,s1,r1,v1,h1⟩:=z
 refine(o.e _ _ _ _ _ _ _ _ _ _ _ FF T (l.mono s1.1) r1 h1).mono (fun c2 M2 z=>?_) fun _ _ z=>z.tr s1
 obtain⟨as2,a2,Mh2,s2,r2,v2,h2⟩:=z))
local macro_rules | `(tactic| walk_at "cm") => `(tactic| (
 rw[e] at h1;cases h1
 cases h3))
local macro_rules | `(tactic| walk_at "cn") => `(tactic| (
 refine wpAny_bind ?_
 unfold Builtin.Dict.selfAndRest
 refine wpAny_bind (wpAny_notOrdered_dict (m6 hd) ?_)
 show wpAny _ _ (pure (d,[Value.ref o])) _ _ s
 refine wpAny_pure ?_))
local macro_rules | `(tactic| walk_at "co") => `(tactic| (
 have notC:∀p∈aa fz f.pin cells fo ml1 [],p.1≠C:=fun p hp q=>by have:=(H₁.N p hp).1;rw[q,hCn] at this;cases this
 have hLC:f.L≠C:=fun q=>by rw[q,hCn] at hL;cases hL))
local macro_rules | `(tactic| walk_at "cp") => `(tactic| (
 have pq:(p=0∧t=0)∨(p=0∧t=2)∨(p=1∧t=1)∨(p=1∧t=2)∨(p=2∧t=1)∨(p=2∧t=2)∨(p=3∧t=1)∨(p=3∧t=2):=by
  rcases ht with ⟨h1,h2⟩|h2|⟨h2,h3⟩<;>omega))
local macro_rules | `(tactic| walk_at "cq") => `(tactic| (
 refine⟨rfl,rfl,rs,als,none,c,hl,hr,(fun x e=>by cases e),xN hkc,hal,hash,rfl,?_⟩))
local macro_rules | `(tactic| walk_at "cr") => `(tactic| (
 obtain⟨⟨mr,cells,fo,ml,H⟩,g,os⟩:=S))
local macro_rules | `(tactic| walk_at "cs") => `(tactic| (
 obtain⟨as1,a,Mh1,s1,r1,v1,h1⟩:=z
 refine(eB (Y:=PostX as M X) FF v1 (l.mono s1.1) r1 h1).mono (fun m2 M2 z=>?_) fun _ _ z=>z
 obtain⟨as2,mh2,Mh2,s2,r2,l2,h2⟩:=z))
local macro_rules | `(tactic| walk_at "ct") => `(tactic| (
 by_cases e:v=w
 ·rw[this.2.2 e,e];exact EqAt.same w
 ·refine mZ e (fun x t h=>?_) this.1
  subst h
  cases n with
  |zero=>exact c
  |succ n=>cases r<;>cases b<;>cases c))
local macro_rules | `(tactic| walk_at "cu") => `(tactic| (
 refine And.intro ⟨rfl,rfl,trivial⟩ ?_))
local macro_rules | `(tactic| walk_at "cv") => `(tactic| (
 have hh:=hh true hb
 first|refine ai hb ?_|refine ai rfl ?_|skip
 refine And.intro hc1 ?_
 refine And.intro hs ?_
 have hi:=ip (x:=ae col) (l:=r.names.map ae) (i:=0)))
local macro_rules | `(tactic| walk_at "cw") => `(tactic| (
 exact z.2 (.lst (r.1.map rcO)) (.lst (srcs.map SrcR.c)) (.lst (bN als)) .any n'))
local macro_rules | `(tactic| walk_at "cx") => `(tactic| (
 simp only[aa,List.mem_append,List.mem_cons,List.not_mem_nil,or_false] at hp ⊢))
local macro_rules | `(tactic| walk_at "cy") => `(tactic| (
 refine⟨rfl,q3,2,rfl,rfl,hq3,by decide,by decide,fun d2 q4 hq4 d20 d21=>?_⟩))
local macro_rules | `(tactic| walk_at "cz") => `(tactic| (
 ·cases a<;>first|exact rc.elim|skip
  simp only at h3
  split at h3
  ·rename_i vs' hvs
   exact⟨as3,mh3,Mh3,vs',s2.tr s3,r3,l3,hvs,h3⟩
  ·exact h3.elim))
local macro_rules | `(tactic| walk_at "cA") => `(tactic| (
 have hz1:(o.map ax).length≤1000:=by rw[List.length_map];omega
 have hz2:(l.map RE.c).length≤1000:=by rw[List.length_map];omega
 refine And.intro hz1 ?_))
local macro_rules | `(tactic| walk_at "cB") => `(tactic| (
 refine(h1 _ _ _).trans (List.Perm.append_left _ ?_)))
local macro_rules | `(tactic| walk_at "cC") => `(tactic| (
 refine(o.e _ _ _ _ _ _ _ _ _ _ _ F T (l.mono (s1.tr s2).1) r2 hv).mono (fun c3 M4 q=>?_) fun _ _ z=>z.tr (s1.tr s2)
 obtain⟨as3,c,Mh3,s3,r3,v3,h3⟩:=q))
local macro_rules | `(tactic| walk_at "cD") => `(tactic| (
 simp only[Bool.false_eq_true,if_false]))
local macro_rules | `(tactic| walk_at "cE") => `(tactic| (
 exact eI e1 g1 (by have:=e2.length;have:=g2.length;simp only[Sq.all,List.length_map] at *;have:=h.1;omega) (gz r (dS _) (RO.mkLst (e2.append g2)) h.2)))
local macro_rules | `(tactic| walk_at "cF") => `(tactic| (
 refine⟨rfl,rs,n,rfl,rfl,hl,hf,hu,fg (fun srcs n' z=>?_) h⟩
 obtain⟨so,hc,hz,z⟩:=z
 refine⟨rfl,srcs,n',cols,rfl,rfl,so,hs,hc,by omega,hcl,?_⟩))
local macro_rules | `(tactic| walk_at "cG") => `(tactic| (
 refine⟨rfl,true,[],[],n,rfl,.inl ⟨rfl,?_⟩⟩))
local macro_rules | `(tactic| walk_at "cH") => `(tactic| (
 rw[hr] at h
 have hll:=hol l hr))
local macro_rules | `(tactic| walk_at "cI") => `(tactic| (
 have e3:names.drop j=[]:=List.drop_eq_nil_iff.mpr (by omega)
 rw[e3] at z
 have z:k .next _ [.lst (fs++[]),.lst []]:=z
 rw[List.append_nil] at z
 exact z))
local macro_rules | `(tactic| walk_at "cJ") => `(tactic| (
 have pre:Pre as (as++[a]):=fun i b e=>by rw[bq,if_neg];exact e;intro q;rw[q] at e;simp at e
 refine⟨by simp[h.len],fun i p e=>?_,?_,fun b hb=>?_⟩))
local macro_rules | `(tactic| walk_at "cK") => `(tactic| (
 have e2:bO rs c=none:=by
  cases hA:bO rs c with
  |none=>rfl
  |some a=>obtain⟨o,ho⟩:=io hA;rw[hcol] at ho;cases ho
 rw[e1] at go
 rw[e2]
 exact go))
local macro_rules | `(tactic| walk_at "cL") => `(tactic| (
 have h2:(Option.isSome (none:Option Str) || !inC (.str (ae nm)) (us.map ag))=false:=hb
 rw[h2] at z hz
 first|refine aj hb ?_|refine aj rfl ?_|skip))
local macro_rules | `(tactic| walk_at "cM") => `(tactic| (
 rw[hx] at hi hh
 first|refine ai hi ?_|refine ai rfl ?_|skip
 refine And.intro hc1 ?_
 refine af (iY _) ?_
 refine af hx ?_
 refine And.intro hs.1 ?_))
local macro_rules | `(tactic| walk_at "cN") => `(tactic| (
 refine⟨rfl,p,3,rfl,rfl,hp,by decide,by decide,fun d q hq d0 d1=>?_⟩))
local macro_rules | `(tactic| walk_at "cO") => `(tactic| (
 obtain⟨lx,r,hl⟩:=F.moved i ad _ _ hbi hi (by intro q;cases q) e h2))
local macro_rules | `(tactic| walk_at "cP") => `(tactic| (
 intro as args kws Mh k X M cs ck rv rf rm h
 obtain⟨h1,h2,h3⟩:=tH h))
local macro_rules | `(tactic| walk_at "cQ") => `(tactic| (
 obtain⟨M1,M2,eM,_⟩:=MH.get_split q
 have hr:=H.mrs
 rw[eM] at hr
 obtain⟨k1,lx,k2,el,p1,p2,p3⟩:=hr.split
 obtain⟨ob,hmx⟩:=p2.has))
local macro_rules | `(tactic| walk_at "cR") => `(tactic| (
 rw[Bool.and_eq_true] at hc
 refine kG (kE FF hc.2) ((o.e _ _ _ _ _ _ _ _ _ _ _ FF T l r h).mono (fun c M1 q=>?_) fun _ _ z=>z) (eS hc.1)))
local macro_rules | `(tactic| walk_at "cS") => `(tactic| (
 refine⟨rfl,rfl,rs,als,t,c,hl,hr,fE ht,hc.sh2,hal,hash,rfl,?_⟩))
local macro_rules | `(tactic| walk_at "cT") => `(tactic| (
 rw[hr] at z
 obtain⟨hro,z⟩:=z
 intro als ha
 obtain⟨so2,z⟩:=z als ha
 refine⟨rfl,false,srcs,als,n',rfl,.inl ⟨rfl,?_⟩⟩))
local macro_rules | `(tactic| walk_at "cU") => `(tactic| (
 unfold i5 at h
 simp only[Bool.and_eq_true,List.all_eq_true] at h))
local macro_rules | `(tactic| walk_at "cV") => `(tactic| (
 first|refine aj ((aI (Res.ok (Tag.valS "q"))).trans hcn) ?_|skip))
local macro_rules | `(tactic| walk_at "cW") => `(tactic| (
 refine List.perm_iff_count.mpr fun b=>?_
 simp only[aa,List.map_append,List.map_cons,List.count_append,List.count_cons,G]
 omega))
local macro_rules | `(tactic| walk_at "cX") => `(tactic| (
 first|refine aj ((bj (Res.ok (Tag.valS "q"))).trans hno) ?_|skip
 obtain⟨t0,hm⟩:=ez hno
 have go:=mk (Ex.litS "q") hch q hq))
local macro_rules | `(tactic| walk_at "cY") => `(tactic| (
 ·split at h
  ·rename_i a ha;exact loc a ha h
  ·exact h.elim))
local macro_rules | `(tactic| walk_at "cZ") => `(tactic| (
 obtain⟨ad',mo,h1,h2,h3⟩:=F.rm.live hi (by intro q;cases q)))
local macro_rules | `(tactic| walk_at "c0") => `(tactic| (
 have hch:GrpCh (.nm t c):=.inr (.inr ⟨t,c,rfl,ht,.inl hc⟩)))
local macro_rules | `(tactic| walk_at "c1") => `(tactic| (
 ·subst e;exact(ih (l.mono s1.1) r1 h1).mono (fun _ _ z=>z.tr s1) fun _ _ z=>z.tr s1
 ·subst e;exact⟨as1,Mh1,s1,r1,h1⟩))
local macro_rules | `(tactic| walk_at "c2") => `(tactic| (
 refine wpAny_mono (w1 f1 m A s₁ v a S1 r1) (fun b s₂ h₂=>?_) fun _ _ z=>z.sub k1
 obtain⟨f2,M2,k2,S2,z1,z2⟩:=h₂))
local macro_rules | `(tactic| walk_at "c3") => `(tactic| (
 simp only[colL,List.mem_cons,List.not_mem_nil,or_false] at hs))
local macro_rules | `(tactic| walk_at "c4") => `(tactic| (
 obtain⟨ws',g1,g2,g3,g4⟩:=aT r v hs
 obtain rfl:=g4 _ _ rfl))
local macro_rules | `(tactic| walk_at "c5") => `(tactic| (
 refine fg (fun srcs n z=>ji (fun m z=>?_) (fun o l z cols srcs als cnt=>?_) z) h
 ·refine And.intro (leB rfl) ?_
  exact z))
local macro_rules | `(tactic| walk_at "c6") => `(tactic| (
 intro fz A s a S
 refine plainObj_wpAny_Assign_Attribute (wpAny_mono (h fz A s a S) (fun v s₁ h₁=>?_) fun _ _ z=>z) hs))
local macro_rules | `(tactic| walk_at "c7") => `(tactic| (
 cases bI (ae col) (r.names.map ae) 0 with
 |none=>exact ih
 |some j=>simp only[List.map_cons,h1.num];exact congrArg _ ih))
local macro_rules | `(tactic| walk_at "c8") => `(tactic| (
 exact wpAny_mono (w2 f2 m A s₂ v v2 a S2 (r1.mono k2) r2) (fun _ _ z=>z.sub (k1.tr k2)) fun _ _ z=>z.sub (k1.tr k2)))
local macro_rules | `(tactic| walk_at "c9") => `(tactic| (
 refine .inl ⟨rfl,rfl,.inr ⟨l,r,rfl,hl,hr,?_⟩⟩
 exact And.intro rfl ⟨todo,_,n+1,rfl,rfl,rfl,z sel (lD l r)⟩))
local macro_rules | `(tactic| walk_at "da") => `(tactic| (
 rw[h1] at hs
 cases h2:di (aq rs l alt false a) with
 |no m'=>rw[h2] at hs;exact hs
 |ok t=>rw[h2] at hs;exact hs.elim))
local macro_rules | `(tactic| walk_at "db") => `(tactic| (
 obtain⟨q1,q2,q3⟩:=mW (Y:=Y) (D:=D) (d:=d) F e2 l r h
 exact yU (F.calm hh) e1 (by rw[q2];exact e2.length) q3 q1))
local macro_rules | `(tactic| walk_at "dc") => `(tactic| (
 rw[List.map_nil,List.append_nil] at z
 exact And.intro rfl ⟨_,srcs,als,n,some t,col,r,fs,rfl,rfl,rfl,ok',hz',z⟩))
local macro_rules | `(tactic| walk_at "dd") => `(tactic| (
 have hlt:∀i∈idx,i < Mh.length:=fun i hi=>by obtain⟨o,h,_⟩:=lv i hi;exact(List.getElem?_eq_some_iff.mp h).1))
local macro_rules | `(tactic| walk_at "de") => `(tactic| (
 refine⟨vals,P,ib,hP as Mh1 M1 Pre.rfl' r keepB.rfl',fun accA hget=>?_⟩
 have hb:=r.len
 have hacc:=r.fresh hget))
local macro_rules | `(tactic| walk_at "df") => `(tactic| (
 rw[List.map_nil,List.append_nil] at z
 exact And.intro rfl ⟨_,srcs,als,n,none,col,r,fs,rfl,rfl,rfl,ok',hz',z⟩))
local macro_rules | `(tactic| walk_at "dg") => `(tactic| (
 obtain⟨z1,z2⟩:=st.2 a mo x y
 refine⟨?_,z2⟩
 have:a≠accA:=fun q=>by rw[q,hget] at y;cases y
 simp[x,this]))
local macro_rules | `(tactic| walk_at "dh") => `(tactic| (
 ·subst e;exact(o.b _ _ _ _ _ _ _ _ _ _ _ F T (l.mono s1.1) r1 h1).mono (fun _ _ z=>z.tr s1) fun _ _ z=>z.tr s1))
local macro_rules | `(tactic| walk_at "di") => `(tactic| (
 ·subst e;exact(o.e _ _ _ _ _ _ _ _ _ _ _ F T (l.mono s1.1) r1 h1).mono (fun _ _ z=>z.tr s1) fun _ _ z=>z.tr s1))
local macro_rules | `(tactic| walk_at "dj") => `(tactic| (
 ·rw[if_neg e] at h
  obtain⟨mo3,w1,w2⟩:=k a' mo2 h
  exact⟨mo3,by rw[MH.get_cons,if_neg e];exact w1,w2⟩))
local macro_rules | `(tactic| walk_at "dk") => `(tactic| (
 rw[hp] at hh
 have z:=step (l:=[(s,j)]) hh
 refine And.intro (by show 2≤1000;omega) ?_
 refine And.intro hf ?_))
local macro_rules | `(tactic| walk_at "dl") => `(tactic| (
 have hi:=(List.getElem?_eq_some_iff.mp hn).1
 rw[hx] at hi
 refine⟨?_,by omega,by omega⟩
 unfold seqIndex?))
local macro_rules | `(tactic| walk_at "dm") => `(tactic| (
 simp only[bL,Tag.c,CV.tup.injEq,List.cons.injEq,CV.int.injEq,and_true,true_and] at hs
 obtain⟨e5,e6⟩:=hs))
local macro_rules | `(tactic| walk_at "dn") => `(tactic| (
 have h':MH.get r a=some o:=by simpa only [MH.get,List.lookup_cons,hb] using h
 obtain⟨M1,M2,e,k⟩:=ih h'))
local macro_rules | `(tactic| walk_at "do") => `(tactic| (
 exact⟨eH e1 g1 lP ⟨_,rfl,rfl,by rw[jO];exact h.2⟩,eG e1 g1 lP ⟨_,rfl,rfl,by rw[jO];exact h.2⟩⟩))
local macro_rules | `(tactic| walk_at "dp") => `(tactic| (
 rw[hw,Bool.true_or,Bool.or_true] at z
 rw[hw] at hz
 simp only[cond_true] at z hz
 refine And.intro hlen2 ?_))
local macro_rules | `(tactic| walk_at "dq") => `(tactic| (
 ·intro vals M k X z
  obtain⟨b,outs,rfl,e,z⟩:=z
  cases outs with
  |nil=>exact z
  |cons s r=>cases e))
local macro_rules | `(tactic| walk_at "dr") => `(tactic| (
 first|refine af (cI (Res.ok (Tag.valS "q"))) ?_|skip
 refine And.intro (bw (Res.ok (Tag.valS "q"))) ?_))
local macro_rules | `(tactic| walk_at "ds") => `(tactic| (
 obtain⟨o,ho,hn⟩:=gM hr2
 refine ai hr2 ?_
 rw[jI hlit2 hr2 ho] at h
 refine af (v:=.v (ax o)) hn ?_))
local macro_rules | `(tactic| walk_at "dt") => `(tactic| (
 split at h
 ·rename_i hk;exact key (.inl hk) h
 ·rename_i hk;exact key (.inr hk) h
 ·exact h.elim))
local macro_rules | `(tactic| walk_at "du") => `(tactic| (
 obtain⟨o,ho,hn⟩:=gM hr
 refine ai hr ?_
 rw[jI hlit hr ho] at h
 refine af (v:=.v (ax o)) hn ?_))
local macro_rules | `(tactic| walk_at "n_0")=>`(tactic| first|refine And.intro (leB rfl) ?_|refine And.intro (by assumption) ?_)
local macro_rules | `(tactic| walk_at "n_1")=>`(tactic| (refine And.intro ?_ ?_;· first|exact leB rfl|assumption|exact⟨leB (by kernel_rfl),by kernel_rfl⟩|exact(rfl:(_:AV)=_)|exact(fun _ hx=>by cases hx;exact rfl)))
local macro_rules | `(tactic| walk_at "c_2")=>`(tactic| first|walk_at "n_1" | refine ai (by kernel_rfl) ?_|refine aj (by kernel_rfl) ?_)
local macro_rules | `(tactic| walk_at "n_3")=>`(tactic| (refine And.intro ?_ ?_;· first|exact leB rfl|assumption|exact⟨leB (by kernel_rfl),by kernel_rfl⟩|exact(rfl:(_:AV)=_)|exact(fun _ hx=>by cases hx;exact rfl)|exact⟨leD (by kernel_rfl),leD (by kernel_rfl)⟩|exact⟨leD (by kernel_rfl),leD (by kernel_rfl),leD (by kernel_rfl)⟩))
namespace Mine
inductive CV where
 |none
 |bool (b:Bool)
 |int (i:Int)
 |str (s:Str)
 |tup (vs:List CV)
 |lst (vs:List CV)
 |inst (c:Str) (fs:List (Str×CV))
 |dct
 |st (v:Value)
 |ref (a:Addr)
 |any
 |rng (lo hi:Int)
 deriving Inhabited
inductive MO where
 |inst (c:Str) (fs:List (Str×CV))
 |lst (vs:List CV)
 |exc (msg:Option Str)
 |caught (msg:Str)
 |dead
abbrev MH:=List (Addr×MO)
abbrev Led:=List (Addr×Obj)
abbrev iF(ws:List Value)(n:Nat):Obj:={ cls:=.type "tuple",data:=.seq ws.toArray n }
abbrev wL(lo hi:Int)(t u w:Tok):Obj:={ cls:=.type "range",dict:=none,data:=.fields #[.int lo t,.int hi u,.int 1 w],slots:=#[] }
abbrev be(ws:List Value)(n:Nat):Obj:={ cls:=.type "list",data:=.seq ws.toArray n }
mutual
inductive VR(cls:Str→Option Addr)(fz:Led):CV→Value→Prop
 |none:VR cls fz .none .none
 |bool (b:Bool):VR cls fz (.bool b) (.bool b)
 |int (i:Int) (t:Tok):VR cls fz (.int i) (.int i t)
 |str (s:Str) (t:Tok):VR cls fz (.str s) (.str s t)
 |st (v:Value):handedIn v=true→(v == Value.none)=false→VR cls fz (.st v) v
 |any (v:Value):handedIn v=true→VR cls fz .any v
 |rng {a:Addr} {lo hi:Int} {t u w:Tok}:(a,wL lo hi t u w)∈fz→VR cls fz (.rng lo hi) (.ref a)
 |ref (a:Addr):VR cls fz (.ref a) (.ref a)
 |tup {a:Addr} {vs:List CV} {ws:List Value} {n:Nat}:(a,iF ws n)∈fz→VRs cls fz vs ws→VR cls fz (.tup vs) (.ref a)
 |lst {a:Addr} {vs:List CV} {ws:List Value} {n:Nat}:(a,be ws n)∈fz→VRs cls fz vs ws→VR cls fz (.lst vs) (.ref a)
 |inst {a dx C:Addr} {c:Str} {fs:List (Str×CV)} {es:List DictEntry} {n:Nat}:cls c=some C→(a,instObj C dx)∈fz→(dx,dictOf es n)∈fz→VRf cls fz fs es→VR cls fz (.inst c fs) (.ref a)
 |dct {a:Addr} {n:Nat}:(a,dictOf [] n)∈fz→(a == sysModules)=false→VR cls fz .dct (.ref a)
inductive VRs(cls:Str→Option Addr)(fz:Led):List CV→List Value→Prop
 |nil:VRs cls fz [] []
 |cons {c:CV} {v:Value} {cs:List CV} {vs:List Value}:VR cls fz c v→VRs cls fz cs vs→VRs cls fz (c::cs) (v::vs)
inductive VRf(cls:Str→Option Addr)(fz:Led):List (Str×CV)→List DictEntry→Prop
 |nil:VRf cls fz [] []
 |cons {x:Str} {t:Tok} {hsh:Int} {c:CV} {v:Value} {fs:List (Str×CV)} {es:List DictEntry}:VR cls fz c v→VRf cls fz fs es→VRf cls fz ((x,c)::fs) (⟨hsh,.str x t,v⟩::es)
end
section
variable {cls:Str→Option Addr}{fz fz':Led}
mutual
theorem VR.mono(h:∀p∈fz,p∈fz'):∀{c:CV} {v:Value},VR cls fz c v→VR cls fz' c v
 |_,_,.none=>.none
 |_,_,.bool b=>.bool b
 |_,_,.int i t=>.int i t
 |_,_,.str s t=>.str s t
 |_,_,.st v a b=>.st v a b
 |_,_,.any v a=>.any v a
 |_,_,.rng hm=>.rng (h _ hm)
 |_,_,.ref a=>.ref a
 |_,_,.tup hm hv=>.tup (h _ hm) (VRs.mono h hv)
 |_,_,.lst hm hv=>.lst (h _ hm) (VRs.mono h hv)
 |_,_,.inst hc h1 h2 hv=>.inst hc (h _ h1) (h _ h2) (VRf.mono h hv)
 |_,_,.dct hm hs=>.dct (h _ hm) hs
theorem VRs.mono(h:∀p∈fz,p∈fz'):∀{c:List CV} {v:List Value},VRs cls fz c v→VRs cls fz' c v
 |_,_,.nil=>.nil
 |_,_,.cons a b=>.cons (VR.mono h a) (VRs.mono h b)
theorem VRf.mono(h:∀p∈fz,p∈fz'):∀{c:List (Str×CV)} {v:List DictEntry},VRf cls fz c v→VRf cls fz' c v
 |_,_,.nil=>.nil
 |_,_,.cons a b=>.cons (VR.mono h a) (VRf.mono h b)
end
theorem VRs.length{vs:List CV}{ws:List Value}(h:VRs cls fz vs ws):vs.length=ws.length:=by
 induction vs generalizing ws with
 |nil=>cases h;rfl
 |cons c cs ih=>cases h with|cons a b=>simp[ih b]
theorem VRs.get{vs:List CV}{ws:List Value}(h:VRs cls fz vs ws){i:Nat}{c:CV}(e:vs[i]?=some c):∃v,ws[i]?=some v∧VR cls fz c v:=by
 induction vs generalizing ws i with
 |nil=>simp at e
 |cons x xs ih=>
  cases h with
  |cons a b=>
   cases i with
   |zero=>simp only[List.getElem?_cons_zero,Option.some.injEq] at e;subst e;exact⟨_,by simp,a⟩
   |succ i=>simp only[List.getElem?_cons_succ] at e ⊢;exact ih b e
theorem VRs.append{as bs:List CV}{vs ws:List Value}(h:VRs cls fz as vs)(k:VRs cls fz bs ws):VRs cls fz (as++bs) (vs++ws):=by
 induction as generalizing vs with
 |nil=>cases h;exact k
 |cons x xs ih=>cases h with|cons a b=>exact .cons a (ih b)
end
inductive MR1(cls:Str→Option Addr)(fz:Led):Addr→MO→Led→Prop
 |lst {a:Addr} {vs:List CV} {ws:List Value} {n:Nat}:VRs cls fz vs ws→MR1 cls fz a (.lst vs) [(a,be ws n)]
 |inst {a dx C:Addr} {c:Str} {fs:List (Str×CV)} {es:List DictEntry} {n:Nat}:cls c=some C→VRf cls fz fs es→MR1 cls fz a (.inst c fs) [(a,instObj C dx),(dx,dictOf es n)]
 |exc0 {a C:Addr} {vs:Array Value} {sl:Array (Option Value)}:cls (Str.ofString "SqlError")=some C→4 < vs.size→vs[1]?=some .none→MR1 cls fz a (.exc none) [(a,⟨.ref C,none,.fields vs,sl⟩)]
 |exc1 {a C dx:Addr} {vs:Array Value} {sl:Array (Option Value)} {msg:Str} {n:Int} {t u:Tok}:cls (Str.ofString "SqlError")=some C→4 < vs.size→vs[1]?=some .none →
   MR1 cls fz a (.exc (some msg)) [(a,⟨.ref C,some dx,.fields vs,sl⟩),(dx,dictOf [⟨n,.str (Str.ofString "message") t,.str msg u⟩] 1)]
 |caught {a C dx:Addr} {vs:Array Value} {sl:Array (Option Value)} {msg:Str} {n:Int} {t u:Tok}:cls (Str.ofString "SqlError")=some C→(dx,dictOf [⟨n,.str (Str.ofString "message") t,.str msg u⟩] 1)∈fz →
   MR1 cls fz a (.caught msg) [(a,⟨.ref C,some dx,.fields vs,sl⟩)]
 |dead {a:Addr} {o:Obj}:(a,o)∈fz→MR1 cls fz a .dead []
inductive MRs(cls:Str→Option Addr)(fz:Led):MH→Led→Prop
 |nil:MRs cls fz [] []
 |cons {a:Addr} {o:MO} {M:MH} {l1 l2:Led}:MR1 cls fz a o l1→MRs cls fz M l2→MRs cls fz ((a,o)::M) (l1++l2)
section
variable {cls:Str→Option Addr}{fz fz':Led}
theorem MR1.mono(h:∀p∈fz,p∈fz'){a:Addr}{o:MO}{l:Led}:MR1 cls fz a o l→MR1 cls fz' a o l
 |.lst x=>.lst (x.mono h)
 |.inst c x=>.inst c (x.mono h)
 |.exc0 a b c=>.exc0 a b c
 |.exc1 a b c=>.exc1 a b c
 |.caught a b=>.caught a (h _ b)
 |.dead a=>.dead (h _ a)
theorem MRs.mono(h:∀p∈fz,p∈fz'):∀{M:MH} {l:Led},MRs cls fz M l→MRs cls fz' M l
 |_,_,.nil=>.nil
 |_,_,.cons a b=>.cons (a.mono h) (b.mono h)
theorem MRs.split{a:Addr}{o:MO}{M1 M2:MH}{l:Led}(h:MRs cls fz (M1++(a,o)::M2) l):∃l1 lx l2,l=l1++(lx++l2)∧MRs cls fz M1 l1∧MR1 cls fz a o lx∧MRs cls fz M2 l2:=by
 induction M1 generalizing l with
 |nil=>
  rw[List.nil_append] at h
  cases h with
  |cons x y=>exact⟨[],_,_,rfl,.nil,x,y⟩
 |cons p M1 ih=>
  rw[List.cons_append] at h
  cases h with
  |cons x y=>
   obtain⟨l1,lx,l2,e,p1,p2,p3⟩:=ih y
   exact⟨_++l1,lx,l2,by rw[e,List.append_assoc],.cons x p1,p2,p3⟩
theorem MRs.join{a:Addr}{o:MO}{M1 M2:MH}{l1 lx l2:Led}(p1:MRs cls fz M1 l1)(p2:MR1 cls fz a o lx)(p3:MRs cls fz M2 l2):MRs cls fz (M1++(a,o)::M2) (l1++(lx++l2)):=by
 induction p1 with
 |nil=>rw[List.nil_append,List.nil_append];exact .cons p2 p3
 |cons x _ ih=>rw[List.cons_append,List.append_assoc];exact .cons x ih
end
def lk(x:Str):List (Str×CV)→Option CV
 |[]=>none
 |(y,c)::r=>if y=x then some c else lk x r
def put(x:Str)(c:CV):List (Str×CV)→List (Str×CV)
 |[]=>[(x,c)]
 |(y,b)::r=>if y=x then (y,c)::r else (y,b)::put x c r
theorem dn(x:Str)(c:CV)(l:List (Str×CV)):lk x (put x c l)=some c:=by
 induction l with
 |nil=>simp[put,lk]
 |cons p r ih=>obtain⟨y,b⟩:=p;unfold put;by_cases q:y=x<;>simp[q,lk,ih]
theorem im{x y:Str}(h:y≠x)(c:CV)(l:List (Str×CV)):lk y (put x c l)=lk y l:=by
 induction l with
 |nil=>simp[put,lk,Ne.symm h]
 |cons p r ih=>
  obtain⟨z,b⟩:=p;unfold put
  by_cases q:z=x
  ·subst q;simp[lk,Ne.symm h]
  ·rw[if_neg q];unfold lk;rw[ih]
theorem MR1.has{cls:Str→Option Addr}{fz:Led}{a:Addr}{o:MO}{l:Led}(r:MR1 cls fz a o l):∃ob,(a,ob)∈l∨(a,ob)∈fz:=by
 cases r<;>first|exact⟨_,.inl (.head _)⟩|exact⟨_,.inr ‹_›⟩
def MH.get(M:MH)(a:Addr):Option MO:=M.lookup a
def MH.set(M:MH)(a:Addr)(o:MO):MH:=match M with
 |[]=>[]
 |p::r=>if p.1=a then (a,o)::r else p::MH.set r a o
theorem MH.get_split{M:MH}{a:Addr}{o:MO}(h:M.get a=some o):∃M1 M2,M=M1++(a,o)::M2∧∀o',M.set a o'=M1++(a,o')::M2:=by
 induction M with
 |nil=>cases h
 |cons p r ih=>
  obtain⟨b,x⟩:=p
  by_cases q:b=a
  ·subst q
   simp only[MH.get,List.lookup_cons,beq_self_eq_true,Option.some.injEq] at h
   subst h
   exact⟨[],r,rfl,fun o'=>by simp[MH.set]⟩
  ·have hb:(a == b)=false:=by simp;exact fun e=>q e.symm
   walk_at "dn"
   exact⟨(b,x)::M1,M2,by rw[e];rfl,fun o'=>by simp[MH.set,q,k o']⟩
structure Fc where
 env:Env
 L:Addr
 own:List (Str×Addr)
 envs:List Env
 frs:List (Addr×(Value×Data))
 pin:Led
 calm:Bool
inductive FOs:List (Addr×(Value×Data))→Led→Prop
 |nil:FOs [] []
 |cons {a:Addr} {d:Value×Data} {o:Obj} {fs:List (Addr×(Value×Data))} {l:Led}:(o.cls,o.data)=d→FOs fs l→FOs ((a,d)::fs) ((a,o)::l)
def aa(fz pin cells fo ml xo:Led):Led:=fz++(pin++(cells++(fo++(ml++xo))))
def Loc(cls:Str→Option Addr)(f:Fc)(fz:Led)(mr:Str→Option Value)(cells:Led)(x:Str)(c:CV):Prop:=
 (f.env.kindOf x=some .local∧∃v,mr x=some v∧VR cls fz c v) ∨
 ((f.env.kindOf x=some .cell∨f.env.kindOf x=some .free)∧∃a o v,f.env.cells.lookup x=some a∧(a,o)∈f.pin++cells∧o.data=.cell (some v)∧VR cls fz c v)
structure Hp(cls:Str→Option Addr)(h₀:Heap)(f:Fc)(fz:Led)(m:List (Str×CV))(M:MH)(xo:Led)(mr:Str→Option Value)(cells fo ml:Led)(h:Heap):Prop where
 F:Fr h₀ f.L h mr
 N:News h₀ f.L h (aa fz f.pin cells fo ml xo)
 nd:((aa fz f.pin cells fo ml xo).map (·.1)).Nodup
 cellsAre:∀x a,(x,a)∈f.own→∃o v,(a,o)∈cells∧o.data=.cell v
 fos:FOs f.frs fo
 mrs:MRs cls fz M ml
 loc:∀x c,lk x m=some c→Loc cls f fz mr cells x c
def St(cls:Str→Option Addr)(h₀:Heap)(os:OsState)(f:Fc)(fz:Led)(m:List (Str×CV))(M:MH)(xo:Led)(s:Shared):Prop:=
 (∃mr cells fo ml,Hp cls h₀ f fz m M xo mr cells fo ml s.heap)∧s.gens = #[]∧s.os=os
section
variable {cls:Str→Option Addr}{h₀:Heap}{os:OsState}{f:Fc}{fz fz':Led}{m m':List (Str×CV)}{M M':MH}{xo:Led}{s s':Shared}{mr:Str→Option Value}{cells fo ml:Led}{h h':Heap}
theorem Loc.mono(k:∀p∈fz,p∈fz'){x:Str}{c:CV}(z:Loc cls f fz mr cells x c):Loc cls f fz' mr cells x c:=by
 rcases z with ⟨a,v,b,r⟩|⟨a,c',o,v,b,d,e,r⟩
 ·exact .inl ⟨a,v,b,r.mono k⟩
 ·exact .inr ⟨a,c',o,v,b,d,e,r.mono k⟩
theorem St.forget(S:St cls h₀ os f fz m M xo s):St cls h₀ os f fz [] M xo s:=by
 walk_at "ak"
 exact⟨⟨mr,cells,fo,ml,⟨H.F,H.N,H.nd,H.cellsAre,H.fos,H.mrs,fun _ _ e=>by cases e⟩⟩,g,o⟩
theorem Hp.pushF(H:Hp cls h₀ f fz m M xo mr cells fo ml h){x:Addr}{o:Obj}(F':Fr h₀ f.L h' mr)(N':News h₀ f.L h' ((x,o)::aa fz f.pin cells fo ml xo))(lt:∀p∈aa fz f.pin cells fo ml xo,p.1 < x) :
  Hp cls h₀ f ((x,o)::fz) m M xo mr cells fo ml h':=by
 refine⟨F',N',?_,H.cellsAre,H.fos,H.mrs.mono fun p hp=>.tail _ hp,fun _ _ e=>(H.loc _ _ e).mono fun p hp=>.tail _ hp⟩
 show ((x,o)::aa fz f.pin cells fo ml xo |>.map (·.1)).Nodup
 rw[List.map_cons,List.nodup_cons]
 exact⟨fun q=>by obtain⟨p,hp,e⟩:=List.mem_map.mp q;exact absurd (e▸lt p hp) (Nat.lt_irrefl _),H.nd⟩
theorem my{lx:Led}:(lx++aa fz f.pin cells fo ml xo).Perm (aa fz f.pin cells fo (lx++ml) xo):=by
 unfold aa
 have h1:∀A B C:Led,(A++(B++C)).Perm (B++(A++C)):=fun A B C=>by
  rw[←List.append_assoc,←List.append_assoc]
  exact List.perm_append_comm.append_right C
 walk_at "cB"
 walk_at "cB"
 walk_at "cB"
 walk_at "cB"
 rw[List.append_assoc]
theorem jE{l l':Led}{L:Addr}(p:l.Perm l')(N:News h₀ L h l):News h₀ L h l':=fun q hq=>N q (p.mem_iff.mpr hq)
theorem Hp.pushM(H:Hp cls h₀ f fz m M xo mr cells fo ml h){a:Addr}{o:MO}{lx:Led}(F':Fr h₀ f.L h' mr)(N':News h₀ f.L h' (lx++aa fz f.pin cells fo ml xo))(nd:((lx++aa fz f.pin cells fo ml xo).map (·.1)).Nodup)(r:MR1 cls fz a o lx) :
  Hp cls h₀ f fz m ((a,o)::M) xo mr cells fo (lx++ml) h':=by
 have P:=my (fz:=fz) (f:=f) (cells:=cells) (fo:=fo) (ml:=ml) (xo:=xo) (lx:=lx)
 exact⟨F',jE P N',(P.map _).nodup_iff.mp nd,H.cellsAre,H.fos,.cons r H.mrs,H.loc⟩
theorem jr{a:Addr}{o o':Obj}:∀{l1 l2:Led},((l1++(a,o)::l2).map (·.1)).Nodup→Upd a o o' (l1++(a,o)::l2) (l1++(a,o')::l2)
 |[],l2,nd=>by
  refine .head fun p hp e=>?_
  rw[List.nil_append,List.map_cons,List.nodup_cons] at nd
  exact nd.1 (List.mem_map.mpr ⟨p,hp,e⟩)
 |p::l1,l2,nd=>by
  rw[List.cons_append,List.map_cons,List.nodup_cons] at nd
  refine .tail (fun e=>nd.1 ?_) (jr nd.2)
  rw[e]
  exact List.mem_map.mpr ⟨(a,o),List.mem_append_right _ (.head _),rfl⟩
theorem gL{a:Addr}{o o':Obj}{l1 l2:Led}:(l1++(a,o')::l2).map (·.1)=(l1++(a,o)::l2).map (·.1):=by simp
theorem Hp.lstAt(H:Hp cls h₀ f fz m M xo mr cells fo ml h){a:Addr}{vs:List CV}(hg:M.get a=some (.lst vs)) :
  ∃pre post ws n,aa fz f.pin cells fo ml xo=pre++(a,be ws n)::post∧VRs cls fz vs ws ∧
   ∀vs' ws' n' h',Fr h₀ f.L h' mr→News h₀ f.L h' (pre++(a,be ws' n')::post)→VRs cls fz vs' ws'→∃ml',Hp cls h₀ f fz m (M.set a (.lst vs')) xo mr cells fo ml' h':=by
 obtain⟨M1,M2,eM,hs⟩:=MH.get_split hg
 walk_at "b4"
 cases p2 with
 |@lst _ ws n hv=>
  have e:∀o':Obj,aa fz f.pin cells fo (l1++([(a,o')]++l2)) xo=(fz++(f.pin++(cells++(fo++l1))))++(a,o')::(l2++xo):=fun o'=>by simp[aa]
  refine⟨fz++(f.pin++(cells++(fo++l1))),l2++xo,ws,n,by rw[el,e],hv,fun vs' ws' n' h' F' N' hv'=>⟨l1++([(a,be ws' n')]++l2),F',by rw[e];exact N',?_,H.cellsAre,H.fos,by rw[hs];exact p1.join (.lst hv') p3,H.loc⟩⟩
  have:=H.nd
  rw[el,e] at this
  rw[e,gL (o:=be ws n)]
  exact this
theorem Hp.instAt(H:Hp cls h₀ f fz m M xo mr cells fo ml h){a:Addr}{c:Str}{fs:List (Str×CV)}(hg:M.get a=some (.inst c fs)) :
  ∃pre post C dx es n,aa fz f.pin cells fo ml xo=pre++(dx,dictOf es n)::post∧(a,instObj C dx)∈aa fz f.pin cells fo ml xo∧cls c=some C∧VRf cls fz fs es ∧
   ∀fs' es' n' h',Fr h₀ f.L h' mr→News h₀ f.L h' (pre++(dx,dictOf es' n')::post)→VRf cls fz fs' es'→∃ml',Hp cls h₀ f fz m (M.set a (.inst c fs')) xo mr cells fo ml' h':=by
 obtain⟨M1,M2,eM,hs⟩:=MH.get_split hg
 walk_at "b4"
 cases p2 with
 |@inst dx C _ _ es n hc hv=>
  have e:∀o':Obj,aa fz f.pin cells fo (l1++([(a,instObj C dx),(dx,o')]++l2)) xo=(fz++(f.pin++(cells++(fo++(l1++[(a,instObj C dx)])))))++(dx,o')::(l2++xo):=fun o'=>by simp[aa]
  refine⟨fz++(f.pin++(cells++(fo++(l1++[(a,instObj C dx)])))),l2++xo,C,dx,es,n,by rw[el,e],by rw[el];simp[aa],hc,hv,fun fs' es' n' h' F' N' hv'=>⟨l1++([(a,instObj C dx),(dx,dictOf es' n')]++l2),F',by rw[e];exact N',?_,H.cellsAre,H.fos,by rw[hs];exact p1.join (.inst hc hv') p3,H.loc⟩⟩
  have:=H.nd
  rw[el,e] at this
  rw[e,gL (o:=dictOf es n)]
  exact this
theorem Hp.mem_fz(H:Hp cls h₀ f fz m M xo mr cells fo ml h){p:Addr×Obj}(hp:p∈fz):p∈aa fz f.pin cells fo ml xo:=List.mem_append_left _ hp
theorem Hp.mem_loc(H:Hp cls h₀ f fz m M xo mr cells fo ml h){p:Addr×Obj}(hp:p∈f.pin++cells):p∈aa fz f.pin cells fo ml xo:=by
 rcases List.mem_append.mp hp with q|q<;>simp[aa,q]
end
structure Wd where
 prog:Program
 w:World
 K:Frag
 cls:Str→Option Addr
 h₀:Heap
 os:OsState
 p:Program
 loose:List Str
 mg:Str→Option Value
 mb:Str→Option Value
 X:K.In h₀
 T:TopRead p loose mg mb h₀
structure we(f:Fc):Prop where
 kind:f.env.scope.kind=.function
 loc:f.env.locals=f.L
 glo:f.env.globals=mainGlobals
 blt:f.env.builtins=builtinsNs
 fr:∀e∈f.envs,e.scope.kind≠.module∧∃a,e.frame=some a∧(a=f.L∨∃d,(a,d)∈f.frs∧∀vs,d.2≠.fields vs)
 top:∃e r a,f.envs=e::r∧e.frame=some a∧f.env.frame=some a
 inj:∀x y a,f.env.cells.lookup x=some a→f.env.cells.lookup y=some a→x=y
structure AOk(f:Fc)(d:Nat)(A:Around):Prop where
 handled:f.calm=true→A.handled=none
 frames:A.frames=some f.envs
 depth:A.depth+4*d+10≤990
 units:A.units+20*d+60≤9000
 guards:A.guards=some []
 fc:we f
theorem AOk.less{f:Fc}{d e:Nat}{A:Around}(a:AOk f d A)(h:e≤d):AOk f e A:=⟨a.handled,a.frames,by have:=a.depth;omega,by have:=a.units;omega,a.guards,a.fc⟩
section
variable (D:Wd)(f:Fc)(d:Nat)
def Sub(fz fz':Led):Prop:=∀p∈fz,p∈fz'
abbrev SS(fz:Led)(m:List (Str×CV))(M:MH)(s:Shared):Prop:=St D.cls D.h₀ D.os f fz m M [] s
def ExO(xo:Led)(fz:Led)(msg:Str)(ev:Value):Prop:=
 ∃e C dx vs sl n,∃t u:Tok,ev=.ref e∧D.cls (Str.ofString "SqlError")=some C∧(dx,dictOf [⟨n,.str (Str.ofString "message") t,.str msg u⟩] 1)∈fz∧4 < vs.size ∧
  ((xo=[(e,⟨.ref C,some dx,.fields vs,sl⟩)]∧vs[1]?=some .none) ∨
  ∃T tc td ts tsl,xo=[(e,⟨.ref C,some dx,.fields vs,sl⟩),(T,⟨tc,td,.fields ts,tsl⟩)]∧vs[1]?=some (.ref T)∧3 < ts.size)
def XP(fz:Led)(X:Str→MH→Prop)(ev:Value)(s:Shared):Prop:=
 ∃fz' M' xo msg,Sub fz fz'∧St D.cls D.h₀ D.os f fz' [] M' xo s∧ExO D xo fz' msg ev∧X msg M'
def VP(fz:Led)(m:List (Str×CV))(Φ:CV→MH→Prop)(v:Value)(s:Shared):Prop:=
 ∃fz' c M',Sub fz fz'∧SS D f fz' m M' s∧VR D.cls fz' c v∧Φ c M'
def WE(e:Expr)(m:List (Str×CV))(M:MH)(Φ:CV→MH→Prop)(X:Str→MH→Prop):Prop:=
 ∀fz A s,AOk f d A→SS D f fz m M s→wpAny (model D.prog D.w) A (eval e f.env) (VP D f fz m Φ) (XP D f fz X) s
def LP(fz:Led)(m:List (Str×CV))(Φ:List CV→MH→Prop)(vs:List Value)(s:Shared):Prop:=
 ∃fz' cs M',Sub fz fz'∧SS D f fz' m M' s∧VRs D.cls fz' cs vs∧Φ cs M'
def WL(es:List Expr)(m:List (Str×CV))(M:MH)(Φ:List CV→MH→Prop)(X:Str→MH→Prop):Prop:=
 ∀pos fz A s,AOk f d A→SS D f fz m M s→wpAny (model D.prog D.w) A (spliced (backTo pos (starEach es f.env))) (LP D f fz m Φ) (XP D f fz X) s
def BP(fz:Led)(m:List (Str×CV))(Φ:Bool→MH→Prop)(b:Bool)(s:Shared):Prop:=∃fz' M',Sub fz fz'∧SS D f fz' m M' s∧Φ b M'
def WB(e:Expr)(m:List (Str×CV))(M:MH)(Φ:Bool→MH→Prop)(X:Str→MH→Prop):Prop:=
 ∀fz A s,AOk f d A→SS D f fz m M s→wpAny (model D.prog D.w) A (isTrue e f.env (eval e f.env)) (BP D f fz m Φ) (XP D f fz X) s
def WO(t:List Value→Sem Value)(cs:List CV)(M:MH)(Φ:CV→MH→Prop)(X:Str→MH→Prop):Prop:=
 ∀fz m A s vs,AOk f d A→SS D f fz m M s→VRs D.cls fz cs vs→wpAny (model D.prog D.w) A (t vs) (VP D f fz m Φ) (XP D f fz X) s
end
section
variable {D:Wd}{f:Fc}{d:Nat}{m:List (Str×CV)}{M M':MH}{Φ Ψ:CV→MH→Prop}{X Y:Str→MH→Prop}{fz fz':Led}{s:Shared}{A:Around}
theorem Sub.rfl':Sub fz fz:=fun _ h=>h
theorem Sub.tr{a b c:Led}(x:Sub a b)(y:Sub b c):Sub a c:=fun p h=>y p (x p h)
theorem XP.sub(k:Sub fz fz'){ev:Value}:XP D f fz' X ev s→XP D f fz X ev s:=fun⟨a,b,c,e,g,r⟩=>⟨a,b,c,e,k.tr g,r⟩
theorem VP.sub(k:Sub fz fz'){v:Value}:VP D f fz' m Φ v s→VP D f fz m Φ v s:=fun⟨a,b,c,g,r⟩=>⟨a,b,c,k.tr g,r⟩
theorem BP.sub(k:Sub fz fz'){Φ:Bool→MH→Prop}{v:Bool}:BP D f fz' m Φ v s→BP D f fz m Φ v s:=fun⟨a,b,g,r⟩=>⟨a,b,k.tr g,r⟩
theorem WE.mono{e:Expr}(h:WE D f d e m M Φ X)(k:∀c M,Φ c M→Ψ c M)(l:∀c M,X c M→Y c M):WE D f d e m M Ψ Y:=fun fz A s a S=>
 wpAny_mono (h fz A s a S) (fun _ _ ⟨p,q,r,g,u,t,z⟩=>⟨p,q,r,g,u,t,k _ _ z⟩) (fun _ _ ⟨p,q,r,g,u,t,y,z⟩=>⟨p,q,r,g,u,t,y,l _ _ z⟩)
theorem Ee{x:Str}{k pos}(h:Φ (.str x) M):WE D f d (.Constant (.str x) k pos) m M Φ X:=fun fz A s _ S=>
 wpAny_Constant_str ⟨fz,_,M,Sub.rfl',S,.str x _,h⟩
theorem Eg{x:Int}{k pos}(h:Φ (.int x) M):WE D f d (.Constant (.int x) k pos) m M Φ X:=fun fz A s _ S=>
 wpAny_Constant_int ⟨fz,_,M,Sub.rfl',S,.int x _,h⟩
theorem A6{x:Bool}{k pos}(h:Φ (.bool x) M):WE D f d (.Constant (.bool x) k pos) m M Φ X:=fun fz A s _ S=>
 wpAny_Constant_bool ⟨fz,_,M,Sub.rfl',S,.bool x,h⟩
theorem A0{k pos}(h:Φ .none M):WE D f d (.Constant .none k pos) m M Φ X:=fun fz A s _ S=>
 wpAny_Constant_none ⟨fz,_,M,Sub.rfl',S,.none,h⟩
theorem tz{x:Str}{pos:Pos}{c:CV}(e:lk x m=some c)(h:Φ c M)(hd:(x == ("__debug__" : Str))=false:=by decide)(hc:(x == ("__classdict__" : Str))=false:=by decide):WE D f d (.Name x pos) m M Φ X:=by
 intro fz A s a S
 have ok:=a.fc
 walk_at "bu"
 refine wpAny_Name ?_ hd
 rcases H.loc x c e with ⟨hk,v,hv,r⟩|⟨hk,a,ob,v,hl,hm,hda,r⟩
 ·exact wpAny_loadName_local ok.kind hk (ok.loc▸H.F.ns) hv ⟨fz,c,M,Sub.rfl',S,r,h⟩
 ·have hcell:s.heap.IsCell a (some v):=⟨ob,H.N.get (H.mem_loc hm),hda⟩
  rcases hk with hk|hk
  ·exact wpAny_loadName_cell ok.kind hk hl hcell ⟨fz,c,M,Sub.rfl',S,r,h⟩
  ·exact wpAny_loadName_free ok.kind hk hl hcell ⟨fz,c,M,Sub.rfl',S,r,h⟩ hc
theorem A3{x:Str}{pos:Pos}{c:CV}{v:Value}(hx:f.env.kindOf x=some .globalImplicit)(e:nsIn D.K mainGlobals x=some (some v))(r:VR D.cls [] c v)(h:Φ c M)(hd:(x == ("__debug__" : Str))=false:=by decide):WE D f d (.Name x pos) m M Φ X:=by
 intro fz A s a S
 have ok:=a.fc
 walk_at "bu"
 exact Calls.Name_function_global ok.kind hx (Calls.loadGlobal_global (ok.glo▸D.T.g.keeps H.F.keep) (mg_of D.X D.T.g e) ⟨fz,c,M,Sub.rfl',S,r.mono (fun _ h=>by cases h),h⟩) hd
theorem Ei{x:Str}{pos:Pos}{v:Value}(hx:f.env.kindOf x=some .globalImplicit)(e:nsIn D.K mainGlobals x=some none)(hv:bootBuiltins x=some v)(hn:x ≠ "__name__")(hi:handedIn v=true)(hnn:(v == Value.none)=false)(h:Φ (.st v) M)(hd:(x == ("__debug__" : Str))=false:=by decide):WE D f d (.Name x pos) m M Φ X:=by
 intro fz A s a S
 have ok:=a.fc
 walk_at "bu"
 exact Calls.Name_function_global ok.kind hx (Calls.loadGlobal_builtin (ok.glo▸D.T.g.keeps H.F.keep) (mg_none_of D.X D.T.g e) (ok.blt▸D.T.b.keeps H.F.keep) ((D.T.builtins x hn).trans hv) ⟨fz,_,M,Sub.rfl',S,.st v hi hnn,h⟩) hd
theorem Eb{Φ:List CV→MH→Prop}(h:Φ [] M):WL D f d [] m M Φ X:=fun pos fz A s _ S=>spliced_none ⟨fz,[],M,Sub.rfl',S,.nil,h⟩
theorem AT{e:Expr}{es:List Expr}{Φ:List CV→MH→Prop}(h:WE D f d e m M (fun c M'=>WL D f d es m M' (fun cs=>Φ (c::cs)) X) X)(he:starEach (e::es) f.env=(false,eval e f.env)::starEach es f.env:=by rfl):WL D f d (e::es) m M Φ X:=by
 intro pos fz A s a S
 refine spliced_more (wpAny_mono (h fz A s a S) (fun v s₁ h₁=>?_) fun _ _ z=>z) he
 obtain⟨fz',c,M',k,S',r,w⟩:=h₁
 refine wpAny_mono (w pos fz' A s₁ a S') (fun vs s₂ h₂=>?_) fun _ _ z=>z.sub k
 obtain⟨fz'',cs,M'',k',S'',rs,z⟩:=h₂
 exact⟨fz'',c::cs,M'',k.tr k',S'',.cons (r.mono k') rs,z⟩
theorem cD{n:Nat}(h:n≤1000):n≤sizeLine:=Nat.le_trans h (by decide)
theorem Ed{es:List Expr}{k:Nat}{pos:Pos}(h:WL D f d es m M (fun cs M=>cs.length≤1000∧Φ (.tup cs) M) X):WE D f d (.Tuple es k pos) m M Φ X:=by
 intro fz A s a S
 refine Tuple_ (wpAny_mono (h pos fz A s a S) (fun vs s₁ h₁=>?_) fun _ _ z=>z)
 obtain⟨fz',cs,M',k',⟨⟨mr,cells,fo,ml,H⟩,g,o⟩,rs,hz,z⟩:=h₁
 refine newTuple_N H.F H.N (fun h' F' N'=>?_) (cD (rs.length▸hz))
 have lt:∀p∈aa fz' f.pin cells fo ml [],p.1 < s₁.heap.objs.size:=fun p hp=>Heap.lt_size (H.N p hp).1
 exact⟨(_,iF vs 0)::fz',_,M',fun p hp=>.tail _ (k' p hp),⟨⟨mr,cells,fo,ml,H.pushF F' N' lt⟩,g,o⟩,.tup (.head _) (rs.mono fun p hp=>.tail _ hp),z⟩
theorem bp{x:Addr}{o:Obj}{l:Led}(lt:∀p∈l,p.1 < x)(nd:(l.map (·.1)).Nodup):(((x,o)::l).map (·.1)).Nodup:=by
 rw[List.map_cons,List.nodup_cons]
 exact⟨fun q=>by obtain⟨p,hp,e⟩:=List.mem_map.mp q;exact absurd (e▸lt p hp) (Nat.lt_irrefl _),nd⟩
theorem Hp.noM{cls:Str→Option Addr}{h₀:Heap}{xo:Led}{mr:Str→Option Value}{cells fo ml:Led}{h:Heap}(H:Hp cls h₀ f fz m M xo mr cells fo ml h){a:Addr}(e:h.get? a=none):M.get a=none:=by
 cases q:M.get a with
 |none=>rfl
 |some o=>
  obtain⟨M1,M2,eM,_⟩:=MH.get_split q
  walk_at "b4"
  obtain⟨ob,hm⟩:=p2.has
  have hn:=(H.N (a,ob) (by rw[el];rcases hm with hm|hm<;>simp[aa,hm])).1
  rw[e] at hn;cases hn
theorem A2{es:List Expr}{pos:Pos}(h:WL D f d es m M (fun cs M=>cs.length≤1000∧∀a,M.get a=none→Φ (.ref a) ((a,.lst cs)::M)) X):WE D f d (.List es pos) m M Φ X:=by
 intro fz A s a S
 refine List_ (wpAny_mono (h pos fz A s a S) (fun vs s₁ h₁=>?_) fun _ _ z=>z)
 obtain⟨fz',cs,M',k',⟨⟨mr,cells,fo,ml,H⟩,g,o⟩,rs,hz,z⟩:=h₁
 refine newList_N H.F H.N (fun h' F' N'=>?_) (cD (rs.length▸hz))
 have lt:∀p∈aa fz' f.pin cells fo ml [],p.1 < s₁.heap.objs.size:=fun p hp=>Heap.lt_size (H.N p hp).1
 exact⟨fz',_,_,k',⟨⟨mr,cells,fo,_,H.pushM (lx:=[(_,be vs 0)]) F' N' (bp lt H.nd) (.lst rs)⟩,g,o⟩,.ref _,z _ (H.noM (Heap.get?_none_of_le (Nat.le_refl _)))⟩
end
def CV.plain:CV→Bool
 |.st _=>false
 |.any=>false
 |_=>true
section
variable {cls:Str→Option Addr}{fz:Led}
theorem VR.handed{c:CV}{v:Value}(r:VR cls fz c v):handedIn v=true:=by
 cases r<;>first|rfl|assumption
theorem VRf.find{x:Str}{c:CV}:∀{fs:List (Str×CV)} {es:List DictEntry},VRf cls fz fs es→lk x fs=some c→∃e,es.find? (·.key.isStr x)=some e∧VR cls fz c e.val
 |_,_,.nil,h=>by cases h
 |_,_,.cons (x:=y) (t:=t) (hsh:=hs) (v:=v) a b,h=>by
  unfold lk at h
  by_cases q:y=x
  ·rw[if_pos q] at h
   cases h
   exact⟨_,by rw[List.find?_cons_of_pos (by simp[Value.isStr,q])],a⟩
  ·rw[if_neg q] at h
   obtain⟨e,he,r⟩:=b.find h
   exact⟨e,by rw[List.find?_cons_of_neg (by simp[Value.isStr,q]),he],r⟩
theorem VRf.getL{x:Str}{c:CV}{fs:List (Str×CV)}{es:List DictEntry}(r:VRf cls fz fs es)(h:lk x fs=some c):∃v,PySem.W.getL x es=some (some v)∧VR cls fz c v:=by
 obtain⟨e,he,r'⟩:=r.find h
 exact⟨e.val,by unfold PySem.W.getL;rw[he],r'⟩
theorem VRf.miss{x:Str}:∀{fs:List (Str×CV)} {es:List DictEntry},VRf cls fz fs es→lk x fs=none→es.find? (·.key.isStr x)=none∧es.any (·.refKey)=false
 |_,_,.nil,_=>⟨rfl,rfl⟩
 |_,_,.cons (x:=y) a b,h=>by
  unfold lk at h
  by_cases q:y=x
  ·rw[if_pos q] at h;cases h
  ·rw[if_neg q] at h
   obtain⟨h1,h2⟩:=b.miss h
   exact⟨by rw[List.find?_cons_of_neg (by simp[Value.isStr,q]),h1],by rw[List.any_cons,h2];rfl⟩
theorem VRf.getL_none{x:Str}{fs:List (Str×CV)}{es:List DictEntry}(r:VRf cls fz fs es)(h:lk x fs=none):PySem.W.getL x es=some none:=by
 obtain⟨h1,h2⟩:=r.miss h
 unfold PySem.W.getL;rw[h1,h2];rfl
theorem VRf.putL{x:Str}{c:CV}{v:Value}{hsh:Int}{tk:Tok}(rv:VR cls fz c v):∀{fs:List (Str×CV)} {es:List DictEntry},VRf cls fz fs es→VRf cls fz (put x c fs) (PySem.W.putL x hsh (.str x tk) v es)
 |_,_,.nil=>.cons rv .nil
 |_,_,.cons (x:=y) (t:=t) a b=>by
  unfold put PySem.W.putL
  by_cases q:y=x
  ·rw[if_pos q,if_pos (by simp[Value.isStr,q])]
   exact .cons rv b
  ·rw[if_neg q,if_neg (by simp[Value.isStr,q])]
   exact .cons a (VRf.putL rv b)
theorem VRf.length:∀{fs:List (Str×CV)} {es:List DictEntry},VRf cls fz fs es→fs.length=es.length
 |_,_,.nil=>rfl
 |_,_,.cons a b=>by simp[b.length]
end
def qG(K:Frag)(C:Addr)(x:Str):Bool:=plainGet K C x&&hasDictIn K C&&findIn K (.ref C) x == some none
theorem qF{K:Frag}{C:Addr}{x:Str}(h:qG K C x=true):plainGet K C x=true∧hasDictIn K C=true∧findIn K (.ref C) x=some none:=by
 unfold qG at h
 simp only[Bool.and_eq_true,beq_iff_eq] at h
 exact⟨h.1.1,h.1.2,h.2⟩
def tX(K:Frag)(C:Addr)(x:Str):Bool:=findIn K (.ref C) "__setattr__" == some (some (.builtin "object.__setattr__"))&&plainOver K C&&takerIn K C x == some none
theorem wz{K:Frag}{C:Addr}{x:Str}(h:tX K C x=true):findIn K (.ref C) "__setattr__" = some (some (.builtin "object.__setattr__"))∧plainOver K C=true∧takerIn K C x=some none:=by
 unfold tX at h
 simp only[Bool.and_eq_true,beq_iff_eq] at h
 exact⟨h.1.1,h.1.2,h.2⟩
def Fld(D:Wd)(c x:Str):Prop:=∀C,D.cls c=some C→qG D.K C x=true
def E8(D:Wd)(c x:Str):Prop:=∀C,D.cls c=some C→qG D.K C x=true∧tX D.K C x=true
section
variable {D:Wd}{f:Fc}{d:Nat}{m:List (Str×CV)}{M M':MH}{Φ Ψ:CV→MH→Prop}{X Y:Str→MH→Prop}{fz fz':Led}{s:Shared}{A:Around}
def jl(M:MH)(x:Str):CV→Option (Str×CV)
 |.inst c fs=>(lk x fs).map fun v=>(c,v)
 |.ref a=>match M.get a with
  |some (.inst c fs)=>(lk x fs).map fun v=>(c,v)
  |_=>none
 |_=>none
theorem su{x c:Str}{o v:CV}{ov:Value}{expr:Bool}(S:SS D f fz m M s)(r:VR D.cls fz o ov)(h:jl M x o=some (c,v))(ok:Fld D c x)(hq:Φ v M) :
  wpAny (model D.prog D.w) A (getAttr ov x expr) (VP D f fz m Φ) (XP D f fz X) s:=by
 obtain⟨⟨mr,cells,fo,ml,H⟩,g,os⟩:=id S
 have key:∀{a dx C:Addr} {es:List DictEntry} {n:Nat} {fs:List (Str×CV)},ov=.ref a→D.cls c=some C→(a,instObj C dx)∈aa fz f.pin cells fo ml []→(dx,dictOf es n)∈aa fz f.pin cells fo ml []→VRf D.cls fz fs es→lk x fs=some v →
   wpAny (model D.prog D.w) A (getAttr ov x expr) (VP D f fz m Φ) (XP D f fz X) s:=by
  intro a dx C es n fs e hc h1 h2 rf hl
  subst e
  obtain⟨w,hg,rw⟩:=rf.getL hl
  obtain⟨p1,p2,p3⟩:=qF (ok C hc)
  exact get_own H.F D.X (InstAt.of_news H.N h1 h2) p1 p2 p3 rfl hg rw.handed ⟨fz,v,M,Sub.rfl',S,rw,hq⟩
 cases r with
 |inst hc h1 h2 rf=>
  simp only[jl,Option.map_eq_some_iff] at h
  obtain⟨v',hl,e⟩:=h
  cases e
  exact key rfl hc (H.mem_fz h1) (H.mem_fz h2) rf hl
 |ref a=>
  simp only[jl] at h
  split at h
  ·rename_i c' fs hg
   obtain⟨v',hl,e⟩:=Option.map_eq_some_iff.mp h
   cases e
   obtain⟨pre,post,C,dx,es,n,e1,e2,hc,rf,_⟩:=H.instAt hg
   exact key rfl hc e2 (by rw[e1];exact List.mem_append_right _ (.head _)) rf hl
  ·cases h
 |_=>cases h
theorem A7{e:Expr}{x:Str}{pos:Pos}(h:WE D f d e m M (fun o M'=>∃c v,jl M' x o=some (c,v)∧Fld D c x∧Φ v M') X)
  (hb:attributeBase e x f.env (eval e f.env)=eval e f.env:=by rfl):WE D f d (.Attribute e x pos) m M Φ X:=by
 walk_at "cg"
 obtain⟨fz',o,M',k,S',r,c,v,ha,ok,hq⟩:=h₁
 exact wpAny_mono (su S' r ha ok hq) (fun v' s₂ z=>wpAny_bind (wpAny_letTemporaryGo (wpAny_pure (z.sub k)))) fun _ _ z=>z.sub k
end
section
variable {cls:Str→Option Addr}{h₀:Heap}{f:Fc}{fz:Led}{m:List (Str×CV)}{M:MH}{xo:Led}{mr:Str→Option Value}{cells fo ml:Led}{h h':Heap}
theorem FOs.slots{S:List Addr}(hs:Heap.SlotsOnly S h h'):∀{fs:List (Addr×(Value×Data))} {l:Led},FOs fs l→(∀p∈l,h.get? p.1=some p.2) →
  ∃l',FOs fs l'∧l'.map (·.1)=l.map (·.1)∧∀p∈l',h'.get? p.1=some p.2
 |_,_,.nil,_=>⟨[],.nil,rfl,fun _ hp=>nomatch hp⟩
 |_,_,.cons (a:=a) (o:=o) hd r,hg=>by
  obtain⟨l',r',e,k⟩:=FOs.slots hs r fun p hp=>hg p (.tail _ hp)
  obtain⟨sl,hsl⟩:=hs.2.2 a o (hg _ (.head _))
  exact⟨(a,{ o with slots:=sl })::l',.cons hd r',by simp[e],fun p hp=>by
   cases hp with
   |head=>exact hsl
   |tail _ hp=>exact k p hp⟩
theorem FOs.mem{fs:List (Addr×(Value×Data))}{l:Led}(x:FOs fs l){a:Addr}{d:Value×Data}(hm:(a,d)∈fs):∃o,(a,o)∈l∧(o.cls,o.data)=d:=by
 induction x with
 |nil=>cases hm
 |cons hd _ ih=>
  cases hm with
  |head=>exact⟨_,.head _,hd⟩
  |tail _ hm=>obtain⟨o,h1,h2⟩:=ih hm;exact⟨o,.tail _ h1,h2⟩
theorem Hp.frame(H:Hp cls h₀ f fz m M xo mr cells fo ml h){a:Addr}(ha:a=f.L∨∃d,(a,d)∈f.frs∧∀vs,d.2≠.fields vs) :
  ∃o,h.get? a=some o∧∀vs,o.data≠.fields vs:=by
 rcases ha with rfl|⟨d,hd,hn⟩
 ·obtain⟨o,es,ep,ho,hd,_⟩:=H.F.ns
  exact⟨o,ho,fun vs q=>by rw[hd] at q;cases q⟩
 ·obtain⟨o,ho,e⟩:=H.fos.mem hd
  exact⟨o,(H.N (a,o) (by simp[aa,ho])).1,fun vs q=>hn vs (by rw[←e];exact q)⟩
theorem Hp.slots{S:List Addr}(H:Hp cls h₀ f fz m M xo mr cells fo ml h)(hs:Heap.SlotsOnly S h h')(hS:∀a∈S,a=f.L∨∃d,(a,d)∈f.frs) :
  ∃fo',Hp cls h₀ f fz m M xo mr cells fo' ml h'∧fo'.map (·.1)=fo.map (·.1):=by
 obtain⟨fo',x,e,k⟩:=H.fos.slots hs fun p hp=>(H.N p (by simp[aa,hp])).1
 have keys:(aa fz f.pin cells fo' ml xo).map (·.1)=(aa fz f.pin cells fo ml xo).map (·.1):=by simp[aa,e]
 have fresh:∀a∈S,h₀.get? a=none:=fun a ha=>by
  rcases hS a ha with rfl|⟨d,hd⟩
  ·exact Heap.get?_none_of_le H.F.above
  ·obtain⟨o,ho,_⟩:=H.fos.mem hd
   exact(H.N _ (show (a,o)∈_ by simp[aa,ho])).2.2
 have nd:=H.nd
 simp only[aa,List.map_append,List.nodup_append,List.mem_append] at nd
 obtain⟨_,⟨_,⟨_,⟨_,⟨_,_,_⟩,n4⟩,n3⟩,n2⟩,n1⟩:=nd
 have out:∀p,(p∈fz∨p∈f.pin∨p∈cells∨p∈ml∨p∈xo)→p.1∉S:=fun p hp hS'=>by
  have hin:p∈aa fz f.pin cells fo ml xo:=by
   rcases hp with q|q|q|q|q<;>simp[aa,q]
  rcases hS _ hS' with q|⟨d,hd⟩
  ·exact(H.N p hin).2.1 q
  ·obtain⟨o,ho,_⟩:=H.fos.mem hd
   have hk:p.1∈fo.map (·.1):=List.mem_map.mpr ⟨(p.1,o),ho,rfl⟩
   rcases hp with q|q|q|q|q
   ·exact n1 _ (List.mem_map_of_mem q) _ (.inr (.inr (.inl hk))) rfl
   ·exact n2 _ (List.mem_map_of_mem q) _ (.inr (.inl hk)) rfl
   ·exact n3 _ (List.mem_map_of_mem q) _ (.inl hk) rfl
   ·exact n4 _ hk _ (.inl (List.mem_map_of_mem q)) rfl
   ·exact n4 _ hk _ (.inr (List.mem_map_of_mem q)) rfl
 obtain⟨oL,es,ep,hL,hd,hk,hf⟩:=H.F.ns
 obtain⟨sl,hL'⟩:=hs.2.2 _ _ hL
 refine⟨fo',⟨⟨⟨_,es,ep,hL',hd,hk,hf⟩,fun b o hb=>(hs.2.1 b fun q=>by rw[fresh b q] at hb;cases hb).trans (H.F.keep b o hb),H.F.above⟩,fun p hp=>?_,keys▸H.nd,H.cellsAre,x,H.mrs,H.loc⟩,e⟩
 have hcase:(p∈fz∨p∈f.pin∨p∈cells∨p∈ml∨p∈xo)∨p∈fo':=by
  simp only[aa,List.mem_append] at hp
  rcases hp with q|q|q|q|q|q<;>simp[q]
 rcases hcase with q|q
 ·have hin:p∈aa fz f.pin cells fo ml xo:=by
   rcases q with q|q|q|q|q<;>simp[aa,q]
  exact⟨(hs.2.1 _ (out p q)).trans (H.N p hin).1,(H.N p hin).2⟩
 ·have hk:p.1∈fo.map (·.1):=e▸List.mem_map_of_mem q
  obtain⟨p',hp',ep'⟩:=List.mem_map.mp hk
  have:=(H.N p' (by simp[aa,hp'])).2
  rw[ep'] at this
  exact⟨k p q,this⟩
theorem Hp.setX(H:Hp cls h₀ f fz m M xo mr cells fo ml h){a:Addr}{o o':Obj}{x1 x2:Led}(e:xo=x1++(a,o)::x2)(hs:Heap.SameBut a h h')(ho:h'.get? a=some o') :
  Hp cls h₀ f fz m M (x1++(a,o')::x2) mr cells fo ml h':=by
 have led:∀z:Obj,aa fz f.pin cells fo ml (x1++(a,z)::x2)=(fz++(f.pin++(cells++(fo++(ml++x1)))))++(a,z)::x2:=fun z=>by simp[aa]
 subst e
 have nd:=H.nd
 have N:=H.N
 rw[led] at nd N
 have hmem:=N (a,o) (List.mem_append_right _ (.head _))
 have hU:=jr (o':=o') nd
 have hap:∀p∈(fz++(f.pin++(cells++(fo++(ml++x1)))))++x2,p.1≠a:=fun p hp q=>by
  walk_at "aP"
 refine⟨⟨H.F.ns.sameBut hs (Ne.symm hmem.2.1),fun b ob hb=>(hs.2 b fun q=>?_).trans (H.F.keep b ob hb),H.F.above⟩,?_,?_,H.cellsAre,H.fos,H.mrs,H.loc⟩
 ·rw[q] at hb;rw[hmem.2.2] at hb;cases hb
 ·rw[led]
  walk_at "bs"
  ·cases hp with
   |head=>exact⟨ho,hmem.2⟩
   |tail _ hp=>
    walk_at "bO"
 ·rw[led,gL (o:=o)];exact nd
theorem Hp.pushX(H:Hp cls h₀ f fz m M xo mr cells fo ml h){o:Obj}(hf:o.isFreed=false) :
  Hp cls h₀ f fz m M (xo++[(h.objs.size,o)]) mr cells fo ml (h.push o):=by
 have led:aa fz f.pin cells fo ml (xo++[(h.objs.size,o)])=aa fz f.pin cells fo ml xo++[(h.objs.size,o)]:=by simp[aa]
 have lt:∀p∈aa fz f.pin cells fo ml xo,p.1 < h.objs.size:=fun p hp=>Heap.lt_size (H.N p hp).1
 have nx:h₀.get? h.objs.size=none:=by
  cases q:h₀.get? h.objs.size with
  |none=>rfl
  |some ob=>exact absurd (Heap.lt_size (H.F.keep _ _ q)) (Nat.lt_irrefl _)
 refine⟨H.F.push o,?_,?_,H.cellsAre,H.fos,H.mrs,H.loc⟩
 ·rw[led]
  intro p hp
  rcases List.mem_append.mp hp with hp|hp
  ·have:=H.N p hp
   exact⟨Heap.get?_push_of_some _ this.1,this.2⟩
  ·simp only[List.mem_singleton] at hp
   subst hp
   exact⟨Heap.get?_push_size _ hf,Nat.ne_of_gt H.F.ns.lt,nx⟩
 ·rw[led,List.map_append,List.nodup_append]
  exact⟨H.nd,by simp,fun a ha b hb q=>by
   simp only[List.map_cons,List.map_nil,List.mem_singleton] at hb
   obtain⟨p,hp,e⟩:=List.mem_map.mp ha
   have:=lt p hp
   rw[e,q,hb] at this
   exact Nat.lt_irrefl _ this⟩
theorem Hp.lessX(H:Hp cls h₀ f fz m M xo mr cells fo ml h){xo':Led}(k:xo'.Sublist xo):Hp cls h₀ f fz m M xo' mr cells fo ml h:=by
 have s:(aa fz f.pin cells fo ml xo').Sublist (aa fz f.pin cells fo ml xo):=by
  unfold aa
  exact(List.Sublist.refl _).append ((List.Sublist.refl _).append ((List.Sublist.refl _).append ((List.Sublist.refl _).append ((List.Sublist.refl _).append k))))
 exact⟨H.F,fun p hp=>H.N p (s.subset hp),H.nd.sublist (s.map _),H.cellsAre,H.fos,H.mrs,H.loc⟩
end
def ExT(D:Wd)(xo fz:Led)(msg:Str)(ev:Value):Prop:=
 ∃e C dx vs sl n,∃t u:Tok,ev=.ref e∧D.cls (Str.ofString "SqlError")=some C∧(dx,dictOf [⟨n,.str (Str.ofString "message") t,.str msg u⟩] 1)∈fz∧4 < vs.size ∧
  ∃T tc td ts tsl,xo=[(e,⟨.ref C,some dx,.fields vs,sl⟩),(T,⟨tc,td,.fields ts,tsl⟩)]∧vs[1]?=some (.ref T)∧3 < ts.size
theorem ExT.ex{D:Wd}{xo fz:Led}{msg:Str}{ev:Value}:ExT D xo fz msg ev→ExO D xo fz msg ev
 |⟨e,C,dx,vs,sl,n,t,u,h1,h2,h3,h4,r⟩=>⟨e,C,dx,vs,sl,n,t,u,h1,h2,h3,h4,.inr r⟩
section
variable {D:Wd}{f:Fc}{fz:Led}{m:List (Str×CV)}{M:MH}{xo:Led}{s:Shared}{A:Around}{MM:Model}{E:Value→Shared→Prop}{msg:Str}{ev:Value}
theorem zO(ok:we f)(S:St D.cls D.h₀ D.os f fz m M xo s){Q:Unit→Shared→Prop}(h:∀s',St D.cls D.h₀ D.os f fz m M xo s'→Q () s'):wpAny MM A (readyFrames f.envs) Q E s:=by
 walk_at "ak"
 have hl:s.heap.FunFrames ⟨#[],{}⟩ f.envs:=by
  have key:∀l,(∀e∈l,e∈f.envs)→s.heap.FunFrames ⟨#[],{}⟩ l:=fun l=>by
   induction l with
   |nil=>intro _;trivial
   |cons e r ih=>
    intro k
    obtain⟨h1,a,h2,h3⟩:=ok.fr e (k _ (.head _))
    obtain⟨ob,h4,h5⟩:=H.frame h3
    exact⟨h1,⟨a,ob,h2,by simp[Heap.get?],h4,h5⟩,ih fun e he=>k e (.tail _ he)⟩
  exact key _ fun _ h=>h
 refine wpAny_readyFrames_fun hl fun h' hs=>?_
 obtain⟨fo',H',_⟩:=H.slots hs fun a ha=>by
  obtain⟨e,he,hf⟩:=List.mem_filterMap.mp ha
  obtain⟨_,b,h2,h3⟩:=ok.fr e he
  rw[h2] at hf;cases hf
  rcases h3 with rfl|⟨d,hd,_⟩
  ·exact .inl rfl
  ·exact .inr ⟨d,hd⟩
 exact h _ ⟨⟨mr,cells,fo',ml,H'⟩,g,o⟩
theorem vB(ok:we f)(a:A.frames=some f.envs)(S:St D.cls D.h₀ D.os f fz m M xo s){Q:Value→Shared→Prop}(h:∀v s',St D.cls D.h₀ D.os f fz m M xo s'→Q v s'):wpAny MM A (PySem.frameOf f.env) Q E s:=by
 obtain⟨e,r,b,h1,h2,h3⟩:=ok.top
 unfold PySem.frameOf
 refine wpAny_bind (wpAny_frameEnvs a ?_)
 have hdw:(f.envs.dropWhile fun x=>x.frame != f.env.frame)=e::r:=by rw[h1,List.dropWhile_cons_of_neg];simp[h2,h3]
 rw[hdw]
 unfold frameObject
 have hr:=zO (MM:=MM) (A:=A) (E:=E) ok S (Q:=fun _ s'=>St D.cls D.h₀ D.os f fz m M xo s') (fun s' S'=>S')
 rw[h1] at hr
 exact wpAny_bind (wpAny_bind (wpAny_mono hr (fun _ s' S'=>by rw[h2];exact wpAny_pure (wpAny_pure (h _ _ S'))) fun _ _ z=>z))
theorem uz(ok:we f)(a:A.frames=some f.envs){L e C dx:Addr}{vs sl n}{t u:Tok}{head:Value}{hadNext:Bool}{xr:Led}(hev:ev=.ref e)(hC:D.cls (Str.ofString "SqlError")=some C)(hdx:(dx,dictOf [⟨n,.str (Str.ofString "message") t,.str msg u⟩] 1)∈fz)(hsz:4 < vs.size)
  (S:St D.cls D.h₀ D.os f fz m M ((e,⟨.ref C,some dx,.fields vs,sl⟩)::xr) s) {Q:Unit→Shared→Prop} (h:∀xo' s',St D.cls D.h₀ D.os f fz m M xo' s'→ExT D xo' fz msg ev→Q () s') :
  wpAny MM A (do let a ←PySem.frameOf f.env;let pl ←entryPlaceOf L hadNext;let b ←EntryCells.newEntry head a .none (rawInt L) .none pl;setField ev 1 b) Q E s:=by
 subst hev
 refine wpAny_bind (vB ok a S fun v s₁ S₁=>?_)
 refine wpAny_bind (wpAny_entryPlaceOf fun pl hpl=>?_)
 unfold EntryCells.newEntry newFields
 refine wpAny_bind (wpAny_newObj_type ?_ (hpl.sizeOk5 _ _ _ _ _))
 obtain⟨⟨mr,cells,fo,ml,H⟩,g,o⟩:=S₁
 have H₂:=H.pushX (o:={ cls:=.type "traceback",dict:=none,data:=.fields ([head,v,.none,rawInt L,.none]++(if pl.isEmpty then List.replicate 6 Value.none else pl)).toArray }) rfl
 have he:=(H₂.N (e,⟨.ref C,some dx,.fields vs,sl⟩) (by simp[aa])).1
 refine wpAny_setField he rfl (Nat.lt_of_lt_of_le (by decide) (Nat.le_of_lt hsz)) ?_
 have H₃:=H₂.setX (x1:=[]) (x2:=xr++[(s₁.heap.objs.size,{ cls:=.type "traceback",dict:=none,data:=.fields ([head,v,.none,rawInt L,.none]++(if pl.isEmpty then List.replicate 6 Value.none else pl)).toArray })]) (a:=e) rfl (Heap.SameBut.update _ e _) (Heap.get?_update_self (Obj.mapFields (·.setIfInBounds 1 (Value.ref s₁.heap.objs.size))) he rfl)
 have H₄:=H₃.lessX (xo':=[(e,Obj.mapFields (·.setIfInBounds 1 (Value.ref s₁.heap.objs.size)) ⟨.ref C,some dx,.fields vs,sl⟩),(s₁.heap.objs.size,{ cls:=.type "traceback",dict:=none,data:=.fields ([head,v,.none,rawInt L,.none]++(if pl.isEmpty then List.replicate 6 Value.none else pl)).toArray })])
  (List.Sublist.cons_cons _ (List.sublist_append_right xr _))
 have h1':(vs.setIfInBounds 1 (Value.ref s₁.heap.objs.size))[1]?=some (.ref s₁.heap.objs.size):=by rw[Array.getElem?_setIfInBounds_self_of_lt (by omega)]
 refine h _ _ ⟨⟨mr,cells,fo,ml,H₄⟩,g,o⟩ ⟨e,C,dx,vs.setIfInBounds 1 (Value.ref s₁.heap.objs.size),sl,n,t,u,rfl,hC,hdx,by simp;exact hsz,s₁.heap.objs.size,_,_,_,_,rfl,h1',?_⟩
 simp only[List.size_toArray,List.length_append,List.length_cons,List.length_nil];omega
theorem oX(ok:we f)(a:A.frames=some f.envs)(S:St D.cls D.h₀ D.os f fz m M xo s)(x:ExO D xo fz msg ev){Q:Unit→Shared→Prop}(h:∀xo' s',St D.cls D.h₀ D.os f fz m M xo' s'→ExT D xo' fz msg ev→Q () s') :
  wpAny MM A (noteFrame ev f.env) Q E s:=by
 obtain⟨e,C,dx,vs,sl,n,t,u,hev,hC,hdx,hsz,hx⟩:=x
 obtain⟨_,_,b,_,_,hfr⟩:=ok.top
 walk_at "bu"
 unfold noteFrame
 simp only[hfr]
 rcases hx with ⟨rfl,h1⟩|⟨T,tc,td,ts,tsl,rfl,h1,hts⟩
 ·subst hev
  walk_at "bv"
  rw[if_neg (by decide)]
  exact uz ok a rfl hC hdx hsz S h
 ·have hT:=(H.N (T,⟨tc,td,.fields ts,tsl⟩) (by simp[aa])).1
  subst hev
  walk_at "bv"
  rw[if_pos (show (Value.ref T != Value.none)=true from by simp)]
  refine wpAny_bind (wpAny_field hT rfl (Array.getElem?_eq_getElem hts) ?_)
  split
  ·exact wpAny_pure (h _ _ S ⟨e,C,dx,vs,sl,n,t,u,rfl,hC,hdx,hsz,T,tc,td,ts,tsl,rfl,h1,hts⟩)
  ·refine wpAny_bind (wpAny_setField hT rfl hts ?_)
   have H₃:=H.setX (x1:=[(e,⟨.ref C,some dx,.fields vs,sl⟩)]) (x2:=[]) (a:=T) rfl (Heap.SameBut.update _ T _) (Heap.get?_update_self (Obj.mapFields (·.setIfInBounds 3 Value.none)) hT rfl)
   exact uz ok a rfl hC hdx hsz (xr:=[(T,_)]) (s:={ s with heap:=s.heap.update T (Obj.mapFields (·.setIfInBounds 3 Value.none)) }) ⟨⟨mr,cells,fo,ml,H₃⟩,g,o⟩ h
theorem du(S:St D.cls D.h₀ D.os f fz m M xo s)(x:ExT D xo fz msg ev){fl:Option Addr}{Q:Unit→Shared→Prop}(h:∀xo' s',St D.cls D.h₀ D.os f fz m M xo' s'→ExT D xo' fz msg ev→Q () s') :
  wpAny MM A (setFlight ev fl) Q E s:=by
 obtain⟨e,C,dx,vs,sl,n,t,u,hev,hC,hdx,hsz,T,tc,td,ts,tsl,rfl,h1,hts⟩:=x
 walk_at "ak"
 subst hev
 have hT:=(H.N (T,⟨tc,td,.fields ts,tsl⟩) (by simp[aa])).1
 unfold setFlight
 walk_at "bv"
 rw[if_pos (show (Value.ref T != Value.none)=true from by simp)]
 refine wpAny_setField hT rfl hts ?_
 have H₃:=H.setX (x1:=[(e,⟨.ref C,some dx,.fields vs,sl⟩)]) (x2:=[]) (a:=T) rfl (Heap.SameBut.update _ T _) (Heap.get?_update_self (Obj.mapFields (·.setIfInBounds 3 (fl.elim Value.none fun f=>rawInt f))) hT rfl)
 exact h _ _ ⟨⟨mr,cells,fo,ml,H₃⟩,g,o⟩ ⟨e,C,dx,vs,sl,n,t,u,rfl,hC,hdx,hsz,T,tc,td,_,tsl,rfl,h1,by simpa using hts⟩
theorem vu(ok:we f)(a:A.frames=some f.envs)(S:St D.cls D.h₀ D.os f fz m M xo s)(x:ExO D xo fz msg ev){Q:Unit→Shared→Prop}(h:∀xo' s',St D.cls D.h₀ D.os f fz m M xo' s'→ExT D xo' fz msg ev→Q () s') :
  wpAny MM A («leaving» f.env ev) Q E s:=by
 unfold «leaving»
 exact wpAny_bind (oX ok a S x fun xo' s' S' x'=>du S' x' h)
theorem jk(S:St D.cls D.h₀ D.os f fz m M xo s)(x:ExT D xo fz msg ev)(h:∀xo' s',St D.cls D.h₀ D.os f fz m M xo' s'→ExT D xo' fz msg ev→E ev s'):cameBackBy MM A f.env E ev s:=by
 obtain⟨e,C,dx,vs,sl,n,t,u,hev,hC,hdx,hsz,T,tc,td,ts,tsl,rfl,h1,hts⟩:=id x
 walk_at "bu"
 unfold cameBackBy
 rw[hev]
 walk_at "bv"
 rw[if_neg (by simp)]
 rw[←hev]
 exact du S x h
end
inductive CF where
 |next|brk|cont
 |ret (c:CV)
def FlR(cls:Str→Option Addr)(fz:Led):Flow→CF→Prop
 |.next,.next=>True
 |.brk,.brk=>True
 |.cont,.cont=>True
 |.ret v,.ret c=>VR cls fz c v
 |_,_=>False
section
variable (D:Wd)(f:Fc)(d:Nat)
def FP(fz:Led)(Φ:CF→List (Str×CV)→MH→Prop)(fl:Flow)(s:Shared):Prop:=
 ∃fz' c m' M',Sub fz fz'∧SS D f fz' m' M' s∧FlR D.cls fz' fl c∧Φ c m' M'
def W1(st:Stmt)(m:List (Str×CV))(M:MH)(Φ:CF→List (Str×CV)→MH→Prop)(X:Str→MH→Prop):Prop:=
 ∀fz A s,AOk f d A→SS D f fz m M s→wpAny (model D.prog D.w) A (exec st f.env) (FP D f fz Φ) (XP D f fz X) s
def WS(sts:List Stmt)(m:List (Str×CV))(M:MH)(Φ:CF→List (Str×CV)→MH→Prop)(X:Str→MH→Prop):Prop:=
 ∀fz A s,AOk f d A→SS D f fz m M s→wpAny (model D.prog D.w) A (execs sts f.env) (FP D f fz Φ) (XP D f fz X) s
def WO2(t:Value→Value→Sem Value)(c e:CV)(M:MH)(Φ:CV→MH→Prop)(X:Str→MH→Prop):Prop:=
 ∀fz m A s v w,AOk f d A→SS D f fz m M s→VR D.cls fz c v→VR D.cls fz e w→wpAny (model D.prog D.w) A (t v w) (VP D f fz m Φ) (XP D f fz X) s
def WT(c:CV)(M:MH)(Φ:Bool→MH→Prop)(X:Str→MH→Prop):Prop:=
 ∀fz m A s v,AOk f d A→SS D f fz m M s→VR D.cls fz c v→wpAny (model D.prog D.w) A (truthy v) (BP D f fz m Φ) (XP D f fz X) s
end
section
variable {D:Wd}{f:Fc}{d:Nat}{m:List (Str×CV)}{M M':MH}{X Y:Str→MH→Prop}{fz fz':Led}{s:Shared}{A:Around}{Φ:CF→List (Str×CV)→MH→Prop}
theorem FP.sub(k:Sub fz fz'){v:Flow}:FP D f fz' Φ v s→FP D f fz Φ v s:=fun⟨a,b,c,e,g,r⟩=>⟨a,b,c,e,k.tr g,r⟩
theorem sV(h:Φ .next m M):WS D f d [] m M Φ X:=fun fz A s a S=>wpAny_execs_nil ⟨fz,.next,m,M,Sub.rfl',S,trivial,h⟩
theorem pv{st:Stmt}{rest:List Stmt}(h:W1 D f d st m M (fun c m' M'=>(c=.next→WS D f d rest m' M' Φ X)∧(c≠.next→Φ c m' M')) X):WS D f d (st::rest) m M Φ X:=by
 intro fz A s a S
 refine wpAny_execs_cons (wpAny_mono (h fz A s a S) (fun fl s₁ h₁=>?_) fun _ _ z=>z)
 obtain⟨fz',c,m',M',k,S',r,h1,h2⟩:=h₁
 cases fl with
 |next=>
  cases c<;>first|(cases r;done)|skip
  exact wpAny_mono (h1 rfl fz' A s₁ a S') (fun _ _ z=>z.sub k) fun _ _ z=>z.sub k
 |brk=>exact⟨fz',c,m',M',k,S',r,h2 (by intro e;subst e;cases r)⟩
 |cont=>exact⟨fz',c,m',M',k,S',r,h2 (by intro e;subst e;cases r)⟩
 |ret v=>exact⟨fz',c,m',M',k,S',r,h2 (by intro e;subst e;cases r)⟩
theorem W1.mono{st:Stmt}{Ψ:CF→List (Str×CV)→MH→Prop}(h:W1 D f d st m M Φ X)(k:∀c m M,Φ c m M→Ψ c m M)(l:∀c M,X c M→Y c M):W1 D f d st m M Ψ Y:=fun fz A s a S=>
 wpAny_mono (h fz A s a S) (fun _ _ ⟨p,c,m',M',q,S',r,z⟩=>⟨p,c,m',M',q,S',r,k _ _ _ z⟩) (fun _ _ ⟨p,q,r,g,u,t,y,z⟩=>⟨p,q,r,g,u,t,y,l _ _ z⟩)
theorem WS.mono{st:List Stmt}{Ψ:CF→List (Str×CV)→MH→Prop}(h:WS D f d st m M Φ X)(k:∀c m M,Φ c m M→Ψ c m M)(l:∀c M,X c M→Y c M):WS D f d st m M Ψ Y:=fun fz A s a S=>
 wpAny_mono (h fz A s a S) (fun _ _ ⟨p,c,m',M',q,S',r,z⟩=>⟨p,c,m',M',q,S',r,k _ _ _ z⟩) (fun _ _ ⟨p,q,r,g,u,t,y,z⟩=>⟨p,q,r,g,u,t,y,l _ _ z⟩)
theorem gw{x:Str}{c:CV}{v:Value}(a:AOk f d A)(hx:f.env.kindOf x=some .local)(S:SS D f fz m M s)(r:VR D.cls fz c v){Q:Unit→Shared→Prop}{E:Value→Shared→Prop}
  (h:∀s',SS D f fz (put x c m) M s'→Q () s'):wpAny (model D.prog D.w) A (storeName f.env x v) Q E s:=by
 walk_at "ak"
 have ok:=a.fc
 refine wpAny_storeName_local hx (ok.loc▸H.F.ns) (fun h' hn hs=>?_) (by rw[ok.kind];rfl)
 rw[ok.loc] at hn hs
 refine h _ ⟨⟨_,cells,fo,ml,H.F.set hn hs,H.N.set hs,H.nd,H.cellsAre,H.fos,H.mrs,fun y cy e=>?_⟩,g,o⟩
 by_cases q:y=x
 ·subst q
  rw[dn] at e;cases e
  exact .inl ⟨hx,v,by simp,r⟩
 ·rw[im q] at e
  rcases H.loc y cy e with ⟨h1,w,h2,h3⟩|h
  ·exact .inl ⟨h1,w,by simp[q,h2],h3⟩
  ·exact .inr h
theorem rM{x:Str}{c:CV}{v:Value}(a:AOk f d A)(hx:f.env.kindOf x=some .cell)(ho:f.own=f.env.cells)(hl:(f.env.cells.lookup x).isSome=true)(S:SS D f fz m M s)(r:VR D.cls fz c v){Q:Unit→Shared→Prop}{E:Value→Shared→Prop}
  (h:∀s',SS D f fz (put x c m) M s'→Q () s'):wpAny (model D.prog D.w) A (storeName f.env x v) Q E s:=by
 walk_at "ak"
 have ok:=a.fc
 obtain⟨ad,hl⟩:=Option.isSome_iff_exists.mp hl
 obtain⟨ob,v0,hob,hd⟩:=H.cellsAre x ad (ho▸mem_of_lookup hl)
 obtain⟨c1,c2,ec⟩:=List.append_of_mem hob
 have hm:=H.N (ad,ob) (H.mem_loc (List.mem_append_right _ hob))
 refine wpAny_storeName_cell ok.kind hx hl ⟨ob,hm.1,hd⟩ fun h' hc hs=>?_
 obtain⟨o',ho',hd'⟩:=hc
 have led:∀z:Obj,aa fz f.pin (c1++(ad,z)::c2) fo ml []=(fz++(f.pin++c1))++(ad,z)::(c2++(fo++(ml++[]))):=fun z=>by simp[aa]
 subst ec
 have nd:=H.nd
 have N:=H.N
 rw[led] at nd N
 have hap:∀p∈(fz++(f.pin++c1))++(c2++(fo++(ml++[]))),p.1≠ad:=fun p hp q=>by
  walk_at "aP"
 refine h _ ⟨⟨mr,c1++(ad,o')::c2,fo,ml,⟨H.F.ns.sameBut hs (Ne.symm hm.2.1),fun b ob hb=>(hs.2 b fun q=>?_).trans (H.F.keep b ob hb),H.F.above⟩,?_,?_,fun y ay hy=>?_,H.fos,H.mrs,fun y cy e=>?_⟩,g,o⟩
 ·rw[q] at hb;rw[hm.2.2] at hb;cases hb
 ·rw[led]
  walk_at "bs"
  ·cases hp with
   |head=>exact⟨ho',hm.2⟩
   |tail _ hp=>
    walk_at "bO"
 ·rw[led,gL (o:=ob)];exact nd
 ·obtain⟨oy,vy,h1,h2⟩:=H.cellsAre y ay hy
  rcases List.mem_append.mp h1 with h1|h1
  ·exact⟨oy,vy,List.mem_append_left _ h1,h2⟩
  ·cases h1 with
   |head=>exact⟨o',_,List.mem_append_right _ (.head _),hd'⟩
   |tail _ h1=>exact⟨oy,vy,List.mem_append_right _ (.tail _ h1),h2⟩
 ·by_cases q:y=x
  ·subst q
   rw[dn] at e;cases e
   exact .inr ⟨.inl hx,ad,o',v,hl,List.mem_append_right _ (List.mem_append_right _ (.head _)),hd',r⟩
  ·rw[im q] at e
   rcases H.loc y cy e with h1|⟨h1,ay,oy,vy,h2,h3,h4,h5⟩
   ·exact .inl h1
   ·refine .inr ⟨h1,ay,oy,vy,h2,?_,h4,h5⟩
    have hne:ay≠ad:=fun z=>q (ok.inj y x ad (z▸h2) hl)
    rcases List.mem_append.mp h3 with h3|h3
    ·exact List.mem_append_left _ h3
    ·rcases List.mem_append.mp h3 with h3|h3
     ·exact List.mem_append_right _ (List.mem_append_left _ h3)
     ·cases h3 with
      |head=>exact(hne rfl).elim
      |tail _ h3=>exact List.mem_append_right _ (List.mem_append_right _ (.tail _ h3))
def Own(f:Fc)(x:Str):Prop:=f.env.kindOf x=some .local∨(f.env.kindOf x=some .cell∧f.own=f.env.cells∧(f.env.cells.lookup x).isSome=true)
theorem ig{x:Str}{c:CV}{v:Value}(a:AOk f d A)(hx:Own f x)(S:SS D f fz m M s)(r:VR D.cls fz c v){Q:Unit→Shared→Prop}{E:Value→Shared→Prop}
  (h:∀s',SS D f fz (put x c m) M s'→Q () s'):wpAny (model D.prog D.w) A (storeName f.env x v) Q E s:=by
 rcases hx with hx|⟨h1,h2,h3⟩
 ·exact gw a hx S r h
 ·exact rM a h1 h2 h3 S r h
theorem kG{x:Str}{e:Expr}{p pos:Pos}(hx:Own f x)(h:WE D f d e m M (fun c M'=>Φ .next (put x c m) M') X)(hs:swapsWith e (some (.Name x p)) pos.line f.env=pure false:=by rfl) :
  W1 D f d (.Assign [.Name x p] e pos) m M Φ X:=by
 intro fz A s a S
 refine wpAny_Assign_Name (wpAny_mono (h fz A s a S) (fun v s₁ h₁=>?_) fun _ _ z=>z) hs
 obtain⟨fz',c,M',k,S',r,z⟩:=h₁
 exact ig a hx S' r fun s' S''=>⟨fz',.next,_,M',k,S'',trivial,z⟩
theorem Ep{e:Expr}{pos:Pos}(h:WE D f d e m M (fun c M'=>Φ (.ret c) m M') X):W1 D f d (.Return (some e) pos) m M Φ X:=fun fz A s a S=>
 wpAny_Return_some (wpAny_mono (h fz A s a S) (fun v s₁ ⟨fz',c,M',k,S',r,z⟩=>⟨fz',.ret c,m,M',k,S',r,z⟩) fun _ _ z=>z)
theorem Bb{pos:Pos}(h:Φ (.ret .none) m M):W1 D f d (.Return none pos) m M Φ X:=fun fz A s a S=>wpAny_Return_none ⟨fz,.ret .none,m,M,Sub.rfl',S,.none,h⟩
theorem Bc{pos:Pos}(h:Φ .next m M):W1 D f d (.Pass pos) m M Φ X:=fun fz A s a S=>wpAny_Pass ⟨fz,.next,m,M,Sub.rfl',S,trivial,h⟩
theorem Bd{e:Expr}{pos:Pos}(h:WE D f d e m M (fun _ M'=>Φ .next m M') X)(hi:interactive f.env=false:=by rfl)(hs:swapsWith e none pos.line f.env=pure false:=by rfl):W1 D f d (.Expr e pos) m M Φ X:=fun fz A s a S=>
 wpAny_Expr_any (wpAny_mono (h fz A s a S) (fun v s₁ ⟨fz',c,M',k,S',r,z⟩=>⟨fz',.next,m,M',k,S',trivial,z⟩) fun _ _ z=>z) hi hs
theorem Hj{t:Expr}{b o:List Stmt}{pos:Pos}(h:WB D f d t m M (fun v M'=>(v=true→WS D f d b m M' Φ X)∧(v=false→WS D f d o m M' Φ X)) X):W1 D f d (.If t b o pos) m M Φ X:=by
 intro fz A s a S
 refine wpAny_If (wpAny_mono (h fz A s a S) (fun v s₁ h₁=>?_) fun _ _ z=>z)
 walk_at "a0"
theorem Er{pos:Pos}(h:Φ .brk m M):W1 D f d (.Break pos) m M Φ X:=fun fz A s a S=>wpAny_bind (wpAny_standAt (wpAny_pure ⟨fz,.brk,m,M,Sub.rfl',S,trivial,h⟩))
theorem Be{pos:Pos}(h:Φ .cont m M):W1 D f d (.Continue pos) m M Φ X:=fun fz A s a S=>wpAny_bind (wpAny_standAt (wpAny_pure ⟨fz,.cont,m,M,Sub.rfl',S,trivial,h⟩))
end
section
variable {D:Wd}{f:Fc}{d:Nat}{m:List (Str×CV)}{M M':MH}{X Y:Str→MH→Prop}{fz fz':Led}{s:Shared}{A:Around}{Φ:CV→MH→Prop}{Ψ:Bool→MH→Prop}
theorem El{e:Expr}{pos:Pos}(h:WB D f d e m M (fun b M=>Ψ (!b) M) X):WB D f d (.UnaryOp .Not e pos) m M Ψ X:=fun fz A s a S=>
 isTrue_not (wpAny_mono (h fz A s a S) (fun _ _ z=>z) fun _ _ z=>z)
theorem tC{pos:Pos}(h:Ψ true M):WB D f d (.BoolOp .And [] pos) m M Ψ X:=fun fz A s a S=>isTrue_and_nil ⟨fz,M,Sub.rfl',S,h⟩
theorem vZ{pos:Pos}(h:Ψ false M):WB D f d (.BoolOp .Or [] pos) m M Ψ X:=fun fz A s a S=>isTrue_or_nil ⟨fz,M,Sub.rfl',S,h⟩
theorem En{e:Expr}{rest:List Expr}{pos:Pos}(h:WB D f d e m M (fun b M'=>(b=true→WB D f d (.BoolOp .And rest pos) m M' Ψ X)∧(b=false→Ψ false M')) X)
  (hw:∀whole whole',isTrue (.BoolOp .And rest pos) f.env whole=isTrue (.BoolOp .And rest pos) f.env whole':=by intros;rfl):WB D f d (.BoolOp .And (e::rest) pos) m M Ψ X:=by
 intro fz A s a S
 refine isTrue_and (wpAny_mono (h fz A s a S) (fun v s₁ h₁=>?_) fun _ _ z=>z)
 obtain⟨fz',M',k,S',h1,h2⟩:=h₁
 cases v with
 |true=>rw[if_pos rfl,hw _ (eval (.BoolOp .And rest pos) f.env)];exact wpAny_mono (h1 rfl fz' A s₁ a S') (fun _ _ z=>z.sub k) fun _ _ z=>z.sub k
 |false=>exact⟨fz',M',k,S',h2 rfl⟩
theorem Hi{e:Expr}{rest:List Expr}{pos:Pos}(h:WB D f d e m M (fun b M'=>(b=false→WB D f d (.BoolOp .Or rest pos) m M' Ψ X)∧(b=true→Ψ true M')) X)
  (hw:∀whole whole',isTrue (.BoolOp .Or rest pos) f.env whole=isTrue (.BoolOp .Or rest pos) f.env whole':=by intros;rfl):WB D f d (.BoolOp .Or (e::rest) pos) m M Ψ X:=by
 intro fz A s a S
 refine isTrue_or (wpAny_mono (h fz A s a S) (fun v s₁ h₁=>?_) fun _ _ z=>z)
 obtain⟨fz',M',k,S',h1,h2⟩:=h₁
 cases v with
 |false=>rw[if_neg (by decide),hw _ (eval (.BoolOp .Or rest pos) f.env)];exact wpAny_mono (h1 rfl fz' A s₁ a S') (fun _ _ z=>z.sub k) fun _ _ z=>z.sub k
 |true=>exact⟨fz',M',k,S',h2 rfl⟩
theorem yR{e:Expr}(h:WE D f d e m M (fun c M'=>WT D f d c M' Ψ X) X)
  (he:isTrue e f.env (eval e f.env)=(do let v ←eval e f.env;standAt e.pos;holding [v] (truthy v)):=by rfl):WB D f d e m M Ψ X:=by
 intro fz A s a S
 refine isTrue_plain (wpAny_mono (h fz A s a S) (fun v s₁ h₁=>?_) fun _ _ z=>z) he
 obtain⟨fz',c,M',k,S',r,z⟩:=h₁
 exact wpAny_mono (z fz' m A s₁ v a S' r) (fun _ _ z=>z.sub k) fun _ _ z=>z.sub k
theorem Em{l r:Expr}{op:CmpOp}{pos:Pos}(h:WE D f d l m M (fun a M1=>WE D f d r m M1 (fun b M2=>WO2 D f d (compareOp op) a b M2 (fun c M3=>WT D f d c M3 Ψ X) X) X) X)
  (hm:behindInMarks op r=false:=by with_unfolding_all rfl):WB D f d (.Compare l [op] [r] pos) m M Ψ X:=by
 intro fz A s a S
 refine wpAny_isTrue_Compare1 (wpAny_mono (h fz A s a S) (fun v s₁ h₁=>?_) fun _ _ z=>z) hm
 walk_at "aS"
 refine wpAny_mono (w2 f2 m A s₂ v v2 a S2 (r1.mono k2) r2) (fun v3 s₃ h₃=>?_) fun _ _ z=>z.sub (k1.tr k2)
 obtain⟨f3,c3,M3,k3,S3,r3,w3⟩:=h₃
 exact wpAny_mono (w3 f3 m A s₃ v3 a S3 r3) (fun _ _ z=>z.sub ((k1.tr k2).tr k3)) fun _ _ z=>z.sub ((k1.tr k2).tr k3)
theorem Eh{l r:Expr}{op:CmpOp}{pos:Pos}(h:WE D f d l m M (fun a M1=>WE D f d r m M1 (fun b M2=>WO2 D f d (compareOp op) a b M2 Φ X) X) X)
  (hm:behindInMarks op r=false:=by with_unfolding_all rfl):WE D f d (.Compare l [op] [r] pos) m M Φ X:=by
 intro fz A s a S
 refine wpAny_Compare1 (wpAny_mono (h fz A s a S) (fun v s₁ h₁=>?_) fun _ _ z=>z) hm
 walk_at "aS"
 walk_at "c8"
theorem Ej{l r:Expr}{op:Operator}{pos:Pos}(h:WE D f d l m M (fun a M1=>WE D f d r m M1 (fun b M2=>WO2 D f d (binaryOp op) a b M2 Φ X) X) X):WE D f d (.BinOp l op r pos) m M Φ X:=by
 intro fz A s a S
 refine wpAny_BinOp (wpAny_mono (h fz A s a S) (fun v s₁ h₁=>?_) fun _ _ z=>z)
 walk_at "aS"
 walk_at "c8"
theorem Ef{e:Expr}{pos:Pos}(h:WE D f d e m M (fun c M'=>WT D f d c M' (fun b M=>Φ (.bool (!b)) M) X) X):WE D f d (.UnaryOp .Not e pos) m M Φ X:=by
 intro fz A s a S
 refine UnaryOp_ (wpAny_mono (h fz A s a S) (fun v s₁ h₁=>not_of ?_) fun _ _ z=>z)
 walk_at "bx"
 exact wpAny_mono (w1 f1 m A s₁ v a S1 r1) (fun b s' ⟨f2,M2,k2,S2,z⟩=>⟨f2,_,M2,k1.tr k2,S2,.bool _,z⟩) fun _ _ z=>z.sub k1
theorem yO{t b o:Expr}{pos:Pos}(h:WB D f d t m M (fun v M'=>(v=true→WE D f d b m M' Φ X)∧(v=false→WE D f d o m M' Φ X)) X):WE D f d (.IfExp t b o pos) m M Φ X:=by
 intro fz A s a S
 refine IfExp_ (wpAny_mono (h fz A s a S) (fun v s₁ h₁=>?_) fun _ _ z=>z)
 walk_at "a0"
theorem yS{t b o:Expr}{pos:Pos}(h:WB D f d t m M (fun v M'=>(v=true→WB D f d b m M' Ψ X)∧(v=false→WB D f d o m M' Ψ X)) X):WB D f d (.IfExp t b o pos) m M Ψ X:=by
 intro fz A s a S
 refine isTrue_IfExp (wpAny_mono (h fz A s a S) (fun v s₁ h₁=>?_) fun _ _ z=>z)
 walk_at "a0"
theorem yN{op:BoolOp}{e:Expr}{pos:Pos}(h:WE D f d e m M Φ X):WE D f d (.BoolOp op [e] pos) m M Φ X:=fun fz A s a S=>BoolOp_one (h fz A s a S)
theorem Ek{e₁ e₂:Expr}{rest:List Expr}{pos:Pos}(h:WE D f d e₁ m M (fun c M1=>WT D f d c M1 (fun b M2=>(b=true→WE D f d (.BoolOp .And (e₂::rest) pos) m M2 Φ X)∧(b=false→Φ c M2)) X) X):WE D f d (.BoolOp .And (e₁::e₂::rest) pos) m M Φ X:=by
 intro fz A s a S
 refine BoolOp_and (wpAny_mono (h fz A s a S) (fun v s₁ h₁=>?_) fun _ _ z=>z)
 walk_at "bx"
 walk_at "c2"
 cases b with
 |true=>exact wpAny_mono (z1 rfl f2 A s₂ a S2) (fun _ _ z=>z.sub (k1.tr k2)) fun _ _ z=>z.sub (k1.tr k2)
 |false=>exact⟨f2,c1,M2,k1.tr k2,S2,r1.mono k2,z2 rfl⟩
theorem Hh{e₁ e₂:Expr}{rest:List Expr}{pos:Pos}(h:WE D f d e₁ m M (fun c M1=>WT D f d c M1 (fun b M2=>(b=false→WE D f d (.BoolOp .Or (e₂::rest) pos) m M2 Φ X)∧(b=true→Φ c M2)) X) X):WE D f d (.BoolOp .Or (e₁::e₂::rest) pos) m M Φ X:=by
 intro fz A s a S
 refine BoolOp_or (wpAny_mono (h fz A s a S) (fun v s₁ h₁=>?_) fun _ _ z=>z)
 walk_at "bx"
 walk_at "c2"
 cases b with
 |true=>exact⟨f2,c1,M2,k1.tr k2,S2,r1.mono k2,z2 rfl⟩
 |false=>exact wpAny_mono (z1 rfl f2 A s₂ a S2) (fun _ _ z=>z.sub (k1.tr k2)) fun _ _ z=>z.sub (k1.tr k2)
end
inductive BdR(cls:Str→Option Addr)(fz:Led):List (Str×CV)→List (Str×Value)→Prop
 |nil:BdR cls fz [] []
 |cons {x:Str} {c:CV} {v:Value} {m:List (Str×CV)} {b:List (Str×Value)}:VR cls fz c v→BdR cls fz m b→BdR cls fz ((x,c)::m) ((x,v)::b)
theorem BdR.names{cls:Str→Option Addr}{fz:Led}{m:List (Str×CV)}{b:List (Str×Value)}(h:BdR cls fz m b):b.map (·.1)=m.map (·.1):=by
 induction h with
 |nil=>rfl
 |cons _ _ ih=>simp[ih]
theorem BdR.find{cls:Str→Option Addr}{fz:Led}{m:List (Str×CV)}{b:List (Str×Value)}(h:BdR cls fz m b){x:Str}{c:CV}(e:lk x m=some c):∃v,(x,v)∈b∧VR cls fz c v:=by
 induction h with
 |nil=>cases e
 |@cons y c' v m b r _ ih=>
  unfold lk at e
  by_cases q:y=x
  ·rw[if_pos q] at e;cases e;subst q;exact⟨v,.head _,r⟩
  ·rw[if_neg q] at e
   obtain⟨w,h1,h2⟩:=ih e
   exact⟨w,.tail _ h1,h2⟩
theorem oq{k:Str→Option NameKind}{x:Str}:∀{b:List (Str×Value)} {m:Str→Option Value},x∉b.map (·.1)→bindL k b m x=m x
 |[],_,_=>rfl
 |(n,v)::r,m,h=>by
  rw[List.map_cons,List.mem_cons,not_or] at h
  unfold bindL
  rw[oq h.2]
  split
  ·exact if_neg h.1
  ·rfl
theorem ot{k:Str→Option NameKind}{x:Str}:∀{b:List (Str×Value)} {m:Str→Option Value},x∉b.map (·.1)→bindC k b m x=m x
 |[],_,_=>rfl
 |(n,v)::r,m,h=>by
  rw[List.map_cons,List.mem_cons,not_or] at h
  unfold bindC
  rw[ot h.2]
  split
  ·rfl
  ·exact if_neg h.1
theorem nc{k:Str→Option NameKind}{x:Str}{w:Value}:∀{b:List (Str×Value)} {m:Str→Option Value},(b.map (·.1)).Nodup→(x,w)∈b→k x=some .local→bindL k b m x=some w
 |(n,v)::r,m,nd,h,hk=>by
  rw[List.map_cons,List.nodup_cons] at nd
  unfold bindL
  cases h with
  |head=>rw[oq nd.1,if_pos hk,if_pos rfl]
  |tail _ h=>exact nc nd.2 h hk
theorem nf{k:Str→Option NameKind}{x:Str}{w:Value}:∀{b:List (Str×Value)} {m:Str→Option Value},(b.map (·.1)).Nodup→(x,w)∈b→k x≠some .local→bindC k b m x=some w
 |(n,v)::r,m,nd,h,hk=>by
  rw[List.map_cons,List.nodup_cons] at nd
  unfold bindC
  cases h with
  |head=>rw[ot nd.1,if_neg hk,if_pos rfl]
  |tail _ h=>exact nf nd.2 h hk
abbrev vF(qual:Str)(scope:Scope)(fa:Addr)(cdv:Value)(L:Addr)(envs:List Env)(frs:List (Addr×(Value×Data)))(pin:Led)(calm:Bool):Fc:=
 { env:=envOfC qual scope L fa cdv,L:=L,own:=cellsFrom (L+1) scope.names [],envs:=envs,frs:=frs,pin:=pin,calm:=calm }
def Bq(Φ:CV→MH→Prop):CF→List (Str×CV)→MH→Prop
 |.ret c,_,M=>Φ c M
 |.next,_,M=>Φ .none M
 |_,_,_=>False
section
variable {D:Wd}{f:Fc}{d:Nat}{m m0:List (Str×CV)}{M M':MH}{X Y:Str→MH→Prop}{fz fz':Led}{s:Shared}{A:Around}{Φ:CV→MH→Prop}
variable {name qual:Str}{params:Arguments}{body:List Stmt}{scope:Scope}{dV kV doc pm cdv ct oc:Value}{an od:Option Addr}{osl:Array (Option Value)}{fa:Addr}{args:Args}{binds:List (Str×Value)}
theorem eD{cm:Str→Option Value}{cs:List (Str×Addr)}{cells:Led}(h:CellsAre cm cs cells):∀x a,(x,a)∈cs→∃o,(a,o)∈cells∧o.data=.cell (cm x):=by
 induction h with
 |nil=>intro _ _ h;cases h
 |cons hd _ ih=>
  intro x a hm
  cases hm with
  |head=>exact⟨_,.head _,hd⟩
  |tail _ hm=>obtain⟨o,h1,h2⟩:=ih x a hm;exact⟨o,.tail _ h1,h2⟩
theorem de{cm:Str→Option Value}{cs:List (Str×Addr)}{cells:Led}(h:CellsAre cm cs cells):cells.map (·.1)=cs.map (·.2):=by
 induction h with
 |nil=>rfl
 |cons _ _ ih=>simp[ih]
theorem Az(a:AOk f (d+1) A)(S:SS D f fz m M s)
  (ho:D.K.lookup fa=some ⟨oc,od,.func (fnX name qual params body scope [] dV kV doc pm an cdv ct),osl⟩) (hcd:codeIn D.K cdv qual=true)
  (hbind:BindsTo s (fnX name qual params body scope [] dV kV doc pm an cdv ct) args binds) (bd:BdR D.cls fz m0 binds) (nd0:(m0.map (·.1)).Nodup)
  (kinds:(m0.all fun y=>scope.names.lookup y.1 == some .local||scope.names.lookup y.1 == some .cell)=true)
  (cnd:((cellsFrom 0 scope.names []).map (·.1)).Nodup)
  (W:∀L envs frs pin,WS D (vF qual scope fa cdv L envs frs pin f.calm) d body m0 M (Bq Φ) X)
  (hco:scope.isCoroutine=false) (hgen:scope.isGenerator=false) (hk:scope.kind=.function) :
  codeAny (model D.prog D.w) A (.call (.ref fa) args) (fun r s'=>match r with|.ok (.ret v)=>VP D f fz m Φ v s'|.ok _=>False|.error e=>XP D f fz X e s') s:=by
 obtain⟨⟨mr,cells,fo,ml,H⟩,gn,os⟩:=S
 have X0:=D.X.keeps H.F.keep
 have ok:=a.fc
 walk_at "aA"
 refine codeAny_call_function (Nat.lt_of_lt_of_le (show A.depth < 990 by have:=a.depth;omega) (by decide)) (X0 _ _ ho) rfl hco hgen rfl (codeRec_of X0 hcd) (hbind _ _ _ _ ?_)
 refine wpAny_newFunctionEnv_cells hk (kindsX kb _) fun env' he s' x=>?_
 subst he
 refine⟨(D.T.nolimit.keeps H.F.keep).keeps x.toInCall.keep,codeAny_func ?_⟩
 walk_at "bJ"
 obtain⟨oL,es,ep,hL,hLd,hLk,hLf⟩:=H.F.ns
 have hLh0:D.h₀.get? f.L=none:=Heap.get?_none_of_le H.F.above
 have nolt:∀b,D.h₀.get? b≠none→b < s.heap.objs.size:=fun b hb=>by
  cases q:D.h₀.get? b with
  |none=>exact absurd q hb
  |some o=>exact Heap.lt_size (H.F.keep b o q)
 have old:∀p∈aa fz f.pin cells fo ml [],h₁.get? p.1=some p.2∧p.1≠s.heap.objs.size∧D.h₀.get? p.1=none:=fun p hp=>⟨hk₁ _ _ (H.N p hp).1,Nat.ne_of_lt (Heap.lt_size (H.N p hp).1),(H.N p hp).2.2⟩
 have newc:∀p∈cells',h₁.get? p.1=some p.2∧p.1≠s.heap.objs.size∧D.h₀.get? p.1=none:=fun p hp=>⟨(NC p hp).1,(NC p hp).2.1,by
  cases q:D.h₀.get? p.1 with
  |none=>rfl
  |some o=>have:=H.F.keep _ _ q;rw[(NC p hp).2.2] at this;cases this⟩
 walk_at "bU"
 let G:Fc:=vF qual scope fa cdv s.heap.objs.size (envOfC qual scope s.heap.objs.size fa cdv::f.envs) ((f.L,(oL.cls,oL.data))::f.frs) (cells++f.pin) f.calm
 have HG:Hp D.cls D.h₀ G fz m0 M [] (bindL (envOfC qual scope s.heap.objs.size fa cdv).kindOf binds fun _=>none) cells' ((f.L,oL)::fo) ml h₁:=by
  refine⟨⟨x.toInCall.ns,fun b o e=>hk₁ b o (H.F.keep b o e),Nat.le_trans H.F.above (Nat.le_of_lt H.F.ns.lt)⟩,?_,?_,?_,.cons rfl H.fos,H.mrs,?_⟩
  ·intro p hp
   have hc:(p∈aa fz f.pin cells fo ml [])∨p∈cells'∨p=(f.L,oL):=by
    simp only[aa,List.mem_append,List.mem_cons,G] at hp ⊢
    rcases hp with q|(q|q)|q|(q|q)|q|q<;>simp[q]
   rcases hc with q|q|rfl
   ·exact old p q
   ·exact newc p q
   ·exact⟨hk₁ _ _ hL,Nat.ne_of_lt (Heap.lt_size hL),hLh0⟩
  ·have nd:=H.nd
   have cn:(cells'.map (·.1)).Nodup:=by
    rw[de Y]
    exact List.pairwise_map.mpr x.apart
   have big:(cells'.map (·.1)++(f.L::(aa fz f.pin cells fo ml []).map (·.1))).Nodup:=by
    rw[List.nodup_append]
    refine⟨cn,List.nodup_cons.mpr ⟨fun q=>?_,nd⟩,fun b hb c hc e=>?_⟩
    ·obtain⟨p,hp,e⟩:=List.mem_map.mp q
     exact(H.N p hp).2.1 e
    ·obtain⟨p,hp,ep⟩:=List.mem_map.mp hb
     have h1:=cgt p hp
     have h2:c < s.heap.objs.size:=by
      rcases List.mem_cons.mp hc with rfl|hc
      ·exact Heap.lt_size hL
      ·obtain⟨q,hq,eq⟩:=List.mem_map.mp hc
       exact eq▸Heap.lt_size (H.N q hq).1
     rw[ep,e] at h1
     exact Nat.lt_irrefl _ (Nat.lt_trans h1 h2)
   refine(List.Perm.nodup_iff ?_).mp big
   walk_at "cW"
  walk_at "al"
 have aG:AOk G d (A.deeper (envOfC qual scope s.heap.objs.size fa cdv)):=by
  refine⟨a.handled,by show A.frames.map _=_;rw[a.frames];rfl,by show A.depth+1+_+_≤_;have:=a.depth;omega,by show A.units+3+_+_≤_;have:=a.units;omega,a.guards,⟨hk,rfl,rfl,rfl,fun e he=>?_,⟨_,_,_,rfl,rfl,rfl⟩,fun y z ad h1 h2=>name_of_addr x.apart (mem_of_lookup h1) (mem_of_lookup h2)⟩⟩
  cases he with
  |head=>exact⟨by show scope.kind≠_;rw[hk];decide,s.heap.objs.size,rfl,.inl rfl⟩
  |tail _ he=>
   obtain⟨h1,ad,h2,h3⟩:=ok.fr e he
   refine⟨h1,ad,h2,.inr ?_⟩
   rcases h3 with rfl|⟨dd,h3,h4⟩
   ·exact⟨(oL.cls,oL.data),.head _,fun vs q=>by rw[hLd] at q;cases q⟩
   ·exact⟨dd,.tail _ h3,h4⟩
 have back:∀{fz' m' M' xo mr' cells'' fo' ml' h'},Sub fz fz'→Hp D.cls D.h₀ G fz' m' M' xo mr' cells'' fo' ml' h'→∃fo2,Hp D.cls D.h₀ f fz' m M' xo mr cells fo2 ml' h':=by
  intro fz' m' M' xo mr' cells'' fo' ml' h' k HH
  have hfos:=HH.fos
  cases hfos with
  |@cons _ _ oL' _ fo2 hd hr=>
  have hL':=HH.N (f.L,oL') (by simp[aa])
  have sub:(aa fz' f.pin cells fo2 ml' xo).Subset (aa fz' G.pin cells'' ((f.L,oL')::fo2) ml' xo):=fun p hp=>by
   simp only[aa,List.mem_append,List.mem_cons,G] at hp ⊢
   rcases hp with q|q|q|q|q|q<;>simp[q]
  have nd:=HH.nd
  have nd2:(f.L::(aa fz' f.pin cells fo2 ml' xo).map (·.1)).Nodup:=by
   have p:((aa fz' G.pin cells'' ((f.L,oL')::fo2) ml' xo).map (·.1)).Perm (cells''.map (·.1)++(f.L::(aa fz' f.pin cells fo2 ml' xo).map (·.1))):=by
    walk_at "cW"
   exact(List.nodup_append.mp (p.nodup_iff.mp nd)).2.1
  rw[List.nodup_cons] at nd2
  refine⟨fo2,⟨⟨oL',es,ep,hL'.1,(Prod.mk.inj hd).2.trans hLd,hLk,hLf⟩,HH.F.keep,H.F.above⟩,fun p hp=>⟨(HH.N p (sub hp)).1,fun q=>nd2.1 (q▸List.mem_map_of_mem hp),(HH.N p (sub hp)).2.2⟩,nd2.2,H.cellsAre,hr,HH.mrs,fun y c e=>(H.loc y c e).mono k⟩
 refine wpAny_mono (W _ _ _ _ fz _ _ aG ⟨⟨_,cells',_,ml,HG⟩,gn,os⟩) (fun fl s₂ h₂=>?_) fun e s₂ h₂=>?_
 ·obtain⟨fz',c,m',M',k,⟨⟨mr',cells'',fo',ml',HH⟩,g2,o2⟩,r,z⟩:=h₂
  obtain⟨fo2,HB⟩:=back k HH
  cases fl<;>cases c<;>first|exact z.elim|exact r.elim|skip
  ·exact⟨fz',.none,M',k,⟨⟨mr,cells,fo2,ml',HB⟩,g2,o2⟩,.none,z⟩
  ·exact⟨fz',_,M',k,⟨⟨mr,cells,fo2,ml',HB⟩,g2,o2⟩,r,z⟩
 ·obtain⟨fz',M',xo,msg,k,S2,ex,z⟩:=h₂
  refine vu aG.fc aG.frames S2 ex fun xo' s₃ S3 ex3=>?_
  obtain⟨⟨mr',cells'',fo',ml',HH⟩,g2,o2⟩:=S3
  obtain⟨fo2,HB⟩:=back k HH
  exact⟨fz',M',xo',msg,k,St.forget ⟨⟨mr,cells,fo2,ml',HB⟩,g2,o2⟩,ex3.ex,z⟩
end
section
variable {M:Model}{A:Around}{E:Value→Shared→Prop}{s:Shared}
theorem jL{f:Value}{trees:List (Bool×Sem Value)}{Q:Args→Shared→Prop}(hp:trees.any (·.1)=false)
  (h:wpAny M A (spliced trees) (fun vs s'=>Q ⟨vs,[]⟩ s') E s):wpAny M A (evalArgs f true trees []) Q E s:=by
 cases trees with
 |nil=>
  unfold evalArgs
  show wpAny M A (spliced [] >>= _) Q E s
  refine wpAny_bind (wpAny_mono h (fun vs s' h'=>wpAny_bind (wpAny_pure ?_)) fun _ _ x=>x)
  refine wpAny_holding ?_
  exact wpAny_bind (wpAny_pure (wpAny_bind (wpAny_pure (wpAny_pure h'))))
 |cons p rest=>
  obtain⟨b,x⟩:=p
  simp only[List.any_cons,Bool.or_eq_false_iff] at hp
  have:b=false:=hp.1
  subst this
  exact Calls.evalArgs_plain h
end
def cU(K:Frag)(v:Value):Bool:=match v with
 |.ref _=>keepIn K v
 |_=>true
theorem kA{K:Frag}{v:Value}(h:cU K v=true){M:Model}:∀hp:Heap,K.In hp→∃k,(k=Keeper.frame∨k=Keeper.machine∨k=Keeper.boundFrame)∧Looks M hp (keeperOf v) k:=by
 intro hp X
 cases v with
 |ref a=>exact keeps_K (f:=.ref a) (by exact h) hp X
 |_=>exact⟨.machine,.inr (.inl rfl),Looks.of_pure rfl⟩
theorem VR.st_inv{cls:Str→Option Addr}{fz:Led}{v w:Value}(r:VR cls fz (.st v) w):w=v:=by cases r;rfl
section
variable {D:Wd}{f:Fc}{d:Nat}{m:List (Str×CV)}{M M':MH}{X Y:Str→MH→Prop}{fz fz':Led}{s:Shared}{A:Around}{Φ:CV→MH→Prop}
theorem SS.inK(S:SS D f fz m M s):D.K.In s.heap:=by
 walk_at "ak"
 exact D.X.keeps H.F.keep
def Fn(D:Wd)(d:Nat)(fv:Value)(cs:List CV)(M:MH)(Φ:CV→MH→Prop)(X:Str→MH→Prop):Prop:=∀f,f.calm=true→WO D f d (fun vs=>call fv vs) cs M Φ X
theorem A5{x:Str}{p pos:Pos}{args:List PySem.Expr}(h:WE D f d (.Name x p) m M (fun c M1=>∃fv,c=.st fv∧cU D.K fv=true∧WL D f d args m M1 (fun cs M2=>WO D f d (fun vs=>call fv vs) cs M2 Φ X) X) X)
  (hp:(backTo pos (starEach args f.env)).any (·.1)=false:=by rfl):WE D f d (.Call (.Name x p) args [] pos) m M Φ X:=by
 intro fz A s a S
 show wpAny _ _ (do callWith pos (←eval (.Name x p) f.env) [] (backTo pos (starEach args f.env)) (backToKw pos (keywordEach [] f.env))) _ _ _
 refine wpAny_bind (wpAny_mono (h fz A s a S) (fun v s₁ h₁=>?_) fun _ _ z=>z)
 obtain⟨f1,c1,M1,k1,S1,r1,fv,rfl,hk,w1⟩:=h₁
 obtain rfl:=r1.st_inv
 show wpAny _ _ (callWith pos _ [] (backTo pos (starEach args f.env)) []) _ _ _
 refine callWith_of (P:=D.K.In) (by rw[hp];rfl) (kA hk) (jL hp (wpAny_mono (w1 pos f1 A s₁ a S1) (fun vs s₂ h₂=>?_) fun _ _ z=>z.sub k1))
 obtain⟨f2,cs,M2,k2,S2,r2,w2⟩:=h₂
 exact⟨S2.inK,wpAny_mono (w2 f2 m A s₂ vs a S2 r2) (fun _ _ z=>z.sub (k1.tr k2)) fun _ _ z=>z.sub (k1.tr k2)⟩
def WG(D:Wd)(f:Fc)(d:Nat)(name:Str)(c:CV)(M:MH)(fv:Value):Prop:=
 ∀fz m A s v pl (Q:Value×List Value→Shared→Prop) E,AOk f d A→SS D f fz m M s→VR D.cls fz c v→(∀s',SS D f fz m M s'→Q (fv,[v]) s')→wpAny (model D.prog D.w) A (getMethod v name pl) Q E s
theorem A1{o:PySem.Expr}{name:Str}{apos pos:Pos}{args:List PySem.Expr}{pl:Sem Bool}
  (h:WE D f d o m M (fun c M1=>∃fv,WG D f d name c M1 fv∧cU D.K fv=true∧WL D f d args m M1 (fun cs M2=>WO D f d (fun vs=>call fv vs) (c::cs) M2 Φ X) X) X)
  (he:eval (.Call (.Attribute o name apos) args [] pos) f.env=(do
   let ov ←eval o f.env
   standAt apos.atName
   let (fu,first) ←holding [ov] (getMethod ov name pl)
   callWith pos fu first (backTo pos (starEach args f.env)) []):=by rfl)
  (hp:(backTo pos (starEach args f.env)).any (·.1)=false:=by rfl):WE D f d (.Call (.Attribute o name apos) args [] pos) m M Φ X:=by
 intro fz A s a S
 rw[he]
 refine wpAny_bind (wpAny_mono (h fz A s a S) (fun ov s₁ h₁=>wpAny_bind (wpAny_standAt (wpAny_bind (wpAny_holding ?_)))) fun _ _ x=>x)
 obtain⟨f1,c1,M1,k1,S1,r1,fv,g1,hk,w1⟩:=h₁
 refine g1 f1 m A s₁ ov pl _ _ a S1 r1 fun s₁' S1'=>?_
 show wpAny _ _ (callWith pos fv [ov] (backTo pos (starEach args f.env)) []) _ _ _
 refine callWith_of (P:=D.K.In) (by rw[hp];rfl) (kA hk) (jL hp (wpAny_mono (w1 pos f1 A s₁' a S1') (fun vs s₂ h₂=>?_) fun _ _ z=>z.sub k1))
 obtain⟨f2,cs,M2,k2,S2,r2,w2⟩:=h₂
 exact⟨S2.inK,wpAny_mono (w2 f2 m A s₂ (ov::vs) a S2 (.cons (r1.mono k2) r2)) (fun _ _ z=>z.sub (k1.tr k2)) fun _ _ z=>z.sub (k1.tr k2)⟩
theorem WO.mono{t:List Value→Sem Value}{cs:List CV}{Ψ:CV→MH→Prop}(h:WO D f d t cs M Φ X)(k:∀c M,Φ c M→Ψ c M)(l:∀c M,X c M→Y c M):WO D f d t cs M Ψ Y:=fun fz m A s vs a S r=>
 wpAny_mono (h fz m A s vs a S r) (fun _ _ ⟨p,q,r,g,u,t,z⟩=>⟨p,q,r,g,u,t,k _ _ z⟩) (fun _ _ ⟨p,q,r,g,u,t,y,z⟩=>⟨p,q,r,g,u,t,y,l _ _ z⟩)
structure Ik(D:Wd)(fa:Addr)(cdv:Value)(qual:Str)(fd:FuncData)(body:List Stmt)(scope:Scope):Prop where
 here:∃oc od osl name params dV kV doc pm an ct,D.K.lookup fa=some ⟨oc,od,.func fd,osl⟩∧fd=fnX name qual params body scope [] dV kV doc pm an cdv ct
 code:codeIn D.K cdv qual=true
 cor:scope.isCoroutine=false
 gen:scope.isGenerator=false
 kind:scope.kind=.function
 cells:((cellsFrom 0 scope.names []).map (·.1)).Nodup
def FnC(D:Wd)(d:Nat)(fv:Value)(cs:List CV)(kn:List Str)(ck:List CV)(M:MH)(Φ:CV→MH→Prop)(X:Str→MH→Prop):Prop:=
 ∀f fz m A s vs ks,f.calm=true→AOk f d A→SS D f fz m M s→VRs D.cls fz cs vs→VRs D.cls fz ck ks →
  codeAny (model D.prog D.w) A (.call fv ⟨vs,kn.zip ks⟩) (fun r s'=>match r with|.ok (.ret v)=>VP D f fz m Φ v s'|.ok _=>False|.error e=>XP D f fz X e s') s
theorem E7{fv:Value}{cs:List CV}(h:FnC D d fv cs [] [] M Φ X):Fn D d fv cs M Φ X:=fun f cf fz m A s vs a S r=>
 wpAny_call (codeAny_mono (h f fz m A s vs [] cf a S r .nil) fun r s' z=>by rcases r with e|(v|_|_|_)<;>exact z)
theorem pz{fa:Addr}{cdv:Value}{qual:Str}{fd:FuncData}{body:List Stmt}{scope:Scope}{cs ck:List CV}{kn:List Str}{m0:List (Str×CV)}(F:Ik D fa cdv qual fd body scope)
  (hb:∀fz s vs ks,D.K.In s.heap→VRs D.cls fz cs vs→VRs D.cls fz ck ks→∃binds,BindsTo s fd ⟨vs,kn.zip ks⟩ binds∧BdR D.cls fz m0 binds) (nd0:(m0.map (·.1)).Nodup)
  (kinds:(m0.all fun y=>scope.names.lookup y.1 == some .local||scope.names.lookup y.1 == some .cell)=true)
  (W:∀L envs frs pin,WS D (vF qual scope fa cdv L envs frs pin true) d body m0 M (Bq Φ) X):FnC D (d+1) (.ref fa) cs kn ck M Φ X:=by
 intro f fz m A s vs ks cf a S r rk
 obtain⟨⟨oc,od,osl,name,params,dV,kV,doc,pm,an,ct,ho,rfl⟩,hcd,h1,h2,h3,h4⟩:=F
 obtain⟨binds,hbind,bd⟩:=hb fz s vs ks S.inK r rk
 exact Az a S ho hcd hbind bd nd0 kinds h4 (by rw[cf];exact W) h1 h2 h3
theorem uX(C:Addr)(vs:List Value)(kw:List (Str×Value)):(Code.builtin "type.__call__" ⟨.ref C::vs,kw⟩).weight≤1:=Nat.le_of_eq (by rfl)
theorem wr(C:Addr)(vs:List Value)(kw:List (Str×Value)):(Code.builtin "type.__call__" ⟨.ref C::vs,kw⟩).cUnits≤4:=by
 have:(Code.builtin "type.__call__" ⟨.ref C::vs,kw⟩).cUnits=1:=by rfl
 omega
theorem zz(args:Args):(Code.builtin "type.__call__" args).envs=[]:=by kernel_rfl
theorem uY(args:Args):(Code.builtin "type.__call__" args).guards=[]:=by kernel_rfl
theorem AOk.tc(a:AOk f (d+1) A)(C:Addr)(vs:List Value)(kw:List (Str×Value)):AOk f d (A.under (.builtin "type.__call__" ⟨.ref C::vs,kw⟩)):=by
 refine⟨a.handled,?_,?_,?_,?_,a.fc⟩
 ·show pushEnvs (Code.builtin "type.__call__" ⟨.ref C::vs,kw⟩).envs A.frames=_
  rw[zz];exact a.frames
 ·show A.depth+(Code.builtin "type.__call__" ⟨.ref C::vs,kw⟩).weight+_+_≤_
  have:=a.depth;have:=uX C vs kw;omega
 ·show A.units+(Code.builtin "type.__call__" ⟨.ref C::vs,kw⟩).cUnits+_+_≤_
  have:=a.units;have:=wr C vs kw;omega
 ·show pushGuards (Code.builtin "type.__call__" ⟨.ref C::vs,kw⟩).guards A.guards=_
  rw[uY];exact a.guards
theorem Bw{c:Str}{C fI:Addr}{cs ck:List CV}{kn:List Str}(hc:D.cls c=some C)(hm:makesIn D.K C=true)(hi:findIn D.K (.ref C) "__init__" = some (some (.ref fI)))(hf:isFn D.K (.ref fI)=true)
  (h:∀a,M.get a=none→FnC D d (.ref fI) (.ref a::cs) kn ck ((a,.inst c [])::M) (fun r M'=>r=.none∧Φ (.ref a) M') X):FnC D (d+1) (.ref C) cs kn ck M Φ X:=by
 intro f fz m A s vs ks cf a S r rk
 walk_at "ak"
 refine make_K H.F H.N (D.X.keeps H.F.keep) hm hi (beq_iff_eq.mp hf) fun x dx h' F' N' l1 l2=>?_
 have nd:(([(x,instObj C dx),(dx,dictOf [] 0)]++aa fz f.pin cells fo ml []).map (·.1)).Nodup:=
  bp (fun p hp=>by
   rcases List.mem_cons.mp hp with rfl|hp
   ·exact l2
   ·exact Nat.lt_trans (l1 p hp) l2) (bp l1 H.nd)
 have hM:M.get x=none:=by
  cases q:M.get x with
  |none=>rfl
  |some ob=>
   walk_at "cQ"
   have hin:(x,ob)∈aa fz f.pin cells fo ml []:=by rw[el];rcases hmx with hmx|hmx<;>simp[aa,hmx]
   have:=l1 _ hin
   exact absurd (Nat.lt_trans this l2) (Nat.lt_irrefl _)
 refine codeAny_mono (h x hM f fz m _ { s with heap:=h' } (.ref x::vs) ks cf (a.tc _ _ _) ⟨⟨mr,cells,fo,_,H.pushM (lx:=[(x,instObj C dx),(dx,dictOf [] 0)]) F' N' nd (.inst hc .nil)⟩,g,o⟩ (.cons (.ref x) r) rk) fun r s' z=>?_
 rcases r with e|fl
 ·exact z
 ·cases fl with
  |ret v=>
   obtain⟨fz',c',M',k,S',r',rfl,z⟩:=z
   cases r'
   exact⟨rfl,fz',.ref x,M',k,S',.ref x,z⟩
  |_=>exact z.elim
end
theorem ww{n:Nat}(h:n≤1000):n≤sizeLine:=cD h
section
variable {D:Wd}{f:Fc}{d:Nat}{m:List (Str×CV)}{M M':MH}{X Y:Str→MH→Prop}{fz fz':Led}{s:Shared}{A:Around}{Φ:CV→MH→Prop}{Ψ:Bool→MH→Prop}
def CV.isNone:CV→Bool
 |.none=>true
 |_=>false
theorem VR.none_iff{cls:Str→Option Addr}{c:CV}{v:Value}(r:VR cls fz c v)(h:c.plain=true):(v == Value.none)=c.isNone:=by
 cases r<;>first|rfl|assumption|(cases h;done)
theorem Ea{c:CV}(h:Φ (.bool c.isNone) M)(hp:c.plain=true):WO2 D f d (compareOp .Is) c .none M Φ X:=by
 walk_at "b9"
 cases r2
 refine is_none_gen ?_
 rw[r1.none_iff hp]
 exact⟨fz,_,M,Sub.rfl',S,.bool _,h⟩
theorem vW{c:CV}(h:Φ (.bool (!c.isNone)) M)(hp:c.plain=true):WO2 D f d (compareOp .IsNot) c .none M Φ X:=by
 walk_at "b9"
 cases r2
 refine isnot_none_gen ?_
 rw[r1.none_iff hp]
 exact⟨fz,_,M,Sub.rfl',S,.bool _,h⟩
theorem tw{a b:Int}(h:Φ (.bool (a == b)) M):WO2 D f d (compareOp .Eq) (.int a) (.int b) M Φ X:=by
 walk_at "ay"
 exact eq_int ⟨fz,_,M,Sub.rfl',S,.bool _,h⟩
theorem tg{a b:Int}(h:Φ (.bool (a != b)) M):WO2 D f d (compareOp .NotEq) (.int a) (.int b) M Φ X:=by
 walk_at "ay"
 exact ne_int ⟨fz,_,M,Sub.rfl',S,.bool _,h⟩
theorem ti{a b:Int}(h:Φ (.bool (decide (a < b))) M):WO2 D f d (compareOp .Lt) (.int a) (.int b) M Φ X:=by
 walk_at "ay"
 exact lt_int ⟨fz,_,M,Sub.rfl',S,.bool _,h⟩
theorem tq{a b:Int}(h:Φ (.bool (decide (b < a))) M):WO2 D f d (compareOp .Gt) (.int a) (.int b) M Φ X:=by
 walk_at "ay"
 exact gt_int ⟨fz,_,M,Sub.rfl',S,.bool _,h⟩
theorem tl{a b:Int}(h:Φ (.bool (decide (a≤b))) M):WO2 D f d (compareOp .LtE) (.int a) (.int b) M Φ X:=by
 walk_at "ay"
 exact le_int ⟨fz,_,M,Sub.rfl',S,.bool _,h⟩
theorem tt{a b:Int}(h:Φ (.bool (decide (b≤a))) M):WO2 D f d (compareOp .GtE) (.int a) (.int b) M Φ X:=by
 walk_at "ay"
 exact ge_int ⟨fz,_,M,Sub.rfl',S,.bool _,h⟩
theorem tu{a b:Str}(h:Φ (.bool (a == b)) M):WO2 D f d (compareOp .Eq) (.str a) (.str b) M Φ X:=by
 walk_at "ay"
 exact eq_str ⟨fz,_,M,Sub.rfl',S,.bool _,h⟩
theorem tf{a b:Str}(h:Φ (.bool (a != b)) M):WO2 D f d (compareOp .NotEq) (.str a) (.str b) M Φ X:=by
 walk_at "ay"
 exact ne_str ⟨fz,_,M,Sub.rfl',S,.bool _,h⟩
theorem rC{a b:Int}(h:Φ (.int (a+b)) M):WO2 D f d (binaryOp .Add) (.int a) (.int b) M Φ X:=by
 walk_at "ay"
 exact add_int ⟨fz,_,M,Sub.rfl',S,.int _ _,h⟩
theorem rn{a b:Int}(h:Φ (.int (a - b)) M):WO2 D f d (binaryOp .Sub) (.int a) (.int b) M Φ X:=by
 walk_at "ay"
 exact AutoIntOps.sub_0 ⟨fz,_,M,Sub.rfl',S,.int _ _,h⟩
theorem rz{a b:Int}(hb:b≠0)(h:Φ (.int (a.fmod b)) M):WO2 D f d (binaryOp .Mod) (.int a) (.int b) M Φ X:=by
 walk_at "ay"
 exact mod_int hb ⟨fz,_,M,Sub.rfl',S,.int _ _,h⟩
theorem rB{a b:Str}(hz:a.length+b.length≤1000)(h:Φ (.str (a++b)) M):WO2 D f d (binaryOp .Add) (.str a) (.str b) M Φ X:=by
 walk_at "ay"
 exact PyProof.Rows.add_str (fun t' tk=>⟨fz,_,M,Sub.rfl',S,.str _ _,h⟩) (ww hz)
theorem iz{b:Bool}(h:Ψ b M):WT D f d (.bool b) M Ψ X:=by
 intro fz m A s v _ S r;cases r
 exact wpAny_truthy_bool ⟨fz,M,Sub.rfl',S,h⟩
theorem AP(h:Ψ false M):WT D f d .none M Ψ X:=by
 intro fz m A s v _ S r;cases r
 exact truthy_none ⟨fz,M,Sub.rfl',S,h⟩
theorem D4{i:Int}(h:Ψ (i != 0) M):WT D f d (.int i) M Ψ X:=by
 intro fz m A s v _ S r;cases r
 exact PyProof.Rows.truthy_int ⟨fz,M,Sub.rfl',S,h⟩
theorem uw{n:Nat}(h:n≤1000):(n:Int) < 2 ^ 63:=by omega
theorem D2{x:Str}(hz:x.length≤1000)(h:Ψ ((x.length:Int) != 0) M):WT D f d (.str x) M Ψ X:=by
 intro fz m A s v _ S r;cases r
 exact PySem.P.truthy_str (by have:=uw hz;omega) ⟨fz,M,Sub.rfl',S,h⟩
theorem bX{h:Heap}{a:Addr}{ws:List Value}{n:Nat}(e:h.get? a=some (be ws n)):h.IsList a ws.toArray:=⟨_,e,rfl,n,rfl⟩
theorem bW{h:Heap}{a:Addr}{ws:List Value}{n:Nat}(e:h.get? a=some (iF ws n)):IsTup h a ws.toArray:=⟨_,e,rfl,n,rfl⟩
def aY(M:MH):CV→Option (Bool×List CV)
 |.tup vs=>some (true,vs)
 |.lst vs=>some (false,vs)
 |.ref a=>match M.get a with
  |some (.lst vs)=>some (false,vs)
  |_=>none
 |_=>none
def seqObj(t:Bool)(ws:List Value)(n:Nat):Obj:=if t then iF ws n else be ws n
theorem SS.seq{c:CV}{v:Value}{t:Bool}{vs:List CV}(S:SS D f fz m M s)(r:VR D.cls fz c v)(h:aY M c=some (t,vs)) :
  ∃a ws n,v=.ref a∧s.heap.get? a=some (seqObj t ws n)∧VRs D.cls fz vs ws:=by
 walk_at "ak"
 cases r with
 |tup hm hr=>cases h;exact⟨_,_,_,rfl,(H.N _ (H.mem_fz hm)).1,hr⟩
 |lst hm hr=>cases h;exact⟨_,_,_,rfl,(H.N _ (H.mem_fz hm)).1,hr⟩
 |ref a=>
  simp only[aY] at h
  split at h
  ·rename_i vs' hg
   cases h
   obtain⟨pre,post,ws,n,e1,rs,_⟩:=H.lstAt hg
   exact⟨a,ws,n,rfl,(H.N (a,be ws n) (by rw[e1];simp)).1,rs⟩
  ·cases h
 |_=>cases h
theorem qO{cls:Str→Option Addr}{vs:List CV}{ws:List Value}(r:VRs cls fz vs ws):ws.toArray.isEmpty=vs.isEmpty:=by
 cases r<;>rfl
theorem D3{c:CV}{t:Bool}{vs:List CV}(hg:aY M c=some (t,vs))(hz:vs.length≤1000)(h:Ψ (!vs.isEmpty) M):WT D f d c M Ψ X:=by
 intro fz m A s v _ S r
 obtain⟨a,ws,n,rfl,ha,rs⟩:=S.seq r hg
 have hfit:(ws.toArray.size:Int) < 2 ^ 63:=by simpa [←rs.length] using uw hz
 cases t with
 |true=>exact truthy_tuple (bW ha) hfit (by rw[qO rs];exact⟨fz,M,Sub.rfl',S,h⟩)
 |false=>exact wpAny_truthy_list (bX ha) hfit (by rw[qO rs];exact⟨fz,M,Sub.rfl',S,h⟩)
end
section
variable {prog:Program}{w:World}{A:Around}{E:Value→Shared→Prop}{s:Shared}
theorem lU{value slice:PySem.Expr}{o i:Value}{T id:String}{Q:Value→Shared→Prop}(hT:s.TypeIs o T)
  (hl:typeLookup (.type T) "__getitem__" = pure (some (.builtin id))) (hs:subscripted slice false o i=operate [o,i] (getItem o i)) (h:wpAny (model prog w) A (getItem o i) Q E s) :
  wpAny (model prog w) A (do let r ←subscripted slice (←getitemInPython o) o i;letTemporaryGo value o r;pure r) Q E s:=by
 refine wpAny_bind ?_
 rw[getitemInPython_of_ne hT.not_modules]
 refine wpAny_bind (wpAny_specialOf hT hl ?_)
 refine wpAny_pure (wpAny_bind ?_)
 rw[hs]
 exact wpAny_operating (wpAny_mono h (fun r s₃ h₃=>wpAny_bind (wpAny_letTemporaryGo (wpAny_pure h₃))) fun _ _ x=>x)
end
section
variable {D:Wd}{f:Fc}{d:Nat}{m:List (Str×CV)}{M M':MH}{X Y:Str→MH→Prop}{fz fz':Led}{s:Shared}{A:Around}{Φ:CV→MH→Prop}{Ψ:Bool→MH→Prop}
def nth(vs:List CV)(k:Int):Option CV:=if 0≤k then vs[k.toNat]? else if 0≤k+vs.length then vs[(k+vs.length).toNat]? else none
theorem qy{oc v:CV}{t:Bool}{vs:List CV}{k:Int}{tk:Tok}{ov:Value}(S:SS D f fz m M s)(r:VR D.cls fz oc ov)(h:aY M oc=some (t,vs))(hz:vs.length≤1000)(hn:nth vs k=some v)(hq:Φ v M) :
  s.TypeIs ov (if t then "tuple" else "list")∧wpAny (model D.prog D.w) A (getItem ov (.int k tk)) (VP D f fz m Φ) (XP D f fz X) s:=by
 obtain⟨a,ws,n,rfl,ha,rs⟩:=S.seq r h
 have hlen:=rs.length
 unfold nth at hn
 by_cases h0:0≤k
 ·rw[if_pos h0] at hn
  obtain⟨wv,hw,rv⟩:=rs.get hn
  have hlt:k.toNat < vs.length:=by
   cases q:vs[k.toNat]? with
   |none=>rw[q] at hn;cases hn
   |some _=>exact(List.getElem?_eq_some_iff.mp q).1
  have post:VP D f fz m Φ wv s:=⟨fz,v,M,Sub.rfl',S,rv,hq⟩
  cases t with
  |true=>
   refine⟨(bW ha).typeIs,getItem_tuple (j:=k.toNat) (bW ha) (by omega) (by omega) ?_ (by simpa using hw) post⟩
   have e1:(if k < 0 then k+(ws.length:Int) else k)=k:=if_neg (by omega)
   simp only[seqIndex?,List.size_toArray,e1]
   rw[if_pos (by simp;omega)]
  |false=>exact⟨(bX ha).typeIs,wpAny_getItem_list (bX ha) h0 (by omega) (by simpa using hw) post⟩
 ·rw[if_neg h0] at hn
  by_cases h1:0≤k+vs.length
  ·rw[if_pos h1] at hn
   obtain⟨wv,hw,rv⟩:=rs.get hn
   have post:VP D f fz m Φ wv s:=⟨fz,v,M,Sub.rfl',S,rv,hq⟩
   cases t with
   |true=>
    refine⟨(bW ha).typeIs,getItem_tuple (j:=(k+vs.length).toNat) (bW ha) (by omega) (by omega) ?_ (by simpa using hw) post⟩
    have e1:(if k < 0 then k+(ws.length:Int) else k)=k+ws.length:=if_pos (by omega)
    simp only[seqIndex?,List.size_toArray,e1]
    rw[if_pos (by simp;omega),hlen]
   |false=>exact⟨(bX ha).typeIs,wpAny_getItem_list_neg (bX ha) (by omega) (by simp;omega) (by omega) (by simpa [hlen] using hw) post⟩
  ·rw[if_neg h1] at hn;cases hn
theorem gJ:typeLookup (.type "tuple") "__getitem__" = pure (some (.builtin "tuple.__getitem__")):=slot_tuple_getitem.lookup
end
theorem MH.get_hd(a:Addr)(o:MO)(M:MH):MH.get ((a,o)::M) a=some o:=by simp[MH.get]
theorem MH.get_tl{a b:Addr}(h:a≠b)(o:MO)(M:MH):MH.get ((b,o)::M) a=MH.get M a:=by
 have:(a == b)=false:=by simp[h]
 simp[MH.get,List.lookup_cons,this]
theorem MH.set_hd(a:Addr)(o o':MO)(M:MH):MH.set ((a,o)::M) a o'=(a,o')::M:=by simp[MH.set]
theorem MH.set_tl{a b:Addr}(h:b≠a)(o o':MO)(M:MH):MH.set ((b,o)::M) a o'=(b,o)::MH.set M a o':=by simp[MH.set,h]
def ug(K:Frag)(C:Addr):Bool:=plainGet K C "__class__" && hasDictIn K C&&findIn K (.ref C) "__class__" == some (some (.builtin "object.__class__")) &&
 specialIn K (.builtin "object.__class__") "__get__" == some (some (.builtin "getset_descriptor.__get__"))&&takesIn K (.builtin "object.__class__") == some true&&mroIn K C (.type "object") == some true
section
variable {D:Wd}{f:Fc}{d:Nat}{m:List (Str×CV)}{M M':MH}{X Y:Str→MH→Prop}{fz fz':Led}{s:Shared}{A:Around}{Φ:CV→MH→Prop}{Ψ:Bool→MH→Prop}{Ξ:CF→List (Str×CV)→MH→Prop}
theorem tF{e o:PySem.Expr}{x:Str}{p pos:Pos}(h:WE D f d e m M (fun v M1=>WE D f d o m M1 (fun oc M2=>∃a c fs,oc=.ref a∧M2.get a=some (.inst c fs)∧E8 D c x∧(put x v fs).length≤1000∧Ξ .next m (M2.set a (.inst c (put x v fs)))) X) X)
  (hs:swapsWith e (some (.Attribute o x p)) pos.line f.env=pure false):W1 D f d (.Assign [.Attribute o x p] e pos) m M Ξ X:=by
 walk_at "c6"
 walk_at "bx"
 refine wpAny_mono (w1 f1 A s₁ a S1) (fun ov s₂ h₂=>?_) fun _ _ z=>z.sub k1
 obtain⟨f2,oc,M2,k2,S2,r2,ad,c,fs,rfl,hg,hf,hz,hq⟩:=h₂
 cases r2
 obtain⟨⟨mr,cells,fo,ml,H⟩,g,os⟩:=S2
 obtain⟨pre,post,C,dx,es,n,e1,e2,hc,rf,back⟩:=H.instAt hg
 obtain⟨q1,q2⟩:=hf C hc
 obtain⟨p1,p2,p3⟩:=qF q1
 obtain⟨t1,t2,t3⟩:=wz q2
 have nd:=H.nd
 have N:=H.N
 have e2':=e2
 rw[e1] at nd N e2
 have hl:(PySem.W.getL x es).isSome=true:=by
  cases q:lk x fs with
  |some y=>obtain⟨w,hw,_⟩:=rf.getL q;rw[hw];rfl
  |none=>rw[rf.getL_none q];rfl
 have hlen:(PySem.W.putL x (PyData.keyHash D.w.params x) (.str x (s₂.toks+1)) v es).length≤1000:=by
  rw[←(VRf.putL (x:=x) (hsh:=PyData.keyHash D.w.params x) (tk:=s₂.toks+1) (r1.mono k2) rf).length];exact hz
 refine PySem.W.set_dict H.F D.X N (InstAt.of_news N e2 (by simp)) rfl t1 t2 t3 p2 hl rfl (jr nd) hlen fun h' F' N'=>?_
 obtain⟨ml',H'⟩:=back _ _ _ h' F' N' (VRf.putL (x:=x) (hsh:=PyData.keyHash D.w.params x) (tk:=s₂.toks+1) (r1.mono k2) rf)
 exact⟨f2,.next,m,_,k1.tr k2,⟨⟨mr,cells,fo,ml',H'⟩,g,os⟩,trivial,hq⟩
def o5(K:Frag)(C:Addr)(x:Str)(fa:Addr):Bool:=plainGet K C x&&findIn K (.ref C) x == some (some (.ref fa))&&isFn K (.ref fa)
def Ij(D:Wd)(c x:Str)(fa:Addr):Prop:=∀C,D.cls c=some C→o5 D.K C x fa=true
def dW(M:MH):CV→Option (Str×List (Str×CV))
 |.inst c fs=>some (c,fs)
 |.ref a=>match M.get a with
  |some (.inst c fs)=>some (c,fs)
  |_=>none
 |_=>none
theorem SS.inst{c:CV}{v:Value}{cn:Str}{fs:List (Str×CV)}(S:SS D f fz m M s)(r:VR D.cls fz c v)(h:dW M c=some (cn,fs)) :
  ∃a C dx es n,v=.ref a∧D.cls cn=some C∧InstAt s.heap a (instObj C dx) C (some (dictOf es n))∧VRf D.cls fz fs es:=by
 walk_at "ak"
 cases r with
 |inst hc h1 h2 rf=>cases h;exact⟨_,_,_,_,_,rfl,hc,InstAt.of_news H.N (H.mem_fz h1) (H.mem_fz h2),rf⟩
 |ref a=>
  simp only[dW] at h
  split at h
  ·rename_i hg
   cases h
   obtain⟨pre,post,C,dx,es,n,e1,e2,hc,rf,_⟩:=H.instAt hg
   exact⟨a,C,dx,es,n,rfl,hc,InstAt.of_news H.N e2 (by rw[e1];simp),rf⟩
  ·cases h
 |_=>cases h
theorem AW{c:CV}{cn x:Str}{fs:List (Str×CV)}{fa:Addr}(h:dW M c=some (cn,fs))(hm:Ij D cn x fa)(hl:lk x fs=none):WG D f d x c M (.ref fa):=by
 intro fz m A s v pl Q E a S r hq
 obtain⟨ad,C,dx,es,n,rfl,hc,I,rf⟩:=S.inst r h
 have hm:=hm C hc
 unfold o5 at hm
 simp only[Bool.and_eq_true,beq_iff_eq] at hm
 walk_at "bu"
 exact method_inst H.F D.X I hm.1.1 hm.1.2 hm.2 (rf.getL_none hl) (hq s S)
def oF(D:Wd)(M:MH):CV→Option Value
 |.none=>some (.type "NoneType")
 |.bool _=>some (.type "bool")
 |.int _=>some (.type "int")
 |.str _=>some (.type "str")
 |.tup _=>some (.type "tuple")
 |.lst _=>some (.type "list")
 |.inst c _=>(D.cls c).map .ref
 |.dct=>some (.type "dict")
 |.st _=>none
 |.any=>none
 |.rng _ _=>none
 |.ref a=>match M.get a with
  |some (.inst c _)=>(D.cls c).map .ref
  |some (.lst _)=>some (.type "list")
  |_=>none
def jG(K:Frag):Value→Bool
 |.ref C=>ug K C
 |_=>true
theorem qr{c:CV}{v t:Value}(S:SS D f fz m M s)(r:VR D.cls fz c v)(h:oF D M c=some t)(ok:jG D.K t=true):(∃H:Heap→Prop,KitX D.K v t H∧H s.heap)∧v≠.builtin "__main__.__loader__#opaque":=by
 have own:∀{a C dx:Addr} {es:List DictEntry} {n:Nat},ug D.K C=true→InstAt s.heap a (instObj C dx) C (some (dictOf es n))→∃H:Heap→Prop,KitX D.K (.ref a) (.ref C) H∧H s.heap:=by
  intro a C dx es n ok I
  unfold ug at ok
  simp only[Bool.and_eq_true,beq_iff_eq] at ok
  exact⟨_,kitx_own ok.1.1.1.1.1 ok.1.1.1.1.2 ok.1.1.1.2 ok.1.1.2 ok.1.2 ok.2,I⟩
 cases r with
 |none=>cases h;exact⟨⟨_,kitx_none,trivial⟩,by intro e;cases e⟩
 |bool b=>cases h;exact⟨⟨_,kitx_bool,trivial⟩,by intro e;cases e⟩
 |int i t=>cases h;exact⟨⟨_,kitx_int,trivial⟩,by intro e;cases e⟩
 |str x t=>cases h;exact⟨⟨_,kitx_str,trivial⟩,by intro e;cases e⟩
 |st v=>cases h
 |any v=>cases h
 |rng hm=>cases h
 |tup hm hr=>
  cases h
  walk_at "ak"
  exact⟨⟨_,kitx_tuple,kitAt_N H.N (H.mem_fz hm) rfl⟩,by intro e;cases e⟩
 |lst hm hr=>
  cases h
  walk_at "ak"
  exact⟨⟨_,kitx_list,kitAt_N H.N (H.mem_fz hm) rfl⟩,by intro e;cases e⟩
 |dct hm hs=>
  cases h
  walk_at "ak"
  exact⟨⟨_,kitx_dict,kitAt_N H.N (H.mem_fz hm) rfl⟩,by intro e;cases e⟩
 |inst hc h1 h2 rf=>
  obtain⟨a,C,dx,es,n,e1,hc',I,_⟩:=S.inst (.inst hc h1 h2 rf) rfl
  simp only[oF,hc',Option.map_some,Option.some.injEq] at h
  subst h
  exact⟨e1▸own ok I,by intro e;cases e⟩
 |ref a=>
  refine⟨?_,by intro e;cases e⟩
  simp only[oF] at h
  split at h
  ·rename_i c fs hg
   obtain⟨a',C,dx,es,n,e1,hc',I,_⟩:=S.inst (.ref a) (show dW M (.ref a)=some (c,fs) by simp only[dW,hg])
   cases e1
   simp only[hc',Option.map_some,Option.some.injEq] at h
   subst h
   exact own ok I
  ·rename_i vs hg
   cases h
   obtain⟨a',ws,n,e1,ha,_⟩:=S.seq (.ref a) (show aY M (.ref a)=some (false,vs) by simp only[aY,hg])
   cases e1
   exact⟨_,kitx_list,⟨_,ha,rfl⟩⟩
  ·cases h
theorem D8{c:CV}{t T:Value}{b:Bool}(h:oF D M c=some t)(ok:jG D.K t=true)(e:kitOne D.K t T=some b)(hq:Φ (.bool b) M):WO D f d (fun vs=>call (.builtin "isinstance") vs) [c,.st T] M Φ X:=by
 intro fz m A s vs a S r
 cases r with
 |cons r1 r=>
  cases r with
  |cons r2 r=>
   cases r
   obtain rfl:=r2.st_inv
   obtain⟨⟨H,Z,hH⟩,hx⟩:=qr S r1 h ok
   exact kia_one Z S.inK hH e hx fun tk=>⟨fz,_,M,Sub.rfl',S,.bool b,hq⟩
theorem VRs.st_inv{cls:Str→Option Addr}{Ts ws:List Value}(r:VRs cls fz (Ts.map .st) ws):ws=Ts:=by
 induction Ts generalizing ws with
 |nil=>cases r;rfl
 |cons T Ts ih=>
  cases r with
  |cons a b=>rw[a.st_inv,ih b]
theorem AS{c:CV}{t:Value}{Ts:List Value}{b:Bool}(h:oF D M c=some t)(ok:jG D.K t=true)(e:kitAny D.K t Ts=some b)(hq:Φ (.bool b) M):WO D f d (fun vs=>call (.builtin "isinstance") vs) [c,.tup (Ts.map .st)] M Φ X:=by
 intro fz m A s vs a S r
 cases r with
 |cons r1 r=>
  cases r with
  |cons r2 r=>
   cases r
   obtain⟨⟨H,Z,hH⟩,hx⟩:=qr S r1 h ok
   obtain⟨⟨mr,cells,fo,ml,HH⟩,g,o⟩:=id S
   cases r2 with
   |tup hm hr=>
    obtain rfl:=VRs.st_inv hr
    exact kia_tup Z S.inK hH (HH.N _ (HH.mem_fz hm)).1 e hx fun tk=>⟨fz,_,M,Sub.rfl',S,.bool b,hq⟩
end
section
variable {M:Model}{A:Around}{E:Value→Shared→Prop}{h:Heap}{g:Array GenState}{d:Drawn}{t:Nat}{os:OsState}
variable {nm q:Str}{C N:Addr}{bs bm:List Value}{hdct:Bool}{sn:List Str}{sub:List Value}{ab:Bool}{col:Option Bool}{dd:Option Addr}{k0 k1 k2 k3 k5:Option Value}{Bn newId inN:String}{bmN:List Value}
theorem nF(Fn:ExcBaseFacts Bn newId inN bmN)(hcont:(Value.ref C::bm).contains (.type Bn)=true){rest:List Value}{Q:Unit→Shared→Prop}(hC:h.get? C=some (excClassObj nm q C N bs bm hdct sn sub ab col dd k0 k1 k2 k3 k5 newId))
  (hq:Q () ⟨h,g,d,t,os⟩):wpAny M A (checkBuiltinCall newId ⟨.ref C::rest,[]⟩) Q E ⟨h,g,d,t,os⟩:=by
 have hstar:=Fn.noStar
 simp only[checkBuiltinCall,Fn.newKind,Fn.newSplit,Fn.newRow]
 repeat (first|refine wpAny_loadPart_at hC ?_|(refine wpAny_isSubtype_exc hC ?_;rw[hcont])|refine wpAny_staticBase_exc hC ?_|refine wpAny_madeBy_exc hC ?_|simp only[bne_self_eq_false,Bool.false_eq_true,if_false]|wp_step)
 exact hq
end
section
variable {prog:Program}{w:World}{A:Around}{R:Result→Shared→Prop}{h:Heap}{g:Array GenState}{d:Drawn}{t:Nat}{os:OsState}
variable {nm q:Str}{C N:Addr}{bs bm:List Value}{hdct:Bool}{sn:List Str}{sub:List Value}{ab:Bool}{col:Option Bool}{dd:Option Addr}{k0 k1 k2 k3 k5:Option Value}{Bn newId inN:String}{bmN:List Value}
theorem Ap(Fn:ExcBaseFacts Bn newId inN bmN)(hcB:(Value.ref C::bm).contains (.type Bn)=true)(hcA:(Value.ref C::bm).contains (.type "AttributeError")=false)(hcN:(Value.ref C::bm).contains (.type "NameError")=false)
  {rest:List Value} (hC:h.get? C=some (excClassObj nm q C N bs bm hdct sn sub ab col dd k0 k1 k2 k3 k5 newId))
  (hq:R (.ok (.ret (.ref (h.objs.size+1)))) ⟨(h.push { cls:=.type "tuple",data:=.seq rest.toArray }).push
   { cls:=.ref C,data:=.fields #[.ref h.objs.size,.none,.none,.none,.bool false,.none] },g,d,t,os⟩) (hrest:rest.length≤sizeLine) :
  codeAny (model prog w) A (.builtin newId ⟨.ref C::rest,[]⟩) R ⟨h,g,d,t,os⟩:=by
 have hends:=Fn.ends
 refine codeAny_builtinAt Fn.entry ?_
 unfold Builtin.«BaseException.__new__»
 refine PySem.wpAt_bind ?_
 show PySem.wpAt _ _ _ (stack >>= _) _ _ _
 refine PySem.wpAt_bind (PySem.wpAt_stack fun p below=>PySem.wpAt_of_wpAny ?_)
 wp_walk
 refine PySem.wpAt_of_wpAny ?_
 rw[Fn.owner]
 repeat (first|with_reducible refine wpAny_madeHere_exc Fn.canon hC ?_|with_reducible refine wpAny_loadPart_at hC ?_|(with_reducible refine wpAny_isSubtype_exc hC ?_;first|rw[hcB]|rw[hcA]|rw[hcN])|wp_step)
 show R _ _
 rw[Heap.size_push]
 exact hq
theorem yg{K:Frag}(X:K.In h)(Fn:ExcBaseFacts Bn newId inN bmN)(hcB:(Value.ref C::bm).contains (.type Bn)=true)(hcA:(Value.ref C::bm).contains (.type "AttributeError")=false)(hcN:(Value.ref C::bm).contains (.type "NameError")=false)
  {rest:List Value} (hC:h.get? C=some (excClassObj nm q C N bs bm hdct sn sub ab col dd k0 k1 k2 k3 k5 newId)) {fI:Addr}
  (hcall:specialIn K (.ref C) "__call__" = some (some (.builtin "type.__call__"))) (htyp:instIn K (.ref C) (.type "type")=some true)
  (hi:findIn K (.ref C) "__init__" = some (some (.ref fI))) (hf:typeIn K (.ref fI)=some (.type "function"))
  (hq:codeAny (model prog w) (A.under (.builtin "type.__call__" ⟨.ref C::rest,[]⟩)) (.call (.ref fI) ⟨.ref (h.objs.size+1)::rest,[]⟩) (InitBack (h.objs.size+1) R) ⟨(h.push { cls:=.type "tuple",data:=.seq rest.toArray }).push
   { cls:=.ref C,data:=.fields #[.ref h.objs.size,.none,.none,.none,.bool false,.none] },g,d,t,os⟩) (hrest:rest.length≤sizeLine) :
  codeAny (model prog w) A (.call (.ref C) ⟨rest,[]⟩) R ⟨h,g,d,t,os⟩:=by
 have call:=looks_specialIn (M:=model prog w) X hcall
 have typ:=looks_instIn (M:=model prog w) X htyp
 have hI:=looks_findIn (M:=model prog w) X hi
 refine codeAny_of_tree ?_
 show wpAny _ _ (callAny (.ref C) _) _ _ _
 refine nd_load hC ?_
 show wpAny _ _ (callAny.viaDunder (.ref C) _) _ _ _
 unfold callAny.viaDunder
 refine wpAny_bind (call.at ?_)
 dsimp only
 rw[tc_bind]
 refine wpAny_bind (wpAny_pure (wpAny_bind (wpAny_pure ?_)))
 refine wpAny_pure (a:=Fin.again (.call (.builtin "type.__call__") ⟨.ref C::rest,[]⟩)) (And.intro rfl ?_)
 refine codeAny_call_builtin_at (Code.quiet_builtin _ (by decide +kernel)) entry_typeCall (check_slot tc_kind tc_split typ (tc_args _ _ _) ?_)
 unfold Builtin.«type.__call__»
 repeat (first|with_reducible refine wpAny_loadPart_at hC ?_|with_reducible refine wpAny_madeBy_exc hC ?_|wp_step)
 refine codeAny_call_builtin_code (Code.quiet_builtin _ Fn.quiet) (nF Fn hcB hC ?_)
 refine Ap Fn hcB hcA hcN hC ?_ hrest
 have k:∀b o,h.get? b=some o→((h.push { cls:=.type "tuple",data:=.seq rest.toArray }).push { cls:=.ref C,data:=.fields #[.ref h.objs.size,.none,.none,.none,.bool false,.none] }).get? b=some o:=fun b o e=>Heap.get?_push_of_some _ (Heap.get?_push_of_some _ e)
 have hC₁:=k _ _ hC
 have hget:((h.push { cls:=.type "tuple",data:=.seq rest.toArray }).push
   { cls:=.ref C,data:=.fields #[.ref h.objs.size,.none,.none,.none,.bool false,.none] }).get? (h.objs.size+1)=some
   { cls:=.ref C,data:=.fields #[.ref h.objs.size,.none,.none,.none,.bool false,.none] }:=by heap_get
 have hcC:(Value.ref C::bm).contains (.ref C)=true:=by simp
 have hI₁:=hI.keeps k
 have b1:=(bind_fn (M:=model prog w) X (.ref (h.objs.size+1)) hf).keeps k
 show wpAny _ _ _ _ _ _
 have t1:Looks (model prog w) ((h.push { cls:=.type "tuple",data:=.seq rest.toArray }).push { cls:=.ref C,data:=.fields #[.ref h.objs.size,.none,.none,.none,.bool false,.none] }) (typeOf (.ref (h.objs.size+1))) (.ref C):=(Looks.ld hget).andThen .now
 have i1:Looks (model prog w) ((h.push { cls:=.type "tuple",data:=.seq rest.toArray }).push { cls:=.ref C,data:=.fields #[.ref h.objs.size,.none,.none,.none,.bool false,.none] }) (isInstance (.ref (h.objs.size+1)) (.ref C)) true:=by
  intro A' Q' E' s' kk q
  unfold isInstance
  refine wpAny_bind (t1 A' _ E' s' kk ?_)
  obtain⟨h2,g2,d2,t2,o2⟩:=s'
  refine wpAny_isSubtype_exc (kk _ _ hC₁) ?_
  rw[hcC];exact q
 refine wpAny_bind (i1.at ?_)
 simp only[Bool.not_true,Bool.false_eq_true,if_false]
 unfold callSpecial? specialOf
 repeat (first|with_reducible refine wpAny_call ?_|lk)
 refine codeAny_mono hq fun r s' z=>?_
 rcases r with e|fl
 ·exact z
 ·cases fl with
  |ret v=>
   obtain⟨rfl,z⟩:=z
   exact wpAny_pure (wpAny_pure z)
  |_=>exact z.elim
end
section
open PySem PySem.W PyProof.Rows Builtin Builtin.ObjectAttr
theorem rU(self:Value):refuseLoop self "__setattr__" [.type "Exception",.type "BaseException",.type "object"]=pure ():=by
 kernel_rfl
section
variable {prog:Program}{w:World}{A:Around}{E:Value→Shared→Prop}{s:Shared}{K:Frag}{x C:Addr}{name:Str}{v:Value}{vs:Array Value}{sl:Array (Option Value)}{cd:ClassData}
theorem Ao{Q:Unit→Shared→Prop}(X:K.In s.heap)(hx:s.heap.get? x=some ⟨.ref C,none,.fields vs,sl⟩)(hs:findIn K (.ref C) "__setattr__" = some (some (.builtin "object.__setattr__")))
  (hc:clsIn K C=some cd) (hm:∃l,cd.mro=l++[.type "Exception",.type "BaseException",.type "object"]∧∀v∈l,∃c,v=.ref c) (ht:takerIn K C name=some none) (hd:cd.hasDict=true)
  (h:∀h' dx n tk,s.heap.get? dx=none→dx≠x→h'.get? x=some ⟨.ref C,some dx,.fields vs,sl⟩→h'.get? dx=some (dictOf [⟨n,.str name tk,v⟩] 1)→(∀b o,b≠x→s.heap.get? b=some o→h'.get? b=some o)→∀tk',Q () { s with heap:=h',toks:=tk' }) :
  wpAny (model prog w) A (setAttr (.ref x) name v) Q E s:=by
 have I:InstAt s.heap x ⟨.ref C,none,.fields vs,sl⟩ C none:=⟨hx,rfl,rfl,trivial⟩
 refine set_plain X I hs ?_
 have SF:=PySem.F.store_object
 obtain⟨l,hml,hl⟩:=hm
 have ne:cd.mro.isEmpty=false:=by rw[hml];cases l<;>rfl
 have sub:Looks (model prog w) s.heap (isInstance (.ref x) (.type "object")) true:=I.type.andThen (looks_mroIn X (by unfold mroIn;rw[hc,Option.bind_some,if_neg (by rw[ne];decide),hml];simp))
 refine codeAny_call_builtin SF.slot.plain SF.entry (@check_slot (model prog w) _ _ { s with toks:=s.toks+1 } "object.__setattr__" "object" "__setattr__" (.ref x) [.str name s.toks,v] [] _ SF.kind SF.split sub (SF.args (.ref x) (.str name s.toks) v) ?_)
 obtain⟨attr,ha,hr⟩:=Option.bind_eq_some_iff.mp ht
 have hmm:Looks (model prog w) s.heap (mroOf (.ref C)) cd.mro:=(looks_clsIn X hc).andThen .now
 have L3:Looks (model prog w) s.heap (storeTaker? attr) none:=by
  cases attr with
  |none=>exact .now
  |some a=>
   obtain⟨b,hb,hr'⟩:=Option.map_eq_some_iff.mp hr
   refine(looks_takesIn X hb).andThen ?_
   cases b
   ·exact .now
   ·cases hr'
 have hloop:refuseLoop (.ref x) "__setattr__" cd.mro=pure ():=by
  rw[hml]
  clear hml ne sub hmm
  induction l with
  |nil=>exact rU _
  |cons a l ih=>
   obtain⟨c,rfl⟩:=hl a (.head _)
   rw[List.cons_append,refuseLoop_ref]
   exact ih fun v hv=>hl v (.tail _ hv)
 rw[osa_eq,refuse_eq]
 refine wpAny_bind (wpAny_bind (I.type _ _ _ _ (fun _ _ e=>e) (wpAny_bind (hmm _ _ _ _ (fun _ _ e=>e) ?_))))
 rw[hloop]
 refine wpAny_pure (wpAny_bind (I.type _ _ _ _ (fun _ _ e=>e) (wpAny_bind (looks_findIn X ha _ _ _ _ (fun _ _ e=>e) (wpAny_bind (L3 _ _ _ _ (fun _ _ e=>e) ?_))))))
 dsimp only
 refine wpAny_bind (wpAny_pure ?_)
 refine wpAny_bind ?_
 show wpAny _ _ (instanceDict x true) _ _ _
 unfold instanceDict
 refine wpAny_bind (wpAny_loadPart hx (wpAny_bind (looks_clsIn X hc _ _ _ _ (fun _ _ e=>e) ?_)))
 rw[hd]
 refine wpAny_bind (wpAny_alloc ?_)
 have hx1:=Heap.get?_push_of_some (h:=s.heap) { cls:=.type "dict",data:=.dict #[] } hx
 have hxd:s.heap.objs.size≠x:=Nat.ne_of_gt (Heap.lt_size hx)
 refine wpAny_bind (wpAny_update hx1 (wpAny_bind (wpAny_pure ?_)))
 dsimp only
 refine wpAny_pure ?_
 have hd2:((s.heap.push { cls:=.type "dict",data:=.dict #[] }).update x fun o=>{ o with dict:=some s.heap.objs.size }).get? s.heap.objs.size=some (dictOf [] 0):=by
  rw[Heap.get?_update_other _ _ (Ne.symm hxd)];exact Heap.get?_push_size _ rfl
 have hx2:((s.heap.push { cls:=.type "dict",data:=.dict #[] }).update x fun o=>{ o with dict:=some s.heap.objs.size }).get? x=some ⟨.ref C,some s.heap.objs.size,.fields vs,sl⟩:=
  Heap.get?_update_self (fun o=>{ o with dict:=some s.heap.objs.size }) hx1 rfl
 have keep2:∀b o,b≠x→s.heap.get? b=some o→((s.heap.push { cls:=.type "dict",data:=.dict #[] }).update x fun o=>{ o with dict:=some s.heap.objs.size }).get? b=some o:=fun b o hb e=>by
  rw[Heap.get?_update_other _ _ (Ne.symm hb)];exact Heap.get?_push_of_some _ e
 generalize hH:((s.heap.push { cls:=.type "dict",data:=.dict #[] }).update x fun o=>{ o with dict:=some s.heap.objs.size })=H2 at hd2 hx2 keep2 ⊢
 unfold storeInDict
 refine wpAny_bind (wpAny_pure (wpAny_bind ?_))
 unfold nsSet
 refine wpAny_bind (wpAny_bind (wpAny_askSetting (wpAny_pure (wpAny_bind (wpAny_mkText (wpAny_bind (wpAny_loadPart hd2 ?_)))))))
 dsimp only
 have c:(!(([]:List DictEntry).toArray.any (·.key.isStr name))&&([]:List DictEntry).toArray.any (·.refKey))=false:=by simp
 rw[aRefKeyMayBeTheName_at,c]
 refine wpAny_updatePart (o:=dictOf [] 0) hd2 ?_
 have hput:Obj.putName name (PyData.keyHash w.params name) (.str name (s.toks+1)) v (dictOf [] 0)=dictOf [⟨PyData.keyHash w.params name,.str name (s.toks+1),v⟩] 1:=by
  rw[putName_dict];rfl
 have hd3:(H2.update s.heap.objs.size (Obj.putName name (PyData.keyHash w.params name) (.str name (s.toks+1)) v)).get? s.heap.objs.size=some (dictOf [⟨PyData.keyHash w.params name,.str name (s.toks+1),v⟩] 1):=by
  rw[Heap.get?_update_self _ hd2 (by rw[hput];rfl),hput]
 refine wpAny_bind (wpAny_lookBehind hd3 (by exact pastItsLine_dict (by show 1≤sizeLine+1;rw[sizeLine_eq];omega)) ?_)
 have fin:=fun tk'=>h (H2.update s.heap.objs.size (Obj.putName name (PyData.keyHash w.params name) (.str name (s.toks+1)) v)) s.heap.objs.size _ _ (Heap.get?_none_of_le (Nat.le_refl _)) hxd (by rw[Heap.get?_update_other _ _ hxd];exact hx2) hd3 (fun b o hb e=>by
  rw[Heap.get?_update_other _ _ (Nat.ne_of_gt (Heap.lt_size e))];exact keep2 b o hb e) tk'
 exact wpAny_pure (fin _)
end
end
section
open PySem PySem.W PyProof.Rows Builtin Builtin.ObjectAttr
section
variable {prog:Program}{w:World}{A:Around}{E:Value→Shared→Prop}{s:Shared}{K:Frag}{x C:Addr}{name:Str}{v:Value}{ox od:Obj}
theorem Aq{expr:Bool}{Q:Value→Shared→Prop}(X:K.In s.heap)(I:InstAt s.heap x ox C (some od))(hga:findIn K (.ref C) "__getattribute__" = some (some (.builtin "BaseException.__getattribute__")))(hgt:findIn K (.ref C) "__getattr__" = some none)
  (hb:mroIn K C (.type "BaseException")=some true) (hf:findObj K C (some od) name=some (.value v)) (hh:handedIn v=true) (h:∀tk,Q v { s with toks:=tk }):wpAny (model prog w) A (getAttr (.ref x) name expr) Q E s:=by
 obtain⟨hp,g,d,t,os⟩:=s
 have L0:=I.type (M:=model prog w)
 have L1:=looks_findIn (M:=model prog w) X hga
 have L2:=looks_findIn (M:=model prog w) X hgt
 have L3:Looks (model prog w) hp (isInstance (.ref x) (.type "BaseException")) true:=L0.andThen (looks_mroIn X hb)
 have L4:=looks_find (M:=model prog w) X I hf
 have f3:=PySem.F.attrBase_Exception.ga.bind (.ref x)
 have hx0:(expr&&onTheHeap (Value.builtin "BaseException.__getattribute__"))=false:=by cases expr<;>rfl
 have hx2:(Value.builtin "BaseException.__getattribute__" == Value.builtin "object.__getattribute__")=false:=by decide +kernel
 have hx1:(onTheHeap (Value.ref C)&&Value.builtin "BaseException.__getattribute__" == Value.builtin "object.__getattribute__")=false:=by rw[hx2];rfl
 unfold getAttr getAttrBy
 refine wpAny_bind (wpAny_mkText (wpAny_holding (wpAny_bind (L0.at (wpAny_bind (L1.at ?_))))))
 dsimp only
 rw[hx1]
 walk_at "cD"
 unfold getAttrByItsOwn
 refine wpAny_bind ?_
 show wpAny _ _ (typeLookup (.ref C) "__getattr__") _ _ _
 refine L2.at ?_
 refine wpAny_bind (wpAny_attempt (wpAny_holding ?_))
 unfold callGetattribute
 rw[hx0]
 walk_at "cD"
 unfold boundAndCalled
 rw[f3]
 have hk:builtinKind "BaseException.__getattribute__" = some .slot:=by decide +kernel
 have hsplit:splitId "BaseException.__getattribute__" = some ("BaseException","__getattribute__"):=by decide +kernel
 have post:wpAny (model prog w) A (handedOut v) Q E ⟨hp,g,d,t+1,os⟩:=by rw[handedOut_of hh];exact wpAny_pure (h _)
 refine wpAny_bind (wpAny_pure (wpAny_call ?_))
 show codeAny _ _ (.call (.builtin "BaseException.__getattribute__") ⟨[.ref x,.str name t],[]⟩) _ _
 refine codeAny_call_builtin PySem.F.attrBase_Exception.ga.plain PySem.F.entry_bexc_ga ?_
 refine @check_slot (model prog w) _ _ ⟨hp,g,d,t+1,os⟩ "BaseException.__getattribute__" "BaseException" "__getattribute__" (.ref x) [.str name t] [] _ hk hsplit L3 (PySem.F.args_bexc_ga (.ref x) (.str name t)) ?_
 unfold Builtin.«object.__getattribute__»
 repeat (first|assumption|lk)
end
end
structure zt(D:Wd)(C:Addr):Prop where
 cls:D.cls (Str.ofString "SqlError")=some C
 typ:typeIn D.K (.ref C)=some (.type "type")
 base:mroIn D.K C (.type "BaseException")=some true
section
variable {D:Wd}{f:Fc}{d:Nat}{m:List (Str×CV)}{M M':MH}{X Y:Str→MH→Prop}{fz fz':Led}{s:Shared}{A:Around}{Φ:CV→MH→Prop}{Ψ:Bool→MH→Prop}{Ξ:CF→List (Str×CV)→MH→Prop}
theorem SS.toExc{C a:Addr}{msg:Str}(k:zt D C)(S:SS D f fz m ((a,.exc (some msg))::M) s) :
  ∃fz' vs sl dx,Sub fz fz'∧St D.cls D.h₀ D.os f fz' m M [(a,⟨.ref C,some dx,.fields vs,sl⟩)] s∧vs[1]?=some .none∧s.heap.get? a=some ⟨.ref C,some dx,.fields vs,sl⟩∧ExO D [(a,⟨.ref C,some dx,.fields vs,sl⟩)] fz' msg (.ref a):=by
 walk_at "ak"
 have hr:=H.mrs
 cases hr with
 |@cons _ _ _ lx l2 p1 p2=>
 cases p1 with
 |@exc1 C' dx vs sl _ n t u hc hz h1=>
  rw[k.cls] at hc
  cases hc
  have hm:∀p∈aa ((dx,dictOf [⟨n,.str (Str.ofString "message") t,.str msg u⟩] 1)::fz) f.pin cells fo l2 [(a,⟨.ref C,some dx,.fields vs,sl⟩)],
    p∈aa fz f.pin cells fo ([(a,⟨.ref C,some dx,.fields vs,sl⟩),(dx,dictOf [⟨n,.str (Str.ofString "message") t,.str msg u⟩] 1)]++l2) []:=fun p hp=>by
   walk_at "cx"
   rcases hp with (q|q)|q|q|q|q|q<;>simp[q]
  refine⟨_,vs,sl,dx,fun p hp=>.tail _ hp,⟨⟨mr,cells,fo,l2,⟨H.F,fun p hp=>H.N p (hm p hp),?_,H.cellsAre,H.fos,p2.mono fun p hp=>.tail _ hp,fun x c e=>(H.loc x c e).mono fun p hp=>.tail _ hp⟩⟩,g,o⟩,h1,(H.N (a,⟨.ref C,some dx,.fields vs,sl⟩) (hm _ (by simp[aa]))).1,a,C,dx,vs,sl,n,t,u,rfl,k.cls,.head _,hz,.inl ⟨rfl,h1⟩⟩
  have nd:=H.nd
  walk_at "ar"
theorem yX{C:Addr}(k:zt D C)(calm:f.calm=true){e:PySem.Expr}{pos:Pos}(h:WE D f d e m M (fun c M'=>∃a msg M2,c=.ref a∧M'=(a,.exc (some msg))::M2∧X msg M2) X):W1 D f d (.Raise (some e) none pos) m M Ξ X:=by
 intro fz A s a S
 show wpAny _ A (do standAt pos;raiseStmt f.env (some (do let v ←eval e f.env;standAt pos;pure v)) none) _ _ s
 walk_at "b3"
 unfold raiseStmt
 dsimp only
 refine wpAny_bind (wpAny_bind (wpAny_mono (h fz A s a S) (fun v s₁ h₁=>wpAny_bind (wpAny_standAt (wpAny_pure ?_))) fun _ _ x=>x))
 obtain⟨f1,c,M1,k1,S1,r1,ad,msg,M2,rfl,rfl,hq⟩:=h₁
 cases r1
 obtain⟨f2,vs,sl,dx,k2,S2,h1,ha,ex⟩:=S1.toExc k
 have hcK:=S1.inK
 have L0:Looks (model D.prog D.w) s₁.heap (typeOf (.ref ad)) (.ref C):=(Looks.ld ha).andThen .now
 have hnt:∀{Q':Bool→Shared→Prop},Q' false s₁→wpAny (model D.prog D.w) A (isType (.ref ad)) Q' (XP D f fz X) s₁:=by
  intro Q' hq
  simp only[isType,loadHead]
  exact wpAny_bind (wpAny_loadPart ha (wpAny_pure hq))
 refine wpAny_bind (wpAny_pure ?_)
 dsimp only
 refine wpAny_bind (wpAny_holding ?_)
 unfold excFromValue isExcClass
 refine wpAny_bind (wpAny_bind (hnt ?_))
 walk_at "cD"
 refine wpAny_pure ?_
 walk_at "cD"
 refine wpAny_bind ((L0.andThen (looks_mroIn hcK k.base):Looks (model D.prog D.w) s₁.heap (isInstance (.ref ad) (.type "BaseException")) true).here ?_)
 simp only[if_true]
 refine wpAny_pure ?_
 refine wpAny_bind (hnt ?_)
 walk_at "cD"
 unfold raisedInstance
 refine wpAny_bind (wpAny_bind (L0.here (wpAny_bind ((looks_typeIn hcK k.typ).here ?_))))
 rw[if_pos (by decide)]
 refine wpAny_pure ?_
 unfold setFlight raiseNew
 refine wpAny_bind (wpAny_bind (wpAny_field ha rfl h1 ?_))
 rw[if_neg (by decide)]
 refine wpAny_pure (wpAny_bind (wpAny_handled ?_))
 rw[a.handled calm]
 have post:XP D f fz X (.ref ad) s₁:=⟨f2,M2,_,msg,k1.tr k2,S2.forget,ex,hq⟩
 first
  |exact wpAny_throw post
  |exact wpAny_bind (wpAny_pure (wpAny_throw post))
end
structure tL(D:Wd)(C fI:Addr):Prop where
 k:zt D C
 obj:∃nm q N bs bm hdct sn sub ab col dd k0 k1 k2 k3 k5,D.K.lookup C=some (excClassObj nm q C N bs bm hdct sn sub ab col dd k0 k1 k2 k3 k5 "Exception.__new__") ∧
  ((Value.ref C::bm).contains (.type "Exception")=true∧(Value.ref C::bm).contains (.type "AttributeError")=false∧(Value.ref C::bm).contains (.type "NameError")=false)
 call:specialIn D.K (.ref C) "__call__" = some (some (.builtin "type.__call__"))
 inst:instIn D.K (.ref C) (.type "type")=some true
 init:findIn D.K (.ref C) "__init__" = some (some (.ref fI))
 fn:typeIn D.K (.ref fI)=some (.type "function")
 set:findIn D.K (.ref C) "__setattr__" = some (some (.builtin "object.__setattr__"))
 taker:takerIn D.K C "message" = some none
 mro:∃cd l,clsIn D.K C=some cd∧cd.hasDict=true∧cd.mro=l++[.type "Exception",.type "BaseException",.type "object"]∧∀v∈l,∃c,v=.ref c
section
variable {D:Wd}{f:Fc}{d:Nat}{m:List (Str×CV)}{M M':MH}{X Y:Str→MH→Prop}{fz fz':Led}{s:Shared}{A:Around}{Φ:CV→MH→Prop}{Ψ:Bool→MH→Prop}{Ξ:CF→List (Str×CV)→MH→Prop}
theorem Bv{C fI:Addr}{cs:List CV}(e:tL D C fI)(hz:cs.length≤1000)
  (h:∀a,M.get a=none→FnC D d (.ref fI) (.ref a::cs) [] [] ((a,.exc none)::M) (fun r M'=>r=.none∧Φ (.ref a) M') X):FnC D (d+1) (.ref C) cs [] [] M Φ X:=by
 intro f fz m A s vs ks cf a S r rk
 cases rk
 walk_at "ak"
 obtain⟨nm,q,N,bs,bm,hdct,sn,sub,ab,col,dd,k0,k1,k2,k3,k5,hl,hB,hA,hN⟩:=e.obj
 have X0:=D.X.keeps H.F.keep
 obtain⟨hp,gg,dd',t,os⟩:=s
 refine yg X0 PySem.F.excBase_Exception hB hA hN (X0 _ _ hl) e.call e.inst e.init e.fn ?_ (cD (r.length▸hz))
 have F1:=H.F.push { cls:=.type "tuple",data:=.seq vs.toArray }
 have N1:News D.h₀ f.L (hp.push { cls:=.type "tuple",data:=.seq vs.toArray }) (aa fz f.pin cells fo ml []):=fun p hp=>⟨Heap.get?_push_of_some _ (H.N p hp).1,(H.N p hp).2⟩
 have F2:=F1.push { cls:=.ref C,data:=.fields #[.ref hp.objs.size,.none,.none,.none,.bool false,.none] }
 have N2:=N1.push F1 { cls:=.ref C,data:=.fields #[.ref hp.objs.size,.none,.none,.none,.bool false,.none] }
 rw[Heap.size_push] at N2
 have lt:∀p∈aa fz f.pin cells fo ml [],p.1 < hp.objs.size+1:=fun p hp'=>Nat.lt_succ_of_lt (Heap.lt_size (H.N p hp').1)
 have hM:M.get (hp.objs.size+1)=none:=H.noM (Heap.get?_none_of_le (Nat.le_succ _))
 refine codeAny_mono (h (hp.objs.size+1) hM f fz m _ _ (.ref (hp.objs.size+1)::vs) [] cf (a.tc _ _ _) ⟨⟨mr,cells,fo,_,H.pushM (lx:=[(hp.objs.size+1,{ cls:=.ref C,data:=.fields #[.ref hp.objs.size,.none,.none,.none,.bool false,.none] })]) F2 N2 (bp lt H.nd) (.exc0 e.k.cls (by show 4 < 6;omega) rfl)⟩,g,o⟩ (.cons (.ref _) r) .nil) fun r s' z=>?_
 rcases r with e|fl
 ·exact z
 ·cases fl with
  |ret v=>
   obtain⟨fz',c',M',k,S',r',rfl,z⟩:=z
   cases r'
   exact⟨rfl,fz',.ref _,M',k,S',.ref _,z⟩
  |_=>exact z.elim
theorem v9{C fI:Addr}(ek:tL D C fI){e o:PySem.Expr}{p pos:Pos}(h:WE D f d e m M (fun v M1=>∃msg,v=.str msg∧WE D f d o m M1 (fun oc M2=>∃a M3,oc=.ref a∧M2=(a,.exc none)::M3∧Ξ .next m ((a,.exc (some msg))::M3)) X) X)
  (hs:swapsWith e (some (.Attribute o "message" p)) pos.line f.env=pure false):W1 D f d (.Assign [.Attribute o "message" p] e pos) m M Ξ X:=by
 walk_at "c6"
 obtain⟨f1,c1,M1,k1,S1,r1,msg,rfl,w1⟩:=h₁
 cases r1
 rename_i tv
 refine wpAny_mono (w1 f1 A s₁ a S1) (fun ov s₂ h₂=>?_) fun _ _ z=>z.sub k1
 obtain⟨f2,oc,M2,k2,S2,r2,ad,M3,rfl,rfl,hq⟩:=h₂
 cases r2
 have XK:=S2.inK
 obtain⟨⟨mr,cells,fo,ml,H⟩,g,os⟩:=S2
 have hr:=H.mrs
 cases hr with
 |@cons _ _ _ lx l2 p1 p2=>
 cases p1 with
 |@exc0 C' vs sl hc hz h1=>
  rw[ek.k.cls] at hc
  cases hc
  have hx:=(H.N (ad,⟨.ref C,none,.fields vs,sl⟩) (by simp[aa])).1
  obtain⟨cd,l,hcd,hd,hm⟩:=ek.mro
  refine Ao XK hx ek.set hcd ⟨l,hm⟩ ek.taker hd fun h' dx n tk hdn hne hx' hd' keep tk'=>?_
  have inn:∀p∈aa f2 f.pin cells fo l2 [],p∈aa f2 f.pin cells fo ([(ad,(⟨.ref C,none,.fields vs,sl⟩:Obj))]++l2) []:=fun p hp=>by
   walk_at "cx"
   rcases hp with q|q|q|q|q<;>simp[q]
  have nd:=H.nd
  have ndp:(ad::(aa f2 f.pin cells fo l2 []).map (·.1)).Nodup:=by
   walk_at "ar"
  have hap:∀p∈aa f2 f.pin cells fo l2 [],p.1≠ad:=fun p hp q=>(List.nodup_cons.mp ndp).1 (List.mem_map.mpr ⟨p,hp,q⟩)
  have hadL:ad≠f.L:=(H.N (ad,⟨.ref C,none,.fields vs,sl⟩) (by simp[aa])).2.1
  have hadn:D.h₀.get? ad=none:=(H.N (ad,⟨.ref C,none,.fields vs,sl⟩) (by simp[aa])).2.2
  have hdxn:D.h₀.get? dx=none:=by
   cases q:D.h₀.get? dx with
   |none=>rfl
   |some o=>have:=H.F.keep _ _ q;rw[hdn] at this;cases this
  obtain⟨oL,es,ep,hL,hLd,hLk,hLf⟩:=H.F.ns
  have hdL:dx≠f.L:=fun q=>by rw[q,hL] at hdn;cases hdn
  have N':News D.h₀ f.L h' ([(ad,(⟨.ref C,some dx,.fields vs,sl⟩:Obj)),(dx,dictOf [⟨n,.str (Str.ofString "message") tk,.str msg tv⟩] 1)]++aa f2 f.pin cells fo l2 []):=fun p hp=>by
   simp only[List.cons_append,List.nil_append,List.mem_cons] at hp
   rcases hp with rfl|rfl|hp
   ·exact⟨hx',hadL,hadn⟩
   ·exact⟨hd',hdL,hdxn⟩
   ·exact⟨keep _ _ (hap p hp) (H.N p (inn p hp)).1,(H.N p (inn p hp)).2⟩
  have P:=my (fz:=f2) (f:=f) (cells:=cells) (fo:=fo) (ml:=l2) (xo:=[]) (lx:=[(ad,(⟨.ref C,some dx,.fields vs,sl⟩:Obj)),(dx,dictOf [⟨n,.str (Str.ofString "message") tk,.str msg tv⟩] 1)])
  refine⟨f2,.next,m,_,k1.tr k2,⟨⟨mr,cells,fo,[(ad,(⟨.ref C,some dx,.fields vs,sl⟩:Obj)),(dx,dictOf [⟨n,.str (Str.ofString "message") tk,.str msg tv⟩] 1)]++l2,⟨⟨⟨oL,es,ep,keep _ _ (Ne.symm hadL) hL,hLd,hLk,hLf⟩,fun b o hb=>keep b o (fun q=>by rw[q,hadn] at hb;cases hb) (H.F.keep b o hb),H.F.above⟩,jE P N',(P.map _).nodup_iff.mp ?_,H.cellsAre,H.fos,.cons (.exc1 ek.k.cls hz h1) p2,H.loc⟩⟩,g,os⟩,trivial,hq⟩
  simp only[List.map_append,List.map_cons,List.map_nil,List.cons_append,List.nil_append]
  rw[List.nodup_cons,List.nodup_cons,List.mem_cons,not_or]
  refine⟨⟨Ne.symm hne,(List.nodup_cons.mp ndp).1⟩,fun q=>?_,(List.nodup_cons.mp ndp).2⟩
  obtain⟨p,hp,ep'⟩:=List.mem_map.mp q
  have:=(H.N p (inn p hp)).1
  rw[ep',hdn] at this;cases this
end
structure Fb(D:Wd)(C:Addr):Prop where
 ga:findIn D.K (.ref C) "__getattribute__" = some (some (.builtin "BaseException.__getattribute__"))
 gt:findIn D.K (.ref C) "__getattr__" = some none
 base:mroIn D.K C (.type "BaseException")=some true
 dict:hasDictIn D.K C=true
 no:findIn D.K (.ref C) "message" = some none
section
variable {D:Wd}{f:Fc}{d:Nat}{m:List (Str×CV)}{M M':MH}{X Y:Str→MH→Prop}{fz fz':Led}{s:Shared}{A:Around}{Φ:CV→MH→Prop}{Ψ:Bool→MH→Prop}{Ξ:CF→List (Str×CV)→MH→Prop}
theorem Hp.caughtAt{xo:Led}{mr:Str→Option Value}{cells fo ml:Led}{h:Heap}(H:Hp D.cls D.h₀ f fz m M xo mr cells fo ml h){a:Addr}{msg:Str}(hg:M.get a=some (.caught msg)) :
  ∃C dx vs sl n,∃t u:Tok,D.cls (Str.ofString "SqlError")=some C∧h.get? a=some ⟨.ref C,some dx,.fields vs,sl⟩∧h.get? dx=some (dictOf [⟨n,.str (Str.ofString "message") t,.str msg u⟩] 1):=by
 obtain⟨M1,M2,eM,_⟩:=MH.get_split hg
 walk_at "b4"
 cases p2 with
 |@caught C dx vs sl _ n t u hc hd=>
  exact⟨C,dx,vs,sl,n,t,u,hc,(H.N (a,⟨.ref C,some dx,.fields vs,sl⟩) (by rw[el];simp[aa])).1,(H.N _ (H.mem_fz hd)).1⟩
theorem tB{C:Addr}(k:zt D C)(eg:Fb D C){e:PySem.Expr}{pos:Pos}(h:WE D f d e m M (fun o M'=>∃a msg,o=.ref a∧M'.get a=some (.caught msg)∧Φ (.str msg) M') X)
  (hb:attributeBase e "message" f.env (eval e f.env)=eval e f.env):WE D f d (.Attribute e "message" pos) m M Φ X:=by
 walk_at "cg"
 obtain⟨f1,o,M1,k1,S1,r,ad,msg,rfl,hg,hq⟩:=h₁
 cases r
 obtain⟨⟨mr,cells,fo,ml,H⟩,g,os⟩:=id S1
 obtain⟨C',dx,vs,sl,n,t,u,hc,h1,h2⟩:=H.caughtAt hg
 rw[k.cls] at hc
 cases hc
 refine Aq (od:=dictOf [⟨n,.str (Str.ofString "message") t,.str msg u⟩] 1) S1.inK ⟨h1,rfl,rfl,h2⟩ eg.ga eg.gt eg.base (findObj_own eg.dict eg.no rfl (v:=.str msg u) ?_) rfl fun tk=>?_
 ·rw[lookIn_dict];unfold PySem.W.getL;simp[Value.isStr]
 ·exact wpAny_bind (wpAny_letTemporaryGo (wpAny_pure ⟨f1,_,M1,k1,S1,.str msg u,hq⟩))
end
section
variable {D:Wd}{f:Fc}{d:Nat}{m:List (Str×CV)}{M M':MH}{X Y:Str→MH→Prop}{fz fz':Led}{s:Shared}{A:Around}{Φ:CV→MH→Prop}{Ψ:Bool→MH→Prop}{Ξ:CF→List (Str×CV)→MH→Prop}{xo:Led}{msg:Str}{ev:Value}
theorem lT(S:St D.cls D.h₀ D.os f fz m M xo s)(x:ExT D xo fz msg ev):∃e,ev=.ref e∧M.get e=none∧SS D f fz m ((e,.caught msg)::M) s:=by
 obtain⟨e,C,dx,vs,sl,n,t,u,hev,hC,hdx,hsz,T,tc,td,ts,tsl,rfl,h1,hts⟩:=x
 walk_at "ak"
 have hsub:∀p∈aa fz f.pin cells fo ([(e,(⟨.ref C,some dx,.fields vs,sl⟩:Obj))]++ml) [],p∈aa fz f.pin cells fo ml [(e,⟨.ref C,some dx,.fields vs,sl⟩),(T,⟨tc,td,.fields ts,tsl⟩)]:=fun p hp=>by
  walk_at "cx"
  rcases hp with q|q|q|q|q|q<;>simp[q]
 have nd:=H.nd
 have nd1:((T::(aa fz f.pin cells fo ([(e,(⟨.ref C,some dx,.fields vs,sl⟩:Obj))]++ml) []).map (·.1))).Nodup:=by
  walk_at "ar"
 have hM:M.get e=none:=by
  cases q:M.get e with
  |none=>rfl
  |some ob=>
   walk_at "cQ"
   have nd2:(e::(aa fz f.pin cells fo ml []).map (·.1)).Nodup:=by
    have z:=(List.nodup_cons.mp nd1).2
    refine(List.Perm.nodup_iff ?_).mp z
    refine List.perm_iff_count.mpr fun b=>?_
    simp only[aa,List.map_append,List.map_cons,List.map_nil,List.count_append,List.count_cons,List.count_nil]
    omega
   exact absurd (List.mem_map.mpr ⟨(e,ob),by rw[el];rcases hmx with hmx|hmx<;>simp[aa,hmx],rfl⟩) (List.nodup_cons.mp nd2).1
 exact⟨e,hev,hM,⟨mr,cells,fo,_,⟨H.F,fun p hp=>H.N p (hsub p hp),(List.nodup_cons.mp nd1).2,H.cellsAre,H.fos,.cons (.caught hC hdx) H.mrs,H.loc⟩⟩,g,o⟩
abbrev Fc.hot(f:Fc):Fc:={ f with calm:=false }
theorem AOk.mark(a:AOk f d A)(v:Option Value):AOk f.hot d (A.mark v):=⟨(fun h=>Bool.noConfusion h),a.frames,a.depth,a.units,a.guards,⟨a.fc.kind,a.fc.loc,a.fc.glo,a.fc.blt,a.fc.fr,a.fc.top,a.fc.inj⟩⟩
theorem SS.hot(S:SS D f fz m M s):SS D f.hot fz m M s:=by
 walk_at "ak"
 exact⟨⟨mr,cells,fo,ml,⟨H.F,H.N,H.nd,H.cellsAre,H.fos,H.mrs,H.loc⟩⟩,g,o⟩
theorem SS.cool(S:SS D f.hot fz m M s):SS D f fz m M s:=by
 walk_at "ak"
 exact⟨⟨mr,cells,fo,ml,⟨H.F,H.N,H.nd,H.cellsAre,H.fos,H.mrs,H.loc⟩⟩,g,o⟩
theorem oE{n:Str}(a:AOk f d A)(hn:f.env.kindOf n=some .local)(S:SS D f fz m M s){p:Pos}{Q:Unit→Shared→Prop}{E:Value→Shared→Prop}(h:∀s',SS D f fz [] M s'→Q () s') :
  wpAny (model D.prog D.w) A (do bindName f.env n .none;unbindBehindTheSuite f.env n p) Q E s:=by
 refine wpAny_bind (wpAny_bindName (gw a hn S .none fun s' S'=>?_))
 obtain⟨⟨mr,cells,fo,ml,H⟩,g,o⟩:=S'
 have ok:=a.fc
 obtain hv:∃v,mr n=some v:=by
  rcases H.loc n .none (dn _ _ _) with ⟨_,v,hv,_⟩|⟨hk,_⟩
  ·exact⟨v,hv⟩
  ·rw[hn] at hk;rcases hk with hk|hk<;>cases hk
 obtain⟨v,hv⟩:=hv
 unfold unbindBehindTheSuite
 refine wpAny_onRaise (wpAny_unbindName_local hn (ok.loc▸H.F.ns) hv (by rw[ok.kind];rfl) fun h' u hns hs=>?_)
 rw[ok.loc] at hns hs
 exact h _ ⟨⟨_,cells,fo,ml,H.F.set hns hs,H.N.set hs,H.nd,H.cellsAre,H.fos,H.mrs,fun _ _ e=>by cases e⟩,g,o⟩
theorem yW{C fI:Addr}(ek:tL D C fI){body hb:List Stmt}{b₀:Stmt}{n:Str}{np hp pos:Pos}(hn:f.env.kindOf n=some .local)(hx:f.env.kindOf "SqlError" = some .globalImplicit)(hg:nsIn D.K mainGlobals "SqlError" = some (some (.ref C)))
  (h:WS D f d body m M Ξ (fun msg M'=>∀a,M'.get a=none→WS D f.hot d (b₀::hb) [(n,.ref a)] ((a,.caught msg)::M') (fun c m' M''=>Ξ c [] M'') (fun _ _=>False))) :
  W1 D f d (.Try body [.ExceptHandler (some (.Name "SqlError" np)) (some n) (b₀::hb) hp] [] [] pos) m M Ξ X:=by
 walk_at "a6"
 walk_at "av"
 refine codeAny_handlers_suite_as (du S3 ex3 fun xo4 s4 S4 ex4=>?_)
 obtain⟨ea',hea',hM,S5⟩:=lT S4 ex4
 cases hea'
 refine gw (f:=f.hot) aM hn S5.hot (.ref ea) fun s6 S6=>?_
 refine wpAny_mono (hh ea hM f1 _ s6 aM S6) (fun fl s7 h7=>?_) (fun x s7 h7=>?_)
 ·obtain⟨f7,c,m7,M7,k7,S7,r7,z7⟩:=h7
  refine oE a hn S7.cool fun s8 S8=>?_
  exact⟨f7,c,[],M7,k1.tr k7,S8,r7,z7⟩
 ·obtain⟨_,_,_,_,_,_,_,z⟩:=h7
  exact z.elim
theorem Ba{C fI:Addr}(ek:tL D C fI){body hb:List Stmt}{b₀:Stmt}{np hp pos:Pos}(hx:f.env.kindOf "SqlError" = some .globalImplicit)(hg:nsIn D.K mainGlobals "SqlError" = some (some (.ref C)))
  (h:WS D f d body m M Ξ (fun msg M'=>WS D f.hot d (b₀::hb) [] M' (fun c m' M''=>Ξ c [] M'') (fun _ _=>False))) :
  W1 D f d (.Try body [.ExceptHandler (some (.Name "SqlError" np)) none (b₀::hb) hp] [] [] pos) m M Ξ X:=by
 walk_at "a6"
 walk_at "av"
 refine codeAny_handlers_suite (du S3 ex3 fun xo4 s4 S4 ex4=>?_)
 have S5:SS D f f1 [] M1 s4:=by
  obtain⟨⟨mr,cells,fo,ml,H⟩,g,o⟩:=S4
  exact⟨⟨mr,cells,fo,ml,H.lessX (List.nil_sublist _)⟩,g,o⟩
 refine wpAny_mono (hh f1 _ s4 aM S5.hot) (fun fl s7 h7=>?_) (fun x s7 h7=>?_)
 ·obtain⟨f7,c,m7,M7,k7,S7,r7,z7⟩:=h7
  exact⟨f7,c,[],M7,k1.tr k7,S7.cool.forget,r7,z7⟩
 ·obtain⟨_,_,_,_,_,_,_,z⟩:=h7
  exact z.elim
end
abbrev Fc.more(f:Fc)(a:Addr)(d:Value×Data):Fc:={ f with frs:=(a,d)::f.frs }
section
variable {D:Wd}{f:Fc}{d:Nat}{m:List (Str×CV)}{M M':MH}{X Y:Str→MH→Prop}{fz fz' fz0:Led}{s:Shared}{A:Around}{Φ:CV→MH→Prop}{Ψ:Bool→MH→Prop}{Ξ:CF→List (Str×CV)→MH→Prop}{xo:Led}{msg:Str}{ev:Value}{it:Addr}{dt:Value×Data}
theorem AOk.more(a:AOk f d A):AOk (f.more it dt) d A:=
 ⟨a.handled,a.frames,a.depth,a.units,a.guards,⟨a.fc.kind,a.fc.loc,a.fc.glo,a.fc.blt,fun e he=>by
  obtain⟨h1,ad,h2,h3⟩:=a.fc.fr e he
  exact⟨h1,ad,h2,h3.imp id fun⟨dd,h4,h5⟩=>⟨dd,.tail _ h4,h5⟩⟩,a.fc.top,a.fc.inj⟩⟩
theorem St.less1(S:St D.cls D.h₀ D.os (f.more it dt) fz m M xo s):St D.cls D.h₀ D.os f fz m M xo s:=by
 walk_at "ak"
 have hf:=H.fos
 cases hf with
 |@cons _ _ ob _ fo2 hd hr=>
 have sub:∀p∈aa fz f.pin cells fo2 ml xo,p∈aa fz f.pin cells ((it,ob)::fo2) ml xo:=fun p hp=>by
  simp only[aa,List.mem_append,List.mem_cons] at hp ⊢
  rcases hp with q|q|q|q|q|q<;>simp[q]
 have nd:=H.nd
 have nd1:(it::(aa fz f.pin cells fo2 ml xo).map (·.1)).Nodup:=by
  walk_at "ar"
 exact⟨⟨mr,cells,fo2,ml,⟨H.F,fun p hp=>H.N p (sub p hp),(List.nodup_cons.mp nd1).2,H.cellsAre,hr,H.mrs,H.loc⟩⟩,g,o⟩
theorem XP.less1{e:Value}:XP D (f.more it dt) fz X e s→XP D f fz X e s:=fun⟨a,b,c,g,h,S,r⟩=>⟨a,b,c,g,h,S.less1,r⟩
def WA(D:Wd)(f:Fc)(d:Nat)(t:PySem.Expr)(c:CV)(m:List (Str×CV))(M:MH)(Φ:List (Str×CV)→MH→Prop)(X:Str→MH→Prop):Prop:=
 ∀fz A s v,AOk f d A→SS D f fz m M s→VR D.cls fz c v→wpAny (model D.prog D.w) A (assign t f.env v) (fun _ s'=>∃fz' m' M',Sub fz fz'∧SS D f fz' m' M' s'∧Φ m' M') (XP D f fz X) s
theorem uK{x:Str}{p:Pos}{c:CV}{Φ:List (Str×CV)→MH→Prop}(hx:Own f x)(h:Φ (put x c m) M):WA D f d (.Name x p) c m M Φ X:=fun fz A s v a S r=>by
 rw[arm_assign_Name]
 walk_at "b3"
 exact wpAny_bindName (ig a hx S r fun s' S'=>⟨fz,_,M,Sub.rfl',S',h⟩)
def Nx(D:Wd)(f:Fc)(d:Nat)(it:Addr)(dt:Nat→Value×Data)(vals:List CV)(fz0:Led)(P:MH→Prop):Prop:=
 ∀i fz m M s A E,f.calm=true→AOk f d A→Sub fz0 fz→P M→SS D (f.more it (dt i)) fz m M s →
 (∀c,vals[i]?=some c→wpAny (model D.prog D.w) A (pyNext (.ref it)) (fun r s'=>∃v fz',r=some v∧Sub fz fz'∧SS D (f.more it (dt (i+1))) fz' m M s'∧VR D.cls fz' c v) E s) ∧
 (vals[i]?=none→wpAny (model D.prog D.w) A (pyNext (.ref it)) (fun r s'=>r=none∧SS D f fz m M s') E s)
theorem jC(a:AOk f d A){E:Value→Shared→Prop}{e:Value}(h:XP D f fz X e s)(k:∀s',XP D f fz X e s'→(∃fz' M' xo msg,Sub fz fz'∧St D.cls D.h₀ D.os f fz' [] M' xo s'∧ExT D xo fz' msg e∧X msg M')→E e s'):notedBy (model D.prog D.w) A f.env E e s:=by
 obtain⟨f1,M1,xo,msg,k1,S1,ex,z⟩:=h
 show wpAny _ _ (noteFrame e f.env) _ _ _
 exact oX a.fc a.frames S1 ex fun xo2 s2 S2 ex2=>k _ ⟨f1,M1,xo2,msg,k1,S2,ex2.ex,z⟩ ⟨f1,M1,xo2,msg,k1,S2,ex2,z⟩
theorem vC{dts:Nat→Value×Data}{vals:List CV}{P:MH→Prop}{target:PySem.Expr}{body:List Stmt}(calm:f.calm=true)(a:AOk f d A)(nx:Nx D f d it dts vals fz0 P)
  (lo:∀i fz m M s v (Q:Unit→Shared→Prop) E,SS D (f.more it (dts i)) fz m M s→(∀s',SS D (f.more it (dts i)) fz m M s'→Q () s')→wpAny (model D.prog D.w) A (letOwnedTupleGo target (.ref it) v) Q E s)
  (I:Nat→List (Str×CV)→MH→Prop)
  (step:∀i c m M,vals[i]?=some c→I i m M→P M∧WA D (f.more it (dts (i+1))) d target c m M (fun m' M'=>WS D (f.more it (dts (i+1))) d body m' M' (fun cf m2 M2=>match cf with
   |.next=>I (i+1) m2 M2|.cont=>I (i+1) m2 M2|.brk=>Ξ .next m2 M2|.ret r=>Ξ (.ret r) m2 M2) X) X)
  (fin:∀m M,I vals.length m M→P M∧Ξ .next m M)
  (h0:I 0 m M) (k0:Sub fz0 fz) (S:SS D (f.more it (dts 0)) fz m M s) :
  codeAny (model D.prog D.w) A (.forLoop target (.ref it) body [] f.env) (fun r s'=>match r with|.ok fl=>FP D f fz Ξ fl s'|.error e=>∃fz' M' xo msg,Sub fz fz'∧St D.cls D.h₀ D.os f fz' [] M' xo s'∧ExT D xo fz' msg e∧X msg M') s:=by
 refine codeAny_forLoop_any (fun n s'=>∃i fz' m' M',i+n=vals.length∧Sub fz fz'∧SS D (f.more it (dts i)) fz' m' M' s'∧I i m' M') (fun n s' hI=>?_) vals.length ⟨0,fz,m,M,by omega,Sub.rfl',S,h0⟩
 obtain⟨i,f1,m1,M1,hn,k1,S1,hi⟩:=hI
 walk_at "ap"
 cases hv:vals[i]? with
 |none=>
  have hlen:i=vals.length:=by
   have:=List.getElem?_eq_none_iff.mp hv
   omega
  subst hlen
  obtain⟨hP,hF⟩:=fin m1 M1 hi
  refine wpAny_mono ((nx vals.length f1 m1 M1 s' A _ calm a (k0.tr k1) hP S1).2 hv) (fun r s2 h2=>?_) fun _ _ z=>z
  obtain⟨rfl,S2⟩:=h2
  exact wpAny_execs_nil ⟨f1,.next,m1,M1,k1,S2,trivial,hF⟩
 |some c=>
  walk_at "bm"
  obtain⟨hP,hW⟩:=step i c m1 M1 hv hi
  refine wpAny_mono ((nx i f1 m1 M1 s' A _ calm a (k0.tr k1) hP S1).1 c hv) (fun r s2 h2=>?_) fun _ _ z=>z
  obtain⟨v,f2,rfl,k2,S2,r2⟩:=h2
  refine lo (i+1) f2 m1 M1 s2 v _ _ S2 fun s2' S2'=>?_
  refine wpAny_mono (hW f2 A s2' v a.more S2' r2) (fun _ s3 h3=>?_) fun _ _ z=>err (k1.tr k2) z.less1
  obtain⟨f3,m3,M3,k3,S3,hB⟩:=h3
  refine wpAny_mono (hB f3 A s3 a.more S3) (fun fl s4 h4=>?_) fun _ _ z=>err ((k1.tr k2).tr k3) z.less1
  obtain⟨f4,cf,m4,M4,k4,S4,r4,z4⟩:=h4
  have kk:=((k1.tr k2).tr k3).tr k4
  cases fl<;>cases cf<;>first|exact r4.elim|skip
  ·exact⟨n - 1,by omega,i+1,f4,m4,M4,by omega,kk,S4,z4⟩
  ·exact⟨f4,.next,m4,M4,kk,S4.less1,trivial,z4⟩
  ·exact⟨n - 1,by omega,i+1,f4,m4,M4,by omega,kk,S4,z4⟩
  ·exact⟨f4,_,m4,M4,kk,S4.less1,r4,z4⟩
end
section
variable {D:Wd}{f:Fc}{d:Nat}{m:List (Str×CV)}{M M':MH}{X Y:Str→MH→Prop}{fz fz' fz0:Led}{s:Shared}{A:Around}{Φ:CV→MH→Prop}{Ψ:Bool→MH→Prop}{Ξ:CF→List (Str×CV)→MH→Prop}{it a0:Addr}
def ju(t:Bool)(l:Addr)(i:Nat):Value×Data:=(.type (if t then "tuple_iterator" else "list_iterator"),.fields #[.ref l,.int i 0])
theorem SS.thing{dt:Value×Data}(S:SS D (f.more it dt) fz m M s):∃o,s.heap.get? it=some o∧o.cls=dt.1∧o.data=dt.2:=by
 walk_at "ak"
 have hf:=H.fos
 cases hf with
 |@cons _ _ ob _ fo2 hd hr=>
  obtain⟨h1,h2⟩:=Prod.mk.inj hd
  exact⟨ob,(H.N (it,ob) (by simp[aa])).1,h1,h2⟩
theorem SS.turn{dt dt':Value×Data}{h':Heap}{o':Obj}{tk:Nat}(S:SS D (f.more it dt) fz m M s)(hs:Heap.SameBut it s.heap h')(ho:h'.get? it=some o')(h1:o'.cls=dt'.1)(h2:o'.data=dt'.2):SS D (f.more it dt') fz m M { s with heap:=h',toks:=tk }:=by
 walk_at "ak"
 have hf:=H.fos
 cases hf with
 |@cons _ _ ob _ fo2 hd hr=>
 have led:∀z:Obj,aa fz f.pin cells ((it,z)::fo2) ml []=(fz++(f.pin++cells))++(it,z)::(fo2++(ml++[])):=fun z=>by simp[aa]
 have nd:=H.nd
 have N:=H.N
 have hm:=N (it,ob) (by simp[aa])
 change News D.h₀ f.L s.heap (aa fz f.pin cells ((it,ob)::fo2) ml []) at N
 change ((aa fz f.pin cells ((it,ob)::fo2) ml []).map (·.1)).Nodup at nd
 rw[led] at nd N
 have hap:∀p∈(fz++(f.pin++cells))++(fo2++(ml++[])),p.1≠it:=fun p hp q=>by
  walk_at "aP"
 refine⟨⟨mr,cells,(it,o')::fo2,ml,⟨⟨H.F.ns.sameBut hs (Ne.symm hm.2.1),fun b ob hb=>(hs.2 b fun q=>?_).trans (H.F.keep b ob hb),H.F.above⟩,?_,?_,H.cellsAre,.cons (by rw[h1,h2]) hr,H.mrs,H.loc⟩⟩,g,o⟩
 ·rw[q] at hb;rw[hm.2.2] at hb;cases hb
 ·show News D.h₀ f.L h' (aa fz f.pin cells ((it,o')::fo2) ml [])
  rw[led]
  walk_at "bs"
  ·cases hp with
   |head=>exact⟨ho,hm.2⟩
   |tail _ hp=>
    walk_at "bO"
 ·show ((aa fz f.pin cells ((it,o')::fo2) ml []).map (·.1)).Nodup
  rw[led,gL (o:=ob)];exact nd
theorem SS.done{dt:Value×Data}{h':Heap}{tk:Nat}(S:SS D (f.more it dt) fz m M s)(hs:Heap.ExtBut it s.heap h'):SS D f fz m M { s with heap:=h',toks:=tk }:=by
 have S0:=S.less1
 walk_at "ak"
 have hf:=H.fos
 cases hf with
 |@cons _ _ ob _ fo2 hd hr=>
 have hm:=H.N (it,ob) (by simp[aa])
 have nd:=H.nd
 have nd1:(it::(aa fz f.pin cells fo2 ml []).map (·.1)).Nodup:=by
  walk_at "ar"
 have sub:∀p∈aa fz f.pin cells fo2 ml [],p∈aa fz f.pin cells ((it,ob)::fo2) ml []:=fun p hp=>by
  simp only[aa,List.mem_append,List.mem_cons] at hp ⊢
  rcases hp with q|q|q|q|q|q<;>simp[q]
 obtain⟨oL,es,ep,hL,hLd,hLk,hLf⟩:=H.F.ns
 have hitL:it≠f.L:=hm.2.1
 exact⟨⟨mr,cells,fo2,ml,⟨⟨⟨oL,es,ep,hs _ _ (Ne.symm hitL) hL,hLd,hLk,hLf⟩,fun b ob hb=>hs b ob (fun q=>by rw[q,hm.2.2] at hb;cases hb) (H.F.keep b ob hb),H.F.above⟩,
  fun p hp=>⟨hs _ _ (fun q=>(List.nodup_cons.mp nd1).1 (List.mem_map.mpr ⟨p,hp,q⟩)) (H.N p (sub p hp)).1,(H.N p (sub p hp)).2⟩,(List.nodup_cons.mp nd1).2,H.cellsAre,hr,H.mrs,H.loc⟩⟩,g,o⟩
theorem E4{t:Bool}{c:CV}{vs:List CV}(ha:∀fz m M s f',Sub fz0 fz→SS D f' fz m M s→aY M c=some (t,vs)→∃ws n,s.heap.get? a0=some (seqObj t ws n)∧VRs D.cls fz vs ws) :
  Nx D f d it (ju t a0) vs fz0 (fun M=>aY M c=some (t,vs)):=by
 intro i fz m M s A E calm a k hP S
 obtain⟨ws,n,hl,rs⟩:=ha fz m M s _ k S hP
 walk_at "cc"
 constructor
 ·intro c' hc'
  obtain⟨w,hw,rw'⟩:=rs.get hc'
  cases t with
  |true=>
   refine wpAny_pyNext_tuple_item ⟨o,ho,hc,hd⟩ (bW hl) (by simpa using hw) fun h' hit hs=>?_
   obtain⟨o',ho',hc'',hd'⟩:=hit
   exact⟨w,fz,rfl,Sub.rfl',S.turn hs ho' hc'' hd',rw'⟩
  |false=>
   refine wpAny_pyNext_list_item ⟨o,ho,hc,hd⟩ (bX hl) (by simpa using hw) fun h' hit hs=>?_
   obtain⟨o',ho',hc'',hd'⟩:=hit
   exact⟨w,fz,rfl,Sub.rfl',S.turn hs ho' hc'' hd',rw'⟩
 ·intro hn
  have hn':ws.toArray[i]?=none:=by
   have:=List.getElem?_eq_none_iff.mp hn
   simp only[List.getElem?_toArray,List.getElem?_eq_none_iff,←rs.length]
   exact this
  cases t with
  |true=>exact wpAny_pyNext_tuple_end (a.handled calm) ⟨o,ho,hc,hd⟩ (bW hl) hn' fun h' hs=>⟨rfl,S.done hs⟩
  |false=>exact wpAny_pyNext_list_end (a.handled calm) ⟨o,ho,hc,hd⟩ (bX hl) hn' fun h' hs=>⟨rfl,S.done hs⟩
end
section
variable {D:Wd}{f:Fc}{d:Nat}{m:List (Str×CV)}{M M':MH}{X Y:Str→MH→Prop}{fz fz' fz0:Led}{s:Shared}{A:Around}{Φ:CV→MH→Prop}{Ψ:Bool→MH→Prop}{Ξ:CF→List (Str×CV)→MH→Prop}{it a0:Addr}
theorem SS.begin{o:Obj}{tk:Nat}(S:SS D f fz m M s)(hf:o.isFreed=false):SS D (f.more s.heap.objs.size (o.cls,o.data)) fz m M { s with heap:=s.heap.push o,toks:=tk }:=by
 walk_at "cr"
 walk_at "aO"
 have nx:D.h₀.get? s.heap.objs.size=none:=by
  cases q:D.h₀.get? s.heap.objs.size with
  |none=>rfl
  |some ob=>exact absurd (Heap.lt_size (H.F.keep _ _ q)) (Nat.lt_irrefl _)
 have N':News D.h₀ f.L (s.heap.push o) ((s.heap.objs.size,o)::aa fz f.pin cells fo ml []):=fun p hp=>by
  cases hp with
  |head=>exact⟨Heap.get?_push_size _ hf,Nat.ne_of_gt H.F.ns.lt,nx⟩
  |tail _ hp=>exact⟨Heap.get?_push_of_some _ (H.N p hp).1,(H.N p hp).2⟩
 have sub:∀p∈aa fz f.pin cells ((s.heap.objs.size,o)::fo) ml [],p∈(s.heap.objs.size,o)::aa fz f.pin cells fo ml []:=fun p hp=>by
  simp only[aa,List.mem_append,List.mem_cons] at hp ⊢
  rcases hp with q|q|q|(q|q)|q|q<;>simp[q]
 refine⟨⟨mr,cells,(s.heap.objs.size,o)::fo,ml,⟨H.F.push o,fun p hp=>N' p (sub p hp),?_,H.cellsAre,.cons rfl H.fos,H.mrs,H.loc⟩⟩,g,os⟩
 have nd:=bp (o:=o) lt H.nd
 walk_at "ar"
theorem DH{t:Bool}{i:Nat}{target:PySem.Expr}{v:Value}{Q:Unit→Shared→Prop}{E:Value→Shared→Prop}(S:SS D (f.more it (ju t a0 i)) fz m M s)(h:Q () s):wpAny (model D.prog D.w) A (letOwnedTupleGo target (.ref it) v) Q E s:=by
 walk_at "cc"
 unfold letOwnedTupleGo
 split
 all_goals first
  |exact wpAny_pure h
  |skip
 all_goals
  cases v<;>first|exact wpAny_pure h|skip
  refine wpAny_bind (wpAny_load ho ?_)
  rw[hc,hd]
  simp only[ju]
  cases t<;>(simp only[if_true,Bool.false_eq_true,if_false];rw[if_neg (by intro q;simp at q)];exact wpAny_pure h)
end
section
variable {D:Wd}{f:Fc}{d:Nat}{m:List (Str×CV)}{M M':MH}{X Y:Str→MH→Prop}{fz fz' fz0:Led}{s:Shared}{A:Around}{Φ:List (Str×CV)→MH→Prop}{Ξ:CF→List (Str×CV)→MH→Prop}
def WAs(D:Wd)(f:Fc)(d:Nat)(ts:List PySem.Expr)(cs:List CV)(m:List (Str×CV))(M:MH)(Φ:List (Str×CV)→MH→Prop)(X:Str→MH→Prop):Prop:=
 ∀fz A s vs,AOk f d A→SS D f fz m M s→VRs D.cls fz cs vs→wpAny (model D.prog D.w) A (assignInOrder ((assignEach ts f.env).map (·.2)) vs) (fun _ s'=>∃fz' m' M',Sub fz fz'∧SS D f fz' m' M' s'∧Φ m' M') (XP D f fz X) s
theorem A9(h:Φ m M):WAs D f d [] [] m M Φ X:=fun fz A s vs a S r=>PyProof.Rows.assignInOrder_nil ⟨fz,m,M,Sub.rfl',S,h⟩
theorem yT{t:PySem.Expr}{ts:List PySem.Expr}{c:CV}{cs:List CV}(h:WA D f d t c m M (fun m' M'=>WAs D f d ts cs m' M' Φ X) X)(he:assignEach (t::ts) f.env=(false,assign t f.env)::assignEach ts f.env):WAs D f d (t::ts) (c::cs) m M Φ X:=by
 intro fz A s vs a S r
 cases r with
 |cons r1 r=>
  rw[he]
  refine PyProof.Rows.assignInOrder_cons (wpAny_mono (h fz A s _ a S r1) (fun _ s₁ h₁=>?_) fun _ _ z=>z)
  obtain⟨f1,m1,M1,k1,S1,w⟩:=h₁
  exact wpAny_mono (w f1 A s₁ _ a S1 (r.mono k1)) (fun _ _ ⟨f2,m2,M2,k2,S2,z⟩=>⟨f2,m2,M2,k1.tr k2,S2,z⟩) fun _ _ z=>z.sub k1
theorem SS.back{h':Heap}{tk:Nat}(S:SS D f fz m M s)(hf:∀mr,Fr D.h₀ f.L s.heap mr→Fr D.h₀ f.L h' mr)(hn:∀l,News D.h₀ f.L s.heap l→News D.h₀ f.L h' l):SS D f fz m M { s with heap:=h',toks:=tk }:=by
 walk_at "ak"
 exact⟨⟨mr,cells,fo,ml,⟨hf _ H.F,hn _ H.N,H.nd,H.cellsAre,H.fos,H.mrs,H.loc⟩⟩,g,o⟩
theorem yU{elts:List PySem.Expr}{k:Nat}{pos:Pos}{c:CV}{vs:List CV}(calm:f.calm=true)(hsq:aY M c=some (true,vs))(hl:(assignEach elts f.env).length=vs.length)(hst:(assignEach elts f.env).findIdx? (·.1)=none)
  (h:WAs D f d elts vs m M Φ X):WA D f d (.Tuple elts k pos) c m M Φ X:=by
 intro fz A s v a S r
 obtain⟨ad,ws,n,rfl,ha,rs⟩:=S.seq r hsq
 walk_at "bu"
 refine assign_Tuple_tuple (a.handled calm) (bW ha) (by rw[hl,rs.length];simp) hst fun h' he=>?_
 have S':SS D f fz m M { s with heap:=h' }:=S.back (tk:=s.toks) (fun mr F=>F.extBut he (Nat.le_refl _)) (fun l N=>N.extBut he (Nat.le_refl _))
 exact h fz A _ ws a S' rs
theorem v8{elts:List PySem.Expr}{k:Nat}{p pos:Pos}{e:PySem.Expr}(h:WE D f d e m M (fun c M1=>WA D f d (.Tuple elts k p) c m M1 (fun m' M'=>Ξ .next m' M') X) X)
  (hs:swapsWithSole [.Tuple elts k p] e pos.line f.env=pure false) (hw:swappedStores [.Tuple elts k p] e f.env=pure none):W1 D f d (.Assign [.Tuple elts k p] e pos) m M Ξ X:=by
 intro fz A s a S
 refine Assign_Tuple (wpAny_mono (h fz A s a S) (fun v s₁ h₁=>?_) fun _ _ z=>z) hs hw
 obtain⟨f1,c,M1,k1,S1,r,w⟩:=h₁
 exact wpAny_mono (w f1 A s₁ v a S1 r) (fun _ s₂ ⟨f2,m2,M2,k2,S2,z⟩=>⟨f2,.next,m2,M2,k1.tr k2,S2,trivial,z⟩) fun _ _ z=>z.sub k1
def gy:List Str→List CV→List (Str×CV)→List (Str×CV)
 |x::xs,c::cs,m=>gy xs cs (put x c m)
 |_,_,m=>m
theorem gD:∀{xs:List Str} {cs:List CV} {ws:List Value} {m:List (Str×CV)} {s:Shared} {Q:Unit→Shared→Prop} {E:Value→Shared→Prop},AOk f d A→(∀x∈xs,Own f x)→VRs D.cls fz cs ws→xs.length=cs.length→SS D f fz m M s →
  (∀s',SS D f fz (gy xs cs m) M s'→Q () s')→wpAny (model D.prog D.w) A (assignInOrder (xs.map fun n=>bindName f.env n) ws) Q E s
 |[],_,_,_,_,_,_,a,_,r,hl,S,h=>by
  cases r with
  |nil=>exact PyProof.Rows.assignInOrder_nil (h _ S)
  |cons _ _=>cases hl
 |x::xs,_,_,_,_,_,_,a,ho,r,hl,S,h=>by
  cases r with
  |nil=>cases hl
  |cons r1 r=>
   refine PyProof.Rows.assignInOrder_cons (wpAny_bindName (ig a (ho x (.head _)) S r1 fun s' S'=>?_))
   exact gD a (fun y hy=>ho y (.tail _ hy)) r (by simpa using hl) S' h
theorem VRs.reverse{cls:Str→Option Addr}{cs:List CV}{ws:List Value}(r:VRs cls fz cs ws):VRs cls fz cs.reverse ws.reverse:=by
 induction cs generalizing ws with
 |nil=>cases r;exact .nil
 |cons c cs ih=>
  cases r with
  |cons a b=>
   rw[List.reverse_cons,List.reverse_cons]
   exact(ih b).append (.cons a .nil)
theorem tD{elts:List PySem.Expr}{k:Nat}{p pos:Pos}{e:PySem.Expr}{names:List Str}(calm:f.calm=true)(ho:∀x∈names,Own f x)
  (h:WE D f d e m M (fun c M1=>∃vs,aY M1 c=some (true,vs)∧names.length=vs.length∧Ξ .next (gy names.reverse vs.reverse m) M1) X)
  (hs:swapsWithSole [.Tuple elts k p] e pos.line f.env=pure false) (hw:swappedStores [.Tuple elts k p] e f.env=pure (some names)):W1 D f d (.Assign [.Tuple elts k p] e pos) m M Ξ X:=by
 intro fz A s a S
 refine Assign_Tuple_swapped (wpAny_mono (h fz A s a S) (fun v s₁ h₁=>?_) fun _ _ z=>z) hs hw
 obtain⟨f1,c,M1,k1,S1,r,vs,hsq,hl,hq⟩:=h₁
 obtain⟨ad,ws,n,rfl,ha,rs⟩:=S1.seq r hsq
 have hn:names.length=ws.toArray.size:=by rw[hl,rs.length];simp
 rw[hn]
 refine unpackItems_tuple (a.handled calm) (bW ha) fun h' he=>?_
 have S':SS D f f1 m M1 { s₁ with heap:=h' }:=S1.back (tk:=s₁.toks) (fun mr F=>F.extBut he (Nat.le_refl _)) (fun l N=>N.extBut he (Nat.le_refl _))
 exact gD a (fun x hx=>ho x (List.mem_reverse.mp hx)) rs.reverse (by simp[hl]) S' fun s' S''=>⟨f1,.next,_,M1,k1,S'',trivial,hq⟩
end
section
variable {D:Wd}{f:Fc}{d:Nat}{m:List (Str×CV)}{M M':MH}{X Y:Str→MH→Prop}{fz fz' fz0:Led}{s:Shared}{A:Around}{Φ:CV→MH→Prop}{Ξ:CF→List (Str×CV)→MH→Prop}
theorem fm{a0:Addr}{vs:List CV}{c:CV}(hg:M.get a0=some (.lst vs))(hz:vs.length≤999)(h:Φ .none (M.set a0 (.lst (vs++[c])))):WO D f d (fun vs=>call (.builtin "list.append") vs) [.ref a0,c] M Φ X:=by
 intro fz m A s ws a S r
 cases r with
 |cons r1 r=>
  cases r with
  |cons r2 r=>
   cases r
   cases r1
   walk_at "ak"
   obtain⟨pre,post,ws,n,e1,rs,back⟩:=H.lstAt hg
   have nd:=H.nd
   have N:=H.N
   rw[e1] at nd N
   refine append_K H.F N (jr nd) (fun h' F' N'=>?_) (cD (by simp only[List.size_toArray];have:=rs.length;omega))
   obtain⟨ml',H'⟩:=back (vs++[c]) (ws++[_]) (n+1) h' F' (by simpa [be] using N') (rs.append (.cons r2 .nil))
   exact⟨fz,.none,_,Sub.rfl',⟨⟨mr,cells,fo,ml',H'⟩,g,o⟩,.none,h⟩
end
def MH.del(M:MH)(a:Addr):MH:=match M with
 |[]=>[]
 |p::r=>if p.1=a then r else p::MH.del r a
theorem MH.get_split'{M:MH}{a:Addr}{o:MO}(h:M.get a=some o):∃M1 M2,M=M1++(a,o)::M2∧M.del a=M1++M2:=by
 induction M with
 |nil=>cases h
 |cons p r ih=>
  obtain⟨b,x⟩:=p
  by_cases q:b=a
  ·subst q
   simp only[MH.get,List.lookup_cons,beq_self_eq_true,Option.some.injEq] at h
   subst h
   exact⟨[],r,rfl,by simp[MH.del]⟩
  ·have hb:(a == b)=false:=by simp;exact fun e=>q e.symm
   walk_at "dn"
   exact⟨(b,x)::M1,M2,by rw[e];rfl,by simp[MH.del,q,k]⟩
section
variable {D:Wd}{f:Fc}{d:Nat}{m:List (Str×CV)}{M M':MH}{X Y:Str→MH→Prop}{fz fz' fz0:Led}{s:Shared}{A:Around}{Φ:CV→MH→Prop}
end
section
variable {D:Wd}{f:Fc}{d:Nat}{m:List (Str×CV)}{M M':MH}{X Y:Str→MH→Prop}{fz fz' fz0:Led}{s:Shared}{A:Around}{Φ:CV→MH→Prop}
theorem D7{c:CV}{t:Bool}{vs:List CV}(hg:aY M c=some (t,vs))(hz:vs.length≤1000)(h:Φ (.int vs.length) M):WO D f d (fun vs=>call (.builtin "len") vs) [c] M Φ X:=by
 intro fz m A s ws a S r
 cases r with
 |cons r1 r=>
  cases r
  obtain⟨ad,ws,n,rfl,ha,rs⟩:=S.seq r1 hg
  have hfit:(ws.toArray.size:Int) < 2 ^ 63:=by simpa [←rs.length] using uw hz
  have e:(ws.toArray.size:Int)=vs.length:=by simp[rs.length]
  cases t with
  |true=>exact PyProof.Rows.len_tuple (bW ha) hfit (by rw[e];exact⟨fz,_,M,Sub.rfl',S,.int _ _,h⟩)
  |false=>exact PyProof.Rows.len_list (bX ha) hfit (by rw[e];exact⟨fz,_,M,Sub.rfl',S,.int _ _,h⟩)
theorem sZ{x:Str}(hz:x.length≤1000)(h:Φ (.int x.length) M):WO D f d (fun vs=>call (.builtin "len") vs) [.str x] M Φ X:=by
 intro fz m A s ws a S r
 cases r with
 |cons r1 r=>
  cases r
  cases r1
  exact PySem.P.len_str (by have:=uw hz;omega) ⟨fz,_,M,Sub.rfl',S,.int _ _,h⟩
end
section
variable {D:Wd}{f:Fc}{d:Nat}{m:List (Str×CV)}{M M':MH}{X Y:Str→MH→Prop}{fz fz' fz0:Led}{s:Shared}{A:Around}{Φ:CV→MH→Prop}{Ψ:Bool→MH→Prop}{Ξ:CF→List (Str×CV)→MH→Prop}
theorem A4{l r1 r2:PySem.Expr}{o1 o2:CmpOp}{pos:Pos}(hm:lastMarks [o1,o2] [r1,r2]=false)
  (h:WE D f d l m M (fun a M1=>WE D f d r1 m M1 (fun b M2=>WO2 D f d (compareOp o1) a b M2 (fun c M3=>WT D f d c M3 (fun v M4=>(v=true→WE D f d r2 m M4 (fun e M5=>WO2 D f d (compareOp o2) b e M5 Φ X) X)∧(v=false→Φ c M4)) X) X) X) X) :
  WE D f d (.Compare l [o1,o2] [r1,r2] pos) m M Φ X:=by
 intro fz A s a S
 refine Compare_chain (wpAny_mono (h fz A s a S) (fun v s₁ h₁=>chain_link ?_) fun _ _ z=>z) hm
 walk_at "a1"
 cases t with
 |false=>exact⟨f4,c3,M4,((k1.tr k2).tr k3).tr k4,S4,v3'.mono k4,z2 rfl⟩
 |true=>
  refine chain_last (wpAny_mono (z1 rfl f4 A s₄ a S4) (fun v5 s₅ h₅=>?_) fun _ _ z=>z.sub (((k1.tr k2).tr k3).tr k4))
  obtain⟨f5,c5,M5,k5,S5,v5',w5⟩:=h₅
  exact wpAny_mono (w5 f5 m A s₅ v2 v5 a S5 (((v2'.mono k3).mono k4).mono k5) v5') (fun _ _ z=>z.sub ((((k1.tr k2).tr k3).tr k4).tr k5)) fun _ _ z=>z.sub ((((k1.tr k2).tr k3).tr k4).tr k5)
theorem A8{l r1 r2:PySem.Expr}{o1 o2:CmpOp}{pos:Pos}(hm:lastMarks [o1,o2] [r1,r2]=false)
  (h:WE D f d l m M (fun a M1=>WE D f d r1 m M1 (fun b M2=>WO2 D f d (compareOp o1) a b M2 (fun c M3=>WT D f d c M3 (fun v M4=>(v=true→WE D f d r2 m M4 (fun e M5=>WO2 D f d (compareOp o2) b e M5 (fun q M6=>WT D f d q M6 Ψ X) X) X)∧(v=false→Ψ false M4)) X) X) X) X) :
  WB D f d (.Compare l [o1,o2] [r1,r2] pos) m M Ψ X:=by
 intro fz A s a S
 refine isTrue_chain (wpAny_mono (h fz A s a S) (fun v s₁ h₁=>test_link ?_) fun _ _ z=>z) hm
 walk_at "a1"
 cases t with
 |false=>exact⟨f4,M4,((k1.tr k2).tr k3).tr k4,S4,z2 rfl⟩
 |true=>
  refine test_last (wpAny_mono (z1 rfl f4 A s₄ a S4) (fun v5 s₅ h₅=>?_) fun _ _ z=>z.sub (((k1.tr k2).tr k3).tr k4))
  obtain⟨f5,c5,M5,k5,S5,v5',w5⟩:=h₅
  refine wpAny_mono (w5 f5 m A s₅ v2 v5 a S5 (((v2'.mono k3).mono k4).mono k5) v5') (fun v6 s₆ h₆=>?_) fun _ _ z=>z.sub ((((k1.tr k2).tr k3).tr k4).tr k5)
  obtain⟨f6,c6,M6,k6,S6,v6',w6⟩:=h₆
  exact wpAny_mono (w6 f6 m A s₆ v6 a S6 v6') (fun _ _ z=>z.sub (((((k1.tr k2).tr k3).tr k4).tr k5).tr k6)) fun _ _ z=>z.sub (((((k1.tr k2).tr k3).tr k4).tr k5).tr k6)
theorem AX{e:PySem.Expr}{pos:Pos}(h:WE D f d e m M (fun c M1=>∃i,c=.int i∧Φ (.int (-i)) M1) X):WE D f d (.UnaryOp .USub e pos) m M Φ X:=by
 intro fz A s a S
 refine UnaryOp_ (wpAny_mono (h fz A s a S) (fun v s₁ h₁=>?_) fun _ _ z=>z)
 obtain⟨f1,c1,M1,k1,S1,r1,i,rfl,hq⟩:=h₁
 cases r1
 exact PyProof.Rows.neg_int ⟨f1,_,M1,k1,S1,.int _ _,hq⟩
theorem Eo{x y:Str}{e:PySem.Expr}{p q pos:Pos}(h:WE D f d e m M (fun c M1=>WA D f d (.Name x p) c m M1 (fun m' M2=>WA D f d (.Name y q) c m' M2 (fun m2 M3=>Ξ .next m2 M3) X) X) X)
  (hw:swappedStores [.Name x p,.Name y q] e f.env=pure none):W1 D f d (.Assign [.Name x p,.Name y q] e pos) m M Ξ X:=by
 intro fz A s a S
 refine wpAny_Assign_two (wpAny_mono (h fz A s a S) (fun v s₁ h₁=>?_) fun _ _ z=>z) rfl hw
 walk_at "bx"
 refine wpAny_mono (w1 f1 A s₁ v a S1 r1) (fun _ s₂ h₂=>?_) fun _ _ z=>z.sub k1
 obtain⟨f2,m2,M2,k2,S2,w2⟩:=h₂
 exact wpAny_mono (w2 f2 A s₂ v a S2 (r1.mono k2)) (fun _ _ ⟨f3,m3,M3,k3,S3,z⟩=>⟨f3,.next,m3,M3,(k1.tr k2).tr k3,S3,trivial,z⟩) fun _ _ z=>z.sub (k1.tr k2)
theorem tE{e o i:PySem.Expr}{p pos:Pos}(h:WE D f d e m M (fun v M1=>WE D f d o m M1 (fun oc M2=>WE D f d i m M2 (fun ic M3=>∃a vs j,oc=.ref a∧M3.get a=some (.lst vs)∧ic=.int j∧0≤j∧j < vs.length∧vs.length≤1000∧Ξ .next m (M3.set a (.lst (vs.set j.toNat v)))) X) X) X)
  (hs:swapsWith e (some (.Subscript o i p)) pos.line f.env=pure false):W1 D f d (.Assign [.Subscript o i p] e pos) m M Ξ X:=by
 intro fz A s a S
 refine wpAny_Assign_Subscript (wpAny_mono (h fz A s a S) (fun v s₁ h₁=>?_) fun _ _ z=>z) hs
 walk_at "aS"
 refine wpAny_mono (w2 f2 A s₂ a S2) (fun v3 s₃ h₃=>?_) fun _ _ z=>z.sub (k1.tr k2)
 obtain⟨f3,c3,M3,k3,S3,r3,ad,vs,j,rfl,hg,rfl,h0,h1,hz,hq⟩:=h₃
 cases r2;cases r3
 obtain⟨⟨mr,cells,fo,ml,H⟩,g,os⟩:=S3
 obtain⟨pre,post,ws,n,e1,rs,back⟩:=H.lstAt hg
 have hm:=H.N (ad,be ws n) (by rw[e1];simp)
 have nd:=H.nd
 have N:=H.N
 rw[e1] at nd N
 have hlen:=rs.length
 refine PySem.W.ki_setAt (n:=n) hm.1 h0 (by omega) (by simp;omega) ?_
 have hs':=Heap.SameBut.update s₃.heap ad (Obj.mapSeq (·.setIfInBounds j.toNat v))
 have ho':=Heap.get?_update_self (Obj.mapSeq (·.setIfInBounds j.toNat v)) hm.1 (by obtain⟨n',e⟩:=Obj.data_mapSeq (o:=be ws n) rfl (·.setIfInBounds j.toNat v);exact Obj.isFreed_of_seq e)
 obtain⟨n',ed⟩:=Obj.data_mapSeq (o:=be ws n) rfl (·.setIfInBounds j.toNat v)
 have hobj:Obj.mapSeq (·.setIfInBounds j.toNat v) (be ws n)=be (ws.set j.toNat v) n':=by
  have e:(Obj.mapSeq (·.setIfInBounds j.toNat v) (be ws n))={ cls:=.type "list",data:=(Obj.mapSeq (·.setIfInBounds j.toNat v) (be ws n)).data }:=rfl
  rw[e,ed]
  simp[be]
 rw[hobj] at ho'
 obtain⟨p1,p2,e2,e3,a',b'⟩:=(jr (o':=be (ws.set j.toNat v) n') nd).split
 rw[e2] at N
 have N':=PySem.W.news_set N a' b' hs' ho'
 rw[←e3] at N'
 have rset:∀{vs:List CV} {ws:List Value} {k:Nat},VRs D.cls f3 vs ws→VRs D.cls f3 (vs.set k c1) (ws.set k v):=by
  intro vs
  induction vs with
  |nil=>intro ws k h;cases h;exact .nil
  |cons x xs ih=>
   intro ws k h
   cases h with
   |cons p q=>
    cases k with
    |zero=>exact .cons ((r1.mono k2).mono k3) q
    |succ k=>exact .cons p (ih q)
 obtain⟨ml',H'⟩:=back (vs.set j.toNat c1) (ws.set j.toNat v) n' _ (H.F.change hs' hm.2.1 hm.2.2) N' (rset rs)
 exact⟨f3,.next,m,_,(k1.tr k2).tr k3,⟨⟨mr,cells,fo,ml',H'⟩,g,os⟩,trivial,hq⟩
end
structure nM(D:Wd)(it:Addr)(dts:Nat→Value×Data)(vals:List CV)(fz0:Led)(P:MH→Prop):Prop where
 nx:∀(f:Fc) (d:Nat),Nx D f d it dts vals fz0 P
 lo:∀(f:Fc) (i:Nat) fz m M s target v (Q:Unit→Shared→Prop) E A,SS D (f.more it (dts i)) fz m M s→Q () s→wpAny (model D.prog D.w) A (letOwnedTupleGo target (.ref it) v) Q E s
 self:∀(f:Fc) fz m M s (Q:Value→Shared→Prop) E A,SS D (f.more it (dts 0)) fz m M s→Q (.ref it) s→wpAny (model D.prog D.w) A (pyIter (.ref it)) Q E s
def Itb(D:Wd)(c:CV)(vals:List CV)(P:MH→Prop):Prop:=∀(f:Fc) (d:Nat) fz m M s A v (Q:Value→Shared→Prop) E,f.calm=true→AOk f d A→SS D f fz m M s→VR D.cls fz c v→P M →
 (∀it dts s',SS D (f.more it (dts 0)) fz m M s'→nM D it dts vals fz P→Q (.ref it) s')→wpAny (model D.prog D.w) A (pyIter v) Q E s
section
variable {D:Wd}{f:Fc}{d:Nat}{m:List (Str×CV)}{M M':MH}{X Y:Str→MH→Prop}{fz fz' fz0:Led}{s:Shared}{A:Around}{Φ:CV→MH→Prop}{Ψ:Bool→MH→Prop}{Ξ:CF→List (Str×CV)→MH→Prop}
theorem xG{it:Addr}{dt:Value×Data}{target:PySem.Expr}{v:Value}{Q:Unit→Shared→Prop}{E:Value→Shared→Prop}(S:SS D (f.more it dt) fz m M s)(h:Q () s)(hd:∃t,dt.1=.type t∧["enumerate","zip","dict_itemiterator","dict_reverseitemiterator","odict_iterator","itertools.zip_longest","itertools.pairwise"].contains t=false):wpAny (model D.prog D.w) A (letOwnedTupleGo target (.ref it) v) Q E s:=by
 obtain⟨o,ho,hc,_⟩:=S.thing
 obtain⟨t,ht,h1⟩:=hd
 unfold letOwnedTupleGo
 split
 all_goals first
  |exact wpAny_pure h
  |skip
 all_goals
  cases v<;>first|exact wpAny_pure h|skip
  refine wpAny_bind (wpAny_load ho ?_)
  rw[hc,ht]
  cases o.data<;>first|exact wpAny_pure h|skip
  simp only[h1,Bool.false_and]
  exact wpAny_pure h
theorem zj{t:Bool}{c:CV}{vs:List CV}{it a0:Addr}(ha:∀fz m M s f',Sub fz0 fz→SS D f' fz m M s→aY M c=some (t,vs)→∃ws n,s.heap.get? a0=some (seqObj t ws n)∧VRs D.cls fz vs ws):nM D it (ju t a0) vs fz0 (fun M=>aY M c=some (t,vs)) where
 nx:=fun f d=>E4 ha
 lo:=fun f i fz m M s target v Q E A S h=>DH S h
 self:=fun f fz m M s Q E A S h=>by
  walk_at "cc"
  cases t with
  |true=>exact wpAny_pyIter_tupleiter (t:=a0) (i:=0) ⟨o,ho,hc,hd⟩ h
  |false=>exact wpAny_pyIter_listiter (l:=a0) (i:=0) ⟨o,ho,hc,hd⟩ h
theorem jY{t:Bool}{c:CV}{vs:List CV}:Itb D c vs (fun M=>aY M c=some (t,vs)):=by
 intro f d fz m M s A v Q E calm a S r hP hQ
 obtain⟨ad,ws,n,rfl,ha,rs⟩:=S.seq r hP
 have pr:∀it,nM D it (ju t ad) vs fz (fun M=>aY M c=some (t,vs)):=fun it=>zj fun fz' m M s f' k S hP=>by
  obtain⟨a',ws,n,e1,hg,rr⟩:=S.seq (r.mono k) hP
  cases e1
  exact⟨ws,n,hg,rr⟩
 cases t with
 |true=>exact wpAny_pyIter_tuple (bW ha) (hQ _ _ _ (S.begin (o:={ cls:=(ju true ad 0).1,data:=(ju true ad 0).2 }) rfl) (pr _))
 |false=>exact wpAny_pyIter_list (bX ha) (hQ _ _ _ (S.begin (o:={ cls:=(ju false ad 0).1,data:=(ju false ad 0).2 }) rfl) (pr _))
def pW(lo hi:Int)(i:Nat):Value×Data:=(.type "range_iterator",.fields #[rawInt (lo+i),rawInt (hi - lo - i),rawInt 1])
def ii(lo hi:Int):List CV:=(List.range (hi - lo).toNat).map fun(i:Nat)=>CV.int (lo+i)
theorem wJ{lo hi:Int}{i:Nat}{c:CV}(h:(ii lo hi)[i]?=some c):c=.int (lo+i)∧(i:Int) < hi - lo:=by
 unfold ii at h
 rw[List.getElem?_map,Option.map_eq_some_iff] at h
 obtain⟨j,h1,h2⟩:=h
 obtain⟨hl,h3⟩:=List.getElem?_eq_some_iff.mp h1
 simp at hl h3
 subst h3
 exact⟨h2.symm,by omega⟩
theorem wK{lo hi:Int}{i:Nat}(h:(ii lo hi)[i]?=none):hi - lo≤i:=by
 unfold ii at h
 rw[List.getElem?_map,Option.map_eq_none_iff,List.getElem?_eq_none_iff] at h
 simp at h
 omega
theorem nD{it:Addr}{x left:Int}{o:Obj}{Q:Option Value→Shared→Prop}{E:Value→Shared→Prop}(ho:s.heap.get? it=some o)(hc:o.cls=.type "range_iterator")(hd:o.data=.fields #[rawInt x,rawInt left,rawInt 1])(hleft:0 < left)
  (hQ:∀h' o',h'.get? it=some o'→o'.cls=.type "range_iterator" → o'.data=.fields #[rawInt (x+1),rawInt (left - 1),rawInt 1]→Heap.SameBut it s.heap h'→Q (some (.int x s.toks)) { s with heap:=h',toks:=s.toks+1 }) :
  wpAny (model D.prog D.w) A (pyNext (.ref it)) Q E s:=by
 walk_at "az"
 rw[if_neg (by omega)]
 refine wpAny_bind (wpAny_setField ho hd (by simp) ?_)
 have h1:=Heap.get?_update_self (Obj.mapFields (·.setIfInBounds 0 (rawInt (x+1)))) ho (Obj.isFreed_of_fields (Obj.data_mapFields hd _))
 have d1:=Obj.data_mapFields hd (·.setIfInBounds 0 (rawInt (x+1)))
 refine wpAny_bind (wpAny_setField h1 d1 (by simp) ?_)
 have h2:=Heap.get?_update_self (Obj.mapFields (·.setIfInBounds 1 (rawInt (left - 1)))) h1 (Obj.isFreed_of_fields (Obj.data_mapFields d1 _))
 have d2:=Obj.data_mapFields d1 (·.setIfInBounds 1 (rawInt (left - 1)))
 show wpAny _ _ (retInt x) _ _ _
 have fin:=hQ _ _ h2 ((Obj.cls_mapFields ..).trans ((Obj.cls_mapFields ..).trans hc)) (by rw[d2];simp[rawInt]) ((Heap.SameBut.update ..).trans (Heap.SameBut.update ..))
 exact wpAny_bind (wpAny_mkInt (wpAny_pure ⟨_,rfl,wpAny_pure fin⟩))
theorem oY{it:Addr}{x left:Int}{o:Obj}{Q:Option Value→Shared→Prop}{E:Value→Shared→Prop}(hh:A.handled=none)(ho:s.heap.get? it=some o)(hc:o.cls=.type "range_iterator")(hd:o.data=.fields #[rawInt x,rawInt left,rawInt 1])(hleft:left≤0)
  (hQ:∀h',Heap.ExtBut it s.heap h'→Q none { s with heap:=h' }):wpAny (model D.prog D.w) A (pyNext (.ref it)) Q E s:=by
 walk_at "az"
 rw[if_pos hleft]
 refine wpAny_bind (wpAny_rule ?_)
 refine wpAny_bind ?_
 show wpAny _ _ (newExc (.type "StopIteration") [] >>= _) _ _ _
 refine wpAny_bind ?_
 simp only[newExc,newTuple]
 refine wpAny_bind (wpAny_newObj_type ?_ (by size_fits))
 refine wpAny_bind (m:=firstArgMember _ _) (wpAny_of_eq (a:=Value.none) (by first|rfl|(simp only[firstArgMember];rfl)) ?_)
 refine wpAny_newObj_type ?_ (by size_fits)
 simp only[raiseNew]
 refine wpAny_bind (wpAny_handled ?_)
 first|rw[show A.in1.handled=none from hh]|rw[hh]
 refine wpAny_bind (wpAny_pure (wpAny_throw ?_))
 refine wpAny_bind (wpAny_isInstance (T:= "StopIteration") (b:=true) ⟨_,Heap.get?_push_size _ rfl,rfl⟩ isSubtype_stop ?_)
 exact wpAny_pure (hQ _ (((Heap.ExtBut.refl it s.heap).push _).push _))
theorem zk{lo hi:Int}{it:Addr}:nM D it (pW lo hi) (ii lo hi) fz0 (fun _=>True) where
 nx:=fun f d i fz m M s A E calm a k hP S=>by
  walk_at "cc"
  refine⟨fun c hc'=>?_,fun hn=>?_⟩
  ·obtain⟨rfl,hlt⟩:=wJ hc'
   refine nD ho hc hd (by omega) fun h' o' h1 h2 h3 hs=>⟨_,fz,rfl,Sub.rfl',S.turn (tk:=s.toks+1) hs h1 h2 ?_,.int _ _⟩
   rw[h3]
   simp only[pW]
   congr 4
   ·rw[show lo+(i:Int)+1=lo+((i+1:Nat):Int) by omega]
   ·rw[show hi - lo - (i:Int) - 1=hi - lo - ((i+1:Nat):Int) by omega]
  ·exact oY (a.handled calm) ho hc hd (by have:=wK hn;omega) fun h' he=>⟨rfl,S.done (tk:=s.toks) he⟩
 lo:=fun f i fz m M s target v Q E A S h=>xG S h ⟨_,rfl,by decide⟩
 self:=fun f fz m M s Q E A S h=>by
  walk_at "cc"
  have hT:s.TypeIs (.ref it) "range_iterator":=⟨_,ho,hc⟩
  refine wpAny_pyIter_slot hT PySem.F.slot_range_iterator_iter (wpAny_call_entry PySem.F.slot_range_iterator_iter hT PySem.F.entry_range_iterator_iter ?_ (PySem.F.args_range_iterator_iter_1 _))
  show wpAny _ _ (ret (.ref it)) _ _ s
  exact wpAny_pure ⟨_,rfl,"range_iterator",_,hT,PySem.F.slot_range_iterator_next.lookup,h⟩
theorem Bu{lo hi:Int}(h0:-1000≤lo)(h1:hi≤1000)(h2:lo≤hi):Itb D (.rng lo hi) (ii lo hi) (fun _=>True):=by
 intro f d fz m M s A v Q E calm a S r hP hQ
 cases r with
 |@rng ad _ _ t u w hm=>
 obtain⟨⟨mr,cells,fo,ml,H⟩,g,os⟩:=id S
 have hr:=(H.N _ (H.mem_fz hm)).1
 refine wpAny_pyIter_range hr (small_one (by omega) (by omega) (by omega) (by omega)) ?_
 rw[rangeSize_nat,Int.toNat_of_nonneg (by omega)]
 have e:pW lo hi 0=(.type "range_iterator",.fields #[rawInt lo,rawInt (hi - lo),rawInt 1]):=by simp[pW]
 have S':=S.begin (o:={ cls:=.type "range_iterator",data:=.fields #[rawInt lo,rawInt (hi - lo),rawInt 1] }) (tk:=s.toks) rfl
 exact hQ _ (pW lo hi) _ (by rw[e];exact S') zk
theorem yH{n:Int}{M:MH}{Φ:CV→MH→Prop}{X:Str→MH→Prop}(h:Φ (.rng 0 n) M):WO D f d (fun vs=>call (.type "range") vs) [.int n] M Φ X:=by
 intro fz m A s vs a S r
 cases r with
 |cons r1 r=>
  cases r
  cases r1 with
  |int _ t=>
  walk_at "cr"
  refine call_range_1 ?_
  walk_at "aO"
  have F':=H.F.push { cls:=.type "range",data:=.fields #[.int 0 s.toks,.int n t,.int 1 (s.toks+1)] }
  have N':News D.h₀ f.L (s.heap.push (wL 0 n s.toks t (s.toks+1))) ((s.heap.objs.size,wL 0 n s.toks t (s.toks+1))::aa fz f.pin cells fo ml []):=H.N.push H.F _
  exact⟨_,.rng 0 n,M,fun p hp=>.tail _ hp,⟨⟨mr,cells,fo,ml,H.pushF F' N' lt⟩,g,os⟩,.rng (.head _),h⟩
def pL(x:Str)(t:Tok)(b:Bool)(i:Nat):Value×Data:=(.type (if b then "str_ascii_iterator" else "str_iterator"),.fields #[.str x t,.int i 0])
def lI(x:Str):List CV:=x.cps.toList.map fun c=>CV.str ⟨#[c]⟩
theorem rG{x:Str}{t:Tok}{b:Bool}{it:Addr}:nM D it (pL x t b) (lI x) fz0 (fun _=>True) where
 nx:=fun f d i fz m M s A E calm a k hP S=>by
  walk_at "cc"
  refine⟨fun c hc'=>?_,fun hn=>?_⟩
  ·unfold lI at hc'
   rw[List.getElem?_map,Option.map_eq_some_iff] at hc'
   obtain⟨n,h1,rfl⟩:=hc'
   have hx:x.cps[i]?=some n:=by simpa using h1
   cases b with
   |true=>exact wpAny_pyNext_ascii_item (x:=x) (t:=t) (i:=i) ⟨o,ho,hc,hd⟩ hx fun h' ⟨o',h1,h2,h3⟩ hs=>⟨_,fz,rfl,Sub.rfl',S.turn (tk:=s.toks+1) hs h1 h2 h3,.str _ _⟩
   |false=>exact wpAny_pyNext_wide_item (x:=x) (t:=t) (i:=i) ⟨o,ho,hc,hd⟩ hx fun h' ⟨o',h1,h2,h3⟩ hs=>⟨_,fz,rfl,Sub.rfl',S.turn (tk:=s.toks+1) hs h1 h2 h3,.str _ _⟩
  ·have hx:x.cps[i]?=none:=by
    unfold lI at hn
    rw[List.getElem?_map,Option.map_eq_none_iff] at hn
    simpa using hn
   cases b with
   |true=>exact wpAny_pyNext_ascii_end (x:=x) (t:=t) (i:=i) (a.handled calm) ⟨o,ho,hc,hd⟩ hx fun h' he=>⟨rfl,S.done (tk:=s.toks) he⟩
   |false=>exact wpAny_pyNext_wide_end (x:=x) (t:=t) (i:=i) (a.handled calm) ⟨o,ho,hc,hd⟩ hx fun h' he=>⟨rfl,S.done (tk:=s.toks) he⟩
 lo:=fun f i fz m M s target v Q E A S h=>xG S h (by cases b;exact⟨_,rfl,by decide⟩;exact⟨_,rfl,by decide⟩)
 self:=fun f fz m M s Q E A S h=>by
  walk_at "cc"
  cases b with
  |true=>exact wpAny_pyIter_striter_ascii (x:=x) (t:=t) (i:=0) ⟨o,ho,hc,hd⟩ h
  |false=>exact wpAny_pyIter_striter_wide (x:=x) (t:=t) (i:=0) ⟨o,ho,hc,hd⟩ h
theorem Bt{x:Str}:Itb D (.str x) (lI x) (fun _=>True):=by
 intro f d fz m M s A v Q E calm a S r hP hQ
 cases r with
 |str _ t=>
 cases ha:x.cps.all (· < 128)
 ·exact wpAny_pyIter_wide ha (hQ _ _ _ (S.begin (o:={ cls:=(pL x t false 0).1,data:=(pL x t false 0).2 }) rfl) rG)
 ·exact wpAny_pyIter_ascii ha (hQ _ _ _ (S.begin (o:={ cls:=(pL x t true 0).1,data:=(pL x t true 0).2 }) rfl) rG)
theorem uL{iter target:PySem.Expr}{body:List Stmt}{pos:Pos}(calm:f.calm=true)
  (h:WE D f d iter m M (fun c M1=>∃vs P,Itb D c vs P∧P M1∧∃I:Nat→List (Str×CV)→MH→Prop,I 0 m M1 ∧
   (∀(ia:Addr) (ix:Value×Data) i c' m M,vs[i]?=some c'→I i m M→P M∧WA D (f.more ia ix) d target c' m M (fun m' M'=>WS D (f.more ia ix) d body m' M' (fun cf m2 M2=>match cf with
    |.next=>I (i+1) m2 M2|.cont=>I (i+1) m2 M2|.brk=>Ξ .next m2 M2|.ret r=>Ξ (.ret r) m2 M2) X) X) ∧
   (∀m M,I vs.length m M→P M∧Ξ .next m M)) X)
  (hs:∀x,foldedSetIterable iter f.env x=pure x):W1 D f d (.For target iter body [] pos) m M Ξ X:=by
 intro fz A s a S
 refine wpAny_For (wpAny_mono (h fz A s a S) (fun v s₁ h₁=>?_) fun _ _ z=>z) hs
 obtain⟨f1,c,M1,k1,S1,r1,vs,P,ib,hP,I,h0,step,fin⟩:=h₁
 refine ib f d f1 m M1 s₁ A v _ _ calm a S1 r1 hP fun it dts s' S0 pr=>?_
 refine codeAny_mono (vC calm a (pr.nx f d) (fun i fz m M s v Q E S hq=>pr.lo f i fz m M s target v Q E A S (hq s S)) I (fun i c' m M hv hi=>step it (dts (i+1)) i c' m M hv hi) fin h0 Sub.rfl' S0) fun r s' z=>?_
 cases r with
 |ok fl=>exact z.sub k1
 |error e=>
  obtain⟨f2,M2,xo,msg,k2,S2,ex,z⟩:=z
  exact jk S2 ex fun xo3 s3 S3 ex3=>⟨f2,M2,xo3,msg,k1.tr k2,S3,ex3.ex,z⟩
end
abbrev lH(ifs:List PySem.Expr)(env:Env)(b:Bool):Sem Bool:=forIn ifs b fun c r=>if r=true then do let ok ←isTrue c env (eval c env);pure (ForInStep.yield ok) else pure (ForInStep.yield r)
def WTs(D:Wd)(f:Fc)(d:Nat)(ifs:List PySem.Expr)(m:List (Str×CV))(M:MH)(Φ:Bool→MH→Prop)(X:Str→MH→Prop):Prop:=
 ∀fz A s,AOk f d A→SS D f fz m M s→wpAny (model D.prog D.w) A (lH ifs f.env true) (BP D f fz m Φ) (XP D f fz X) s
section
variable {D:Wd}{f:Fc}{d:Nat}{m mc:List (Str×CV)}{M M':MH}{X Y:Str→MH→Prop}{fz fz' fz0:Led}{s:Shared}{A:Around}{Φ:CV→MH→Prop}{Ψ:Bool→MH→Prop}
theorem AL(h:Ψ true M):WTs D f d [] m M Ψ X:=fun fz A s a S=>wpAny_pure ⟨fz,M,Sub.rfl',S,h⟩
theorem pG(ifs:List PySem.Expr)(env:Env):lH ifs env false=pure false:=by
 unfold lH
 induction ifs with
 |nil=>rfl
 |cons c cs ih=>
  rw[List.forIn_cons]
  show (pure (ForInStep.yield false) >>= _)=_
  exact ih
theorem yE{c:PySem.Expr}{cs:List PySem.Expr}(h:WB D f d c m M (fun b M1=>(b=true→WTs D f d cs m M1 Ψ X)∧(b=false→Ψ false M1)) X):WTs D f d (c::cs) m M Ψ X:=by
 intro fz A s a S
 show wpAny _ _ (forIn (c::cs) true _) _ _ _
 rw[List.forIn_cons]
 refine wpAny_bind ?_
 rw[if_pos rfl]
 refine wpAny_bind (wpAny_mono (h fz A s a S) (fun b s₁ h₁=>?_) fun _ _ z=>z)
 obtain⟨f1,M1,k1,S1,z1,z2⟩:=h₁
 refine wpAny_pure ?_
 cases b with
 |true=>exact wpAny_mono (z1 rfl f1 A s₁ a S1) (fun _ _ z=>z.sub k1) fun _ _ z=>z.sub k1
 |false=>
  show wpAny _ _ (lH cs f.env false) _ _ _
  rw[pG]
  exact wpAny_pure ⟨f1,M1,k1,S1,z2 rfl⟩
theorem sL{it:Addr}{dts:Nat→Value×Data}{vals:List CV}{P:MH→Prop}{target elt iter:PySem.Expr}{ifs:List PySem.Expr}{scope:Scope}{pos:Pos}{accA:Addr}(calm:f.calm=true)(a:AOk f d A)(pr:nM D it dts vals fz0 P)
  (hmc:∀dt fz' m' M' s',Sub fz0 fz'→SS D (f.more it dt) fz' m' M' s'→SS D (f.more it dt) fz' mc M' s')
  (J:Nat→MH→Prop) (Ξ:MH→Prop)
  (step:∀i c M dt,vals[i]?=some c→J i M→P M∧WA D (f.more it dt) d target c mc M (fun m2 M2=>WTs D (f.more it dt) d ifs m2 M2 (fun b M3=>(b=true→WE D (f.more it dt) d elt m2 M3 (fun x M4=>
   ∃vs,M4.get accA=some (.lst vs)∧vs.length≤999∧J (i+1) (M4.set accA (.lst (vs++[x])))) X)∧(b=false→J (i+1) M3)) X) X)
  (fin:∀M,J vals.length M→P M∧Ξ M)
  (h0:J 0 M) (k0:Sub fz0 fz) (S:SS D (f.more it (dts 0)) fz m M s) :
  codeAny (model D.prog D.w) A (.compLoop (.ListComp elt [⟨target,iter,ifs,0⟩] scope pos) 0 (.ref it) (.ref accA) f.env) (fun r s'=>match r with|.ok _=>∃fz' m' M',Sub fz fz'∧SS D f fz' m' M' s'∧Ξ M'|.error e=>∃fz' M' xo msg,Sub fz fz'∧St D.cls D.h₀ D.os f fz' [] M' xo s'∧ExT D xo fz' msg e∧X msg M') s:=by
 walk_at "aU"
 show wpAny _ _ ((compTurn (.ListComp elt [⟨target,iter,ifs,0⟩] scope pos) 0 (.ref it) (.ref accA) f.env).onRaise (fun x=>do noteFrame x f.env;theTreesLotGoes x)) _ _ s'
 refine wpAny_noted ?_
 walk_at "ap"
 rw[compTurn_list]
 walk_at "b3"
 cases hv:vals[i]? with
 |none=>
  walk_at "aG"
 |some c=>
  walk_at "aH"
  refine wpAny_bind (pr.lo f (i+1) f2 mc M1 s2 target v _ _ A S2c ?_)
  walk_at "bp"
  refine wpAny_bind (wpAny_mono (hB f3 A s3 a.more S3) (fun b s4 h4=>?_) fun _ _ z=>err kk3 z.less1)
  obtain⟨f4,M4,k4,S4,z1,z2⟩:=h4
  have kk4:=kk3.tr k4
  cases b with
  |true=>
   rw[if_pos rfl]
   refine wpAny_bind (wpAny_bind (wpAny_mono (z1 rfl f4 A s4 a.more S4) (fun x s5 h5=>?_) fun _ _ z=>err kk4 z.less1))
   obtain⟨f5,c5,M5,k5,S5,r5,vs,hg,hz,hJ⟩:=h5
   have kk5:=kk4.tr k5
   walk_at "a7"
  |false=>
   rw[if_neg (by decide)]
   exact wpAny_bind (wpAny_pure (wpAny_pure ⟨rfl,n - 1,by omega,i+1,f4,m3,M4,by omega,kk4,S4,z2 rfl⟩))
end
def NsD(d:Data)(m:Str→Option Value):Prop:=∃es ep,d=.dict es ep∧StrKeys es∧∀name,nsFind es name=m name
abbrev a8(f:Fc)(scope:Scope)(cl:List (Str×Addr))(C:Addr)(frs:List (Addr×(Value×Data)))(pin:Led):Fc:=
 { env:=compEnvC scope cl C f.env,L:=C,own:=[],envs:=f.envs,frs:=frs,pin:=pin,calm:=f.calm }
structure kN(f:Fc)(scope:Scope)(cl:List (Str×Addr)):Prop where
 clos:closureFor scope f.env=pure cl
 kind:scope.kind=.function
 names:∀x∈scope.names,x.2=.local→scope.names.lookup x.1=some .local
 nocell:∀y∈scope.names,y.2≠.cell
 cells:∀x ad,cl.lookup x=some ad→f.env.cells.lookup x=some ad
def Cap(f:Fc)(scope:Scope)(cl:List (Str×Addr))(mc m:List (Str×CV)):Prop:=∀x c,lk x mc=some c→lk x m=some c∧(f.env.kindOf x=some .cell∨f.env.kindOf x=some .free) ∧
 ((compEnvC scope cl 0 f.env).kindOf x=some .cell∨(compEnvC scope cl 0 f.env).kindOf x=some .free)∧(cl.lookup x).isSome=true
section
variable {D:Wd}{f:Fc}{d:Nat}{m mc:List (Str×CV)}{M M':MH}{X Y:Str→MH→Prop}{fz fz' fz0:Led}{s:Shared}{A:Around}{Φ:CV→MH→Prop}{Ψ:Bool→MH→Prop}
theorem ol{elt target iter:PySem.Expr}{ifs:List PySem.Expr}{scope:Scope}{pos:Pos}{cl:List (Str×Addr)}{use:Option (Value→Sem Unit)}{Q:Value→Shared→Prop}(calm:f.calm=true)(a:AOk f d A)(ci:kN f scope cl)(cap:Cap f scope cl mc m)
  {vals:List CV} {P:MH→Prop} {it:Addr} {dts:Nat→Value×Data} (S:SS D (f.more it (dts 0)) fz m M s) (pr:nM D it dts vals fz P) {Ξ:Addr→MH→Prop}
  (h:∀accA,M.get accA=none→∃J:Nat→MH→Prop,J 0 ((accA,.lst [])::M)∧(∀M,J vals.length M→P M∧Ξ accA M) ∧
   ∀C frs pin i c M dt,vals[i]?=some c→J i M→P M∧WA D ((a8 f scope cl C frs pin).more it dt) d target c mc M (fun m2 M2=>WTs D ((a8 f scope cl C frs pin).more it dt) d ifs m2 M2 (fun b M3=>(b=true→WE D ((a8 f scope cl C frs pin).more it dt) d elt m2 M3 (fun x M4=>
   ∃vs,M4.get accA=some (.lst vs)∧vs.length≤999∧J (i+1) (M4.set accA (.lst (vs++[x])))) X)∧(b=false→J (i+1) M3)) X) X)
  (hok:∀accA C o fz' M' s' fl mm,Sub fz fz'→SS D (f.more C (o,fl)) fz' m M' s'→NsD fl mm→Ξ accA M'→compPost (model D.prog D.w) A (XP D f fz X) use Q (.ref accA) C (.ok .next) s') :
  wpAny (model D.prog D.w) A (newList []) (fun acc s₃=>wpAny (model D.prog D.w) A (newFunctionEnv scope f.env.globals cl [] f.env.qual none .none (some f.env)) (fun cenv s₄=>
   codeAny (model D.prog D.w) A (.compStart (.ListComp elt [⟨target,iter,ifs,0⟩] scope pos) 0 (.ref it) acc { cenv with scope:=relabel scope f.env }) (compPost (model D.prog D.w) A (XP D f fz X) use Q acc cenv.locals) s₄) (XP D f fz X) s₃) (XP D f fz X) s:=by
 walk_at "bZ"
 walk_at "ao"
 walk_at "co"
 let fc:Fc:=a8 f scope cl C ((f.L,(oL.cls,oL.data))::f.frs) (cells++f.pin)
 have hfos:=H₁.fos
 cases hfos with
 |@cons _ _ oit _ fo2 hdit hfr=>
 walk_at "ae"
 walk_at "ac"
 have loop:∀s',SS D (fc.more it (dts 0)) fz [] ((accA,.lst [])::M) s'→codeAny (model D.prog D.w) A (.compLoop (.ListComp elt [⟨target,iter,ifs,0⟩] scope pos) 0 (.ref it) (.ref accA) fc.env) (compPost (model D.prog D.w) A (XP D f fz X) use Q (.ref accA) C) s':=fun s' S'=>
  codeAny_mono (sL (f:=fc) calm aC pr hmc J (Ξ accA) (fun i c M dt hv hi=>hstep C _ _ i c M dt hv hi) hfin hJ0 Sub.rfl' S') post
 refine codeAny_compStart_list (loop _ Sc) ?_
 exact pr.self fc fz [] _ _ _ _ A Sc (loop _ Sc)
end
def CompH(D:Wd)(f:Fc)(d:Nat)(elt target:PySem.Expr)(ifs:List PySem.Expr)(scope:Scope)(cl:List (Str×Addr))(mc:List (Str×CV))(c:CV)(M1:MH)(Ξ:Addr→MH→Prop)(X:Str→MH→Prop):Prop:=
 ∃vals P,Itb D c vals P∧P M1∧∀accA,M1.get accA=none→∃J:Nat→MH→Prop,J 0 ((accA,.lst [])::M1)∧(∀M,J vals.length M→P M∧Ξ accA M) ∧
   ∀C frs pin i c M dt it,vals[i]?=some c→J i M→P M∧WA D ((a8 f scope cl C frs pin).more it dt) d target c mc M (fun m2 M2=>WTs D ((a8 f scope cl C frs pin).more it dt) d ifs m2 M2 (fun b M3=>(b=true→WE D ((a8 f scope cl C frs pin).more it dt) d elt m2 M3 (fun x M4=>
   ∃vs,M4.get accA=some (.lst vs)∧vs.length≤999∧J (i+1) (M4.set accA (.lst (vs++[x])))) X)∧(b=false→J (i+1) M3)) X) X
section
variable {D:Wd}{f:Fc}{d:Nat}{m mc:List (Str×CV)}{M M':MH}{X Y:Str→MH→Prop}{fz fz' fz0:Led}{s:Shared}{A:Around}{Φ:CV→MH→Prop}{Ψ:Bool→MH→Prop}{Ξ:CF→List (Str×CV)→MH→Prop}
theorem SS.nsC{C:Addr}{dt:Value×Data}{mm:Str→Option Value}(S:SS D (f.more C dt) fz m M s)(h:NsD dt.2 mm):s.heap.Ns C mm:=by
 obtain⟨o,ho,_,hd⟩:=S.thing
 obtain⟨es,ep,h1,h2,h3⟩:=h
 exact⟨o,es,ep,ho,hd.trans h1,h2,h3⟩
theorem uJ{elt target iter:PySem.Expr}{ifs:List PySem.Expr}{scope:Scope}{pos:Pos}{cl:List (Str×Addr)}(calm:f.calm=true)(ci:kN f scope cl)(cap:Cap f scope cl mc m)(hs:∀x,foldedSetIterable iter f.env x=pure x)
  (h:WE D f d iter m M (fun c M1=>CompH D f d elt target ifs scope cl mc c M1 (fun accA M'=>Φ (.ref accA) M') X) X):WE D f d (.ListComp elt [⟨target,iter,ifs,0⟩] scope pos) m M Φ X:=by
 walk_at "by"
 have core:=ol (D:=D) (d:=d) (X:=X) (elt:=elt) (target:=target) (iter:=iter) (ifs:=ifs) (pos:=pos) (use:=none) (Q:=VP D f fz m Φ) calm a ci cap S0 pr (Ξ:=fun accA M'=>Φ (.ref accA) M') (fun accA hg=>by
  obtain⟨J,j1,j2,j3⟩:=hh accA hg
  exact⟨J,j1,j2,fun C frs pin i c M dt hv hi=>j3 C frs pin i c M dt it hv hi⟩) ?_
 walk_at "aT"
theorem nL{y:Str}{py spos:Pos}{elt target iter:PySem.Expr}{ifs:List PySem.Expr}{scope:Scope}{pos:Pos}{cl:List (Str×Addr)}(calm:f.calm=true)(ci:kN f scope cl)(cap:Cap f scope cl mc m)(hs:∀x,foldedSetIterable iter f.env x=pure x)
  (hsw:swapsWith (.ListComp elt [⟨target,iter,ifs,0⟩] scope pos) (some (.Name y py)) spos.line f.env=pure true) (hy:Own f y)
  (h:WE D f d iter m M (fun c M1=>CompH D f d elt target ifs scope cl mc c M1 (fun accA M'=>Ξ .next (put y (.ref accA) m) M') X) X):W1 D f d (.Assign [.Name y py] (.ListComp elt [⟨target,iter,ifs,0⟩] scope pos) spos) m M Ξ X:=by
 intro fz A s a S
 rw[exec_Assign_Name_used _ _ _ _ hsw]
 refine wpAny_bind (wpAny_standAt (wpAny_bind ?_))
 show wpAny _ A (do let _ ←comprehension (.ListComp elt [⟨target,iter,ifs,0⟩] scope pos) scope f.env _ (newList []) false (eval iter f.env) (some (assign (.Name y py) f.env))) _ _ s
 refine wpAny_bind (wpAny_mono (wpAny_comprehension_free (use:=some (assign (.Name y py) f.env)) (Q:=fun _ s'=>FP D f fz Ξ .next s') rfl hs ci.clos ci.kind ci.names (wpAny_mono (h fz A s a S) (fun v s₁ h₁=>?_) fun _ _ z=>z)) (fun _ s' hq=>wpAny_pure (wpAny_pure hq)) fun _ _ e=>e)
 obtain⟨f1,c,M1,k1,S1,r1,vals,P,ib,hP,hh⟩:=h₁
 refine ib f d f1 m M1 s₁ A v _ _ calm a S1 r1 hP fun it dts s' S0 pr=>?_
 have core:=ol (D:=D) (d:=d) (X:=X) (elt:=elt) (target:=target) (iter:=iter) (ifs:=ifs) (pos:=pos) (use:=some (assign (.Name y py) f.env)) (Q:=fun _ s'=>FP D f fz Ξ .next s') calm a ci cap S0 pr (Ξ:=fun accA M'=>Ξ .next (put y (.ref accA) m) M') (fun accA hg=>by
  obtain⟨J,j1,j2,j3⟩:=hh accA hg
  exact⟨J,j1,j2,fun C frs pin i c M dt hv hi=>j3 C frs pin i c M dt it hv hi⟩) ?_
 ·refine wpAny_mono core (fun acc s3 h3=>wpAny_mono h3 (fun cenv s4 h4=>codeAny_mono h4 fun r s5 h5=>?_) fun _ _ z=>z.sub k1) fun _ _ z=>z.sub k1
  cases r with
  |ok fl=>exact wpAny_mono h5 (fun _ _ z=>z) fun _ _ z=>z.sub k1
  |error e=>
   obtain⟨mm,hn,hr⟩:=h5
   exact⟨mm,hn,fun h' hs cenv' hc=>wpAny_mono (hr h' hs cenv' hc) (fun _ _ z=>z) fun _ _ z=>z.sub k1⟩
 ·intro accA C o fz' M' s2 fl mm k S2 hn z
  show wpAny _ A (assign (.Name y py) f.env (.ref accA)) _ _ s2
  rw[arm_assign_Name]
  walk_at "b3"
  refine wpAny_bindName (ig (f:=f.more C (o,fl)) a.more hy S2 (.ref accA) fun s3 S3=>?_)
  exact⟨mm,S3.nsC hn,fun h' hs=>⟨fz',.next,_,M',k1.tr k,S3.done (tk:=s3.toks) hs.extBut,trivial,z⟩⟩
end
theorem MRs.perm{cls:Str→Option Addr}{fz:Led}{M M':MH}(p:M.Perm M'):∀{ml:Led},MRs cls fz M ml→∃ml',ml.Perm ml'∧MRs cls fz M' ml':=by
 induction p with
 |nil=>intro ml h;exact⟨ml,.refl _,h⟩
 |cons x _ ih=>
  intro ml h
  cases h with
  |cons a b=>
   obtain⟨l',q,r⟩:=ih b
   exact⟨_,List.Perm.append_left _ q,.cons a r⟩
 |swap x y l=>
  intro ml h
  cases h with
  |cons a b=>
   cases b with
   |@cons _ _ _ l1 l2 c e=>
    refine⟨_,?_,.cons c (.cons a e)⟩
    rw[←List.append_assoc,←List.append_assoc]
    exact List.perm_append_comm.append_right _
 |trans _ _ ih1 ih2=>
  intro ml h
  obtain⟨l1,q1,r1⟩:=ih1 h
  obtain⟨l2,q2,r2⟩:=ih2 r1
  exact⟨l2,q1.trans q2,r2⟩
theorem MH.front{M:MH}{a:Addr}{o:MO}(h:M.get a=some o):M.Perm ((a,o)::M.del a):=by
 obtain⟨M1,M2,e,e2⟩:=MH.get_split' h
 rw[e2,e]
 exact List.perm_middle
theorem MH.get_del{M:MH}{a b:Addr}{o:MO}(h:M.get a=some o)(hb:b≠a):(M.del a).get b=M.get b:=by
 obtain⟨M1,M2,e,e2⟩:=MH.get_split' h
 rw[e2,e]
 clear e e2 h
 induction M1 with
 |nil=>exact(MH.get_tl hb o M2).symm
 |cons p r ih=>
  obtain⟨c,x⟩:=p
  by_cases q:b=c
  ·subst q;rw[List.cons_append,List.cons_append,MH.get_hd,MH.get_hd]
  ·rw[List.cons_append,List.cons_append,MH.get_tl q,MH.get_tl q];exact ih
section
variable {D:Wd}{f:Fc}{d:Nat}{m mc:List (Str×CV)}{M M':MH}{X Y:Str→MH→Prop}{fz fz' fz0:Led}{s:Shared}{A:Around}{Φ:CV→MH→Prop}{Ψ:Bool→MH→Prop}{Ξ:CF→List (Str×CV)→MH→Prop}{xo:Led}
theorem St.perm(p:M.Perm M')(S:St D.cls D.h₀ D.os f fz m M xo s):St D.cls D.h₀ D.os f fz m M' xo s:=by
 walk_at "cr"
 obtain⟨ml',q,r⟩:=H.mrs.perm p
 have P:(aa fz f.pin cells fo ml xo).Perm (aa fz f.pin cells fo ml' xo):=by
  unfold aa
  exact(List.Perm.refl _).append ((List.Perm.refl _).append ((List.Perm.refl _).append ((List.Perm.refl _).append (q.append (List.Perm.refl _)))))
 exact⟨⟨mr,cells,fo,ml',⟨H.F,jE P H.N,(P.map _).nodup_iff.mp H.nd,H.cellsAre,H.fos,r,H.loc⟩⟩,g,os⟩
theorem AZ{e:PySem.Expr}(h:WE D f d e m M (fun c M'=>∃M2,M'.Perm M2∧Φ c M2) X):WE D f d e m M Φ X:=fun fz A s a S=>
 wpAny_mono (h fz A s a S) (fun v s' ⟨f1,c,M1,k1,S1,r1,M2,p,z⟩=>⟨f1,c,M2,k1,S1.perm p,r1,z⟩) fun _ _ z=>z
theorem wa{C:Addr}(k:zt D C)(calm:f.calm=true){e:PySem.Expr}{pos:Pos}(h:WE D f d e m M (fun c M'=>∃a msg,c=.ref a∧M'.get a=some (.exc (some msg))∧X msg (M'.del a)) X):W1 D f d (.Raise (some e) none pos) m M Ξ X:=
 yX k calm (AZ (h.mono (fun c M' ⟨a,msg,e1,e2,e3⟩=>⟨_,MH.front e2,a,msg,_,e1,rfl,e3⟩) fun _ _ z=>z))
theorem yV{t:PySem.Expr}{body:List Stmt}{pos:Pos}(calm:f.calm=true)(I:Nat→List (Str×CV)→MH→Prop)
  (step:∀n m M,I n m M→WB D f d t m M (fun b M1=>(b=true→WS D f d body m M1 (fun cf m2 M2=>match cf with
   |.next=>∃n',n' < n∧I n' m2 M2|.cont=>∃n',n' < n∧I n' m2 M2|.brk=>Ξ .next m2 M2|.ret r=>Ξ (.ret r) m2 M2) X)∧(b=false→Ξ .next m M1)) X)
  {n:Nat} (h0:I n m M):W1 D f d (.While t body [] pos) m M Ξ X:=by
 intro fz A s a S
 refine wpAny_While ?_
 have err:∀{f2:Led} {e:Value} {s2:Shared},Sub fz f2→XP D f f2 X e s2→notedBy (model D.prog D.w) A f.env (fun e s'=>cameBackBy (model D.prog D.w) A f.env (XP D f fz X) e s') e s2:=
  fun kk hx=>jC a hx fun s' _ ⟨f1,M1,xo,msg,k1,S1,ex,z⟩=>jk S1 ex fun xo3 s3 S3 ex3=>⟨f1,M1,xo3,msg,kk.tr k1,S3,ex3.ex,z⟩
 refine codeAny_whileLoop (fun n s'=>∃fz' m' M',Sub fz fz'∧SS D f fz' m' M' s'∧I n m' M') (fun n s' hI=>?_) n ⟨fz,m,M,Sub.rfl',S,h0⟩
 obtain⟨f1,m1,M1,k1,S1,hi⟩:=hI
 refine wpAny_mono (step n m1 M1 hi f1 A s' a S1) (fun b s2 h2=>?_) fun _ _ z=>err k1 z
 obtain⟨f2,M2,k2,S2,z1,z2⟩:=h2
 have kk:=k1.tr k2
 cases b with
 |true=>
  rw[if_pos rfl]
  refine wpAny_mono (z1 rfl f2 A s2 a S2) (fun fl s3 h3=>?_) fun _ _ z=>err kk z
  obtain⟨f3,cf,m3,M3,k3,S3,r3,z3⟩:=h3
  have kk3:=kk.tr k3
  cases fl<;>cases cf<;>first|exact r3.elim|skip
  ·obtain⟨n',h1,h2⟩:=z3;exact⟨n',h1,f3,m3,M3,kk3,S3,h2⟩
  ·exact⟨f3,.next,m3,M3,kk3,S3,trivial,z3⟩
  ·obtain⟨n',h1,h2⟩:=z3;exact⟨n',h1,f3,m3,M3,kk3,S3,h2⟩
  ·exact⟨f3,_,m3,M3,kk3,S3,r3,z3⟩
 |false=>
  rw[if_neg (by decide)]
  exact wpAny_execs_nil ⟨f2,.next,m1,M2,kk,S2,trivial,z2 rfl⟩
def WK(D:Wd)(f:Fc)(d:Nat)(kws:List Keyword)(m:List (Str×CV))(M:MH)(Φ:List CV→MH→Prop)(X:Str→MH→Prop):Prop:=
 ∀pos fz A s,AOk f d A→SS D f fz m M s→wpAny (model D.prog D.w) A (evalAll ((backToKw pos (keywordEach kws f.env)).map (·.2))) (LP D f fz m Φ) (XP D f fz X) s
theorem Ec{Φ:List CV→MH→Prop}(h:Φ [] M):WK D f d [] m M Φ X:=fun pos fz A s a S=>wpAny_evalAll_nil ⟨fz,[],M,Sub.rfl',S,.nil,h⟩
theorem AU{n:Option Str}{e:PySem.Expr}{p:Pos}{kws:List Keyword}{Φ:List CV→MH→Prop}(h:WE D f d e m M (fun c M1=>WK D f d kws m M1 (fun cs=>Φ (c::cs)) X) X):WK D f d (⟨n,e,p⟩::kws) m M Φ X:=by
 intro pos fz A s a S
 show wpAny _ _ (evalAll ((do let v ←eval e f.env;standAt pos;pure v)::((backToKw pos (keywordEach kws f.env)).map (·.2)))) _ _ _
 refine wpAny_evalAll_cons (wpAny_bind (wpAny_mono (h fz A s a S) (fun v s1 h1=>wpAny_bind (wpAny_standAt (wpAny_pure ?_))) fun _ _ z=>z))
 obtain⟨f1,c,M1,k1,S1,r1,w⟩:=h1
 refine wpAny_mono (w pos f1 A s1 a S1) (fun vs s2 h2=>?_) fun _ _ z=>z.sub k1
 obtain⟨f2,cs,M2,k2,S2,r2,z⟩:=h2
 exact⟨f2,c::cs,M2,k1.tr k2,S2,.cons (r1.mono k2) r2,z⟩
def co:List Keyword→Option (List Str)
 |[]=>some []
 |⟨some n,_,_⟩::r=>(co r).map (n::·)
 |⟨none,_,_⟩::_=>none
theorem qp{env:Env}{pos:Pos}:∀{kws:List Keyword} {kn:List Str},co kws=some kn→(backToKw pos (keywordEach kws env)).any (·.1.isNone)=false∧(backToKw pos (keywordEach kws env)).all (·.1.isSome)=true∧(backToKw pos (keywordEach kws env)).filterMap (·.1)=kn
 |[],kn,h=>by cases h;exact⟨rfl,rfl,rfl⟩
 |⟨some n,e,p⟩::r,kn,h=>by
  unfold co at h
  rw[Option.map_eq_some_iff] at h
  obtain⟨k,h1,rfl⟩:=h
  obtain⟨a,b,c⟩:=qp (env:=env) (pos:=pos) h1
  refine⟨?_,?_,?_⟩
  ·show (false||List.any _ _)=false;rw[Bool.false_or];exact a
  ·show (true&&List.all _ _)=true;rw[Bool.true_and];exact b
  ·show n::_=_;rw[←c];rfl
 |⟨none,e,p⟩::r,kn,h=>by cases h
theorem vY{x:Str}{p pos:Pos}{kws:List Keyword}{kn:List Str}(hk:co kws=some kn)
  (h:WE D f d (.Name x p) m M (fun c M1=>∃fv,c=.st fv∧cU D.K fv=true∧WK D f d kws m M1 (fun cs M2=>FnC D d fv [] kn cs M2 Φ X) X) X) (calm:f.calm=true):WE D f d (.Call (.Name x p) [] kws pos) m M Φ X:=by
 intro fz A s a S
 obtain⟨e1,e2,e3⟩:=qp (env:=f.env) (pos:=pos) hk
 show wpAny _ _ (do callWith pos (←eval (.Name x p) f.env) [] (backTo pos (starEach [] f.env)) (backToKw pos (keywordEach kws f.env))) _ _ _
 refine wpAny_bind (wpAny_mono (h fz A s a S) (fun v s₁ h₁=>?_) fun _ _ z=>z)
 obtain⟨f1,c1,M1,k1,S1,r1,fv,rfl,hkp,w1⟩:=h₁
 obtain rfl:=r1.st_inv
 refine callWith_of (P:=D.K.In) (by rw[e1];rfl) (kA hkp) ?_
 refine evalArgs_kw_nil e2 (wpAny_mono (w1 pos f1 A s₁ a S1) (fun vs s₂ h₂=>?_) fun _ _ z=>z.sub k1)
 obtain⟨f2,cs,M2,k2,S2,r2,w2⟩:=h₂
 refine⟨S2.inK,?_⟩
 rw[e3]
 refine wpAny_call (codeAny_mono (w2 f f2 m A s₂ [] vs calm a S2 .nil r2) fun r s' z=>?_)
 rcases r with e|(v|_|_|_)
 ·exact z.sub (k1.tr k2)
 all_goals first|exact z.elim|exact z.sub (k1.tr k2)
end
def nEq:List Nat→List Nat→Bool
 |[],[]=>true
 |a::as,b::bs=>bif Nat.beq a b then nEq as bs else false
 |_,_=>false
def sEq(a b:Str):Bool:=nEq a.cps.toList b.cps.toList
def sIn(a:Str):List Str→Bool
 |[]=>false
 |b::r=>bif sEq a b then true else sIn a r
def pT:List Str→List Str→Bool
 |[],[]=>true
 |a::as,b::bs=>bif sEq a b then pT as bs else false
 |_,_=>false
inductive AV where
 |v (c:CV)
 |ref (i:Nat)
 |tup (l:List AV)
 deriving Inhabited
inductive AO where
 |lst (vs:List CV)
 |mix (vs:List AV)
 |inst (c:Str) (fs:List (Str×AV))
 |exc (m:Option Str)
 |caught (m:Str)
 |gone
 deriving Inhabited
abbrev AM:=List AO
abbrev Vs:=List (Str×AV)
inductive AF where
 |next|brk|cont
 |ret (c:AV)
def lkA{α:Type}(x:Str):List (Str×α)→Option α
 |[]=>none
 |(y,c)::r=>bif sEq y x then some c else lkA x r
def gr{α:Type}(x:Str)(c:α):List (Str×α)→List (Str×α)
 |[]=>[(x,c)]
 |(y,b)::r=>bif sEq y x then (y,c)::r else (y,b)::gr x c r
def lkN{α:Type}(x:Nat):List (Nat×α)→Option α
 |[]=>none
 |(y,c)::r=>bif Nat.beq y x then some c else lkN x r
def nIn(x:Nat):List Nat→Bool
 |[]=>false
 |y::r=>bif Nat.beq y x then true else nIn x r
def Ai(x:Nat):List Nat→Nat→Option Nat
 |[],_=>none
 |y::r,i=>bif Nat.beq y x then some i else Ai x r (i+1)
def unv:List AV→Option (List CV)
 |[]=>some []
 |.v c::r=>match unv r with
  |some cs=>some (c::cs)
  |none=>none
 |_::_=>none
def mkTup(l:List AV):AV:=match unv l with
 |some cs=>.v (.tup cs)
 |none=>.tup l
def mkLst(l:List AV):AO:=match unv l with
 |some cs=>.lst cs
 |none=>.mix l
mutual
def AV.ren(g:Nat→AV):AV→AV
 |.v c=>.v c
 |.ref i=>g i
 |.tup l=>.tup (AV.rens g l)
def AV.rens(g:Nat→AV):List AV→List AV
 |[]=>[]
 |a::r=>AV.ren g a::AV.rens g r
end
def AV.renf(g:Nat→AV):List (Str×AV)→List (Str×AV)
 |[]=>[]
 |(x,a)::r=>(x,a.ren g)::AV.renf g r
def AO.ren(g:Nat→AV):AO→AO
 |.mix l=>.mix (AV.rens g l)
 |.inst c fs=>.inst c (AV.renf g fs)
 |o=>o
mutual
def AV.refs:AV→List Nat
 |.v _=>[]
 |.ref i=>[i]
 |.tup l=>AV.refss l
def AV.refss:List AV→List Nat
 |[]=>[]
 |a::r=>AV.refs a++AV.refss r
end
def AV.refsf:List (Str×AV)→List Nat
 |[]=>[]
 |(_,a)::r=>a.refs++AV.refsf r
def AO.refs:AO→List Nat
 |.mix l=>AV.refss l
 |.inst _ fs=>AV.refsf fs
 |_=>[]
def nS:Nat→AM→List Nat→List Nat→List Nat
 |0,_,_,seen=>seen
 |_+1,_,[],seen=>seen
 |n+1,M,i::todo,seen=>bif nIn i seen then nS n M todo seen else match M[i]? with
  |some o=>nS n M (todo++o.refs) (seen++[i])
  |none=>nS n M todo seen
mutual
def toC(g:Nat→CV):AV→CV
 |.v c=>c
 |.ref i=>g i
 |.tup l=>.tup (oI g l)
def oI(g:Nat→CV):List AV→List CV
 |[]=>[]
 |a::r=>toC g a::oI g r
end
def uW(g:Nat→CV):List (Str×AV)→List (Str×CV)
 |[]=>[]
 |(x,a)::r=>(x,toC g a)::uW g r
def sv(b:Nat)(M:AM):Nat→Nat→CV
 |0,_=>.any
 |n+1,i=>bif Nat.blt i b then .any else match M[i]? with
  |some (.lst vs)=>.lst vs
  |some (.mix l)=>.lst (oI (sv b M n) l)
  |some (.inst c fs)=>.inst c (uW (sv b M n) fs)
  |_=>.any
def x0(b:Nat)(M:AM)(i:Nat):AV:=bif Nat.blt i b then .ref i else .v (sv b M 12 i)
mutual
def fS(b:Nat)(M:AM):AV→AV
 |.v c=>.v c
 |.ref i=>x0 b M i
 |.tup l=>mkTup (dE b M l)
def dE(b:Nat)(M:AM):List AV→List AV
 |[]=>[]
 |a::r=>fS b M a::dE b M r
end
def mQ(b:Nat)(M:AM):List (Str×AV)→List (Str×AV)
 |[]=>[]
 |(x,a)::r=>(x,fS b M a)::mQ b M r
def qz(b:Nat)(M:AM):AO→AO
 |.mix l=>mkLst (dE b M l)
 |.inst c fs=>.inst c (mQ b M fs)
 |o=>o
def bM(b:Nat)(M:AM):AM:=(M.take b).map (qz b M)
def fN:Nat→Nat→(Nat→Prop)→Prop
 |0,acc,k=>k acc
 |n+1,acc,k=>fN n (acc+1) k
def fNs:List Nat→(List Nat→Prop)→Prop
 |[],k=>k []
 |i::r,k=>fN i 0 fun j=>fNs r fun r'=>k (j::r')
mutual
def fA:AV→(AV→Prop)→Prop
 |.v c,k=>k (.v c)
 |.ref i,k=>fN i 0 fun j=>k (.ref j)
 |.tup l,k=>fAs l fun l'=>k (.tup l')
def fAs:List AV→(List AV→Prop)→Prop
 |[],k=>k []
 |a::r,k=>fA a fun a'=>fAs r fun r'=>k (a'::r')
end
def fF:List (Str×AV)→(List (Str×AV)→Prop)→Prop
 |[],k=>k []
 |(x,a)::r,k=>fA a fun a'=>fF r fun r'=>k ((x,a')::r')
def fO:AO→(AO→Prop)→Prop
 |.lst vs,k=>k (.lst vs)
 |.mix l,k=>fAs l fun l'=>k (.mix l')
 |.inst c fs,k=>fF fs fun fs'=>k (.inst c fs')
 |.exc m,k=>k (.exc m)
 |.caught m,k=>k (.caught m)
 |.gone,k=>k .gone
def fM:AM→(AM→Prop)→Prop
 |[],k=>k []
 |o::r,k=>fO o fun o'=>fM r fun r'=>k (o'::r')
theorem CI:∀(n acc:Nat) (k:Nat→Prop),fN n acc k=k (acc+n)
 |0,_,_=>rfl
 |n+1,acc,k=>by unfold fN;rw[CI n,Nat.add_right_comm,Nat.add_assoc]
theorem sB(n:Nat)(k:Nat→Prop):fN n 0 k=k n:=by rw[CI,Nat.zero_add]
theorem yf:∀(l:List Nat) (k:List Nat→Prop),fNs l k=k l
 |[],_=>rfl
 |i::r,k=>by unfold fNs;rw[sB,yf r]
mutual
theorem ux:∀(a:AV) (k:AV→Prop),fA a k=k a
 |.v c,k=>by unfold fA;rfl
 |.ref i,k=>by unfold fA;rw[sB]
 |.tup l,k=>by unfold fA;rw[pi l]
theorem pi:∀(l:List AV) (k:List AV→Prop),fAs l k=k l
 |[],k=>by unfold fAs;rfl
 |a::r,k=>by unfold fAs;rw[ux a,pi r]
end
theorem oi:∀(l:List (Str×AV)) (k:List (Str×AV)→Prop),fF l k=k l
 |[],k=>by unfold fF;rfl
 |(x,a)::r,k=>by unfold fF;rw[ux a,oi r]
theorem CH:∀(o:AO) (k:AO→Prop),fO o k=k o
 |.mix l,k=>pi l _
 |.inst c fs,k=>oi fs _
 |.lst vs,k=>rfl
 |.exc m,k=>rfl
 |.caught m,k=>rfl
 |.gone,k=>rfl
theorem mS:∀(l:AM) (k:AM→Prop),fM l k=k l
 |[],k=>by unfold fM;rfl
 |o::r,k=>by unfold fM;rw[CH o,mS r]
mutual
def uV(g:Nat→(CV→Prop)→Prop):AV→(CV→Prop)→Prop
 |.v c,k=>k c
 |.ref i,k=>g i k
 |.tup l,k=>nQ g l fun cs=>k (.tup cs)
def nQ(g:Nat→(CV→Prop)→Prop):List AV→(List CV→Prop)→Prop
 |[],k=>k []
 |a::r,k=>uV g a fun c=>nQ g r fun cs=>k (c::cs)
end
def pF(g:Nat→(CV→Prop)→Prop):List (Str×AV)→(List (Str×CV)→Prop)→Prop
 |[],k=>k []
 |(x,a)::r,k=>uV g a fun c=>pF g r fun cs=>k ((x,c)::cs)
def qC(b:Nat)(M:AM):Nat→Nat→(CV→Prop)→Prop
 |0,_,k=>k .any
 |n+1,i,k=>bif Nat.blt i b then k .any else match M[i]? with
  |some (.lst vs)=>k (.lst vs)
  |some (.mix l)=>nQ (qC b M n) l fun cs=>k (.lst cs)
  |some (.inst c fs)=>pF (qC b M n) fs fun cs=>k (.inst c cs)
  |_=>k .any
def xY(b:Nat)(M:AM)(i:Nat)(k:AV→Prop):Prop:=bif Nat.blt i b then fN i 0 (fun j=>k (.ref j)) else qC b M 12 i fun c=>k (.v c)
mutual
def la(b:Nat)(M:AM):AV→(AV→Prop)→Prop
 |.v c,k=>k (.v c)
 |.ref i,k=>xY b M i k
 |.tup l,k=>jg b M l fun l'=>fA (mkTup l') k
def jg(b:Nat)(M:AM):List AV→(List AV→Prop)→Prop
 |[],k=>k []
 |a::r,k=>la b M a fun a'=>jg b M r fun r'=>k (a'::r')
end
def qE(b:Nat)(M:AM):List (Str×AV)→(List (Str×AV)→Prop)→Prop
 |[],k=>k []
 |(x,a)::r,k=>la b M a fun a'=>qE b M r fun r'=>k ((x,a')::r')
def CB(b:Nat)(M:AM):AO→(AO→Prop)→Prop
 |.mix l,k=>jg b M l fun l'=>fO (mkLst l') k
 |.inst c fs,k=>qE b M fs fun fs'=>k (.inst c fs')
 |.lst vs,k=>k (.lst vs)
 |.exc m,k=>k (.exc m)
 |.caught m,k=>k (.caught m)
 |.gone,k=>k .gone
def qB(b:Nat)(M:AM):List AO→(List AO→Prop)→Prop
 |[],k=>k []
 |o::r,k=>CB b M o fun o'=>qB b M r fun r'=>k (o'::r')
def gf(b:Nat)(M:AM)(k:AM→Prop):Prop:=qB b M (M.take b) k
section
variable {gk:Nat→(CV→Prop)→Prop}{g:Nat→CV}(hg:∀i k,gk i k=k (g i))
include hg
mutual
theorem tS:∀(a:AV) (k:CV→Prop),uV gk a k=k (toC g a)
 |.v c,k=>by unfold uV toC;rfl
 |.ref i,k=>by unfold uV toC;exact hg i k
 |.tup l,k=>by unfold uV toC;rw[lR l]
theorem lR:∀(l:List AV) (k:List CV→Prop),nQ gk l k=k (oI g l)
 |[],k=>by unfold nQ oI;rfl
 |a::r,k=>by unfold nQ oI;rw[tS a,lR r]
end
theorem pE:∀(l:List (Str×AV)) (k:List (Str×CV)→Prop),pF gk l k=k (uW g l)
 |[],k=>by unfold pF uW;rfl
 |(x,a)::r,k=>by unfold pF uW;rw[tS hg a,pE r]
end
theorem mO{b:Nat}{M:AM}:∀(n i:Nat) (k:CV→Prop),qC b M n i k=k (sv b M n i)
 |0,_,_=>rfl
 |n+1,i,k=>by
  unfold qC sv
  cases Nat.blt i b with
  |true=>rfl
  |false=>
   rw[cond_false,cond_false]
   cases M[i]? with
   |none=>rfl
   |some o=>cases o<;>first|rfl|(simp only;rw[lR (mO n)])|(simp only;rw[pE (mO n)])
theorem xX{b:Nat}{M:AM}(i:Nat)(k:AV→Prop):xY b M i k=k (x0 b M i):=by
 unfold xY x0
 cases Nat.blt i b with
 |true=>rw[cond_true,cond_true,sB]
 |false=>rw[cond_false,cond_false,mO]
mutual
theorem gN{b:Nat}{M:AM}:∀(a:AV) (k:AV→Prop),la b M a k=k (fS b M a)
 |.v c,k=>by unfold la fS;rfl
 |.ref i,k=>by unfold la fS;exact xX i k
 |.tup l,k=>by unfold la fS;rw[ir l,ux]
theorem ir{b:Nat}{M:AM}:∀(l:List AV) (k:List AV→Prop),jg b M l k=k (dE b M l)
 |[],k=>by unfold jg dE;rfl
 |a::r,k=>by unfold jg dE;rw[gN a,ir r]
end
theorem qD{b:Nat}{M:AM}:∀(l:List (Str×AV)) (k:List (Str×AV)→Prop),qE b M l k=k (mQ b M l)
 |[],k=>by unfold qE mQ;rfl
 |(x,a)::r,k=>by unfold qE mQ;rw[gN a,qD r]
theorem x3{b:Nat}{M:AM}:∀(o:AO) (k:AO→Prop),CB b M o k=k (qz b M o)
 |.mix l,k=>(ir l _).trans (CH _ _)
 |.inst c fs,k=>qD fs _
 |.lst vs,k=>rfl
 |.exc m,k=>rfl
 |.caught m,k=>rfl
 |.gone,k=>rfl
theorem qA{b:Nat}{M:AM}:∀(l:List AO) (k:List AO→Prop),qB b M l k=k (l.map (qz b M))
 |[],k=>by unfold qB;rfl
 |o::r,k=>by unfold qB;rw[x3 o,qA r,List.map_cons]
theorem ds{b:Nat}{M:AM}(k:AM→Prop):gf b M k=k (bM b M):=by unfold gf bM;rw[qA]
def bad(_:String):Prop:=False
def bk(p q:Prop):Prop:=p∧q
def fG{α:Type}(o:Option α)(p:α→Prop):Prop:=match o with|some v=>p v|none=>False
abbrev K1:=AV→AM→Prop
abbrev KX:=Str→AM→Prop
abbrev KB:=Bool→AM→Prop
abbrev KS:=AF→Vs→AM→Prop
abbrev aE:=List AV→List (Str×AV)→AM→K1→KX→Prop
structure cP where
 vars:List Str
 spec:List CV→List AV→AM→(AF→List AV→AM→Prop)→KX→Prop
structure eQ where
 vars:List Str
 spec:List CV→List AV→AM→(List CV→AM→Prop)→KX→Prop
structure Tx where
 globs:List (Str×CV)
 meths:List (Str×List (Str×Addr))
 mro:List (Str×Addr×List Addr)
 clss:List Addr
 flds:List (Str×List Str)
 ktups:List (Addr×List Str)
structure Tb where
 tx:Tx
 fns:List (Addr×aE)
 loops:List (Nat×cP)
 comps:List (Nat×eQ)
structure Cx where
 T:Tb
 sc:Scope
 hot:Bool
structure Ev where
 e:Cx→PySem.Expr→Vs→AM→K1→KX→Prop
 b:Cx→PySem.Expr→Vs→AM→KB→KX→Prop
 s:Cx→Stmt→Vs→AM→KS→KX→Prop
def Cx.kind(cx:Cx)(x:Str):Option NameKind:=lkA x cx.sc.names
def Im(M:AM):AV→Option (Str×List (Str×AV))
 |.v (.inst c fs)=>some (c,fs.map fun p=>(p.1,AV.v p.2))
 |.ref i=>match M[i]? with
  |some (.inst c fs)=>some (c,fs)
  |_=>none
 |_=>none
def uG(M:AM)(x:Str):AV→Option (Str×AV)
 |.v (.inst c fs)=>match lkA x fs with
  |some a=>some (c,.v a)
  |none=>none
 |.ref i=>match M[i]? with
  |some (.inst c fs)=>match lkA x fs with
   |some a=>some (c,a)
   |none=>none
  |_=>none
 |_=>none
def AB(M:AM):AV→Option Str
 |.v (.inst c _)=>some c
 |.ref i=>match M[i]? with
  |some (.inst c _)=>some c
  |_=>none
 |_=>none
def mf(M:AM)(x:Str):AV→Bool
 |.v (.inst _ fs)=>match lkA x fs with|none=>true|_=>false
 |.ref i=>match M[i]? with
  |some (.inst _ fs)=>match lkA x fs with|none=>true|_=>false
  |_=>false
 |_=>false
inductive Sq where
 |f (t:Bool) (vs:List CV)
 |a (t:Bool) (vs:List AV)
def cS(M:AM):AV→Option Sq
 |.v (.tup vs)=>some (.f true vs)
 |.v (.lst vs)=>some (.f false vs)
 |.tup l=>some (.a true l)
 |.ref i=>match M[i]? with
  |some (.lst vs)=>some (.f false vs)
  |some (.mix l)=>some (.a false l)
  |_=>none
 |_=>none
def Sq.all:Sq→List AV
 |.f _ vs=>vs.map .v
 |.a _ l=>l
def Sq.len:Sq→Nat
 |.f _ vs=>vs.length
 |.a _ l=>l.length
def bP{α:Type}(vs:List α)(k:Int):Option α:=bif decide (0≤k) then vs[k.toNat]? else bif decide (0≤k+vs.length) then vs[(k+vs.length).toNat]? else none
def Sq.nth(k:Int):Sq→Option AV
 |.f _ vs=>match bP vs k with|some c=>some (.v c)|none=>none
 |.a _ l=>bP l k
def uf(M:AM):AV→Option (Nat ⊕ Str)
 |.v (.int _)=>some (.inl 0)
 |.v (.str _)=>some (.inl 1)
 |.v (.lst _)=>some (.inl 2)
 |.v (.tup _)=>some (.inl 3)
 |.v (.bool _)=>some (.inl 4)
 |.v .none=>some (.inl 5)
 |.v .dct=>some (.inl 6)
 |.v (.inst c _)=>some (.inr c)
 |.ref i=>match M[i]? with
  |some (.inst c _)=>some (.inr c)
  |some (.lst _)=>some (.inl 2)
  |some (.mix _)=>some (.inl 2)
  |_=>none
 |_=>none
def tyS:Nat→String
 |0=> "int" | 1=> "str" | 2=> "list" | 3=> "tuple" | 4=> "bool" | 5=> "NoneType" | _=> "dict"
def fD:String→Nat
 |"int"=>0 | "str"=>1 | "list"=>2|_=>9
def Af(tx:Tx)(k:Nat ⊕ Str):Value→Option Bool
 |.type t=>bif Nat.blt (fD t) 3 then (match k with
  |.inl s=>some (Nat.beq s (fD t)||(Nat.beq s 4&&Nat.beq (fD t) 0))
  |.inr c=>match lkA c tx.mro with
   |some _=>some false
   |none=>none) else none
 |.ref C=>bif nIn C tx.clss then (match k with
  |.inl _=>some false
  |.inr c=>match lkA c tx.mro with
   |some l=>some (nIn C l.2)
   |none=>none) else none
 |_=>none
def pe(tx:Tx)(k:Nat ⊕ Str):List CV→Option Bool
 |[]=>some false
 |.st T::r=>match Af tx k T,pe tx k r with
  |some b,some b'=>some (bif b then true else b')
  |_,_=>none
 |_::_=>none
mutual
def eqC:CV→CV→Bool
 |.none,.none=>true
 |.bool a,.bool b=>bif a then b else !b
 |.int a,.int b=>decide (a=b)
 |.str a,.str b=>sEq a b
 |.tup as,.tup bs=>dA as bs
 |.lst as,.lst bs=>dA as bs
 |_,_=>false
def dA:List CV→List CV→Bool
 |[],[]=>true
 |a::as,b::bs=>bif eqC a b then dA as bs else false
 |_,_=>false
end
def kdC:CV→Nat
 |.none=>0
 |.bool _=>1
 |.int _=>2
 |.str _=>3
 |.tup _=>4
 |.lst _=>5
 |_=>9
def kOk(i j:Nat):Bool:=(Nat.blt i 6&&Nat.blt j 6) && !((Nat.beq i 1&&Nat.beq j 2)||(Nat.beq i 2&&Nat.beq j 1))
def CmL(R:CV→CV→Prop):List CV→List CV→Prop
 |a::as,b::bs=>R a b∧CmL R as bs
 |_,_=>True
def Cm:Nat→CV→CV→Prop
 |0,_,_=>False
 |n+1,a,b=>match a,b with
  |.tup as,.tup bs=>CmL (Cm n) as bs
  |.lst as,.lst bs=>CmL (Cm n) as bs
  |a,b=>kOk (kdC a) (kdC b)=true
section
def jx(idx:List Nat)(i:Nat):AV:=match Ai i idx 0 with
 |some j=>.ref j
 |none=>.ref (i+1000000)
def dX(idx:List Nat)(n:Nat)(j:Nat):AV:=match idx[j]? with
 |some i=>.ref i
 |none=>.ref (n+(j - idx.length))
def u0(M:AM)(idx:List Nat):AM:=idx.map fun i=>(M.getD i .gone).ren (jx idx)
def kS:AM→List Nat→List AO→AM
 |M,i::idx,o::os=>kS (M.set i o) idx os
 |M,_,_=>M
def rS(g:Nat→AV)(M:AM):AM:=M.map fun o=>o.ren g
def gF(M:AM)(idx:List Nat)(M':AM):AM:=
 kS M idx ((rS (dX idx M.length) M').take idx.length)++(rS (dX idx M.length) M').drop idx.length
def dif:List Nat→Bool
 |[]=>true
 |x::r=>bif nIn x r then false else dif r
def ng(idx:List Nat):List Nat→Bool
 |[]=>true
 |x::r=>bif nIn x idx then ng idx r else false
def xI(M:AM)(i:Nat):Bool:=match M[i]? with
 |some .gone=>false
 |some _=>true
 |none=>false
def uo(M:AM)(args:List AV)(kws:List (Str×AV))(idx:List Nat):Bool:=
 dif idx&&(ng idx (AV.refss args)&&(ng idx (AV.refsf kws)&&idx.all fun i=>xI M i&&ng idx (M.getD i .gone).refs))
def sN(S:aE)(args:List AV)(kws:List (Str×AV))(M:AM)(k:K1)(X:KX)(idx:List Nat):Prop:=
 bif uo M args kws idx then
  S (AV.rens (jx idx) args) (AV.renf (jx idx) kws) (u0 M idx) (fun r M'=>k (r.ren (dX idx M.length)) (gF M idx M')) (fun msg M'=>X msg (gF M idx M'))
 else bad "what is reached"
def kF(S:aE)(args:List AV)(kws:List (Str×AV))(M:AM)(k:K1)(X:KX):Prop:=
 sN S args kws M k X (nS 200 M (AV.refss args++AV.refsf kws) [])
def CN(S:aE)(args:List AV)(kws:List (Str×AV))(M:AM)(k:K1)(X:KX)(idx:List Nat):Prop:=
 bif uo M args kws idx then fAs (AV.rens (jx idx) args) fun as'=>fF (AV.renf (jx idx) kws) fun ks'=>fM (u0 M idx) fun Ms=>
  S as' ks' Ms (fun r M'=>fA (r.ren (dX idx M.length)) fun r'=>fM (gF M idx M') fun M2=>k r' M2) (fun msg M'=>fM (gF M idx M') fun M2=>X msg M2)
 else bad "what is reached"
def jU(S:aE)(args:List AV)(kws:List (Str×AV))(M:AM)(k:K1)(X:KX):Prop:=
 fNs (nS 200 M (AV.refss args++AV.refsf kws) []) fun idx=>CN S args kws M k X idx
theorem qX(S:aE)(args:List AV)(kws:List (Str×AV))(M:AM)(k:K1)(X:KX):jU S args kws M k X=kF S args kws M k X:=by
 unfold jU kF CN sN
 rw[yf,pi,oi,mS]
 congr 2
 ·funext r M';rw[ux,mS]
 ·funext r M';rw[mS]
def lY(n:Nat)(i:Nat):AV:=.ref (n+i)
def lK(S:aE):aE:=fun args kws M k X=>
 S (dE 0 M args) (mQ 0 M kws) [] (fun r M'=>k (r.ren (lY M.length)) (List.replicate M.length .gone++M'.map fun o=>o.ren (lY M.length)))
  (fun msg M'=>X msg (List.replicate M.length .gone++M'.map fun o=>o.ren (lY M.length)))
def Sp(n:Nat)(kn:List Str)(S:List AV→AM→K1→KX→Prop):aE:=fun args kws M k X=>
 bif Nat.beq args.length n&&pT (kws.map (·.1)) kn then S (args++kws.map (·.2)) M k X else bad "arguments"
def truth(c:AV)(M:AM)(k:KB):Prop:=match c with
 |.v (.bool b)=>k b M
 |.v .none=>k false M
 |.v (.int i)=>k (i != 0) M
 |.v (.str s)=>bk (s.length≤1000) (k (decide ((s.length:Int)≠0)) M)
 |.v (.lst vs)=>bk (vs.length≤1000) (k (!vs.isEmpty) M)
 |.v (.tup vs)=>bk (vs.length≤1000) (k (!vs.isEmpty) M)
 |.ref i=>match M[i]? with
  |some (.lst vs)=>bk (vs.length≤1000) (k (!vs.isEmpty) M)
  |some (.mix vs)=>bk (vs.length≤1000) (k (!vs.isEmpty) M)
  |_=>bad "truth: ref"
 |_=>bad "truth"
def strGe(a b:Str):Bool:=!(strLt a b)
where
   strLt (a b:Str):Bool:=lt a.cps.toList b.cps.toList
   lt:List Nat→List Nat→Bool
    |[],[]=>false
    |[],_::_=>true
    |_::_,[]=>false
    |a::as,b::bs=>bif Nat.blt a b then true else bif Nat.beq a b then lt as bs else false
def eqA(a b:AV)(M:AM)(k:Bool→Prop):Prop:=match a,b with
 |.v (.str x),.v (.str y)=>k (sEq x y)
 |.v (.int x),.v (.int y)=>k (decide (x=y))
 |.v (.bool x),.v (.bool y)=>k (bif x then y else !y)
 |a,b=>match cS M a,cS M b with
  |some (.f t vs),some (.f u [])=>bif t == u then bk (vs.length≤1000) (k vs.isEmpty) else bad "=="
  |some (.a t vs),some (.f u [])=>bif t == u then bk (vs.length≤1000) (k vs.isEmpty) else bad "=="
  |some (.f true vs),some (.f true ws)=>bk (CmL (Cm 8) vs ws) (k (dA vs ws))
  |some (.f false vs),some (.f false ws)=>bk (CmL (Cm 8) vs ws) (k (dA vs ws))
  |_,_=>match a,b with
   |.v x,.v y=>bk (Cm 8 x y) (k (eqC x y))
   |_,_=>bad "=="
def lJ(a:AV)(M:AM)(k:Bool→Prop):Prop:=match a with
 |.v .none=>k true
 |.v (.bool _)=>k false
 |.v (.int _)=>k false
 |.v (.str _)=>k false
 |.v (.tup _)=>k false
 |.v (.lst _)=>k false
 |.v (.inst _ _)=>k false
 |.v .dct=>k false
 |.ref i=>k false
 |.tup _=>k false
 |_=>bad "is None"
def dP:List CV→Option (List Str)
 |[]=>some []
 |.str s::r=>match dP r with
  |some l=>some (s::l)
  |none=>none
 |_::_=>none
def inC(a:CV):List CV→Bool
 |[]=>false
 |b::r=>bif eqC b a then true else inC a r
def inA(cx:Cx)(a b:AV)(M:AM)(k:Bool→Prop):Prop:=match a,b with
 |.v (.str x),.v (.str y)=>k (Txt.contains y x)
 |.v x,.v (.st (.ref ad))=>match x,lkN ad cx.T.tx.ktups with
  |.str s,some l=>k (sIn s l)
  |_,_=>bad "in a table"
 |.v x,b=>match cS M b with
  |some (.f _ vs)=>bk (vs.length≤1000∧∀c∈vs,Cm 8 c x) (k (inC x vs))
  |_=>bad "in"
 |_,_=>bad "in"
def nJ(cx:Cx)(op:CmpOp)(a b:AV)(M:AM)(k:Bool→Prop):Prop:=match op with
 |.Is=>match b with
  |.v .none=>lJ a M k
  |_=>bad "is"
 |.IsNot=>match b with
  |.v .none=>lJ a M fun v=>k (!v)
  |_=>bad "is not"
 |.Eq=>eqA a b M k
 |.NotEq=>eqA a b M fun v=>k (!v)
 |.In=>inA cx a b M k
 |.NotIn=>inA cx a b M fun v=>k (!v)
 |.Lt=>match a,b with
  |.v (.int x),.v (.int y)=>k (decide (x < y))
  |_,_=>bad "<"
 |.LtE=>match a,b with
  |.v (.int x),.v (.int y)=>k (decide (x≤y))
  |.v (.str x),.v (.str y)=>k (strGe y x)
  |_,_=>bad "<="
 |.Gt=>match a,b with
  |.v (.int x),.v (.int y)=>k (decide (y < x))
  |_,_=>bad ">"
 |.GtE=>match a,b with
  |.v (.int x),.v (.int y)=>k (decide (y≤x))
  |_,_=>bad ">="
def Hb(a b:Sq)(M:AM)(k:K1):Prop:=match a,b with
 |.f true p,.f true q=>bk (p.length+q.length≤1000) (k (.v (.tup (p++q))) M)
 |.f false p,.f false q=>bk (p.length+q.length≤1000) (k (.ref M.length) (M++[.lst (p++q)]))
 |.f false p,.a false q=>bk (p.length+q.length≤1000) (k (.ref M.length) (M++[mkLst (p.map .v++q)]))
 |.a false p,.f false q=>bk (p.length+q.length≤1000) (k (.ref M.length) (M++[mkLst (p++q.map .v)]))
 |.a false p,.a false q=>bk (p.length+q.length≤1000) (k (.ref M.length) (M++[mkLst (p++q)]))
 |_,_=>bad "+ of sequences"
def DZ(op:Operator)(a b:AV)(M:AM)(k:K1):Prop:=match op,a,b with
 |.Add,.v (.int x),.v (.int y)=>k (.v (.int (x+y))) M
 |.Sub,.v (.int x),.v (.int y)=>k (.v (.int (x - y))) M
 |.Mult,.v (.int x),.v (.int y)=>bk (-(2 ^ 63:Int) < y∧y < 2 ^ 63) (k (.v (.int (x*y))) M)
 |.Mod,.v (.int x),.v (.int y)=>bif decide (y=0) then bad "% 0" else k (.v (.int (x.fmod y))) M
 |.FloorDiv,.v (.int x),.v (.int y)=>bif decide (y=0) then bad "// 0" else bk (-(2 ^ 63:Int) < y∧y < 2 ^ 63) (k (.v (.int (x.fdiv y))) M)
 |.Pow,.v (.int x),.v (.int y)=>bif decide (x=10)&&decide (y=18) then k (.v (.int 1000000000000000000)) M else bad "**"
 |.Add,.v (.str x),.v (.str y)=>bk (x.length+y.length≤1000) (k (.v (.str (x++y))) M)
 |.Add,a,b=>match cS M a,cS M b with
  |some x,some y=>Hb x y M k
  |_,_=>bad "+"
 |_,_,_=>bad "an operation"
def eU(a:AV)(M:AM)(k:Option Nat→List CV→Prop):Prop:=match a with
 |.v (.rng lo hi)=>bk (0≤lo∧hi≤1000∧lo≤hi) (k none ((List.range (hi - lo).toNat).map fun(i:Nat)=>CV.int (lo+i)))
 |.v (.str s)=>bk (s.length≤1000) (k none (s.cps.toList.map fun c=>CV.str ⟨#[c]⟩))
 |.v (.tup vs)=>bk (vs.length≤1000) (k none vs)
 |.v (.lst vs)=>bk (vs.length≤1000) (k none vs)
 |.tup l=>(match unv l with
  |some cs=>bk (cs.length≤1000) (k none cs)
  |none=>bad "items")
 |.ref i=>(match M[i]? with
  |some (.lst vs)=>bk (vs.length≤1000) (k (some i) vs)
  |some (.mix l)=>(match unv l with
   |some cs=>bk (cs.length≤1000) (k (some i) cs)
   |none=>bad "items")
  |_=>bad "items")
 |_=>bad "items"
def dq(src:Option Nat)(M M':AM)(p:Prop):Prop:=match src with
 |none=>p
 |some i=>M'[i]?=M[i]?∧p
def bv(i:Int):Str:=Str.ofString (toString i)
def iB(c:Nat):Nat:=bif Nat.ble 65 c&&Nat.ble c 90 then c+32 else c
def upC(c:Nat):Nat:=bif Nat.ble 97 c&&Nat.ble c 122 then c - 32 else c
def iD(s:Str):Bool:=s.cps.toList.all fun c=>Nat.blt c 128
def ae(s:Str):Str:=⟨(s.cps.toList.map iB).toArray⟩
def upS(s:Str):Str:=⟨(s.cps.toList.map upC).toArray⟩
def kc:List Str→Nat
 |[]=>0
 |a::r=>a.length+kc r
def bI(x:Str):List Str→Nat→Option Nat
 |[],_=>none
 |c::r,i=>bif sEq c x then some i else bI x r (i+1)
def DY(cx:Cx)(id:String)(args:List AV)(M:AM)(k:K1):Prop:=match id,args with
 |"len",[.v (.str s)]=>bk (s.length≤1000) (k (.v (.int s.length)) M)
 |"len",[a]=>match cS M a with
  |some q=>bk (q.len≤1000) (k (.v (.int q.len)) M)
  |none=>bad "len"
 |"isinstance",[a,.v (.st T)]=>match uf M a with
  |some kd=>match Af cx.T.tx kd T with
   |some b=>k (.v (.bool b)) M
   |none=>bad "isinstance: class"
  |none=>bad "isinstance: of what"
 |"isinstance",[a,.v (.tup Ts)]=>match uf M a with
  |some kd=>match pe cx.T.tx kd Ts with
   |some b=>bk (∀c,kd=.inr c→(lkA c cx.T.tx.mro).isSome=true) (k (.v (.bool b)) M)
   |none=>bad "isinstance: classes"
  |none=>bad "isinstance: of what"
 |"chr",[.v (.int i)]=>bk (0≤i∧i < 128) (k (.v (.str ⟨#[i.toNat]⟩)) M)
 |"ord",[.v (.str s)]=>match s.cps.toList with
  |[c]=>k (.v (.int c)) M
  |_=>bad "ord"
 |"max",[.v (.int a),.v (.int b)]=>k (.v (.int (bif decide (a < b) then b else a))) M
 |"sorted",[.v .dct]=>k (.ref M.length) (M++[.lst []])
 |_,_=>bad "a built-in"
def tyA(id:String)(args:List AV)(M:AM)(k:K1):Prop:=match id,args with
 |"range",[.v (.int n)]=>bk (0≤n∧n≤1000) (k (.v (.rng 0 n)) M)
 |"str",[.v (.int i)]=>bk (-1000000≤i∧i≤1000000) (k (.v (.str (bv i))) M)
 |"int",[.v (.int i)]=>k (.v (.int i)) M
 |"int",[.v (.bool b)]=>k (.v (.int (bif b then 1 else 0))) M
 |"tuple",[a]=>match cS M a with
  |some (.f _ vs)=>bk (vs.length≤1000) (k (.v (.tup vs)) M)
  |_=>bad "tuple"
 |"list",[a]=>match cS M a with
  |some (.f _ vs)=>bk (vs.length≤1000) (k (.ref M.length) (M++[.lst vs]))
  |_=>bad "list"
 |"dict",[.v .dct]=>k (.v .dct) M
 |_,_=>bad "a type's call"
def qY(cx:Cx)(fv:CV)(args:List AV)(kws:List (Str×AV))(M:AM)(k:K1)(X:KX):Prop:=match fv with
 |.st (.ref a)=>match lkN a cx.T.fns with
  |some S=>jU S args kws M k X
  |none=>bad s!"no spec of {a}"
 |.st (.builtin id)=>match kws with
  |[]=>DY cx id args M k
  |_=>bad "keywords"
 |.st (.type id)=>match kws with
  |[]=>tyA id args M k
  |_=>bad "keywords"
 |_=>bad "a call"
def lit(s:String):List Nat:=s.toByteArray.data.toList.map UInt8.toNat
def isS(x:Str)(s:String):Bool:=nEq x.cps.toList (lit s)
def mId(M:AM)(c:AV)(name:Str):Option Nat:=match c with
 |.v (.str _)=>bif isS name "lower" then some 0 else bif isS name "upper" then some 1 else bif isS name "isascii" then some 2 else bif isS name "join" then some 3 else none
 |.v .dct=>bif isS name "update" then some 4 else none
 |.v (.lst _)=>bif isS name "index" then some 6 else none
 |.ref i=>match M[i]? with
  |some (.lst _)=>bif isS name "append" then some 5 else bif isS name "index" then some 6 else none
  |some (.mix _)=>bif isS name "append" then some 5 else none
  |_=>none
 |_=>none
def xB(id:Nat)(c:AV)(args:List AV)(M:AM)(k:K1):Prop:=match id,c,args with
 |0,.v (.str s),[]=>bk (s.length≤1000∧iD s=true) (k (.v (.str (ae s))) M)
 |1,.v (.str s),[]=>bk (s.length≤1000∧iD s=true) (k (.v (.str (upS s))) M)
 |2,.v (.str s),[]=>bk (s.length≤1000) (k (.v (.bool (iD s))) M)
 |3,.v (.str s),[a]=>(match cS M a with
  |some (.f _ vs)=>fG (dP vs) fun l=>bk (vs.length≤1000∧kc l+l.length*s.length≤1000) (k (.v (.str (Str.join s l))) M)
  |_=>bad "join")
 |4,.v .dct,[.v .dct]=>k (.v .none) M
 |5,.ref i,[x]=>(match M[i]? with
  |some (.lst vs)=>(match x with
   |.v c=>bk (vs.length≤999) (k (.v .none) (M.set i (.lst (vs++[c]))))
   |x=>bk (vs.length≤999) (k (.v .none) (M.set i (.mix (vs.map .v++[x])))))
  |some (.mix vs)=>bk (vs.length≤999) (k (.v .none) (M.set i (.mix (vs++[x]))))
  |_=>bad "append")
 |6,c,[.v (.str x)]=>(match cS M c with
  |some (.f false vs)=>fG (dP vs) fun l=>fG (bI x l 0) fun j=>bk (vs.length≤1000) (k (.v (.int j)) M)
  |_=>bad "index")
 |_,_,_=>bad "a method"
end
section
variable (E:Ev)
def ym:Const→Option CV
 |.none=>some .none
 |.bool b=>some (.bool b)
 |.int i=>some (.int i)
 |.str s=>some (.str s)
 |_=>none
def evL(cx:Cx):List PySem.Expr→Vs→AM→(List AV→AM→Prop)→KX→Prop
 |[],_,M,k,_=>k [] M
 |.Starred _ _::_,_,_,_,_=>bad "*"
 |e::r,m,M,k,X=>E.e cx e m M (fun a M1=>evL cx r m M1 (fun as M2=>k (a::as) M2) X) X
def Au(cx:Cx):List Keyword→Vs→AM→(List (Str×AV)→AM→Prop)→KX→Prop
 |[],_,M,k,_=>k [] M
 |⟨some n,e,_⟩::r,m,M,k,X=>E.e cx e m M (fun a M1=>Au cx r m M1 (fun as M2=>k ((n,a)::as) M2) X) X
 |_::_,_,_,_,_=>bad "**"
def noStar:List PySem.Expr→Bool
 |[]=>true
 |.Starred _ _::_=>false
 |_::r=>noStar r
def i6:PySem.Expr→Bool
 |.Call (.Name id _) [] [] _=>!isS id "super"
 |_=>true
def bQ:PySem.Expr→Bool
 |.Set _ _ _=>false
 |_=>true
def fW:List Str→Bool
 |[]=>true
 |x::r=>bif sIn x r then false else fW r
def kW(sc:Scope)(x:Str):Bool:=match lkA x sc.names with
 |some .local=>true
 |_=>false
def sj(sc:Scope)(x:Str):Bool:=match lkA x sc.names with
 |some .globalImplicit=>true
 |_=>false
def ik(sc:Scope)(line:Nat):List PySem.Expr→Option (List Str)
 |[]=>some []
 |.Name x p::r=>bif kW sc x&&Nat.beq p.line line then (match ik sc line r with|some l=>some (x::l)|none=>none) else none
 |_::_=>none
def swN(sc:Scope)(ts:List PySem.Expr):PySem.Expr→Option (Option (List Str))
 |.Tuple vs _ _=>
  bif !(Nat.beq ts.length 2||Nat.beq ts.length 3) || !Nat.beq vs.length ts.length then some none else
  bif !noStar vs then some none else
  match ik sc ((ts.head?.map (·.pos.line)).getD 0) ts with
  |none=>some none
  |some names=>bif !fW names then none else bif vs.all (foldedForSure 8) then some none else bif vs.all (constantsAlone 8) then none else some (some names)
 |_=>some none
def qL(cx:Cx):List PySem.Expr→Vs→AM→KB→KX→Prop
 |[],_,M,k,_=>k true M
 |e::r,m,M,k,X=>E.b cx e m M (fun v M1=>bif v then qL cx r m M1 k X else k false M1) X
def yi(cx:Cx):List PySem.Expr→Vs→AM→KB→KX→Prop
 |[],_,M,k,_=>k false M
 |e::r,m,M,k,X=>E.b cx e m M (fun v M1=>bif v then k true M1 else yi cx r m M1 k X) X
def yj(cx:Cx):List PySem.Expr→Vs→AM→K1→KX→Prop
 |[],_,_,_,_=>bad "and"
 |[e],m,M,k,X=>E.e cx e m M k X
 |e::r,m,M,k,X=>E.e cx e m M (fun c M1=>truth c M1 fun v M2=>bif v then yj cx r m M2 k X else k c M2) X
def DU(cx:Cx):List PySem.Expr→Vs→AM→K1→KX→Prop
 |[],_,_,_,_=>bad "or"
 |[e],m,M,k,X=>E.e cx e m M k X
 |e::r,m,M,k,X=>E.e cx e m M (fun c M1=>truth c M1 fun v M2=>bif v then k c M2 else DU cx r m M2 k X) X
def evA(cx:Cx):PySem.Expr→AV→Vs→AM→(Vs→AM→Prop)→KX→Prop
 |.Name x _,c,m,M,k,_=>match cx.kind x with
  |some .local=>k (gr x c m) M
  |some .cell=>k (gr x c m) M
  |_=>bad "a name's store"
 |.Tuple ts _ _,c,m,M,k,_=>bif cx.hot then bad "hot" else match cS M c with
  |some (.f true vs)=>evAs ts (vs.map .v) m k M
  |some (.a true vs)=>evAs ts vs m k M
  |_=>bad "unpacking"
 |_,_,_,_,_,_=>bad "a target"
where
 evAs:List PySem.Expr→List AV→Vs→(Vs→AM→Prop)→AM→Prop
  |[],[],m,k,M=>k m M
  |.Name x _::ts,c::cs,m,k,M=>match cx.kind x with
   |some .local=>evAs ts cs (gr x c m) k M
   |some .cell=>evAs ts cs (gr x c m) k M
   |_=>bad "a name's store"
  |_,_,_,_,_=>bad "unpacking"
def iy(cx:Cx)(target:PySem.Expr)(ifs:List PySem.Expr)(elt:PySem.Expr)(c:CV)(m:Vs)(M:AM)(k:Option AV→AM→Prop)(X:KX):Prop:=
 evA cx target (.v c) m M (fun m' M1=>qL E cx ifs m' M1 (fun v M2=>bif v then E.e cx elt m' M2 (fun a M3=>k (some a) M3) X else k none M2) X) X
def mV(cx:Cx)(src:Option Nat)(target:PySem.Expr)(ifs:List PySem.Expr)(elt:PySem.Expr):List CV→Vs→AM→(List CV→AM→Prop)→KX→Prop
 |[],_,M,k,_=>k [] M
 |c::cs,m,M,k,X=>iy E cx target ifs elt c m M (fun r M1=>match r with
  |none=>dq src M (bM M.length M1) (mV cx src target ifs elt cs m (bM M.length M1) k X)
  |some a=>match fS M.length M1 a with
   |.v c'=>dq src M (bM M.length M1) (mV cx src target ifs elt cs m (bM M.length M1) (fun es M'=>k (c'::es) M') X)
   |_=>False) X
def qK(cx:Cx)(t2 elt:PySem.Expr)(m:Vs)(M:AM)(X:KX):List CV→List CV→(List CV→Prop)→Prop
 |[],acc,k=>k acc
 |c::cs,acc,k=>evA cx t2 (.v c) m M (fun m' M1=>E.e cx elt m' M1 (fun a M2=>match a with
  |.v c'=>acc.length≤999∧M2=M∧qK cx t2 elt m M X cs (acc++[c']) k
  |_=>False) X) X
def sD(cx:Cx)(t1 i2 t2 elt:PySem.Expr)(m:Vs)(M:AM)(X:KX):List CV→List CV→(List CV→Prop)→Prop
 |[],acc,k=>k acc
 |c::cs,acc,k=>evA cx t1 (.v c) m M (fun m' M1=>E.e cx i2 m' M1 (fun a M2=>M2=M∧eU a M2 (fun _ items2=>
   qK E cx t2 elt m M X items2 acc (fun acc'=>sD cx t1 i2 t2 elt m M X cs acc' k))) X) X
def gh(m:Vs):List Str→Option (List AV)
 |[]=>some []
 |x::r=>match lkA x m with
  |some a=>match gh m r with
   |some l=>some (a::l)
   |none=>none
  |none=>none
def Dk(sc:Scope)(x:Str):Bool:=match lkA x sc.names with
 |some .free=>true
 |some .cell=>true
 |_=>false
def sM(m:Vs)(sc:Scope):Vs:=m.filter fun p=>Dk sc p.1
def Fd(cx:Cx)(src:Option Nat)(target:PySem.Expr)(ifs:List PySem.Expr)(elt:PySem.Expr)(L:eQ):Prop:=
 (∀vals M k X,L.spec [] vals M k X→k [] M) ∧
 (∀c cs vals M k X,L.spec (c::cs) vals M k X→iy E cx target ifs elt c (L.vars.zip vals) M (fun r M1=>match r with
  |none=>dq src M (bM M.length M1) (L.spec cs vals (bM M.length M1) k X)
  |some a=>match fS M.length M1 a with
   |.v c'=>dq src M (bM M.length M1) (L.spec cs vals (bM M.length M1) (fun es M'=>k (c'::es) M') X)
   |_=>False) X)
def i5(sc sc':Scope):Bool:=(match sc'.kind with|.function=>true|_=>false)&&fW (sc'.names.map (·.1)) &&
 sc'.names.all fun p=>match p.2 with
  |.cell=>false
  |.free=>(match lkA p.1 sc.names with|some .cell=>true|_=>false)
  |_=>true
def qS(cx:Cx)(line:Nat)(sc:Scope)(target:PySem.Expr)(ifs:List PySem.Expr)(elt:PySem.Expr)(src:Option Nat)(items:List CV)(m:Vs)(M:AM)(k:K1)(X:KX):Prop:=
 match lkN line cx.T.comps with
 |some L=>match gh (sM m sc) L.vars with
  |some vals=>Fd E { cx with sc:=sc } src target ifs elt L∧L.spec items vals M (fun es M'=>k (.ref M'.length) (M'++[.lst es])) X
  |none=>bad "a comprehension's names"
 |none=>mV E { cx with sc:=sc } src target ifs elt items (sM m sc) M (fun es M'=>k (.ref M'.length) (M'++[.lst es])) X
def dQ{α:Type}(vs:List α)(lo hi:Option Int):List α:=
 let cut (i:Int):Nat:=bif decide (i < 0) then (i+vs.length).toNat else min i.toNat vs.length
 let a:=match lo with|some i=>cut i|none=>0
 let b:=match hi with|some i=>cut i|none=>vs.length
 (vs.drop a).take (b - a)
def rO(c:AV)(lo hi:Option Int)(M:AM)(k:K1):Prop:=match cS M c with
 |some (.f false vs)=>bk (vs.length≤1000) (k (.ref M.length) (M++[.lst (dQ vs lo hi)]))
 |_=>bad "a slice"
def qJ(cx:Cx)(e:Option PySem.Expr)(m:Vs)(M:AM)(k:Option Int→AM→Prop)(X:KX):Prop:=match e with
 |none=>k none M
 |some e=>E.e cx e m M (fun a M1=>match a with
  |.v (.int i)=>k (some i) M1
  |_=>bad "a slice's end") X
def si:PySem.Expr→Bool
 |.Tuple _ _ _=>true
 |_=>false
def Cz(e:PySem.Expr)(p q:Prop):Prop:=match e with
 |.Tuple _ _ _=>p
 |_=>q
theorem jH(e:PySem.Expr)(p q:Prop):Cz e p q=bif si e then p else q:=by cases e<;>rfl
def vP(cx:Cx)(l:PySem.Expr)(ops:List CmpOp)(rs:List PySem.Expr)(m:Vs)(M:AM)(kb:KB)(X:KX):Prop:=match ops,rs with
 |[op],[r]=>bif !bQ r then bad "in a set" else E.e cx l m M (fun a M1=>E.e cx r m M1 (fun b M2=>Cz r (la M1.length M2 b fun b'=>gf M1.length M2 fun M3=>nJ cx op a b' M3 fun v=>kb v M3) (nJ cx op a b M2 fun v=>kb v M2)) X) X
 |[o1,o2],[r1,r2]=>bif !bQ r2 then bad "in a set" else E.e cx l m M (fun a M1=>E.e cx r1 m M1 (fun b M2=>nJ cx o1 a b M2 fun v=>bif v then E.e cx r2 m M2 (fun c M3=>nJ cx o2 b c M3 fun v'=>kb v' M3) X else kb false M2) X) X
 |_,_=>bad "a chain"
def nb(cx:Cx):Value→Bool
 |.ref a=>(lkN a cx.T.fns).isSome
 |.builtin _=>true
 |.type _=>true
 |_=>false
def iG(cx:Cx)(e:PySem.Expr)(m:Vs)(M:AM)(k:K1)(X:KX):Prop:=match e with
 |.Constant c _ _=>match ym c with
  |some v=>k (.v v) M
  |none=>bad "a constant"
 |.Name x _=>bif isS x "__debug__" || isS x "__classdict__" then bad "a name" else match cx.kind x with
  |some .local=>(match lkA x m with|some a=>k a M|none=>bad "a local without a value")
  |some .cell=>(match lkA x m with|some a=>k a M|none=>bad "a cell without a value")
  |some .free=>(match lkA x m with|some a=>k a M|none=>bad "a free name without a value")
  |some .globalImplicit=>(match lkA x cx.T.tx.globs with|some a=>k (.v a) M|none=>bad "a global name")
  |_=>bad "a name"
 |.Attribute o x _=>bif !i6 o then bad "super" else bif isS x "message" then E.e cx o m M (fun c M1=>match c with
   |.ref i=>match M1[i]? with
    |some (.caught msg)=>k (.v (.str msg)) M1
    |_=>bad "an exception's field"
   |_=>bad "an exception's field") X
  else E.e cx o m M (fun c M1=>match uG M1 x c with
  |some (cn,a)=>(match lkA cn cx.T.tx.flds with
   |some l=>bif sIn x l then k a M1 else bad "a field"
   |none=>bad "a class's fields")
  |none=>bad "an attribute") X
 |.Subscript v (.Slice lo hi none _) _=>E.e cx v m M (fun c M1=>qJ E cx lo m M1 (fun a M2=>qJ E cx hi m M2 (fun b M3=>rO c a b M3 k) X) X) X
 |.Subscript v s _=>E.e cx v m M (fun c M1=>E.e cx s m M1 (fun ic M2=>match ic with
  |.v (.int i)=>(match c with
   |.v (.str x)=>fG (bP x.cps.toList i) fun p=>bk (x.length≤1000) (k (.v (.str ⟨#[p]⟩)) M2)
   |_=>match cS M2 c with
    |some q=>fG (q.nth i) fun a=>bk (q.len≤1000) (k a M2)
    |none=>bad "a subscript")
  |_=>bad "an index's kind") X) X
 |.Call (.Name f p) args kws _=>bif !noStar args||cx.hot || !((kws.isEmpty||args.isEmpty)&&(co kws).isSome) then bad "*" else E.e cx (.Name f p) m M (fun c M1=>match c with
  |.v (.st fv)=>bif nb cx fv then evL E cx args m M1 (fun as M2=>Au E cx kws m M2 (fun ks M3=>qY cx (.st fv) as ks M3 k X) X) X else bad "what is called"
  |_=>bad "what is called") X
 |.Call (.Attribute o name apos) args [] pos=>bif cx.hot || !(i6 o&&noStar args&&Nat.blt args.length 30&&Nat.beq apos.endLine pos.line) then bad "a method's form" else E.e cx o m M (fun c M1=>match AB M1 c with
  |some cn=>(match lkA cn cx.T.tx.meths with
   |some ms=>(match lkA name ms with
    |some fa=>bif mf M1 name c then evL E cx args m M1 (fun as M2=>qY cx (.st (.ref fa)) (c::as) [] M2 k X) X else bad "a method"
    |none=>bad "a method")
   |none=>bad "a class's methods")
  |none=>(match mId M1 c name with
   |some id=>evL E cx args m M1 (fun as M2=>xB id c as M2 k) X
   |none=>bad "a method's name")) X
 |.BinOp l op r _=>E.e cx l m M (fun a M1=>E.e cx r m M1 (fun b M2=>DZ op a b M2 k) X) X
 |.UnaryOp .Not o _=>E.e cx o m M (fun a M1=>truth a M1 fun v M2=>k (.v (.bool (!v))) M2) X
 |.UnaryOp .USub o _=>E.e cx o m M (fun a M1=>match a with
  |.v (.int i)=>k (.v (.int (-i))) M1
  |_=>bad "-") X
 |.BoolOp .And es _=>yj E cx es m M k X
 |.BoolOp .Or es _=>DU E cx es m M k X
 |.Compare l ops rs _=>vP E cx l ops rs m M (fun v M1=>k (.v (.bool v)) M1) X
 |.IfExp t a b _=>E.b cx t m M (fun v M1=>bif v then E.e cx a m M1 k X else E.e cx b m M1 k X) X
 |.Tuple es _ _=>evL E cx es m M (fun as M1=>bk (as.length≤1000) (k (mkTup as) M1)) X
 |.List es _=>evL E cx es m M (fun as M1=>bk (as.length≤1000) (k (.ref M1.length) (M1++[mkLst as]))) X
 |.Dict [] [] _=>k (.v .dct) M
 |.ListComp elt [⟨target,iter,ifs,0⟩] sc pos=>bif cx.hot || !(i5 cx.sc sc&&bQ iter) then bad "a comprehension" else E.e cx iter m M (fun a M1=>eU a M1 fun src items=>qS E cx pos.line sc target ifs elt src items m M1 k X) X
 |.ListComp elt [⟨t1,i1,[],0⟩,⟨t2,i2,[],0⟩] sc pos=>bif cx.hot || !(i5 cx.sc sc&&(bQ i1&&bQ i2)) then bad "a comprehension" else E.e cx i1 m M (fun a M1=>eU a M1 fun _ items=>
   sD E { cx with sc:=sc } t1 i2 t2 elt (sM m sc) M1 X items [] (fun es=>k (.ref M1.length) (M1++[.lst es]))) X
 |_=>bad "an expression"
def BC(cx:Cx)(e:PySem.Expr)(m:Vs)(M:AM)(k:KB)(X:KX):Prop:=match e with
 |.UnaryOp .Not o _=>E.b cx o m M (fun v M1=>k (!v) M1) X
 |.BoolOp .And es _=>qL E cx es m M k X
 |.BoolOp .Or es _=>yi E cx es m M k X
 |.IfExp t a b _=>E.b cx t m M (fun v M1=>bif v then E.b cx a m M1 k X else E.b cx b m M1 k X) X
 |.Compare l ops rs _=>vP E cx l ops rs m M k X
 |e=>E.e cx e m M (fun a M1=>truth a M1 k) X
def evS(cx:Cx):List Stmt→Vs→AM→KS→KX→Prop
 |[],m,M,k,_=>k .next m M
 |st::r,m,M,k,X=>E.s cx st m M (fun cf m1 M1=>fF m1 fun m2=>fM M1 fun M2=>match cf with
  |.next=>evS cx r m2 M2 k X
  |cf=>k cf m2 M2) X
def tP(cx:Cx)(target:PySem.Expr)(body:List Stmt)(c:CV)(m:Vs)(M:AM)(k:KS)(X:KX):Prop:=
 evA cx target (.v c) m M (fun m' M1=>evS E cx body m' M1 k X) X
def mU(cx:Cx)(src:Option Nat)(target:PySem.Expr)(body:List Stmt):List CV→Vs→AM→KS→KX→Prop
 |[],m,M,k,_=>k .next m M
 |c::cs,m,M,k,X=>tP E cx target body c m M (fun cf m1 M1=>match cf with
  |.next=>dq src M M1 (mU cx src target body cs m1 M1 k X)
  |.cont=>dq src M M1 (mU cx src target body cs m1 M1 k X)
  |.brk=>k .next m1 M1
  |.ret r=>k (.ret r) m1 M1) X
def zn(cx:Cx)(src:Option Nat)(target:PySem.Expr)(body:List Stmt)(L:cP):Prop:=
 (∀vals M k X,L.spec [] vals M k X→k .next vals M) ∧
 (∀c cs vals M k X,L.spec (c::cs) vals M k X→tP E cx target body c (L.vars.zip vals) M (fun cf m1 M1=>match cf with
  |.next=>(match gh m1 L.vars with|some vs=>dq src M (bM M.length M1) (L.spec cs (dE M.length M1 vs) (bM M.length M1) k X)|none=>False)
  |.cont=>(match gh m1 L.vars with|some vs=>dq src M (bM M.length M1) (L.spec cs (dE M.length M1 vs) (bM M.length M1) k X)|none=>False)
  |.brk=>(match gh m1 L.vars with|some vs=>k .next vs M1|none=>False)
  |.ret r=>k (.ret r) [] M1) X)
def DQ(cx:Cx)(line:Nat)(target:PySem.Expr)(body:List Stmt)(src:Option Nat)(items:List CV)(m:Vs)(M:AM)(k:KS)(X:KX):Prop:=
 match lkN line cx.T.loops with
 |some L=>match gh m L.vars with
  |some vals=>zn E cx src target body L∧L.spec items vals M (fun cf vals' M'=>k cf (L.vars.zip vals') M') X
  |none=>bad "a loop's names"
 |none=>mU E cx src target body items m M k X
def iw(cx:Cx)(t:PySem.Expr)(body:List Stmt):Nat→Vs→AM→KS→KX→Prop
 |0,_,_,_,_=>bad "while"
 |n+1,m,M,k,X=>E.b cx t m M (fun v M1=>bif v then evS E cx body m M1 (fun cf m2 M2=>match cf with
   |.next=>iw cx t body n m2 M2 k X
   |.cont=>iw cx t body n m2 M2 k X
   |.brk=>k .next m2 M2
   |.ret r=>k (.ret r) m2 M2) X
  else k .next m M1) X
def lZ(M:AM)(c:AV)(i:Int)(v:AV)(k:AM→Prop):Prop:=match c,v with
 |.ref a,.v w=>match M[a]? with
  |some (.lst vs)=>bif decide (0≤i∧i < vs.length) then bk (vs.length≤1000) (k (M.set a (.lst (vs.set i.toNat w)))) else bad "a place"
  |_=>bad "an item's store"
 |_,_=>bad "an item's store"
def l4(cx:Cx)(M:AM)(c:AV)(x:Str)(v:AV)(k:AM→Prop):Prop:=match c with
 |.ref a=>match M[a]? with
  |some (.inst cn fs)=>match lkA cn cx.T.tx.flds with
   |some l=>bif sIn x l&&Nat.ble fs.length 50 then k (M.set a (.inst cn (gr x v fs))) else bad "a field"
   |none=>bad "a class's fields"
  |_=>bad "a store"
 |_=>bad "a store"
def na(sc:Scope)(x:Str):Bool:=match lkA x sc.names with
 |some .local=>true
 |some .cell=>true
 |_=>false
def ij:PySem.Expr→Bool
 |.ListComp ..=>false
 |.SetComp ..=>false
 |.DictComp ..=>false
 |_=>true
def jW(n:Nat)(M:AM):Bool:=M.all fun o=>o.refs.all fun i=>Nat.blt i n
def xz(sc:Scope):Option Str→Bool
 |some x=>kW sc x
 |none=>true
structure C6 where
 cls:Str
 cpos:Pos
 name:Option Str
 first:Stmt
 rest:List Stmt
 hpos:Pos
def sq:List ExceptHandler→List Stmt→List Stmt→Option C6
 |[.ExceptHandler (some (.Name c cp)) n (b::r) hp],[],[]=>some ⟨c,cp,n,b,r,hp⟩
 |_,_,_=>none
structure C7 where
 elt:PySem.Expr
 target:PySem.Expr
 iter:PySem.Expr
 ifs:List PySem.Expr
 sc:Scope
 pos:Pos
def sK:PySem.Expr→Option C7
 |.ListComp elt [⟨target,iter,ifs,0⟩] sc pos=>some ⟨elt,target,iter,ifs,sc,pos⟩
 |_=>none
def pt(cx:Cx)(targets:List PySem.Expr)(e:PySem.Expr)(m:Vs)(M:AM)(k:KS)(X:KX):Prop:=match targets with
 |[.Name x p]=>(match sK e with
  |some c=>bif cx.hot || !(i5 cx.sc c.sc&&bQ c.iter&&na cx.sc x) then bad "a comprehension" else
   E.e cx c.iter m M (fun a M1=>eU a M1 fun src items=>qS E cx c.pos.line c.sc c.target c.ifs c.elt src items m M1 (fun a M2=>evA cx (.Name x p) a m M2 (fun m' M3=>k .next m' M3) X) X) X
  |none=>bif !(ij e&&na cx.sc x) then bad "a comprehension" else E.e cx e m M (fun a M1=>evA cx (.Name x p) a m M1 (fun m' M2=>k .next m' M2) X) X)
 |[.Name x p,.Name y q]=>E.e cx e m M (fun a M1=>evA cx (.Name x p) a m M1 (fun m' M2=>evA cx (.Name y q) a m' M2 (fun m2 M3=>k .next m2 M3) X) X) X
 |[.Attribute o x _]=>E.e cx e m M (fun a M1=>E.e cx o m M1 (fun c M2=>l4 cx M2 c x a fun M3=>k .next m M3) X) X
 |[.Subscript o i _]=>E.e cx e m M (fun a M1=>E.e cx o m M1 (fun c M2=>E.e cx i m M2 (fun ic M3=>match ic with
  |.v (.int j)=>lZ M3 c j a fun M4=>k .next m M4
  |_=>bad "a place's kind") X) X) X
 |[.Tuple ts n p]=>(match swN cx.sc ts e with
  |none=>bad "a swap"
  |some none=>E.e cx e m M (fun a M1=>evA cx (.Tuple ts n p) a m M1 (fun m' M2=>k .next m' M2) X) X
  |some (some _)=>bif cx.hot then bad "hot" else E.e cx e m M (fun a M1=>evA cx (.Tuple ts n p) a m M1 (fun m' M2=>k .next m' M2) X) X)
 |_=>bad "an assignment"
def lX(cx:Cx)(st:Stmt)(m:Vs)(M:AM)(k:KS)(X:KX):Prop:=match st with
 |.Return none _=>k (.ret (.v .none)) m M
 |.Return (some e) _=>E.e cx e m M (fun a M1=>k (.ret a) m M1) X
 |.Pass _=>k .next m M
 |.Break _=>k .brk m M
 |.Continue _=>k .cont m M
 |.Expr e _=>bif !ij e then bad "a comprehension dropped" else E.e cx e m M (fun _ M1=>k .next m M1) X
 |.If t a b _=>E.b cx t m M (fun v M1=>bif v then evS E cx a m M1 k X else evS E cx b m M1 k X) X
 |.Assign targets e _=>pt E cx targets e m M k X
 |.For target iter body [] pos=>bif cx.hot || !bQ iter then bad "hot" else E.e cx iter m M (fun a M1=>eU a M1 fun src items=>DQ E cx pos.line target body src items m M1 k X) X
 |.While t body [] _=>bif cx.hot then bad "hot" else iw E cx t body 8 m M k X
 |.Raise (some e) none _=>bif cx.hot then bad "hot" else E.e cx e m M (fun a M1=>match a with
  |.ref i=>match M1[i]? with
   |some (.exc (some msg))=>bif Nat.ble M.length i&&Nat.beq (i+1) M1.length&&jW i (M1.take i) then X msg (M1.take i) else bad "raise"
   |_=>bad "raise"
  |_=>bad "raise") X
 |.Try body hs orelse fin _=>(match sq hs orelse fin with
  |some h=>bif isS h.cls "SqlError" && !cx.hot&&sj cx.sc h.cls&&xz cx.sc h.name then
    evS E cx body m M k (fun msg M'=>match h.name with
     |none=>evS E { cx with hot:=true } (h.first::h.rest) [] M' (fun cf _ M2=>k cf [] M2) (fun _ _=>bad "a raise in a handler")
     |some x=>evS E { cx with hot:=true } (h.first::h.rest) [(x,.ref M'.length)] (M'++[.caught msg]) (fun cf _ M2=>k cf [] M2) (fun _ _=>bad "a raise in a handler"))
   else bad "a handler"
  |none=>bad "a handler's make")
 |_=>bad "a statement"
end
def ev:Nat→Ev
 |0=>⟨fun _ _ _ _ _ _=>bad "fuel",fun _ _ _ _ _ _=>bad "fuel",fun _ _ _ _ _ _=>bad "fuel"⟩
 |n+1=>⟨iG (ev n),BC (ev n),lX (ev n)⟩
structure FnI where
 params:List Str
 df:List (Str×CV)
 body:List Stmt
 scope:Scope
def FnI.locals(I:FnI)(args:List AV):Vs:=I.params.zip args++I.df.map fun p=>(p.1,AV.v p.2)
def qN(b:Nat)(k:K1):KS:=fun cf _ M'=>match cf with
 |.ret a=>k (fS b M' a) (bM b M')
 |.next=>k (.v .none) (bM b M')
 |_=>False
def vJ(b:Nat)(k:K1):KS:=fun cf _ M'=>match cf with
 |.ret a=>la b M' a fun a'=>gf b M' fun M2=>k a' M2
 |.next=>gf b M' fun M2=>k (.v .none) M2
 |_=>False
theorem pk(b:Nat)(k:K1):vJ b k=qN b k:=by
 funext cf m M'
 unfold vJ qN
 cases cf with
 |next=>exact ds _
 |ret a=>simp only;rw[gN,ds]
 |_=>rfl
def ap(T:Tb)(I:FnI)(args:List AV)(M:AM)(k:K1)(X:KX):Prop:=
 evS (ev 40) ⟨T,I.scope,false⟩ I.body (I.locals args) M (vJ M.length k) (fun msg M'=>gf M.length M' fun M2=>X msg M2)
def yt(T:Tb)(I:FnI)(args:List AV)(M:AM)(k:K1)(X:KX):Prop:=
 evS (ev 40) ⟨T,I.scope,false⟩ I.body (I.locals args) M (qN M.length k) (fun msg M'=>X msg (bM M.length M'))
theorem yr(T:Tb)(I:FnI)(args:List AV)(M:AM)(k:K1)(X:KX):ap T I args M k X=yt T I args M k X:=by
 unfold ap yt
 rw[pk]
 congr 1
 funext msg M'
 exact ds _
def I4(k:K1):KS:=fun cf _ M'=>match cf with
 |.ret a=>k a M'
 |.next=>k (.v .none) M'
 |_=>False
def jV(T:Tb)(I:FnI)(args:List AV)(M:AM)(k:K1)(X:KX):Prop:=
 evS (ev 40) ⟨T,I.scope,false⟩ I.body (I.locals args) M (I4 k) X
def i8(T:Tb)(I:FnI)(n:Nat)(kn:List Str):aE:=Sp n kn (ap T I)
def em(T:Tb)(I:FnI)(n:Nat)(kn:List Str):aE:=Sp n kn (jV T I)
def iC(c:Str)(S:aE):aE:=fun args kws M k X=>
 S (.ref M.length::args) kws (M++[.inst c []]) (fun r M'=>r=.v .none∧k (.ref M.length) M') X
def As:aE:=fun args kws M k X=>match args,kws with
 |[.v (.str msg)],[]=>k (.ref M.length) (M++[.exc (some msg)])
 |_,_=>bad "an exception's arguments"
theorem o4:∀{a b:List Nat},nEq a b=true↔a=b
 |[],[]=>by simp[nEq]
 |[],_::_=>by simp[nEq]
 |_::_,[]=>by simp[nEq]
 |a::as,b::bs=>by
  unfold nEq
  cases q:Nat.beq a b with
  |true=>have:=Nat.eq_of_beq_eq_true q;subst this;simp[o4]
  |false=>have:=Nat.ne_of_beq_eq_false q;simp[this]
theorem sEq_iff{a b:Str}:sEq a b=true↔a=b:=by
 unfold sEq
 rw[o4]
 obtain⟨⟨a⟩⟩:=a;obtain⟨⟨b⟩⟩:=b
 simp
theorem b8(a:Str):sEq a a=true:=sEq_iff.mpr rfl
theorem sEq_false{a b:Str}:sEq a b=false↔a≠b:=by
 rw[←Bool.not_eq_true,sEq_iff]
theorem t5(a b:Str):sEq a b=(a == b):=by
 by_cases h:a=b
 ·subst h;rw[b8];simp
 ·rw[sEq_false.mpr h];simp[h]
theorem xH{x:Str}{l:List (Str×CV)}:lkA x l=lk x l:=by
 induction l with
 |nil=>rfl
 |cons p r ih=>
  obtain⟨y,c⟩:=p
  unfold lkA lk
  by_cases h:y=x
  ·rw[sEq_iff.mpr h,if_pos h];rfl
  ·rw[sEq_false.mpr h,if_neg h];exact ih
theorem bE{α:Type}{x:Str}{l:List (Str×α)}:lkA x l=l.lookup x:=by
 induction l with
 |nil=>rfl
 |cons p r ih=>
  obtain⟨y,c⟩:=p
  unfold lkA
  rw[List.lookup_cons]
  by_cases h:y=x
  ·subst h;rw[b8];simp
  ·have:(x == y)=false:=by simp;exact fun e=>h e.symm
   rw[sEq_false.mpr h,this];exact ih
theorem sIn_iff{x:Str}{l:List Str}:sIn x l=true↔x∈l:=by
 induction l with
 |nil=>simp[sIn]
 |cons b r ih=>
  unfold sIn
  by_cases h:x=b
  ·subst h;rw[b8];simp
  ·rw[sEq_false.mpr h];simp[ih,h]
theorem nIn_iff{x:Nat}{l:List Nat}:nIn x l=true↔x∈l:=by
 induction l with
 |nil=>simp[nIn]
 |cons b r ih=>
  unfold nIn
  cases q:Nat.beq b x with
  |true=>have:=Nat.eq_of_beq_eq_true q;subst this;simp
  |false=>have:=Nat.ne_of_beq_eq_false q;simp[ih,Ne.symm this]
theorem o7{α:Type}(x:Str)(c:α)(l:List (Str×α))(y:Str):lkA y (gr x c l)=if y=x then some c else lkA y l:=by
 induction l with
 |nil=>
  unfold gr lkA
  by_cases h:y=x
  ·subst h;simp[b8]
  ·rw[sEq_false.mpr (Ne.symm h)];simp[h,lkA]
 |cons p r ih=>
  obtain⟨z,b⟩:=p
  unfold gr
  by_cases q:z=x
  ·subst q
   rw[b8]
   simp only[cond_true,lkA]
   by_cases h:y=z
   ·subst h;simp[b8]
   ·rw[sEq_false.mpr (Ne.symm h)];simp[h]
  ·rw[sEq_false.mpr q]
   simp only[cond_false,lkA]
   by_cases h:z=y
   ·subst h;simp[b8,q]
   ·rw[sEq_false.mpr h];simp only[cond_false];exact ih
theorem DI(x:Str)(c:CV)(l:List (Str×CV))(y:Str):lk y (put x c l)=if y=x then some c else lk y l:=by
 by_cases h:y=x
 ·subst h;rw[if_pos rfl,dn]
 ·rw[if_neg h,im h]
mutual
inductive RV(as:List Addr):AV→CV→Prop
 |v (c:CV):RV as (.v c) c
 |ref {i:Nat} {a:Addr}:as[i]?=some a→RV as (.ref i) (.ref a)
 |tup {l:List AV} {cs:List CV}:RVs as l cs→RV as (.tup l) (.tup cs)
inductive RVs(as:List Addr):List AV→List CV→Prop
 |nil:RVs as [] []
 |cons {a:AV} {c:CV} {l:List AV} {cs:List CV}:RV as a c→RVs as l cs→RVs as (a::l) (c::cs)
end
inductive RF(as:List Addr):List (Str×AV)→List (Str×CV)→Prop
 |nil:RF as [] []
 |cons {x:Str} {a:AV} {c:CV} {l:List (Str×AV)} {cs:List (Str×CV)}:RV as a c→RF as l cs→RF as ((x,a)::l) ((x,c)::cs)
inductive RO(as:List Addr):AO→MO→Prop
 |lst (vs:List CV):RO as (.lst vs) (.lst vs)
 |mix {l:List AV} {cs:List CV}:RVs as l cs→RO as (.mix l) (.lst cs)
 |inst {c:Str} {fs:List (Str×AV)} {gs:List (Str×CV)}:RF as fs gs→RO as (.inst c fs) (.inst c gs)
 |exc (m:Option Str):RO as (.exc m) (.exc m)
 |caught (m:Str):RO as (.caught m) (.caught m)
structure RM(as:List Addr)(Mh:AM)(M:MH):Prop where
 len:as.length=Mh.length
 at':∀(i:Nat) (o:AO),Mh[i]?=some o→o=.gone∨∃a mo,as[i]?=some a∧M.get a=some mo∧RO as o mo
 nd:as.Nodup
 dom:∀a∈as,∃mo,M.get a=some mo
theorem RM.inj{as:List Addr}{Mh:AM}{M:MH}(r:RM as Mh M)(i j:Nat)(o p:AO)(a:Addr)(_:Mh[i]?=some o)(_:o≠.gone)(_:Mh[j]?=some p)(_:p≠.gone)(h1:as[i]?=some a)(h2:as[j]?=some a):i=j:=
 (List.getElem?_inj (List.getElem?_eq_some_iff.mp h1).1 r.nd).mp (h1.trans h2.symm)
def ML(as:List Addr)(mh:Vs)(m:List (Str×CV)):Prop:=∀x a,lkA x mh=some a→∃c,lk x m=some c∧RV as a c
def Pre(as as':List Addr):Prop:=∀(i:Nat) a,as[i]?=some a→as'[i]?=some a
def Step(as:List Addr)(M:MH)(as':List Addr)(M':MH):Prop:=Pre as as'∧∀a mo,a∉as→M.get a=some mo→a∉as'∧M'.get a=some mo
section
variable {as as' as2:List Addr}{Mh Mh':AM}{M M' M2:MH}
theorem Pre.rfl':Pre as as:=fun _ _ h=>h
theorem Pre.tr(h:Pre as as')(k:Pre as' as2):Pre as as2:=fun i a e=>k i a (h i a e)
theorem Step.rfl':Step as M as M:=⟨Pre.rfl',fun a mo h k=>⟨h,k⟩⟩
theorem Step.tr(h:Step as M as' M')(k:Step as' M' as2 M2):Step as M as2 M2:=⟨h.1.tr k.1,fun a mo x y=>by
 obtain⟨p,q⟩:=h.2 a mo x y
 exact k.2 a mo p q⟩
mutual
theorem RV.mono(h:Pre as as'):∀{a:AV} {c:CV},RV as a c→RV as' a c
 |_,_,.v c=>.v c
 |_,_,.ref e=>.ref (h _ _ e)
 |_,_,.tup k=>.tup (RVs.mono h k)
theorem RVs.mono(h:Pre as as'):∀{a:List AV} {c:List CV},RVs as a c→RVs as' a c
 |_,_,.nil=>.nil
 |_,_,.cons k l=>.cons (RV.mono h k) (RVs.mono h l)
end
theorem RF.mono(h:Pre as as'){a:List (Str×AV)}{c:List (Str×CV)}(k:RF as a c):RF as' a c:=by
 induction k with
 |nil=>exact .nil
 |cons a _ ih=>exact .cons (a.mono h) ih
theorem RO.mono(h:Pre as as'){o:AO}{mo:MO}:RO as o mo→RO as' o mo
 |.lst vs=>.lst vs
 |.mix k=>.mix (k.mono h)
 |.inst k=>.inst (k.mono h)
 |.exc m=>.exc m
 |.caught m=>.caught m
theorem ML.mono(h:Pre as as'){mh:Vs}{m:List (Str×CV)}(k:ML as mh m):ML as' mh m:=fun x a e=>by
 obtain⟨c,h1,h2⟩:=k x a e
 exact⟨c,h1,h2.mono h⟩
theorem ML.put(k:ML as mh m){x:Str}{a:AV}{c:CV}(r:RV as a c):ML as (gr x a mh) (put x c m):=fun y b e=>by
 rw[o7] at e
 rw[DI]
 by_cases h:y=x
 ·rw[if_pos h] at e ⊢;cases e;exact⟨c,rfl,r⟩
 ·rw[if_neg h] at e ⊢;exact k y b e
theorem RVs.length{l:List AV}{cs:List CV}(h:RVs as l cs):l.length=cs.length:=by
 induction l generalizing cs with
 |nil=>cases h;rfl
 |cons a l ih=>cases h with|cons x y=>simp[ih y]
theorem RVs.append{l l':List AV}{cs cs':List CV}(h:RVs as l cs)(k:RVs as l' cs'):RVs as (l++l') (cs++cs'):=by
 induction l generalizing cs with
 |nil=>cases h;exact k
 |cons a l ih=>cases h with|cons x y=>exact .cons x (ih y)
theorem RVs.get{l:List AV}{cs:List CV}(h:RVs as l cs){i:Nat}{a:AV}(e:l[i]?=some a):∃c,cs[i]?=some c∧RV as a c:=by
 induction l generalizing cs i with
 |nil=>simp at e
 |cons x xs ih=>
  cases h with
  |cons p q=>
   cases i with
   |zero=>simp only[List.getElem?_cons_zero,Option.some.injEq] at e;subst e;exact⟨_,by simp,p⟩
   |succ i=>simp only[List.getElem?_cons_succ] at e ⊢;exact ih q e
theorem RVs.ofv(vs:List CV):RVs as (vs.map .v) vs:=by
 induction vs with
 |nil=>exact .nil
 |cons c vs ih=>exact .cons (.v c) ih
theorem oD{l:List AV}{cs:List CV}(h:unv l=some cs):l=cs.map .v:=by
 induction l generalizing cs with
 |nil=>cases h;rfl
 |cons a l ih=>
  cases a with
  |v c=>
   unfold unv at h
   split at h
   ·rename_i cs' q;cases h;rw[ih q];rfl
   ·cases h
  |_=>cases h
theorem RV.inv_v{c c':CV}(h:RV as (.v c) c'):c'=c:=by cases h;rfl
theorem RVs.inv_v{vs cs:List CV}(h:RVs as (vs.map .v) cs):cs=vs:=by
 induction vs generalizing cs with
 |nil=>cases h;rfl
 |cons c vs ih=>cases h with|cons a b=>rw[a.inv_v,ih b]
theorem RV.mkTup{l:List AV}{cs:List CV}(h:RVs as l cs):RV as (mkTup l) (.tup cs):=by
 unfold Mine.mkTup
 split
 ·rename_i cs' q
  rw[oD q] at h
  rw[h.inv_v];exact .v _
 ·exact .tup h
theorem RO.mkLst{l:List AV}{cs:List CV}(h:RVs as l cs):RO as (mkLst l) (.lst cs):=by
 unfold Mine.mkLst
 split
 ·rename_i cs' q
  rw[oD q] at h
  rw[h.inv_v];exact .lst _
 ·exact .mix h
theorem dS(l:List AV):mkLst l≠.gone:=by unfold mkLst;split<;>exact fun h=>by cases h
theorem MH.get_cons{a b:Addr}{o:MO}:MH.get ((a,o)::M) b=if b=a then some o else M.get b:=by
 by_cases h:b=a
 ·subst h;rw[if_pos rfl];exact MH.get_hd _ _ _
 ·rw[if_neg h];exact MH.get_tl h _ _
theorem MH.get_set{a b:Addr}{o x:MO}(h:M.get a=some x):(M.set a o).get b=if b=a then some o else M.get b:=by
 induction M with
 |nil=>cases h
 |cons p r ih=>
  obtain⟨c,y⟩:=p
  by_cases q:c=a
  ·subst q
   rw[MH.set_hd,MH.get_cons,MH.get_cons]
   by_cases e:b=c<;>simp[e]
  ·rw[MH.set_tl q,MH.get_cons,MH.get_cons]
   rw[MH.get_cons,if_neg (Ne.symm q)] at h
   rw[ih h]
   by_cases e:b=c
   ·subst e;simp[q]
   ·simp[e]
theorem bq{α:Type}{l:List α}{x:α}{i:Nat}:(l++[x])[i]?=if i=l.length then some x else l[i]?:=by
 by_cases h:i=l.length
 ·subst h;simp
 ·rw[if_neg h]
  by_cases q:i < l.length
  ·rw[List.getElem?_append_left q]
  ·rw[List.getElem?_eq_none (by simp;omega),List.getElem?_eq_none (by omega)]
theorem RM.fresh(h:RM as Mh M){a:Addr}(hn:M.get a=none):a∉as:=fun q=>by
 obtain⟨mo,e⟩:=h.dom a q
 rw[hn] at e;cases e
theorem RM.push(h:RM as Mh M){a:Addr}{o:AO}{mo:MO}(hl:o≠.gone)(r:RO as o mo)(hn:M.get a=none):RM (as++[a]) (Mh++[o]) ((a,mo)::M):=by
 walk_at "cJ"
 ·rw[bq] at e
  by_cases hi:i=Mh.length
  ·rw[if_pos hi] at e;cases e
   exact .inr ⟨a,mo,by rw[bq,h.len,if_pos hi],MH.get_hd _ _ _,r.mono pre⟩
  ·rw[if_neg hi] at e
   rcases h.at' i p e with e|⟨b,mo',h1,h2,h3⟩
   ·exact .inl e
   ·refine .inr ⟨b,mo',pre _ _ h1,?_,h3.mono pre⟩
    rw[MH.get_cons,if_neg];exact h2;intro q;rw[q,hn] at h2;cases h2
 ·rw[List.nodup_append]
  exact⟨h.nd,by simp,fun x hx y hy e=>by
   simp at hy;subst hy;subst e;exact h.fresh hn hx⟩
 ·rw[MH.get_cons]
  by_cases e:b=a
  ·exact⟨mo,if_pos e⟩
  ·rw[if_neg e]
   rcases List.mem_append.mp hb with hb|hb
   ·exact h.dom b hb
   ·simp at hb;exact absurd hb e
theorem RM.track(h:RM as Mh M){a:Addr}{o:AO}{mo:MO}(r:RO as o mo)(hn:a∉as)(hg:M.get a=some mo):RM (as++[a]) (Mh++[o]) M:=by
 walk_at "cJ"
 ·rw[bq] at e
  by_cases hi:i=Mh.length
  ·rw[if_pos hi] at e;cases e
   exact .inr ⟨a,mo,by rw[bq,h.len,if_pos hi],hg,r.mono pre⟩
  ·rw[if_neg hi] at e
   rcases h.at' i p e with e|⟨b,mo',h1,h2,h3⟩
   ·exact .inl e
   ·exact .inr ⟨b,mo',pre _ _ h1,h2,h3.mono pre⟩
 ·rw[List.nodup_append]
  exact⟨h.nd,by simp,fun x hx y hy e=>by
   simp at hy;subst hy;subst e;exact hn hx⟩
 ·rcases List.mem_append.mp hb with hb|hb
  ·exact h.dom b hb
  ·simp at hb;subst hb;exact⟨mo,hg⟩
theorem Step.push{a:Addr}{mo:MO}(hn:M.get a=none):Step as M (as++[a]) ((a,mo)::M):=⟨fun i b e=>by rw[bq,if_neg];exact e;intro q;rw[q] at e;simp at e,fun b x h k=>by
 have:b≠a:=fun q=>by rw[q,hn] at k;cases k
 exact⟨by simp[h,this],by rw[MH.get_cons,if_neg this];exact k⟩⟩
theorem RM.live(h:RM as Mh M){i:Nat}{o:AO}(e:Mh[i]?=some o)(hl:o≠.gone):∃a mo,as[i]?=some a∧M.get a=some mo∧RO as o mo:=by
 rcases h.at' i o e with q|q
 ·exact absurd q hl
 ·exact q
theorem RM.set(h:RM as Mh M){i:Nat}{o o':AO}{a:Addr}{mo':MO}(e:Mh[i]?=some o)(hl:o≠.gone)(ha:as[i]?=some a)(hl':o'≠.gone)(r:RO as o' mo'):RM as (Mh.set i o') (M.set a mo'):=by
 obtain⟨a',mo,h1,h2,h3⟩:=h.live e hl
 rw[ha] at h1;cases h1
 have hi:=(List.getElem?_eq_some_iff.mp e).1
 refine⟨by simp[h.len],fun j p k=>?_,h.nd,fun b hb=>?_⟩
 ·rw[List.getElem?_set] at k
  by_cases hj:i=j
  ·subst hj
   rw[if_pos rfl,if_pos hi] at k
   cases k
   exact .inr ⟨a,mo',ha,by rw[MH.get_set h2,if_pos rfl],r⟩
  ·rw[if_neg hj] at k
   rcases h.at' j p k with q|⟨b,x,z1,z2,z3⟩
   ·exact .inl q
   ·by_cases hp:p=.gone
    ·exact .inl hp
    ·refine .inr ⟨b,x,z1,?_,z3⟩
     rw[MH.get_set h2,if_neg];exact z2
     intro q;subst q
     exact hj (h.inj i j o p b e hl k hp ha z1)
 ·rw[MH.get_set h2]
  by_cases q:b=a
  ·exact⟨mo',if_pos q⟩
  ·rw[if_neg q];exact h.dom b hb
theorem Step.set{i:Nat}{a:Addr}{mo mo':MO}(ha:as[i]?=some a)(hg:M.get a=some mo):Step as M as (M.set a mo'):=⟨Pre.rfl',fun b x h k=>by
 have:b≠a:=fun q=>by subst q;exact h (List.mem_of_getElem? ha)
 exact⟨h,by rw[MH.get_set hg,if_neg this];exact k⟩⟩
end
def PostV(as:List Addr)(M:MH)(k:AV→AM→Prop):CV→MH→Prop:=fun c M'=>∃as' a Mh',Step as M as' M'∧RM as' Mh' M'∧RV as' a c∧k a Mh'
def Ih(as:List Addr)(M:MH)(k:List AV→AM→Prop):List CV→MH→Prop:=fun cs M'=>∃as' a Mh',Step as M as' M'∧RM as' Mh' M'∧RVs as' a cs∧k a Mh'
def PostX(as:List Addr)(M:MH)(X:Str→AM→Prop):Str→MH→Prop:=fun msg M'=>∃as' Mh',Step as M as' M'∧RM as' Mh' M'∧X msg Mh'
def PostB(as:List Addr)(M:MH)(k:Bool→AM→Prop):Bool→MH→Prop:=fun b M'=>∃as' Mh',Step as M as' M'∧RM as' Mh' M'∧k b Mh'
def RC(as:List Addr):AF→CF→Prop
 |.next,.next=>True
 |.brk,.brk=>True
 |.cont,.cont=>True
 |.ret a,.ret c=>RV as a c
 |_,_=>False
def PostS(as:List Addr)(M:MH)(k:AF→Vs→AM→Prop):CF→List (Str×CV)→MH→Prop:=fun c m' M'=>∃as' a mh' Mh',Step as M as' M'∧RM as' Mh' M'∧ML as' mh' m'∧RC as' a c∧k a mh' Mh'
section
variable {as as':List Addr}{Mh:AM}{M M':MH}{k:AV→AM→Prop}{X:Str→AM→Prop}{kb:Bool→AM→Prop}{ks:AF→Vs→AM→Prop}
theorem PostV.tr(s:Step as M as' M'){c:CV}{M2:MH}:PostV as' M' k c M2→PostV as M k c M2:=fun⟨p,a,q,x,y⟩=>⟨p,a,q,s.tr x,y⟩
theorem PostX.tr(s:Step as M as' M'){c:Str}{M2:MH}:PostX as' M' X c M2→PostX as M X c M2:=fun⟨p,q,x,y⟩=>⟨p,q,s.tr x,y⟩
theorem PostB.tr(s:Step as M as' M'){c:Bool}{M2:MH}:PostB as' M' kb c M2→PostB as M kb c M2:=fun⟨p,q,x,y⟩=>⟨p,q,s.tr x,y⟩
theorem PostS.tr(s:Step as M as' M'){c:CF}{m2:List (Str×CV)}{M2:MH}:PostS as' M' ks c m2 M2→PostS as M ks c m2 M2:=fun⟨p,a,q,r,x,y⟩=>⟨p,a,q,r,s.tr x,y⟩
theorem PostV.now(r:RM as Mh M){a:AV}{c:CV}(v:RV as a c)(h:k a Mh):PostV as M k c M:=⟨as,a,Mh,Step.rfl',r,v,h⟩
theorem PostB.now(r:RM as Mh M){b:Bool}(h:kb b Mh):PostB as M kb b M:=⟨as,Mh,Step.rfl',r,h⟩
def Sq.t:Sq→Bool
 |.f t _=>t
 |.a t _=>t
def Sq.full:Sq→Bool
 |.f _ vs=>!vs.isEmpty
 |.a _ vs=>!vs.isEmpty
theorem aT(r:RM as Mh M){a:AV}{c:CV}(v:RV as a c){q:Sq}(h:cS Mh a=some q):∃cs,aY M c=some (q.t,cs)∧RVs as q.all cs∧q.len=cs.length∧∀t vs,q=.f t vs→cs=vs:=by
 cases v with
 |v c=>
  cases c<;>simp only[cS,Option.some.injEq,reduceCtorEq] at h<;>subst h
  ·exact⟨_,rfl,RVs.ofv _,rfl,fun t vs e=>by cases e;rfl⟩
  ·exact⟨_,rfl,RVs.ofv _,rfl,fun t vs e=>by cases e;rfl⟩
 |tup k=>
  simp only[cS,Option.some.injEq] at h;subst h
  exact⟨_,rfl,k,k.length,fun t vs e=>by cases e⟩
 |@ref i ad e=>
  simp only[cS] at h
  split at h
  ·rename_i vs hi
   cases h
   obtain⟨a',mo,h1,h2,h3⟩:=r.live hi (by intro q;cases q)
   walk_at "cm"
   exact⟨vs,by simp only[aY,h2];rfl,RVs.ofv _,rfl,fun t vs e=>by cases e;rfl⟩
  ·rename_i l hi
   cases h
   obtain⟨a',mo,h1,h2,h3⟩:=r.live hi (by intro q;cases q)
   rw[e] at h1;cases h1
   cases h3 with
   |mix k=>exact⟨_,by simp only[aY,h2];rfl,k,k.length,fun t vs e=>by cases e⟩
  ·cases h
end
section
variable {D:Wd}{f:Fc}{d:Nat}{as:List Addr}{Mh:AM}{M:MH}{k:AV→AM→Prop}{X:Str→MH→Prop}{kb:Bool→AM→Prop}
theorem DL{n:Nat}:((n:Int) != 0)=decide ((n:Int)≠0):=by
 by_cases h:(n:Int)=0
 ·simp[h]
 ·simp only[ne_eq,h,not_false_eq_true,decide_true,bne_iff_ne]
theorem ie(r:RM as Mh M){a:AV}{c:CV}(v:RV as a c)(h:truth a Mh kb):WT D f d c M (PostB as M kb) X:=by
 have seq:∀q:Sq,cS Mh a=some q→(q.len≤1000∧kb q.full Mh)→WT D f d c M (PostB as M kb) X:=fun q hq ⟨h1,h2⟩=>by
  obtain⟨cs,e1,e2,e3,e4⟩:=aT r v hq
  refine D3 e1 (e3▸h1) (PostB.now r ?_)
  have:(!cs.isEmpty)=q.full:=by
   cases q with
   |f t vs=>rw[e4 t vs rfl];rfl
   |a t vs=>
    cases vs with
    |nil=>cases e2;rfl
    |cons x xs=>cases e2;rfl
  rw[this];exact h2
 cases a with
 |v c'=>
  cases v
  cases c<;>simp only[truth] at h<;>first|exact h.elim|skip
  ·exact AP (PostB.now r h)
  ·exact iz (PostB.now r h)
  ·exact D4 (PostB.now r h)
  ·exact D2 h.1 (PostB.now r (by rw[DL];exact h.2))
  ·exact seq (.f true _) rfl h
  ·exact seq (.f false _) rfl h
 |ref i=>
  simp only[truth] at h
  split at h
  ·rename_i vs hi;exact seq (.f false vs) (by simp only[cS,hi]) h
  ·rename_i vs hi;exact seq (.a false vs) (by simp only[cS,hi]) h
  ·exact h.elim
 |tup l=>exact h.elim
end
theorem i7{args:List PySem.Expr}{env:Env}{pos:Pos}(h:noStar args=true):(backTo pos (starEach args env)).any (·.1)=false:=by
 induction args with
 |nil=>rfl
 |cons e r ih=>
  cases e<;>first|(cases h;done)|(unfold noStar at h;exact ih h)
theorem nC{e:PySem.Expr}{r:List PySem.Expr}{env:Env}(h:∀x p,e≠.Starred x p):starEach (e::r) env=(false,eval e env)::starEach r env:=by
 cases e<;>first|rfl|exact absurd rfl (h _ _)
theorem isS_iff{x:Str}{s:String}:isS x s=true↔x.cps.toList=lit s:=o4
theorem db{o:PySem.Expr}{x:Str}{env:Env}{w:Sem Value}(h:i6 o=true):attributeBase o x env w=w:=by
 unfold attributeBase
 split
 ·rename_i id p pos
  have:(id != "super")=true:=by
   simp only[i6,Bool.not_eq_true'] at h
   rw[bne_iff_ne]
   intro q
   rw[q] at h
   have:isS (Str.ofString "super") "super" = true:=by decide +kernel
   rw[this] at h;cases h
  simp only[this,Bool.true_or,if_true]
 ·rfl
open SeqAt
section
variable {D:Wd}{f:Fc}{d:Nat}{m:List (Str×CV)}{M:MH}{fz:Led}{s:Shared}{Φ:CV→MH→Prop}{X:Str→MH→Prop}
theorem aR{h:Heap}{a:Addr}{ws:List Value}{n:Nat}(e:h.get? a=some (seqObj false ws n)):h.IsList a ws.toArray:=bX e
theorem bg{h:Heap}{a:Addr}{ws:List Value}{n:Nat}(e:h.get? a=some (seqObj true ws n)):h.IsTuple a ws.toArray:=⟨_,e,rfl,n,rfl⟩
theorem qM:∀{as bs:List CV},dA as bs=(Nat.beq as.length bs.length&&(as.zip bs).all fun p=>eqC p.1 p.2)
 |[],[]=>rfl
 |[],_::_=>rfl
 |_::_,[]=>rfl
 |a::as,b::bs=>by
  unfold dA
  rw[qM]
  simp only[List.length_cons,List.zip_cons_cons,List.all_cons]
  show (bif eqC a b then _ else _)=(Nat.beq as.length bs.length&&_)
  cases eqC a b<;>simp
theorem VRs.at{cls:Str→Option Addr}:∀{cs:List CV} {vs:List Value},VRs cls fz cs vs→∀(j:Nat) (v:Value),vs[j]?=some v→∃c,cs[j]?=some c∧VR cls fz c v
 |_,_,.nil,j,v,e=>by simp at e
 |_,_,.cons r k,0,v,e=>by simp only[List.getElem?_cons_zero,Option.some.injEq] at e;subst e;exact⟨_,by simp,r⟩
 |_,_,.cons r k,j+1,v,e=>by simp only[List.getElem?_cons_succ] at e ⊢;exact VRs.at k j v e
theorem zv{R:CV→CV→Prop}:∀{as bs:List CV},CmL R as bs→∀(j:Nat) a b,as[j]?=some a→bs[j]?=some b→R a b
 |[],_,_,_,_,_,h,_=>by simp at h
 |_::_,[],_,_,_,_,_,h=>by simp at h
 |x::as,y::bs,h,j,a,b,h1,h2=>by
  cases j with
  |zero=>simp only[List.getElem?_cons_zero,Option.some.injEq] at h1 h2;subst h1 h2;exact h.1
  |succ j=>simp only[List.getElem?_cons_succ] at h1 h2;exact zv h.2 j a b h1 h2
def eqJ(as bs:List CV)(j:Nat):Bool:=match as[j]?,bs[j]? with
 |some a,some b=>eqC a b
 |_,_=>true
theorem iE:∀{as bs:List CV},((as.zip bs).all fun p=>eqC p.1 p.2)=(List.range (min as.length bs.length)).all (eqJ as bs)
 |[],bs=>by simp
 |_::_,[]=>by simp
 |a::as,b::bs=>by
  simp only[List.zip_cons_cons,List.all_cons,List.length_cons]
  rw[show min (as.length+1) (bs.length+1)=min as.length bs.length+1 by omega,List.range_succ_eq_map,List.all_cons,List.all_map,iE]
  congr 1
theorem cL{as bs:List CV}:dA as bs=((List.range (min as.length bs.length)).all (eqJ as bs)&&as.length == bs.length):=by
 rw[qM,iE,Bool.and_comm];congr 1;rw[Bool.eq_iff_iff];simp
theorem mY{cls:Str→Option Addr}{A:Around}{as bs:List CV}{vs ws:List Value}{n:Nat}(r:VRs cls fz as vs)(q:VRs cls fz bs ws)(c:CmL (Cm n) as bs)
  (ih:∀a b v w,Cm n a b→VR cls fz a v→VR cls fz b w→EqAt A s v w (eqC a b)) :
  ∀j (h1:j < vs.toArray.size) (h2:j < ws.toArray.size),EqAt A s vs.toArray[j] ws.toArray[j] (eqJ as bs j):=by
 intro j h1 h2
 simp only[List.size_toArray] at h1 h2
 obtain⟨a,ha,ra⟩:=r.at j vs[j] (List.getElem?_eq_getElem h1)
 obtain⟨b,hb,rb⟩:=q.at j ws[j] (List.getElem?_eq_getElem h2)
 have:=ih a b _ _ (zv c j a b ha hb) ra rb
 simp only[List.getElem_toArray]
 unfold eqJ
 rw[ha,hb];exact this
theorem sE{cls:Str→Option Addr}{n:Nat}(ih:∀a b v,Cm n a b→VR cls fz a v→VR cls fz b v→eqC a b=true):∀{as bs:List CV} {vs:List Value},VRs cls fz as vs→VRs cls fz bs vs→CmL (Cm n) as bs→dA as bs=true
 |_,_,_,.nil,.nil,_=>rfl
 |_,_,_,.cons r1 r2,.cons q1 q2,c=>by
  unfold dA
  rw[ih _ _ _ c.1 r1 q1,cond_true]
  exact sE ih r2 q2 c.2
theorem VRs.inv_tup{cls:Str→Option Addr}{as:List CV}{v:Value}(r:VR cls fz (.tup as) v):∃a ws n,v=.ref a∧(a,iF ws n)∈fz∧VRs cls fz as ws:=by
 cases r with|tup h1 h2=>exact⟨_,_,_,rfl,h1,h2⟩
theorem VRs.inv_lst{cls:Str→Option Addr}{as:List CV}{v:Value}(r:VR cls fz (.lst as) v):∃a ws n,v=.ref a∧(a,be ws n)∈fz∧VRs cls fz as ws:=by
 cases r with|lst h1 h2=>exact⟨_,_,_,rfl,h1,h2⟩
theorem Av{as bs:List CV}:eqC (.tup as) (.tup bs)=dA as bs:=by rw[eqC]
theorem Aw{as bs:List CV}:eqC (.lst as) (.lst bs)=dA as bs:=by rw[eqC]
theorem vR(a b:Bool):(bif a then b else !b)=(a == b):=by cases a<;>cases b<;>rfl
theorem kP{α:Type}{a b:List α}(h:a.toArray=b.toArray):a=b:=by
 have:=congrArg Array.toList h
 simpa using this
theorem uT{ws ws':List Value}{n n':Nat}(h:iF ws n=iF ws' n'):ws=ws':=by
 injection h with _ _ h _
 injection h with h
 exact kP h
theorem vp{ws ws':List Value}{n n':Nat}(h:be ws n=be ws' n'):ws=ws':=by
 injection h with _ _ h _
 injection h with h
 exact kP h
theorem mZ{A:Around}{s:Shared}{v w:Value}{k:Bool}(hne:v≠w)(hf:∀x t,v≠.float x t)(h:RcAt A s v w k):EqAt A s v w k:=fun prog W E Q hq=>by
 cases v<;>first|exact absurd rfl (hf _ _)|(
  unfold eqBool
  refine wpAny_holding ?_
  refine wpAny_ite_split (fun hab=>absurd (eq_of_beq hab) hne) (fun _=>?_)
  exact wpAny_bind (h prog W E _ (wpAny_truthy_bool hq)))
theorem jN(S:SS D f fz m M s):∀(n:Nat) (A:Around) (a b:CV) (v w:Value),A.units+n < cLine→Cm n a b→VR D.cls fz a v→VR D.cls fz b w→RcAt A s v w (eqC a b)∧RcNeAt A s v w (!eqC a b)∧(v=w→eqC a b=true)
 |0,_,_,_,_,_,_,c,_,_=>c.elim
 |n+1,A,a,b,v,w,hu,c,r,q=>by
  walk_at "bu"
  have hu0:A.units < cLine:=by omega
  have hat:∀{x:Addr} {o:Obj},(x,o)∈fz→s.heap.get? x=some o:=fun h=>(H.N _ (H.mem_fz h)).1
  have ih2:∀a b v,Cm n a b→VR D.cls fz a v→VR D.cls fz b v→eqC a b=true:=fun a b v c r q=>(jN S n { A with units:=0 } a b v v (by show 0+n < cLine;omega) c r q).2.2 rfl
  have ih1:∀a b v w,Cm n a b→VR D.cls fz a v→VR D.cls fz b w→EqAt A.in1 s v w (eqC a b):=fun a b v w c r q=>by
   have:=jN S n A.in1 a b v w (by rw[Around.in1_units];omega) c r q
   walk_at "ct"
  cases a with
  |tup as=>
   obtain⟨x,vs,n1,rfl,h1,r1⟩:=VRs.inv_tup r
   have g1:=bg (n:=n1) (hat h1)
   cases b with
   |tup bs=>
    walk_at "bj"
    have hp:=mY r1 q1 c (A:=A.in1) ih1
    rw[Av,cL]
    walk_at "b8"
    rw[e1,e2]
    refine⟨RcAt.tuples g1 g2 hu0 hp,RcNeAt.tuples g1 g2 hu0 hp,fun e=>?_⟩
    injection e with e
    subst e
    have:=uT (Option.some.inj ((hat h1).symm.trans (hat h2)))
    subst this
    have:=sE ih2 r1 q1 c
    rw[cL,e1,e2] at this
    exact this
   |lst bs=>
    walk_at "bk"
    exact⟨RcAt.tuple_list g1 g2 hu0,RcNeAt.tuple_list g1 g2 hu0,fun e=>by
     injection e with e;subst e;exact absurd (congrArg Obj.cls (Option.some.inj ((hat h1).symm.trans (hat h2)))) (by show Value.type _≠Value.type _;intro q;injection q with q;revert q;decide)⟩
   |none=>cases q;exact⟨RcAt.tuple_none g1 hu0,RcNeAt.tuple_none g1 hu0,fun e=>by cases e⟩
   |bool b=>cases q;exact⟨RcAt.tuple_bool b g1 hu0,RcNeAt.tuple_bool b g1 hu0,fun e=>by cases e⟩
   |int b=>cases q;exact⟨RcAt.tuple_int b _ g1 hu0,RcNeAt.tuple_int b _ g1 hu0,fun e=>by cases e⟩
   |str b=>cases q;exact⟨RcAt.tuple_str b _ g1 hu0,RcNeAt.tuple_str b _ g1 hu0,fun e=>by cases e⟩
   |_=>cases c
  |lst as=>
   obtain⟨x,vs,n1,rfl,h1,r1⟩:=VRs.inv_lst r
   have g1:=aR (n:=n1) (hat h1)
   cases b with
   |lst bs=>
    walk_at "bk"
    have hp:=mY r1 q1 c (A:=A.in1) ih1
    walk_at "b8"
    have fin:Value.ref x=.ref y→dA as bs=true:=fun e=>by
     injection e with e
     subst e
     have:=vp (Option.some.inj ((hat h1).symm.trans (hat h2)))
     subst this
     exact sE ih2 r1 q1 c
    rw[Aw]
    by_cases hz:vs.toArray.size=ws.toArray.size
    ·have e3:dA as bs=(List.range vs.toArray.size).all (eqJ as bs):=by
      rw[cL,e1,e2,hz];simp
     exact⟨e3▸RcAt.lists g1 g2 hz hu0 hp,e3▸RcNeAt.lists g1 g2 hz hu0 hp,fin⟩
    ·have e3:dA as bs=false:=by
      rw[cL,e2];simp only[Bool.and_eq_false_imp];intro _;simpa using hz
     exact⟨e3▸RcAt.lists_lengths g1 g2 (by simpa using hz) hu0,e3▸RcNeAt.lists_lengths g1 g2 (by simpa using hz) hu0,fin⟩
   |tup bs=>
    walk_at "bj"
    exact⟨RcAt.list_tuple g1 g2 hu0,RcNeAt.list_tuple g1 g2 hu0,fun e=>by
     injection e with e;subst e;exact absurd (congrArg Obj.cls (Option.some.inj ((hat h1).symm.trans (hat h2)))) (by show Value.type _≠Value.type _;intro q;injection q with q;revert q;decide)⟩
   |none=>cases q;exact⟨RcAt.list_none g1 hu0,RcNeAt.list_none g1 hu0,fun e=>by cases e⟩
   |bool b=>cases q;exact⟨RcAt.list_bool b g1 hu0,RcNeAt.list_bool b g1 hu0,fun e=>by cases e⟩
   |int b=>cases q;exact⟨RcAt.list_int b _ g1 hu0,RcNeAt.list_int b _ g1 hu0,fun e=>by cases e⟩
   |str b=>cases q;exact⟨RcAt.list_str b _ g1 hu0,RcNeAt.list_str b _ g1 hu0,fun e=>by cases e⟩
   |_=>cases c
  |none=>
   cases r
   cases b with
   |tup bs=>
    walk_at "bj"
    exact⟨RcAt.none_tuple g2 hu0,RcNeAt.none_tuple g2 hu0,fun e=>by cases e⟩
   |lst bs=>
    walk_at "bk"
    exact⟨RcAt.none_list g2 hu0,RcNeAt.none_list g2 hu0,fun e=>by cases e⟩
   |none=>cases q;exact⟨RcAt.none_none,RcNeAt.none_none,fun _=>rfl⟩
   |bool b=>cases q;exact⟨RcAt.none_bool b,RcNeAt.none_bool b,fun e=>by cases e⟩
   |int b=>cases q;exact⟨RcAt.none_int b _,RcNeAt.none_int b _,fun e=>by cases e⟩
   |str b=>cases q;exact⟨RcAt.none_str b _,RcNeAt.none_str b _,fun e=>by cases e⟩
   |_=>cases c
  |bool a=>
   cases r
   cases b with
   |tup bs=>
    walk_at "bj"
    exact⟨RcAt.bool_tuple a g2 hu0,RcNeAt.bool_tuple a g2 hu0,fun e=>by cases e⟩
   |lst bs=>
    walk_at "bk"
    exact⟨RcAt.bool_list a g2 hu0,RcNeAt.bool_list a g2 hu0,fun e=>by cases e⟩
   |none=>cases q;exact⟨RcAt.bool_none a,RcNeAt.bool_none a,fun e=>by cases e⟩
   |bool b=>
    cases q
    have e:eqC (.bool a) (.bool b)=(a == b):=vR a b
    rw[e]
    exact⟨RcAt.bool_bool a b,RcNeAt.bool_bool a b,fun e=>by cases e;simp⟩
   |int b=>cases c
   |str b=>cases q;exact⟨RcAt.bool_str a b _,RcNeAt.bool_str a b _,fun e=>by cases e⟩
   |_=>cases c
  |int a=>
   cases r
   cases b with
   |tup bs=>
    walk_at "bj"
    exact⟨RcAt.int_tuple a _ g2 hu0,RcNeAt.int_tuple a _ g2 hu0,fun e=>by cases e⟩
   |lst bs=>
    walk_at "bk"
    exact⟨RcAt.int_list a _ g2 hu0,RcNeAt.int_list a _ g2 hu0,fun e=>by cases e⟩
   |none=>cases q;exact⟨RcAt.int_none a _,RcNeAt.int_none a _,fun e=>by cases e⟩
   |bool b=>cases c
   |int b=>
    cases q
    have e:eqC (.int a) (.int b)=(a == b):=rfl
    rw[e]
    exact⟨RcAt.int_int a _ b _,RcNeAt.int_int a _ b _,fun e=>by cases e;simp⟩
   |str b=>cases q;exact⟨RcAt.int_str a _ b _,RcNeAt.int_str a _ b _,fun e=>by cases e⟩
   |_=>cases c
  |str a=>
   cases r
   cases b with
   |tup bs=>
    walk_at "bj"
    exact⟨RcAt.str_tuple a _ g2 hu0,RcNeAt.str_tuple a _ g2 hu0,fun e=>by cases e⟩
   |lst bs=>
    walk_at "bk"
    exact⟨RcAt.str_list a _ g2 hu0,RcNeAt.str_list a _ g2 hu0,fun e=>by cases e⟩
   |none=>cases q;exact⟨RcAt.str_none a _,RcNeAt.str_none a _,fun e=>by cases e⟩
   |bool b=>cases q;exact⟨RcAt.str_bool a _ b,RcNeAt.str_bool a _ b,fun e=>by cases e⟩
   |int b=>cases q;exact⟨RcAt.str_int a _ b _,RcNeAt.str_int a _ b _,fun e=>by cases e⟩
   |str b=>
    cases q
    have e:eqC (.str a) (.str b)=(a == b):=t5 a b
    rw[e]
    exact⟨RcAt.str_str a _ b _,RcNeAt.str_str a _ b _,fun e=>by cases e;simp⟩
   |_=>cases c
  |_=>cases b<;>cases c
theorem yk(S:SS D f fz m M s){n:Nat}{A:Around}{a b:CV}{v w:Value}(hu:A.units+n < cLine)(c:Cm n a b)(r:VR D.cls fz a v)(q:VR D.cls fz b w):EqAt A s v w (eqC a b):=by
 have:=jN S n A a b v w hu c r q
 walk_at "ct"
end
open SeqAt
section
variable {D:Wd}{f:Fc}{d:Nat}{m:List (Str×CV)}{M:MH}{fz:Led}{s:Shared}{Φ:CV→MH→Prop}{X:Str→MH→Prop}
theorem SS.kept(S:SS D f fz m M s){h':Heap}(k:∀b o,s.heap.get? b=some o→h'.get? b=some o)(tk:Nat):SS D f fz m M { s with heap:=h',toks:=tk }:=by
 walk_at "ak"
 exact⟨⟨mr,cells,fo,ml,⟨H.F.kept k,fun p hp=>⟨k _ _ (H.N p hp).1,(H.N p hp).2⟩,H.nd,H.cellsAre,H.fos,H.mrs,H.loc⟩⟩,g,o⟩
theorem ry{a b:Int}(hb:-(2 ^ 63:Int) < b∧b < 2 ^ 63)(h:Φ (.int (a*b)) M):WO2 D f d (binaryOp .Mult) (.int a) (.int b) M Φ X:=by
 walk_at "ay"
 exact AutoIntOps.mul_0 (show Made.post _ (VP D f fz m Φ) s from ⟨fz,_,M,Sub.rfl',S,.int _ _,h⟩) (.of_right (intBits_le_64 (by omega) (by omega)))
theorem xt{a b:Int}(hb:-(2 ^ 63:Int) < b∧b < 2 ^ 63):¬ Builtin.divisionGoesByPylong a b=true:=by
 have hl:b.natAbs.log2 < 64:=by
  by_cases h0:b.natAbs=0
  ·rw[h0];decide
  ·exact(Nat.log2_lt h0).mpr (by omega)
 unfold Builtin.divisionGoesByPylong
 simp only[Bool.and_eq_true,decide_eq_true_eq,not_and]
 intro h
 exfalso
 revert h
 split
 ·omega
 ·omega
theorem pw{a b:Int}(h0:b≠0)(hb:-(2 ^ 63:Int) < b∧b < 2 ^ 63)(h:Φ (.int (a.fdiv b)) M):WO2 D f d (binaryOp .FloorDiv) (.int a) (.int b) M Φ X:=by
 walk_at "ay"
 exact AutoIntOps.floordiv_1 (by simpa using h0) (xt hb) (show Made.post _ (VP D f fz m Φ) s from ⟨fz,_,M,Sub.rfl',S,.int _ _,h⟩)
theorem vU(h:Φ (.int 1000000000000000000) M):WO2 D f d (binaryOp .Pow) (.int 10) (.int 18) M Φ X:=by
 walk_at "ay"
 exact AutoIntOps.pow_4 (by decide) (by decide) (by decide) (by decide) (by decide +kernel) (show Made.post _ (VP D f fz m Φ) s from ⟨fz,_,M,Sub.rfl',S,.int _ _,h⟩)
theorem Cu:∀(a b:List Nat),strGe.lt a b=decide (a < b)
 |[],[]=>by simp[strGe.lt]
 |[],_::_=>by simp[strGe.lt]
 |_::_,[]=>by simp[strGe.lt]
 |x::xs,y::ys=>by
  unfold strGe.lt
  rw[Cu xs ys]
  by_cases h1:x < y
  ·rw[Nat.blt_eq.mpr h1];simp[List.cons_lt_cons_iff,h1]
  ·have:Nat.blt x y=false:=by rw[←Bool.not_eq_true,Nat.blt_eq];exact h1
   rw[this,cond_false]
   by_cases h2:x=y
   ·subst h2;rw[Nat.beq_refl];simp[List.cons_lt_cons_iff]
   ·have:Nat.beq x y=false:=by rw[←Bool.not_eq_true];exact fun q=>h2 (Nat.eq_of_beq_eq_true q)
    rw[this,cond_false];simp[List.cons_lt_cons_iff,h1,h2]
theorem tj{a b:Str}(h:Φ (.bool (strGe b a)) M):WO2 D f d (compareOp .LtE) (.str a) (.str b) M Φ X:=by
 walk_at "ay"
 refine PySem.P.le_str ⟨fz,_,M,Sub.rfl',S,.bool _,?_⟩
 have e:strGe b a = !decide (b.cps.toList < a.cps.toList):=by unfold strGe strGe.strLt;rw[Cu]
 rw[←e];exact h
theorem tm{a b:Str}(h:Φ (.bool (PySem.Txt.contains b a)) M):WO2 D f d (compareOp .In) (.str a) (.str b) M Φ X:=by
 walk_at "ay"
 exact PySem.P.in_str ⟨fz,_,M,Sub.rfl',S,.bool _,h⟩
theorem rt{a b:Str}(h:Φ (.bool (!PySem.Txt.contains b a)) M):WO2 D f d (compareOp .NotIn) (.str a) (.str b) M Φ X:=by
 walk_at "ay"
 exact PySem.P.notIn_str ⟨fz,_,M,Sub.rfl',S,.bool _,h⟩
end
open SeqAt
section
variable {D:Wd}{f:Fc}{d:Nat}{m:List (Str×CV)}{M:MH}{fz:Led}{s:Shared}{Φ:CV→MH→Prop}{X:Str→MH→Prop}
theorem VRs.one{cls:Str→Option Addr}{c:CV}{vs:List Value}(r:VRs cls fz [c] vs):∃v,vs=[v]∧VR cls fz c v:=by
 cases r with|cons a b=>cases b;exact⟨_,rfl,a⟩
theorem VRs.two{cls:Str→Option Addr}{c e:CV}{vs:List Value}(r:VRs cls fz [c,e] vs):∃v w,vs=[v,w]∧VR cls fz c v∧VR cls fz e w:=by
 cases r with|cons a b=>obtain⟨w,rfl,k⟩:=b.one;exact⟨_,_,rfl,a,k⟩
theorem D9{i:Int}(hi:0≤i∧i < 128)(h:Φ (.str ⟨#[i.toNat]⟩) M):WO D f d (fun vs=>call (.builtin "chr") vs) [.int i] M Φ X:=by
 walk_at "aE"
 exact PySem.P.chr_of_int (by rw[decide_eq_false (by omega),decide_eq_false (by omega)];rfl) ⟨fz,_,M,Sub.rfl',S,.str _ _,h⟩
theorem D5{x:Str}{c:Nat}(e:x.cps.toList=[c])(h:Φ (.int c) M):WO D f d (fun vs=>call (.builtin "ord") vs) [.str x] M Φ X:=by
 walk_at "aE"
 have:x=⟨#[c]⟩:=by obtain⟨⟨l⟩⟩:=x;simp at e;rw[e]
 subst this
 exact PySem.P.ord_of_char ⟨fz,_,M,Sub.rfl',S,.int _ _,h⟩
theorem D6{x y:Int}(hc:f.calm=true)(h:Φ (.int (bif decide (x < y) then y else x)) M):WO D f d (fun vs=>call (.builtin "max") vs) [.int x,.int y] M Φ X:=by
 intro fz m A s vs a S r
 obtain⟨v,w,rfl,q1,q2⟩:=r.two
 show wpAny _ _ (call _ _) _ _ _
 cases q1;cases q2
 refine max_two_ints (a.handled hc) fun h' tk k=>⟨fz,_,M,Sub.rfl',S.kept k tk,?_,h⟩
 by_cases q:x < y
 ·rw[if_pos (show y > x from q),decide_eq_true q];exact .int _ _
 ·rw[if_neg (show ¬ y > x from q),decide_eq_false q];exact .int _ _
theorem te{x:Int}(h:Φ (.int x) M):WO D f d (fun vs=>call (.type "int") vs) [.int x] M Φ X:=by
 walk_at "aE"
 exact call_int_int ⟨fz,_,M,Sub.rfl',S,.int _ _,h⟩
theorem rj{b:Bool}(h:Φ (.int (bif b then 1 else 0)) M):WO D f d (fun vs=>call (.type "int") vs) [.bool b] M Φ X:=by
 walk_at "aE"
 refine call_int_bool ⟨fz,_,M,Sub.rfl',S,.int _ _,?_⟩
 cases b<;>exact h
theorem sX{x:Int}(hx:-1000000≤x∧x≤1000000)(h:Φ (.str (bv x)) M):WO D f d (fun vs=>call (.type "str") vs) [.int x] M Φ X:=by
 walk_at "aE"
 have hl:x.natAbs.log2 < 1920:=by
  by_cases h0:x.natAbs=0
  ·rw[h0];decide
  ·refine Nat.lt_of_lt_of_le ((Nat.log2_lt (k:=64) h0).mpr ?_) (by omega)
   have:(2:Nat) ^ 64=18446744073709551616:=by decide
   omega
 exact PySem.P.str_of_int hl ⟨fz,_,M,Sub.rfl',S,.str _ _,h⟩
theorem q8{x:Str}:iD x=true→∀c∈x.cps.toList,c < 128:=fun h c hc=>by
 unfold iD at h
 exact Nat.blt_eq.mp (List.all_eq_true.mp h c hc)
theorem o6(c:Nat):iB c=lo1 c:=by
 unfold iB lo1
 by_cases h:65≤c∧c≤90
 ·rw[if_pos h,Nat.ble_eq.mpr h.1,Nat.ble_eq.mpr h.2];rfl
 ·rw[if_neg h]
  have:(Nat.ble 65 c&&Nat.ble c 90)=false:=by
   rw[←Bool.not_eq_true,Bool.and_eq_true,Nat.ble_eq,Nat.ble_eq];exact h
  rw[this];rfl
theorem Da(c:Nat):upC c=up1 c:=by
 unfold upC up1
 by_cases h:97≤c∧c≤122
 ·rw[if_pos h,Nat.ble_eq.mpr h.1,Nat.ble_eq.mpr h.2];rfl
 ·rw[if_neg h]
  have:(Nat.ble 97 c&&Nat.ble c 122)=false:=by
   rw[←Bool.not_eq_true,Bool.and_eq_true,Nat.ble_eq,Nat.ble_eq];exact h
  rw[this];rfl
theorem Ab{x:Str}(h:iD x=true):Txt.lower x=ae x:=by
 rw[lower_ascii (q8 h)]
 unfold ae
 congr 1
 apply Array.toList_inj.mp
 simp only[Array.toList_map]
 exact List.map_congr_left fun c _=>(o6 c).symm
theorem C9{x:Str}(h:iD x=true):Txt.upper x=upS x:=by
 rw[upper_ascii (q8 h)]
 unfold upS
 congr 1
 apply Array.toList_inj.mp
 simp only[Array.toList_map]
 exact List.map_congr_left fun c _=>(Da c).symm
theorem yI{x:Str}(hx:x.length≤1000∧iD x=true)(h:Φ (.str (ae x)) M):WO D f d (fun vs=>call (.builtin "str.lower") vs) [.str x] M Φ X:=by
 walk_at "aE"
 exact SCL.lower (by omega) fun _=>⟨fz,_,M,Sub.rfl',S,.str _ _,by rw[Ab hx.2];exact h⟩
theorem yF{x:Str}(hx:x.length≤1000∧iD x=true)(h:Φ (.str (upS x)) M):WO D f d (fun vs=>call (.builtin "str.upper") vs) [.str x] M Φ X:=by
 walk_at "aE"
 exact SCL.upper (by omega) fun _=>⟨fz,_,M,Sub.rfl',S,.str _ _,by rw[C9 hx.2];exact h⟩
theorem AH(x:Str):Txt.isascii x=iD x:=by
 unfold Txt.isascii iD
 rw[←Array.all_toList]
 congr 1
 funext c
 rw[Bool.eq_iff_iff,Nat.blt_eq];simp
theorem ta{x:Str}(h:Φ (.bool (iD x)) M):WO D f d (fun vs=>call (.builtin "str.isascii") vs) [.str x] M Φ X:=by
 walk_at "aE"
 exact SC.isascii ⟨fz,_,M,Sub.rfl',S,.bool _,by rw[AH];exact h⟩
end
open SeqAt
section
variable {D:Wd}{f:Fc}{d:Nat}{m:List (Str×CV)}{M:MH}{fz:Led}{s:Shared}{Φ:CV→MH→Prop}{X:Str→MH→Prop}
theorem pf{h:Heap}{a:Addr}{ws:List Value}{n:Nat}(e:h.get? a=some (seqObj true ws n)):IsTup h a ws.toArray:=bW e
theorem eI{c e:CV}{vs ws:List CV}(h1:aY M c=some (false,vs))(h2:aY M e=some (false,ws))(hz:vs.length+ws.length≤1000)(h:∀a,M.get a=none→Φ (.ref a) ((a,.lst (vs++ws))::M)):WO2 D f d (binaryOp .Add) c e M Φ X:=by
 intro fz m A s v w _ S r1 r2
 obtain⟨a1,us,n1,rfl,g1,q1⟩:=S.seq r1 h1
 obtain⟨a2,xs,n2,rfl,g2,q2⟩:=S.seq r2 h2
 walk_at "ak"
 refine add_lists H.F H.N (aR g1) (aR g2) (fun h' F' N'=>?_) (cD (by rw[←q1.length,←q2.length];exact hz))
 walk_at "aO"
 exact⟨fz,_,_,Sub.rfl',⟨⟨mr,cells,fo,_,H.pushM (lx:=[(_,be (us++xs) 0)]) F' N' (bp lt H.nd) (.lst (q1.append q2))⟩,g,o⟩,.ref _,h _ (H.noM (Heap.get?_none_of_le (Nat.le_refl _)))⟩
theorem rA{vs ws:List CV}(hz:vs.length+ws.length≤1000)(h:Φ (.tup (vs++ws)) M):WO2 D f d (binaryOp .Add) (.tup vs) (.tup ws) M Φ X:=by
 intro fz m A s v w _ S r1 r2
 obtain⟨a1,us,n1,rfl,g1,q1⟩:=S.seq r1 (show aY M (.tup vs)=some (true,vs) from rfl)
 obtain⟨a2,xs,n2,rfl,g2,q2⟩:=S.seq r2 (show aY M (.tup ws)=some (true,ws) from rfl)
 have S0:=S
 walk_at "ak"
 refine add_tuples H.F H.N (pf g1) (pf g2) (fun e=>?_) (fun _ e=>?_) (fun _ _ h' F' N'=>?_) (cD (by rw[←q1.length,←q2.length];exact hz))
 ·subst e
  cases q1
  exact⟨fz,_,M,Sub.rfl',S0,r2,h⟩
 ·subst e
  cases q2
  rw[List.append_nil] at h
  exact⟨fz,_,M,Sub.rfl',S0,r1,h⟩
 ·have lt:∀p∈aa fz f.pin cells fo ml [],p.1 < s.heap.objs.size:=fun p hp=>Heap.lt_size (H.N p hp).1
  exact⟨(_,iF (us++xs) 0)::fz,_,M,fun p hp=>.tail _ hp,⟨⟨mr,cells,fo,ml,H.pushF F' N' lt⟩,g,o⟩,.tup (.head _) ((q1.append q2).mono fun p hp=>.tail _ hp),h⟩
theorem ul{x:CV}:∀{vs:List CV},inC x vs=true↔∃(j:Nat) (c:CV),vs[j]?=some c∧eqC c x=true
 |[]=>by simp[inC]
 |b::r=>by
  unfold inC
  cases q:eqC b x with
  |true=>simp only[cond_true,true_iff];exact⟨0,b,rfl,q⟩
  |false=>
   rw[cond_false,ul]
   constructor
   ·rintro ⟨j,c,h1,h2⟩;exact⟨j+1,c,h1,h2⟩
   ·rintro ⟨j,c,h1,h2⟩
    cases j with
    |zero=>simp only[List.getElem?_cons_zero,Option.some.injEq] at h1;subst h1;rw[q] at h2;cases h2
    |succ j=>exact⟨j,c,h1,h2⟩
open Classical in
def Aj(vs:List CV)(ws:List Value)(x:CV)(y:Value):Bool:=decide (∃(j:Nat) (c:CV),vs[j]?=some c∧ws[j]?=some y∧eqC c x=true)
open Classical in
theorem ur{cls:Str→Option Addr}{vs:List CV}{ws:List Value}{x:CV}(r:VRs cls fz vs ws):ws.toArray.any (Aj vs ws x)=inC x vs:=by
 rw[Bool.eq_iff_iff,ul,List.any_toArray,List.any_eq_true]
 constructor
 ·rintro ⟨y,hy,h⟩
  obtain⟨j,c,h1,h2,h3⟩:=of_decide_eq_true h
  exact⟨j,c,h1,h3⟩
 ·rintro ⟨j,c,h1,h2⟩
  have hj:j < ws.length:=by rw[←r.length];exact(List.getElem?_eq_some_iff.mp h1).1
  exact⟨ws[j],List.getElem_mem hj,decide_eq_true ⟨j,c,h1,List.getElem?_eq_getElem hj,h2⟩⟩
open Classical in
theorem xW(S:SS D f fz m M s){n:Nat}{A:Around}{vs:List CV}{ws:List Value}{x:CV}{xv:Value}(hu:A.units+n < cLine)(r:VRs D.cls fz vs ws)(rx:VR D.cls fz x xv)(hc:∀c∈vs,Cm n c x) :
  ∀y,y∈ws.toArray→EqAt A s y xv (Aj vs ws x y):=by
 intro y hy
 rw[List.mem_toArray] at hy
 obtain⟨j,hj,rfl⟩:=List.mem_iff_getElem.mp hy
 obtain⟨c,h1,h2⟩:=r.at j ws[j] (List.getElem?_eq_getElem hj)
 by_cases q:∃(j':Nat) (c:CV),vs[j']?=some c∧ws[j']?=some ws[j]∧eqC c x=true
 ·obtain⟨j',c',k1,k2,k3⟩:=id q
  obtain⟨c2,z1,z2⟩:=r.at j' ws[j] k2
  rw[k1] at z1;cases z1
  have:=yk S hu (hc _ (List.mem_of_getElem? k1)) z2 rx
  rw[k3] at this
  have e:Aj vs ws x ws[j]=true:=decide_eq_true q
  rw[e];exact this
 ·have e:Aj vs ws x ws[j]=false:=decide_eq_false q
  rw[e]
  have:=yk S hu (hc _ (List.mem_of_getElem? h1)) h2 rx
  have e2:eqC c x=false:=by
   rw[←Bool.not_eq_true];exact fun z=>q ⟨j,c,h1,List.getElem?_eq_getElem hj,z⟩
  rw[e2] at this;exact this
theorem AOk.unit8{A:Around}(a:AOk f d A):A.in1.units+8 < cLine:=by
 have:=a.units
 rw[Around.in1_units];show _ < 9900;omega
theorem AOk.unit8'{A:Around}(a:AOk f d A):A.units+9 < cLine:=by
 have:=a.units
 show _ < 9900;omega
theorem to{x c:CV}{t:Bool}{vs:List CV}(h1:aY M c=some (t,vs))(hc:∀c∈vs,Cm 8 c x)(h:Φ (.bool (inC x vs)) M):WO2 D f d (compareOp .In) x c M Φ X:=by
 walk_at "b9"
 obtain⟨a1,us,n1,rfl,g1,q1⟩:=S.seq r2 h1
 have he:=xW S a.unit8 q1 r1 hc
 have e:=ur (x:=x) q1
 cases t with
 |true=>exact in_tupleAt _ (bg g1) he ⟨fz,_,M,Sub.rfl',S,.bool _,by rw[e];exact h⟩
 |false=>exact in_listAt _ (aR g1) he ⟨fz,_,M,Sub.rfl',S,.bool _,by rw[e];exact h⟩
theorem ru{x c:CV}{t:Bool}{vs:List CV}(h1:aY M c=some (t,vs))(hc:∀c∈vs,Cm 8 c x)(h:Φ (.bool (!inC x vs)) M):WO2 D f d (compareOp .NotIn) x c M Φ X:=by
 walk_at "b9"
 obtain⟨a1,us,n1,rfl,g1,q1⟩:=S.seq r2 h1
 have he:=xW S a.unit8 q1 r1 hc
 have e:=ur (x:=x) q1
 cases t with
 |true=>exact notIn_tupleAt _ (bg g1) he ⟨fz,_,M,Sub.rfl',S,.bool _,by rw[e];exact h⟩
 |false=>exact notIn_listAt _ (aR g1) he ⟨fz,_,M,Sub.rfl',S,.bool _,by rw[e];exact h⟩
theorem lg{x y:CV}(hc:Cm 8 x y)(h:Φ (.bool (eqC x y)) M):WO2 D f d (compareOp .Eq) x y M Φ X:=by
 walk_at "b9"
 exact(jN S 8 A x y v w (by have:=a.unit8';omega) hc r1 r2).1 D.prog D.w _ _ ⟨fz,_,M,Sub.rfl',S,.bool _,h⟩
theorem lf{x y:CV}(hc:Cm 8 x y)(h:Φ (.bool (!eqC x y)) M):WO2 D f d (compareOp .NotEq) x y M Φ X:=by
 walk_at "b9"
 exact(jN S 8 A x y v w (by have:=a.unit8';omega) hc r1 r2).2.1 D.prog D.w _ _ ⟨fz,_,M,Sub.rfl',S,.bool _,h⟩
theorem t7(S:SS D f fz m M s){A:Around}{c e:CV}{v w:Value}{t:Bool}{vs ws:List CV}(hu:A.units+9 < cLine)(r1:VR D.cls fz c v)(r2:VR D.cls fz e w)(h1:aY M c=some (t,vs))(h2:aY M e=some (t,ws))(hc:CmL (Cm 8) vs ws) :
  RcAt A s v w (dA vs ws)∧RcNeAt A s v w (!dA vs ws):=by
 obtain⟨a1,us,n1,rfl,g1,q1⟩:=S.seq r1 h1
 obtain⟨a2,xs,n2,rfl,g2,q2⟩:=S.seq r2 h2
 have hu0:A.units < cLine:=by omega
 have hp:=mY q1 q2 hc (A:=A.in1) (s:=s) fun a b v w c r q=>yk S (by rw[Around.in1_units];omega) c r q
 have e1:(min vs.length ws.length)=min us.toArray.size xs.toArray.size:=by simp[q1.length,q2.length]
 have e2:(vs.length == ws.length)=(us.toArray.size == xs.toArray.size):=by simp[q1.length,q2.length]
 cases t with
 |true=>
  have g1:=bg g1
  have g2:=bg g2
  rw[cL,e1,e2]
  exact⟨RcAt.tuples g1 g2 hu0 hp,RcNeAt.tuples g1 g2 hu0 hp⟩
 |false=>
  have g1:=aR g1
  have g2:=aR g2
  by_cases hz:us.toArray.size=xs.toArray.size
  ·have e3:dA vs ws=(List.range us.toArray.size).all (eqJ vs ws):=by
    rw[cL,e1,e2,hz];simp
   exact⟨e3▸RcAt.lists g1 g2 hz hu0 hp,e3▸RcNeAt.lists g1 g2 hz hu0 hp⟩
  ·have e3:dA vs ws=false:=by
    rw[cL,e2];simp only[Bool.and_eq_false_imp];intro _;simpa using hz
   exact⟨e3▸RcAt.lists_lengths g1 g2 (by simpa using hz) hu0,e3▸RcNeAt.lists_lengths g1 g2 (by simpa using hz) hu0⟩
theorem eH{x y:CV}{t:Bool}{vs ws:List CV}(h1:aY M x=some (t,vs))(h2:aY M y=some (t,ws))(hc:CmL (Cm 8) vs ws)(h:Φ (.bool (dA vs ws)) M):WO2 D f d (compareOp .Eq) x y M Φ X:=by
 walk_at "b9"
 exact(t7 S a.unit8' r1 r2 h1 h2 hc).1 D.prog D.w _ _ ⟨fz,_,M,Sub.rfl',S,.bool _,h⟩
theorem eG{x y:CV}{t:Bool}{vs ws:List CV}(h1:aY M x=some (t,vs))(h2:aY M y=some (t,ws))(hc:CmL (Cm 8) vs ws)(h:Φ (.bool (!dA vs ws)) M):WO2 D f d (compareOp .NotEq) x y M Φ X:=by
 walk_at "b9"
 exact(t7 S a.unit8' r1 r2 h1 h2 hc).2 D.prog D.w _ _ ⟨fz,_,M,Sub.rfl',S,.bool _,h⟩
theorem lP{R:CV→CV→Prop}{vs:List CV}:CmL R vs []:=by cases vs<;>exact True.intro
theorem jO{vs:List CV}:dA vs []=vs.isEmpty:=by cases vs<;>rfl
end
open SeqAt
section
variable {D:Wd}{f:Fc}{d:Nat}{m:List (Str×CV)}{M:MH}{fz:Led}{s:Shared}{Φ:CV→MH→Prop}{X:Str→MH→Prop}
def jt:List Value→Option (List Str)
 |[]=>some []
 |.str x _::r=>match jt r with
  |some l=>some (x::l)
  |none=>none
 |_::_=>none
def E6(K:Frag)(a:Addr)(l:List Str):Prop:=∃ws n,K.lookup a=some (iF ws n)∧jt ws=some l
theorem lW:∀{ws:List Value} {l:List Str},jt ws=some l→∀v∈ws,∃x t,v=.str x t∧x∈l
 |[],_,_,v,hv=>by cases hv
 |w::ws,l,h,v,hv=>by
  cases w<;>simp only[jt,reduceCtorEq] at h
  rename_i x t
  split at h
  ·rename_i l' e;cases h
   rcases List.mem_cons.mp hv with rfl|hv
   ·exact⟨_,_,rfl,.head _⟩
   ·obtain⟨y,u,e1,e2⟩:=lW e v hv
    exact⟨y,u,e1,.tail _ e2⟩
  ·cases h
theorem pK:∀{ws:List Value} {l:List Str},jt ws=some l→∀x∈l,∃t,.str x t∈ws
 |[],_,h,v,hv=>by cases h;cases hv
 |w::ws,l,h,v,hv=>by
  cases w<;>simp only[jt,reduceCtorEq] at h
  rename_i x t
  split at h
  ·rename_i l' e;cases h
   rcases List.mem_cons.mp hv with rfl|hv
   ·exact⟨_,.head _⟩
   ·obtain⟨u,e2⟩:=pK e v hv
    exact⟨u,.tail _ e2⟩
  ·cases h
def jd(x:Str):Value→Bool
 |.str y _=>y == x
 |_=>false
theorem n6{x:Str}{ws:List Value}{l:List Str}(h:jt ws=some l):ws.toArray.any (jd x)=sIn x l:=by
 rw[Bool.eq_iff_iff,sIn_iff,List.any_toArray,List.any_eq_true]
 constructor
 ·rintro ⟨v,hv,e⟩
  obtain⟨y,t,rfl,hy⟩:=lW h v hv
  simp only[jd,beq_iff_eq] at e
  exact e▸hy
 ·intro hx
  obtain⟨t,ht⟩:=pK h x hx
  exact⟨_,ht,by simp[jd]⟩
theorem qu{A:Around}{x:Str}{u:Tok}{ws:List Value}{l:List Str}(h:jt ws=some l):∀y,y∈ws.toArray→EqAt A s y (.str x u) (jd x y):=by
 intro y hy
 obtain⟨z,t,rfl,_⟩:=lW h y (List.mem_toArray.mp hy)
 exact EqAt.str_str z t x u
theorem SS.kat(S:SS D f fz m M s){a:Addr}{o:Obj}(h:D.K.lookup a=some o):s.heap.get? a=some o:=S.inK a o h
theorem yL{x:Str}{a:Addr}{l:List Str}(k:E6 D.K a l)(h:Φ (.bool (sIn x l)) M):WO2 D f d (compareOp .In) (.str x) (.st (.ref a)) M Φ X:=by
 intro fz m A s v w _ S r1 r2
 obtain rfl:=r2.st_inv
 cases r1
 obtain⟨ws,n,k1,k2⟩:=k
 exact in_tupleAt _ (bg (n:=n) (S.kat k1)) (qu k2) ⟨fz,_,M,Sub.rfl',S,.bool _,by rw[n6 k2];exact h⟩
theorem vV{x:Str}{a:Addr}{l:List Str}(k:E6 D.K a l)(h:Φ (.bool (!sIn x l)) M):WO2 D f d (compareOp .NotIn) (.str x) (.st (.ref a)) M Φ X:=by
 intro fz m A s v w _ S r1 r2
 obtain rfl:=r2.st_inv
 cases r1
 obtain⟨ws,n,k1,k2⟩:=k
 exact notIn_tupleAt _ (bg (n:=n) (S.kat k1)) (qu k2) ⟨fz,_,M,Sub.rfl',S,.bool _,by rw[n6 k2];exact h⟩
theorem iZ{cls:Str→Option Addr}:∀{vs:List CV} {l:List Str} {ws:List Value},dP vs=some l→VRs cls fz vs ws→StrsAre ws l
 |[],_,_,h,r=>by cases h;cases r;exact .nil
 |c::vs,l,_,h,r=>by
  cases c<;>simp only[dP,reduceCtorEq] at h
  split at h
  ·rename_i l' e;cases h
   cases r with
   |cons r1 r2=>cases r1;exact .cons _ _ (iZ e r2)
  ·cases h
theorem uZ(l:List Str):(l.map (·.length)).sum=kc l:=by
 induction l with
 |nil=>rfl
 |cons a r ih=>rw[List.map_cons,List.sum_cons,ih];rfl
theorem AR{x:Str}{c:CV}{t:Bool}{vs:List CV}{l:List Str}(hg:aY M c=some (t,vs))(hl:dP vs=some l)(hz:kc l+l.length*x.length≤1000)(h:Φ (.str (Str.join x l)) M) :
  WO D f d (fun vs=>call (.builtin "str.join") vs) [.str x,c] M Φ X:=by
 intro fz m A s us a S r
 obtain⟨v,w,rfl,q1,q2⟩:=r.two
 cases q1
 obtain⟨a1,us,n1,rfl,g1,q⟩:=S.seq q2 hg
 have hs:StrsAre us.toArray.toList l:=iZ hl q
 have hok:(l.map (·.length)).sum+l.length*x.length≤16777216:=by rw[uZ];omega
 have fin:∀t' k,VP D f fz m Φ (.str (Txt.join x l) t') { s with toks:=k }:=fun t' k=>⟨fz,_,M,Sub.rfl',S,.str _ _,by
  show Φ (.str (Builtin.Str.glued x l)) M
  rw[StrLaws.glued_eq_join];exact h⟩
 cases t with
 |true=>exact join_tuple (pf g1) hs hok fin
 |false=>exact join_list (aR g1) hs hok fin
theorem AQ{c:CV}{t:Bool}{vs:List CV}(hg:aY M c=some (t,vs))(hz:vs.length≤1000)(h:∀a,M.get a=none→Φ (.ref a) ((a,.lst vs)::M)):WO D f d (fun vs=>call (.type "list") vs) [c] M Φ X:=by
 intro fz m A s us a S r
 obtain⟨v,rfl,r'⟩:=r.one
 obtain⟨a1,us,n1,rfl,g1,q⟩:=S.seq r' hg
 walk_at "ak"
 have hT:∃T,(T = "list" ∨ T = "tuple")∧(seqObj t us n1).cls=.type T:=by cases t;exact⟨_,.inl rfl,rfl⟩;exact⟨_,.inr rfl,rfl⟩
 have hd:(seqObj t us n1).data=.seq us.toArray n1:=by cases t<;>rfl
 obtain⟨T,hT,hc⟩:=hT
 refine call_list_seq a1 hT g1 hc hd (fun h' c' k k1=>?_) (by rw[List.size_toArray];exact cD (q.length▸hz))
 walk_at "aO"
 exact⟨fz,_,_,Sub.rfl',⟨⟨mr,cells,fo,_,H.pushM (lx:=[(_,be us c')]) (H.F.kept k) (H.N.kept_cons H.F k (Nat.le_refl _) k1) (bp lt H.nd) (.lst q)⟩,g,o⟩,.ref _,h _ (H.noM (Heap.get?_none_of_le (Nat.le_refl _)))⟩
theorem n7{x:Str}:∀{vs:List Str} {i j:Nat},bI x vs i=some j→i≤j∧vs[j - i]?=some x∧∀(k:Nat) (c:Str),k < j - i→vs[k]?=some c→c≠x
 |[],_,_,h=>by cases h
 |b::r,i,j,h=>by
  unfold bI at h
  by_cases q:b=x
  ·rw[sEq_iff.mpr q] at h;cases h
   exact⟨Nat.le_refl _,by simp[q],fun k c hk=>by omega⟩
  ·rw[sEq_false.mpr q] at h
   obtain⟨h1,h2,h4⟩:=n7 h
   refine⟨by omega,?_,fun k c hk e=>?_⟩
   ·rw[show j - i=(j - (i+1))+1 by omega];exact h2
   ·cases k with
    |zero=>simp only[List.getElem?_cons_zero,Option.some.injEq] at e;subst e;exact q
    |succ k=>exact h4 k c (by omega) e
theorem i0{ws:List Value}{l:List Str}(h:StrsAre ws l):∀(k:Nat) (v:Value),ws[k]?=some v→∃x t,v=.str x t∧l[k]?=some x:=by
 induction h with
 |nil=>intro k v e;simp at e
 |cons y t _ ih=>
  intro k v e
  cases k with
  |zero=>simp only[List.getElem?_cons_zero,Option.some.injEq] at e;subst e;exact⟨y,t,rfl,rfl⟩
  |succ k=>simp only[List.getElem?_cons_succ] at e ⊢;exact ih k v e
theorem pJ{ws:List Value}{l:List Str}(h:StrsAre ws l):ws.length=l.length:=by
 induction h with
 |nil=>rfl
 |cons y t _ ih=>simp[ih]
theorem yJ{x:Str}{c:CV}{vs:List CV}{l:List Str}{j:Nat}(hg:aY M c=some (false,vs))(hl:dP vs=some l)(hj:bI x l 0=some j)(hz:vs.length≤1000)(h:Φ (.int j) M) :
  WO D f d (fun vs=>call (.builtin "list.index") vs) [c,.str x] M Φ X:=by
 intro fz m A s us a S r
 obtain⟨v,w,rfl,q1,q2⟩:=r.two
 cases q2
 obtain⟨a1,us,n1,rfl,g1,q⟩:=S.seq q1 hg
 have hs:StrsAre us l:=iZ hl q
 obtain⟨_,e1,e2⟩:=n7 hj
 simp only[Nat.sub_zero] at e1 e2
 have hlen:=pJ hs
 have hjl:j < us.length:=by rw[hlen];exact(List.getElem?_eq_some_iff.mp e1).1
 have hql:=q.length
 refine call_meets PySem.F.slot_list_index ⟨_,g1,rfl⟩ PySem.F.entry_list_index (PySem.F.args_list_index_2 _ _)
  (list_indexAt a1 us.toArray n1 none #[] _ (jd x) j (by simpa using hjl) (by omega) ?_ fun k hk hkj=>?_) ⟨g1,fun y hy=>?_,⟨fz,_,M,Sub.rfl',S,.int _ _,h⟩⟩
 ·obtain⟨y,t,z1,z2⟩:=i0 hs j us[j] (List.getElem?_eq_getElem hjl)
  rw[e1] at z2;cases z2
  simp only[List.getElem_toArray,z1,jd,beq_self_eq_true]
 ·simp only[List.size_toArray] at hk
  obtain⟨y,t,z1,z2⟩:=i0 hs k us[k] (List.getElem?_eq_getElem hk)
  have:=e2 k y hkj z2
  simp only[List.getElem_toArray,z1,jd,beq_eq_false_iff_ne];exact this
 ·obtain⟨k,hk,rfl⟩:=List.mem_iff_getElem.mp (List.mem_toArray.mp hy)
  obtain⟨y,t,z1,z2⟩:=i0 hs k us[k] (List.getElem?_eq_getElem hk)
  rw[z1]
  exact EqAt.str_str y t x _
end
end Mine
open Sem (wp)
namespace Mine
section
variable {D:Wd}{f:Fc}{d:Nat}{m:List (Str×CV)}{M:MH}{fz:Led}{s:Shared}{Φ:CV→MH→Prop}{X:Str→MH→Prop}
variable {prog:Program}{w:World}{A:Around}{E:Value→Shared→Prop}
theorem jP{cls:Str→Option Addr}{v:Value}(r:VR cls fz .dct v):∃a n,v=.ref a∧(a,dictOf [] n)∈fz∧(a == sysModules)=false:=by
 cases r with|dct h hs=>exact⟨_,_,rfl,h,hs⟩
theorem SS.fzat(S:SS D f fz m M s){a:Addr}{o:Obj}(h:(a,o)∈fz):s.heap.get? a=some o:=by
 walk_at "cr"
 exact(H.N _ (H.mem_fz h)).1
theorem qh{nm:String}{d o:Addr}{n n':Nat}{Q:Unit→Shared→Prop}(hd:s.heap.get? d=some (dictOf [] n))(ho:s.heap.get? o=some (dictOf [] n'))(hoS:(o == sysModules)=false)(h:Q () s) :
  wpAny (model prog w) A (Builtin.Dict.mergeDict nm d o) Q E s:=by
 unfold Builtin.Dict.mergeDict
 by_cases e:d=o
 ·rw[if_pos (by simpa using e)]
  exact wpAny_bind (wpAny_rule (wpAny_pure h))
 rw[if_neg (by simpa using e)]
 unfold Builtin.Dict.showsAll
 rw[if_neg (by rw[hoS];exact Bool.false_ne_true)]
 refine wpAny_bind (wpAny_pure ?_)
 refine wpAny_bind (wpAny_dictEntries ho rfl ?_)
 dsimp only
 rw[if_neg (by simp)]
 refine wpAny_bind (wpAny_dictEpoch ho rfl ?_)
 refine wpAny_bind (wpAny_dictEntries ho rfl ?_)
 refine wpAny_bind ?_
 rw[Std.Legacy.Range.forIn_eq_forIn_range']
 exact wpAny_pure (wpAny_pure h)
theorem uA{h:Heap}{d:Addr}{n:Nat}(hd:h.get? d=some (dictOf [] n)):h.DictAt (strKind prog w) d [] n:=⟨_,#[],hd,⟨rfl,rfl,rfl⟩,rfl,fun _ he=>by simp at he,Pairs.nil,List.nodup_nil⟩
theorem m6{d:Addr}{n:Nat}(hd:s.heap.get? d=some (dictOf [] n)):s.TypeIs (.ref d) "dict":=⟨_,hd,rfl⟩
theorem jq{nm:String}{d o:Addr}{n n':Nat}{res:Value}{Q:Fin→Shared→Prop}(hd:s.heap.get? d=some (dictOf [] n))(ho:s.heap.get? o=some (dictOf [] n'))(hoS:(o == sysModules)=false)(h:Q (.done (.ret res)) s) :
  wpAny (model prog w) A (Builtin.Dict.updateFrom nm d (.ref o) [] res) Q E s:=by
 have hT:=m6 (s:=s) ho
 unfold Builtin.Dict.updateFrom
 refine wpAny_bind (wpAny_typeOf hT ?_)
 rw[if_neg (by decide)]
 refine wpAny_bind ?_
 unfold Builtin.Dict.merge
 refine wpAny_bind ?_
 unfold Builtin.Dict.readDirectly
 refine wpAny_bind (wpAny_isInstance hT isSubtype_dict_dict ?_)
 simp only[Bool.not_true,Bool.false_eq_true,if_false]
 refine wpAny_bind (wpAny_specialOf hT PySem.F.slot_dict_iter.lookup (wpAny_pure ?_))
 simp only[beq_self_eq_true,if_true]
 refine wpAny_bind (wpAny_pure ?_)
 refine qh hd ho hoS ?_
 show wpAny _ _ (Builtin.Dict.addKeywords d [] >>= _) _ _ _
 exact wpAny_bind (wpAny_pure (wpAny_pure h))
theorem nE(d o:Addr)(n n':Nat)(hoS:(o == sysModules)=false) :
  Meets (Builtin.«dict.update» ⟨[.ref d,.ref o],[]⟩) (fun _ R s=>s.heap.get? d=some (dictOf [] n)∧s.heap.get? o=some (dictOf [] n')∧R (.ok (.ret .none)) s):=
 .of_wp fun prog w A R s ⟨hd,ho,h⟩=>by
  unfold Builtin.«dict.update»
  walk_at "cn"
  show wpAny _ _ (Builtin.Dict.updateFrom "dict.update" d (.ref o) [] .none) _ _ s
  exact jq hd ho hoS ⟨.none,rfl,h⟩
theorem sW(h:Φ .none M):WO D f d (fun vs=>call (.builtin "dict.update") vs) [.dct,.dct] M Φ X:=by
 intro fz m A s us a S r
 obtain⟨v,w,rfl,q1,q2⟩:=r.two
 obtain⟨x,n,rfl,h1,e1⟩:=jP q1
 obtain⟨y,n',rfl,h2,e2⟩:=jP q2
 exact call_meets PySem.F.slot_dict_update (m6 (S.fzat h1)) PySem.F.entry_dict_update (PySem.F.args_dict_update_2 _ _) (nE x y n n' e2) ⟨S.fzat h1,S.fzat h2,⟨fz,_,M,Sub.rfl',S,.none,h⟩⟩
theorem vX:WG D f d "update" .dct M (.builtin "dict.update"):=by
 intro fz m A s v pl Q E a S r hq
 obtain⟨x,n,rfl,h1,e1⟩:=jP r
 exact getMethod_builtin (m6 (S.fzat h1)) PySem.F.plainAttrs_dict PySem.F.slot_dict_update PySem.F.type_dict_update (fun a e=>by cases e;exact⟨_,S.fzat h1,rfl⟩) (hq s S)
theorem yP{p:Pos}(h:Φ .dct M):WE D f d (.Dict [] [] p) m M Φ X:=by
 intro fz A s a S
 walk_at "ak"
 walk_at "aO"
 exact wpAny_Dict_empty ⟨(_,dictOf [] 0)::fz,_,M,fun p hp=>.tail _ hp,⟨⟨mr,cells,fo,ml,H.pushF (H.F.push _) (News.push H.F H.N _) lt⟩,g,o⟩,.dct (.head _) (H.F.notModules (modules_low D.T.nolimit)),h⟩
end
end Mine
open Sem (wp)
namespace Mine
theorem mj:mroOf (.type "dict")=pure [.type "dict",.type "object"]:=by rw[mroOf_type];kernel_rfl
theorem lC:typeLookup (.type "dict") "__new__" = pure (some (.builtin "dict.__new__")):=by rw[typeLookup_type,builtinLookup_eq_fast];kernel_rfl
theorem qV:TypeCalled "dict" "dict.__new__" "dict.__init__":=
 ⟨by decide +kernel,by decide +kernel,⟨_,_,mj⟩,madeBy_type mj lC (by decide +kernel),by decide +kernel,by rw[isSubtype_type];kernel_rfl,PySem.F.slot_dict_init⟩
theorem lz(a:Value):checkTypeCall "dict" ⟨[a],[]⟩=pure ():=by kernel_rfl
theorem mi(a:Value):checkBuiltinCall "dict.__new__" ⟨[.type "dict",a],[]⟩=pure ():=by kernel_rfl
theorem m5:entryFor table "dict.__new__" = some Builtin.«dict.__new__»:=entryFor_of_tree (by kernel_rfl)
theorem nB:isSubtype (.type "dict") (.type "dict")=pure true:=by rw[isSubtype_type];kernel_rfl
theorem mq(x:Value):Meets (Builtin.«dict.__new__» ⟨[.type "dict",x],[]⟩) (fun _ R s=>R (.ok (.ret (.ref s.heap.objs.size))) { s with heap:=s.heap.push { cls:=.type "dict",data:=.dict #[] } }):=
 .of_wp fun prog w A R s h=>by
  obtain⟨hp,g,d,tk,os⟩:=s
  have hsub:=nB
  have hm:=mj
  wp_walk
  exact⟨_,rfl,h⟩
theorem lB(d o:Addr)(n n':Nat)(hoS:(o == sysModules)=false) :
  Meets (Builtin.«dict.__init__» ⟨[.ref d,.ref o],[]⟩) (fun _ R s=>s.heap.get? d=some (dictOf [] n)∧s.heap.get? o=some (dictOf [] n')∧R (.ok (.ret .none)) s):=
 .of_wp fun prog w A R s ⟨hd,ho,h⟩=>by
  unfold Builtin.«dict.__init__»
  walk_at "cn"
  show wpAny _ _ (Builtin.Dict.updateFrom "dict.__init__" d (.ref o) [] .none) _ _ s
  exact jq hd ho hoS ⟨.none,rfl,h⟩
section
variable {D:Wd}{f:Fc}{d:Nat}{m:List (Str×CV)}{M:MH}{fz:Led}{s:Shared}{Φ:CV→MH→Prop}{X:Str→MH→Prop}
theorem yK(h:Φ .dct M):WO D f d (fun vs=>call (.type "dict") vs) [.dct] M Φ X:=by
 intro fz m A s us a S r
 obtain⟨v,rfl,q1⟩:=r.one
 obtain⟨x,n,rfl,h1,e1⟩:=jP q1
 have hx:=S.fzat h1
 walk_at "ak"
 walk_at "aO"
 refine callType_meets (Q₁:=fun obj s₁=>obj=.ref s.heap.objs.size∧s₁={ s with heap:=s.heap.push { cls:=.type "dict",data:=.dict #[] } }) qV (lz _) (mi _) m5 PySem.F.entry_dict_init (mq _) ⟨rfl,rfl⟩ fun obj s₁ h₁=>?_
 obtain⟨rfl,rfl⟩:=h₁
 have hS:(s.heap.push { cls:=.type "dict",data:=.dict #[] }).get? s.heap.objs.size=some (dictOf [] 0):=Heap.get?_push_size _ rfl
 exact⟨⟨_,hS,rfl⟩,PySem.F.args_dict_init_2 _ _,_,lB _ x 0 n e1,hS,Heap.get?_push_of_some _ hx,rfl,
  ⟨(_,dictOf [] 0)::fz,_,M,fun p hp=>.tail _ hp,⟨⟨mr,cells,fo,ml,H.pushF (H.F.push _) (News.push H.F H.N _) lt⟩,g,o⟩,.dct (.head _) (H.F.notModules (modules_low D.T.nolimit)),h⟩⟩
end
end Mine
open Sem (wp)
namespace Mine
section
variable {prog:Program}{w:World}{A:Around}{E:Value→Shared→Prop}{s:Shared}
set_option maxHeartbeats 4000000 in
theorem nI(hh:A.handled=none){d:Addr}{n:Nat}{Q:List Value→Shared→Prop}(hd:s.heap.get? d=some (dictOf [] n))(lo:(d == sysModules)=false)
  (hQ:∀h' tk,(∀b o,s.heap.get? b=some o→h'.get? b=some o)→s.heap.objs.size≤h'.objs.size→Q [] { s with heap:=h',toks:=tk }):wpAny (model prog w) A (collect (.ref d)) Q E s:=by
 unfold collect
 refine wpAny_bind (wpAny_runValue (codeAny_builtin PySem.F.entry_proto_collect ?_))
 rw[Around.under_plainId PySem.F.plain_proto_collect _]
 show wpAny _ A.in1 (newList [] >>= fun l=>again (.builtin "list.__iadd__" ⟨[l,.ref d],[]⟩)) _ _ s
 refine wpAny_bind (wpAny_newObj_type ?_)
 refine wpAny_pure ⟨plainId_quiet PySem.F.plain_list_iadd _,codeAny_builtin PySem.F.entry_list_iadd ?_⟩
 rw[Around.under_plainId PySem.F.plain_list_iadd _]
 have hS₁:(s.heap.push { cls:=.type "list",data:=.seq ([]:List Value).toArray }).get? s.heap.objs.size=some { cls:=.type "list",data:=.seq ([]:List Value).toArray }:=Heap.get?_push_size _ rfl
 have hd₁:(s.heap.push { cls:=.type "list",data:=.seq ([]:List Value).toArray }).get? d=some (dictOf [] n):=Heap.get?_push_of_some _ hd
 have hdS:s.heap.objs.size≠d:=fun e=>Nat.lt_irrefl _ (e▸Heap.lt_size hd)
 have h1:Builtin.List.listSameRef (.ref s.heap.objs.size) (.ref d)=false:=by simp[Builtin.List.listSameRef,hdS]
 show wpAny _ A.in1 (Builtin.List.listExtendWith (.ref s.heap.objs.size) (.ref d) (.ref s.heap.objs.size)) _ _ _
 unfold Builtin.List.listExtendWith
 refine wpAny_bind (wpAny_typeOf (T:= "dict") ⟨_,hd₁,rfl⟩ ?_)
 rw[if_neg (by rw[h1];decide)]
 refine wpAny_bind (wpAny_pyIter_dict (knd:=strKind prog w) (kvs:=[]) (ep:=n) lo (uA hd₁) ?_)
 refine wpAny_bind (wpAny_holding ?_)
 unfold Builtin.List.listLengthHint
 have hd₂:((s.heap.push { cls:=.type "list",data:=.seq ([]:List Value).toArray }).push { cls:=.type "dict_keyiterator",data:=.fields #[.ref d,.int 0 0,.int ((List.length ([]:List (Str×Value)):Nat)) 0,.int n 0] }).get? d=some (dictOf [] n):=Heap.get?_push_of_some _ hd₁
 refine wpAny_bind (wpAny_specialOf (T:= "dict") ⟨_,hd₂,rfl⟩ PySem.F.slot_dict_len.lookup ?_)
 generalize hid:("dict.__len__" : String)=id0
 dsimp only
 rw[show splitId id0=some ("dict","__len__") from by subst hid;decide +kernel]
 dsimp only
 refine wpAny_bind (wpAny_isInstance (b:=true) (T:= "dict") ⟨_,hd₂,rfl⟩ (by rw[isSubtype_type];kernel_rfl) ?_)
 subst hid
 rw[if_neg (by decide),if_pos (by decide +kernel)]
 refine wpAny_bind (wpAny_typeOf (T:= "dict") ⟨_,hd₂,rfl⟩ ?_)
 refine wpAny_pure ?_
 rw[if_pos (by decide +kernel)]
 refine wpAny_bind (wpAny_rule ?_)
 unfold Builtin.List.listTouch
 have hS₂:((s.heap.push { cls:=.type "list",data:=.seq ([]:List Value).toArray }).push { cls:=.type "dict_keyiterator",data:=.fields #[.ref d,.int 0 0,.int ((List.length ([]:List (Str×Value)):Nat)) 0,.int n 0] }).get? s.heap.objs.size=some { cls:=.type "list",data:=.seq ([]:List Value).toArray }:=Heap.get?_push_of_some _ hS₁
 refine wpAny_bind (wpAny_bind (listUpdate_at hS₂ rfl ?_ (Nat.zero_le _) (by decide)))
 have hS₃:=Heap.get?_update_self (Obj.mapSeq (fun x=>x.push Value.none)) hS₂ rfl
 refine listUpdate_at hS₃ rfl ?_ (by decide) (by decide)
 have hS₄:=Heap.get?_update_self (Obj.mapSeq (fun x=>x.pop)) hS₃ rfl
 have hne:∀b,b≠s.heap.objs.size→∀o,((s.heap.push { cls:=.type "list",data:=.seq ([]:List Value).toArray }).push { cls:=.type "dict_keyiterator",data:=.fields #[.ref d,.int 0 0,.int ((List.length ([]:List (Str×Value)):Nat)) 0,.int n 0] }).get? b=some o →
   ((((s.heap.push { cls:=.type "list",data:=.seq ([]:List Value).toArray }).push { cls:=.type "dict_keyiterator",data:=.fields #[.ref d,.int 0 0,.int ((List.length ([]:List (Str×Value)):Nat)) 0,.int n 0] }).update s.heap.objs.size (Obj.mapSeq (fun x=>x.push Value.none))).update s.heap.objs.size (Obj.mapSeq (fun x=>x.pop))).get? b=some o:=fun b hb o e=>
  (Heap.get?_update_other _ _ (Ne.symm hb)).trans ((Heap.get?_update_other _ _ (Ne.symm hb)).trans e)
 have hsz1:(s.heap.push { cls:=.type "list",data:=.seq ([]:List Value).toArray }).objs.size=s.heap.objs.size+1:=Heap.size_push ..
 have W:=(Walks.dictKeys (prog:=prog) (w:=w) (knd:=strKind prog w) (A:=A.in1) hh (s.heap.objs.size+1) d (fun e=>by have h:=Heap.lt_size hd;rw[e] at h;exact absurd h (Nat.not_lt.mpr (Nat.le_succ _))) [] n).toS
 have hIS:s.heap.objs.size+1≠s.heap.objs.size:=Nat.succ_ne_self _
 have hIt:((s.heap.push { cls:=.type "list",data:=.seq ([]:List Value).toArray }).push { cls:=.type "dict_keyiterator",data:=.fields #[.ref d,.int 0 0,.int ((List.length ([]:List (Str×Value)):Nat)) 0,.int n 0] }).get? (s.heap.objs.size+1)=some { cls:=.type "dict_keyiterator",data:=.fields #[.ref d,.int 0 0,.int ((List.length ([]:List (Str×Value)):Nat)) 0,.int n 0] }:=by
  rw[←hsz1];exact Heap.get?_push_size _ rfl
 have hSf:s.heap.objs.size∉[s.heap.objs.size+1,d]:=fun h=>by
  rcases List.mem_cons.mp h with h|h
  ·exact hIS h.symm
  ·exact hdS (List.mem_singleton.mp h)
 rw[hsz1]
 refine wpAny_pure ⟨plainId_quiet PySem.F.plain_extend_loop _,codeAny_extend_loopS W (Nat.zero_le _) _ hSf _ 0 0 _ #[] _ rfl (Nat.le_refl _) ⟨⟨_,hne _ hIS _ hIt,rfl,rfl⟩,uA (hne _ (Ne.symm hdS) _ hd₂)⟩ hS₄ (ItemsOf.nil _) fun s' acc' c' hm hS' hacc=>?_⟩
 show wpAny _ A (load s.heap.objs.size >>= _) _ _ s'
 refine wpAny_bind (wpAny_load hS' ?_)
 have hz:acc'.toList=[]:=by
  have:=hacc.1
  exact List.length_eq_zero_iff.mp (by simpa using this)
 show wpAny _ A (pure acc'.toList) _ _ _
 rw[hz]
 refine wpAny_pure ?_
 obtain⟨m1,m2,m3,m4,_⟩:=hm
 have e:s'={ s with heap:=s'.heap,toks:=s'.toks }:=by
  obtain⟨h',g',d',t',o'⟩:=s'
  simp only at m2 m3 m4
  rw[m2,m3,m4]
 rw[e]
 refine hQ _ _ (fun b o hb=>?_) (Nat.le_of_lt (Heap.lt_size hS'))
 have hlt:=Heap.lt_size hb
 refine m1 b o (fun h=>?_) (hne b (Nat.ne_of_lt hlt) o (Heap.get?_push_of_some _ (Heap.get?_push_of_some _ hb)))
 rcases List.mem_cons.mp h with h|h
 ·rw[h] at hlt;exact Nat.lt_irrefl _ hlt
 ·rw[List.mem_singleton.mp h] at hlt;exact absurd hlt (Nat.not_lt.mpr (Nat.le_succ _))
theorem zG(hh:A.handled=none){d:Addr}{n:Nat}{Q:Value→Shared→Prop}(hd:s.heap.get? d=some (dictOf [] n))(lo:(d == sysModules)=false)
  (hQ:∀h' tk a e,(∀b o,s.heap.get? b=some o→h'.get? b=some o)→s.heap.objs.size≤a→h'.get? a=some (be [] e)→Q (.ref a) { s with heap:=h',toks:=tk }):wpAny (model prog w) A (call (.builtin "sorted") [.ref d]) Q E s:=by
 refine Calls.call_function_entry kind_sorted plain_sorted entry_sorted (args_sorted1 _) ?_
 unfold Builtin.«sorted»
 refine wpAny_bind (m:=checkCount "sorted" 1 1 _) (wpAny_pure ?_)
 refine wpAny_bind (m:=collect (.ref d)) (nI (A:=A.in1) hh hd lo fun h' tk k hsz=>?_)
 refine wpAny_bind (wpAny_newList ?_)
 have hoL:(h'.push (PyProof.Rows.seqObj "list" ([]:List Value).toArray 0)).get? h'.objs.size=some (PyProof.Rows.seqObj "list" ([]:List Value).toArray 0):=Heap.get?_push_size _ rfl
 show wpAny _ _ _ _ _ { s with heap:=h'.push (PyProof.Rows.seqObj "list" ([]:List Value).toArray 0),toks:=tk }
 refine wpAny_bind (wpAny_holding (wpAny_call_entry slot_list_sort ⟨_,hoL,rfl⟩ entry_list_sort (list_sort_tree (ns:=[]) hoL .nil (by decide) fun out ns' a1 a2 a3=>⟨_,rfl,?_⟩) (args_list_sort _)))
 have e1:ns'=[]:=a2.eq_nil
 subst e1
 have e2:out = #[]:=by cases out with|mk l=>cases a1;rfl
 subst e2
 obtain⟨e,he⟩:=sortedHeap_at (vs:=[]) (out:=#[]) (n:=0) hoL
 refine wpAny_pure ⟨_,rfl,hQ _ tk _ e (fun b o hb=>?_) hsz he⟩
 have hlt:=Heap.lt_size (k b o hb)
 rw[sortedHeap_old (Nat.ne_of_lt hlt) (by rw[size_push'];exact Nat.lt_succ_of_lt hlt)]
 exact Heap.get?_push_of_some _ (k b o hb)
end
section
variable {D:Wd}{f:Fc}{d:Nat}{m:List (Str×CV)}{M:MH}{fz:Led}{s:Shared}{Φ:CV→MH→Prop}{X:Str→MH→Prop}
theorem sY(hc:f.calm=true)(h:∀a,M.get a=none→Φ (.ref a) ((a,.lst [])::M)):WO D f d (fun vs=>call (.builtin "sorted") vs) [.dct] M Φ X:=by
 intro fz m A s us a S r
 obtain⟨v,rfl,q1⟩:=r.one
 obtain⟨x,n,rfl,h1,e1⟩:=jP q1
 refine zG (a.handled hc) (S.fzat h1) e1 fun h' tk ad e k hsz hg=>?_
 walk_at "ak"
 have lt:∀p∈aa fz f.pin cells fo ml [],p.1 < ad:=fun p hp=>Nat.lt_of_lt_of_le (Heap.lt_size (H.N p hp).1) hsz
 exact⟨fz,_,_,Sub.rfl',⟨⟨mr,cells,fo,_,H.pushM (lx:=[(_,be [] e)]) (H.F.kept k) (H.N.kept_cons H.F k hsz hg) (bp lt H.nd) (.lst .nil)⟩,g,o⟩,.ref _,h _ (H.noM (Heap.get?_none_of_le hsz))⟩
end
section
variable {D:Wd}{f:Fc}{d:Nat}{m:List (Str×CV)}{M:MH}{fz:Led}{s:Shared}{Φ:CV→MH→Prop}{X:Str→MH→Prop}
theorem yG{c:CV}{t:Bool}{vs:List CV}(hg:aY M c=some (t,vs))(hz:vs.length≤1000)(h:Φ (.tup vs) M):WO D f d (fun vs=>call (.type "tuple") vs) [c] M Φ X:=by
 intro fz m A s us a S r
 obtain⟨v,rfl,r'⟩:=r.one
 obtain⟨a1,us,n1,rfl,g1,q⟩:=S.seq r' hg
 cases t with
 |true=>
  refine call_tuple_same (bg g1) ⟨fz,_,M,Sub.rfl',S,?_,h⟩
  cases c<;>simp only[aY,Option.some.injEq,Prod.mk.injEq,reduceCtorEq,Bool.true_eq_false,Bool.false_eq_true,false_and] at hg
  ·obtain⟨_,rfl⟩:=hg;exact r'
  ·split at hg<;>simp at hg
 |false=>
  have S0:=S
  walk_at "ak"
  refine call_tuple_list (aR g1) (fun h' k=>?_) (by rw[List.size_toArray];exact cD (q.length▸hz))
  obtain⟨⟨mr2,cells2,fo2,ml2,H2⟩,g2,o2⟩:=S0.kept k s.toks
  have lt:∀p∈aa fz f.pin cells2 fo2 ml2 [],p.1 < h'.objs.size:=fun p hp=>Heap.lt_size (H2.N p hp).1
  exact⟨(_,iF us 0)::fz,_,M,fun p hp=>.tail _ hp,⟨⟨mr2,cells2,fo2,ml2,H2.pushF (H2.F.push _) (H2.N.push H2.F _) lt⟩,g2,o2⟩,.tup (.head _) (q.mono fun p hp=>.tail _ hp),h⟩
end
section
variable {D:Wd}{f:Fc}{d:Nat}{m:List (Str×CV)}{M:MH}{fz fz':Led}{s:Shared}{Φ:CV→MH→Prop}{X:Str→MH→Prop}{A:Around}
theorem AC{n:Nat}(i:Int):(bif decide (i < 0) then (i+n).toNat else min i.toNat n)=clipAt n i:=by
 unfold clipAt
 by_cases h:i < 0
 ·rw[decide_eq_true h,cond_true,if_pos h];omega
 ·rw[decide_eq_false h,cond_false,if_neg h];omega
theorem kh{α:Type}{vs:List α}{lo hi:Option Int}:dQ vs lo hi=(vs.drop (lo.elim 0 (clipAt vs.length))).take (hi.elim vs.length (clipAt vs.length) - lo.elim 0 (clipAt vs.length)):=by
 unfold dQ
 simp only[AC]
 cases lo<;>cases hi<;>rfl
theorem VRs.drop{cls:Str→Option Addr}:∀{n:Nat} {cs:List CV} {vs:List Value},VRs cls fz cs vs→VRs cls fz (cs.drop n) (vs.drop n)
 |0,_,_,h=>h
 |n+1,_,_,.nil=>.nil
 |n+1,_,_,.cons _ k=>VRs.drop (n:=n) k
theorem VRs.take{cls:Str→Option Addr}:∀{n:Nat} {cs:List CV} {vs:List Value},VRs cls fz cs vs→VRs cls fz (cs.take n) (vs.take n)
 |0,_,_,h=>by simpa using VRs.nil
 |n+1,_,_,.nil=>.nil
 |n+1,_,_,.cons a k=>.cons a (VRs.take (n:=n) k)
def partV(fz:Led)(cls:Str→Option Addr):Option Int→Value→Prop
 |none,v=>v=.none
 |some i,v=>VR cls fz (.int i) v
theorem partV.isPart{cls:Str→Option Addr}{a:Option Int}{v:Value}(h:partV fz cls a v):IsPart v a:=by
 cases a with
 |none=>obtain rfl:=h;exact .none
 |some i=>cases h;exact .int _ _
theorem partV.mono{cls:Str→Option Addr}{a:Option Int}{v:Value}(h:partV fz cls a v)(k:Sub fz fz'):partV fz' cls a v:=by
 cases a with
 |none=>exact h
 |some i=>exact VR.mono k h
def WP(D:Wd)(f:Fc)(d:Nat)(e:Option PySem.Expr)(m:List (Str×CV))(M:MH)(Φ:Option Int→MH→Prop)(X:Str→MH→Prop):Prop:=match e with
 |none=>Φ none M
 |some e=>WE D f d e m M (fun c M'=>∃i,c=.int i∧Φ (some i) M') X
theorem WP.run{e:Option PySem.Expr}{Ψ:Option Int→MH→Prop}(h:WP D f d e m M Ψ X)(a:AOk f d A)(S:SS D f fz m M s) :
  wpAny (model D.prog D.w) A (evalPart e f.env) (fun v s'=>∃fz' i M',Sub fz fz'∧SS D f fz' m M' s'∧partV fz' D.cls i v∧Ψ i M') (XP D f fz X) s:=by
 cases e with
 |none=>exact wpAny_pure ⟨fz,none,M,Sub.rfl',S,rfl,h⟩
 |some e=>
  rw[evalPart_some]
  refine wpAny_mono (h fz A s a S) (fun v s' z=>?_) fun _ _ z=>z
  obtain⟨f1,c,M1,k1,S1,r1,i,rfl,z⟩:=z
  exact⟨f1,some i,M1,k1,S1,r1,z⟩
theorem yM{v:PySem.Expr}{lo hi:Option PySem.Expr}{p pos:Pos}
  (h:WE D f d v m M (fun oc M1=>WP D f d lo m M1 (fun a M2=>WP D f d hi m M2 (fun b M3=>∃vs,aY M3 oc=some (false,vs)∧vs.length≤1000∧∀ad,M3.get ad=none→Φ (.ref ad) ((ad,.lst (dQ vs a b))::M3)) X) X) X) :
  WE D f d (.Subscript v (.Slice lo hi none p) pos) m M Φ X:=by
 walk_at "ce"
 refine wpAny_Slice (wpAny_mono (w1.run a S1) (fun lv s₂ h₂=>?_) fun _ _ z=>z.sub k1)
 obtain⟨f2,ia,M2,k2,S2,r2,w2⟩:=h₂
 refine wpAny_mono (w2.run a S2) (fun uv s₃ h₃=>?_) fun _ _ z=>z.sub (k1.tr k2)
 obtain⟨f3,ib,M3,k3,S3,r3,vs,e1,hz,hq⟩:=h₃
 refine wpAny_pure (wpAny_bind (wpAny_standAt ?_))
 have hk:∀b o,s₃.heap.get? b=some o→(s₃.heap.push { cls:=.type "slice",data:=.fields #[lv,uv,.none] }).get? b=some o:=fun b o e=>Heap.get?_push_of_some _ e
 have S4:=S3.kept hk s₃.toks
 obtain⟨a1,us,n1,rfl,g1,q⟩:=S4.seq (r1.mono (k2.tr k3)) e1
 have hlen:=q.length
 obtain⟨⟨mr,cells,fo,ml,H⟩,g,o⟩:=S4
 have lt:∀p∈aa f3 f.pin cells fo ml [],p.1 < (s₃.heap.push { cls:=.type "slice",data:=.fields #[lv,uv,.none] }).objs.size:=fun p hp=>Heap.lt_size (H.N p hp).1
 have core:wpAny (model D.prog D.w) A (getItem (.ref a1) (.ref s₃.heap.objs.size)) (VP D f f3 m Φ) (XP D f f3 X) { s₃ with heap:=s₃.heap.push { cls:=.type "slice",data:=.fields #[lv,uv,.none] } }:=by
  refine wpAny_getItem_list_slice (aR g1) (Heap.IsSliceOf.new ..) ((r2.mono k3).isPart) r3.isPart .none (by simp) ?_ (by rw[List.size_toArray];exact cD (hlen▸hz))
  have e:slicePick us.toArray ia ib none=(dQ us ia ib).toArray:=by rw[slicePick_plain,kh];simp only[List.size_toArray]
  rw[e]
  have qs:VRs D.cls f3 (dQ vs ia ib) (dQ us ia ib):=by rw[kh,kh,hlen];exact q.drop.take
  exact⟨f3,_,_,Sub.rfl',⟨⟨mr,cells,fo,_,H.pushM (lx:=[(_,be (dQ us ia ib) 0)]) (H.F.push _) (News.push H.F H.N _) (bp lt H.nd) (.lst qs)⟩,g,o⟩,.ref _,hq _ (H.noM (Heap.get?_none_of_le (Nat.le_refl _)))⟩
 refine wpAny_mono (Q:=VP D f f3 m Φ) (E:=XP D f f3 X) ?_ (fun _ _ z=>z.sub (k1.tr (k2.tr k3))) fun _ _ z=>z.sub (k1.tr (k2.tr k3))
 have hT:Shared.TypeIs { s₃ with heap:=s₃.heap.push { cls:=.type "slice",data:=.fields #[lv,uv,.none] } } (.ref a1) "list":=(aR g1).typeIs
 refine wpAny_bind ?_
 rw[getitemInPython_of_ne hT.not_modules]
 refine wpAny_bind (wpAny_specialOf hT list_getitem_lookup ?_)
 refine wpAny_pure (wpAny_bind ?_)
 show wpAny _ _ (operate [_,_] (getItem _ _)) _ _ _
 exact wpAny_operating (wpAny_mono core (fun r s₃ h₃=>wpAny_bind (wpAny_letTemporaryGo (wpAny_pure h₃))) fun _ _ x=>x)
theorem ja:typeLookup (.type "str") "__getitem__" = pure (some (.builtin "str.__getitem__")):=PySem.F.slot_str_getitem.lookup
def Ie(M:MH)(oc ic:CV)(Φ:CV→Prop):Prop:=(∃t vs k v,aY M oc=some (t,vs)∧ic=.int k∧vs.length≤1000∧nth vs k=some v∧Φ v)∨(∃x i c,oc=.str x∧ic=.int i∧x.length≤1000∧bP x.cps.toList i=some c∧Φ (.str ⟨#[c]⟩))
theorem AY{value slice:PySem.Expr}{pos:Pos}(h:WE D f d value m M (fun oc M1=>WE D f d slice m M1 (fun ic M2=>Ie M2 oc ic fun v=>Φ v M2) X) X)
  (hs:∀o i,subscripted slice false o i=operate [o,i] (getItem o i)):WE D f d (.Subscript value slice pos) m M Φ X:=by
 walk_at "ce"
 refine wpAny_mono (w1 f1 A s₁ a S1) (fun iv s₂ h₂=>wpAny_bind (wpAny_standAt ?_)) fun _ _ z=>z.sub k1
 obtain⟨f2,ic,M2,k2,S2,r2,h₃⟩:=h₂
 refine wpAny_mono (Q:=VP D f f2 m Φ) (E:=XP D f f2 X) ?_ (fun _ _ z=>z.sub (k1.tr k2)) fun _ _ z=>z.sub (k1.tr k2)
 rcases h₃ with ⟨t,vs,k,v,e1,rfl,hz,hn,hq⟩|⟨x,i,c,rfl,rfl,hz,hn,hq⟩
 ·cases r2
  obtain⟨hT,hw⟩:=qy (A:=A) (X:=X) S2 (r1.mono k2) e1 hz hn hq (tk:=_)
  cases t with
  |true=>exact lU hT gJ (hs _ _) hw
  |false=>exact lU hT list_getitem_lookup (hs _ _) hw
 cases r2
 cases r1
 have hx:x.cps.toList.length=x.length:=by simp[Str.length]
 have hb:(seqIndex? i x.length).bind (x.cps[·]?)=some c∧-1001≤i∧i≤1000:=by
  unfold bP at hn
  rw[hx] at hn
  by_cases h0:0≤i
  ·rw[decide_eq_true h0,cond_true] at hn
   walk_at "dl"
   simp only[if_neg (show ¬ i < 0 by omega)]
   rw[if_pos (by simp;omega)]
   simpa using hn
  ·rw[decide_eq_false h0,cond_false] at hn
   by_cases h1:0≤i+x.length
   ·rw[decide_eq_true h1,cond_true] at hn
    walk_at "dl"
    simp only[if_pos (show i < 0 by omega)]
    rw[if_pos (by simp;omega)]
    simpa using hn
   ·rw[decide_eq_false h1,cond_false] at hn;cases hn
 exact lU (typeIs_str _ _ _) ja (hs _ _) (PySem.P.getItem_str (by rw[decide_eq_false (by omega),decide_eq_false (by omega)];rfl) hb.1 ⟨f2,_,M2,Sub.rfl',S2,.str _ _,hq⟩)
theorem t8{vs:List CV}{k:Int}:bP vs k=nth vs k:=by
 unfold bP nth
 by_cases h:0≤k
 ·rw[decide_eq_true h,if_pos h];rfl
 ·rw[decide_eq_false h,if_neg h,cond_false]
  by_cases h1:0≤k+vs.length
  ·rw[decide_eq_true h1,if_pos h1];rfl
  ·rw[decide_eq_false h1,if_neg h1];rfl
theorem zU{as:List Addr}{q:Sq}{cs:List CV}{k:Int}{a:AV}(h:RVs as q.all cs)(e:q.nth k=some a):∃c,nth cs k=some c∧RV as a c:=by
 have key:∀{l:List AV},RVs as l cs→bP l k=some a→∃c,nth cs k=some c∧RV as a c:=fun {l} h e=>by
  rw[←t8]
  unfold bP at e ⊢
  have hl:=h.length
  by_cases h0:0≤k
  ·rw[decide_eq_true h0,cond_true] at e ⊢
   exact h.get e
  ·rw[decide_eq_false h0,cond_false] at e ⊢
   rw[←hl]
   cases q:decide (0≤k+(l.length:Int)) with
   |true=>rw[q,cond_true] at e;rw[cond_true];exact h.get e
   |false=>rw[q] at e;cases e
 cases q with
 |a t l=>exact key h e
 |f t vs=>
  obtain rfl:=RVs.inv_v h
  simp only[Sq.nth] at e
  cases hc:bP cs k with
  |none=>rw[hc] at e;cases e
  |some c=>rw[hc] at e;cases e;exact⟨c,by rw[←t8];exact hc,.v c⟩
end
structure FOk(f:Fc)(cx:Cx):Prop where
 glob:∀x,lkA x cx.sc.names=some .globalImplicit→f.env.kindOf x=some .globalImplicit
 loc:∀x,lkA x cx.sc.names=some .local→f.env.kindOf x=some .local
 own:∀x,lkA x cx.sc.names=some .cell→f.env.kindOf x=some .cell∧f.own=f.env.cells∧(f.env.cells.lookup x).isSome=true
 calm:cx.hot=false→f.calm=true
 inter:interactive f.env=false
def pd(K:Frag)(tx:Tx):Bool:=
 ([0,1,2,3,4,5,6].all fun s=>([0,1,2].all fun t=>kitOne K (.type (tyS s)) (.type (tyS t)) == some (Nat.beq s t||(Nat.beq s 4&&Nat.beq t 0)))&&tx.clss.all fun C=>kitOne K (.type (tyS s)) (.ref C) == some false) &&
  tx.mro.all fun p=>ug K p.2.1&&(([0,1,2].all fun t=>kitOne K (.ref p.2.1) (.type (tyS t)) == some false)&&tx.clss.all fun C=>kitOne K (.ref p.2.1) (.ref C) == some (nIn C p.2.2))
structure rD(D:Wd)(tx:Tx):Prop where
 glob:∀x c,lkA x tx.globs=some c→(∃v,nsIn D.K mainGlobals x=some (some v)∧VR D.cls [] c v) ∨
  (∃v,nsIn D.K mainGlobals x=some none∧c=.st v∧bootBuiltins x=some v∧x ≠ "__name__" ∧ handedIn v=true∧(v == Value.none)=false)
 dbg:∀x c,lkA x tx.globs=some c→(x == ("__debug__" : Str))=false
 flds:∀cn l x,lkA cn tx.flds=some l→x∈l→E8 D cn x
 meth:∀cn ms x fa,lkA cn tx.meths=some ms→lkA x ms=some fa→Ij D cn x fa∧cU D.K (.ref fa)=true
 isi:pd D.K tx=true
 own:∀cn p,lkA cn tx.mro=some p→D.cls cn=some p.1
 kt:∀a l,lkN a tx.ktups=some l→E6 D.K a l
 exc:∃C fI,tL D C fI∧Fb D C∧nsIn D.K mainGlobals "SqlError" = some (some (.ref C))
def SpecOk(D:Wd)(d:Nat)(fa:Addr)(S:aE):Prop:=∀as args kws Mh (k:K1) (X:KX) M cs ck,RVs as args cs→RF as kws ck→RM as Mh M→S args kws Mh k X →
 FnC D d (.ref fa) cs (kws.map (·.1)) (ck.map (·.2)) M (PostV as M k) (PostX as M X)
structure TbOk(D:Wd)(d:Nat)(T:Tb):Prop where
 tx:rD D T.tx
 fns:∀a S,lkN a T.fns=some S→SpecOk D d a S∧cU D.K (.ref a)=true
section
variable {D:Wd}{f:Fc}{d:Nat}{as:List Addr}{Mh:AM}{M:MH}{k:K1}{X:KX}{kb:KB}{Y:Str→MH→Prop}
theorem WO2.mono{Φ Ψ:CV→MH→Prop}{X Y:Str→MH→Prop}{t:Value→Value→Sem Value}{c e:CV}(h:WO2 D f d t c e M Φ X)(k:∀c M,Φ c M→Ψ c M)(l:∀c M,X c M→Y c M):WO2 D f d t c e M Ψ Y:=fun fz m A s v w a S r r2=>
 wpAny_mono (h fz m A s v w a S r r2) (fun _ _ ⟨p,q,r,g,u,t,z⟩=>⟨p,q,r,g,u,t,k _ _ z⟩) (fun _ _ ⟨p,q,r,g,u,t,y,z⟩=>⟨p,q,r,g,u,t,y,l _ _ z⟩)
theorem VRs.two_inv{a b:AV}{cs:List CV}(h:RVs as [a,b] cs):∃c e,cs=[c,e]∧RV as a c∧RV as b e:=by
 cases h with|cons x y=>cases y with|cons z w=>cases w;exact⟨_,_,rfl,x,z⟩
theorem VRs.one_inv{a:AV}{cs:List CV}(h:RVs as [a] cs):∃c,cs=[c]∧RV as a c:=by
 cases h with|cons x y=>cases y;exact⟨_,rfl,x⟩
theorem gz(r:RM as Mh M){o:AO}{mo:MO}(hl:o≠.gone)(ro:RO as o mo)(h:k (.ref Mh.length) (Mh++[o])):∀a,M.get a=none→PostV as M k (.ref a) ((a,mo)::M):=fun a hn=>
 ⟨_,_,_,Step.push hn,r.push hl ro hn,.ref (by rw[bq,if_pos r.len.symm]),h⟩
theorem fj{α:Type}{o:Option α}{p:α→Prop}(h:fG o p):∃v,o=some v∧p v:=by
 cases o with
 |none=>exact h.elim
 |some v=>exact⟨v,rfl,h⟩
theorem af{α:Type}{o:Option α}{p:α→Prop}{v:α}(e:o=some v)(h:p v):fG o p:=by rw[e];exact h
theorem tY{a:AV}{vs:List CV}(h:cS Mh a=some (.f true vs)):a=.v (.tup vs):=by
 cases a with
 |v c=>cases c<;>simp only[cS,Option.some.injEq,Sq.f.injEq,reduceCtorEq,Bool.false_eq_true,false_and,true_and] at h;rw[h]
 |tup l=>simp[cS] at h
 |ref i=>simp only[cS] at h;split at h<;>simp at h
theorem AE{op:Operator}{a b:AV}{c e:CV}(r:RM as Mh M)(va:RV as a c)(vb:RV as b e)(h:DZ op a b Mh k):WO2 D f d (binaryOp op) c e M (PostV as M k) Y:=by
 unfold DZ at h
 split at h
 ·cases va;cases vb;exact rC (.now r (.v _) h)
 ·cases va;cases vb;exact rn (.now r (.v _) h)
 ·cases va;cases vb;exact ry h.1 (.now r (.v _) h.2)
 ·cases va;cases vb
  rename_i x y
  by_cases q:y=0
  ·rw[decide_eq_true q] at h;exact h.elim
  ·rw[decide_eq_false q] at h;exact rz q (.now r (.v _) h)
 ·cases va;cases vb
  rename_i x y
  by_cases q:y=0
  ·rw[decide_eq_true q] at h;exact h.elim
  ·rw[decide_eq_false q] at h;exact pw q h.1 (.now r (.v _) h.2)
 ·cases va;cases vb
  rename_i x y
  cases q:decide (x=10)&&decide (y=18) with
  |false=>rw[q] at h;exact h.elim
  |true=>
   rw[q] at h
   simp only[Bool.and_eq_true,decide_eq_true_eq] at q
   obtain⟨rfl,rfl⟩:=q
   exact vU (.now r (.v _) h)
 ·cases va;cases vb;exact rB h.1 (.now r (.v _) h.2)
 ·split at h
  ·rename_i p q h1 h2
   obtain⟨vs,e1,e2,e3,e4⟩:=aT r va h1
   obtain⟨ws,g1,g2,g3,g4⟩:=aT r vb h2
   unfold Hb at h
   split at h
   ·obtain rfl:=e4 _ _ rfl
    obtain rfl:=g4 _ _ rfl
    obtain rfl:=tY h1
    obtain rfl:=tY h2
    cases va;cases vb
    exact rA h.1 (.now r (.v _) h.2)
   ·obtain rfl:=e4 _ _ rfl
    obtain rfl:=g4 _ _ rfl
    exact eI e1 g1 h.1 (gz r (by intro q;cases q) (.lst _) h.2)
   ·obtain rfl:=e4 _ _ rfl
    walk_at "cE"
   ·obtain rfl:=g4 _ _ rfl
    walk_at "cE"
   ·exact eI e1 g1 (by have:=e2.length;have:=g2.length;simp only[Sq.all,List.length_map] at *;have:=h.1;omega) (gz r (dS _) (RO.mkLst (e2.append g2)) h.2)
   ·exact h.elim
  ·exact h.elim
 ·exact h.elim
theorem uy{a b:AV}{c e:CV}{kk:Bool→Prop}(r:RM as Mh M)(va:RV as a c)(vb:RV as b e)(h:eqA a b Mh kk) :
  WO2 D f d (compareOp .Eq) c e M (fun q M'=>∃v,q=.bool v∧M'=M∧kk v) Y∧WO2 D f d (compareOp .NotEq) c e M (fun q M'=>∃v,q=.bool (!v)∧M'=M∧kk v) Y:=by
 unfold eqA at h
 split at h
 ·cases va;cases vb
  rw[t5] at h
  exact⟨tu ⟨_,rfl,rfl,h⟩,tf ⟨_,rfl,rfl,h⟩⟩
 ·cases va;cases vb
  rename_i x y
  exact⟨tw ⟨_,rfl,rfl,h⟩,tg ⟨_,rfl,rfl,h⟩⟩
 ·cases va;cases vb
  rename_i x y
  exact⟨lg (x:=.bool x) (y:=.bool y) (by show kOk 1 1=true;rfl) ⟨_,rfl,rfl,h⟩,lf (x:=.bool x) (y:=.bool y) (by show kOk 1 1=true;rfl) ⟨_,rfl,rfl,h⟩⟩
 ·split at h
  ·rename_i t vs u h1 h2
   walk_at "bP"
   cases q:t == u with
   |false=>rw[q] at h;exact h.elim
   |true=>
    rw[q] at h
    have:=eq_of_beq q;subst this
    walk_at "do"
  ·rename_i t vs u h1 h2
   obtain⟨vs',e1,e2,e3,e4⟩:=aT r va h1
   obtain⟨ws',g1,g2,g3,g4⟩:=aT r vb h2
   obtain rfl:=g4 _ _ rfl
   cases q:t == u with
   |false=>rw[q] at h;exact h.elim
   |true=>
    rw[q] at h
    have:=eq_of_beq q;subst this
    have hE:vs.isEmpty=vs'.isEmpty:=by
     have:=e2.length
     cases vs<;>cases vs'<;>first|rfl|(simp[Sq.all] at this)
    rw[hE] at h
    walk_at "do"
  ·rename_i vs ws _ h1 h2
   walk_at "bP"
   exact⟨eH e1 g1 h.1 ⟨_,rfl,rfl,h.2⟩,eG e1 g1 h.1 ⟨_,rfl,rfl,h.2⟩⟩
  ·rename_i vs ws _ h1 h2
   walk_at "bP"
   exact⟨eH e1 g1 h.1 ⟨_,rfl,rfl,h.2⟩,eG e1 g1 h.1 ⟨_,rfl,rfl,h.2⟩⟩
  ·split at h
   ·cases va;cases vb
    exact⟨lg h.1 ⟨_,rfl,rfl,h.2⟩,lf h.1 ⟨_,rfl,rfl,h.2⟩⟩
   ·exact h.elim
theorem qd{a:AV}{c:CV}{kk:Bool→Prop}(r:RM as Mh M)(va:RV as a c)(h:lJ a Mh kk):c.plain=true∧kk c.isNone:=by
 unfold lJ at h
 split at h<;>first|exact h.elim|(cases va;exact⟨rfl,h⟩)
theorem eC{cx:Cx}{op:CmpOp}{a b:AV}{c e:CV}(tx:rD D cx.T.tx)(r:RM as Mh M)(va:RV as a c)(vb:RV as b e)(h:nJ cx op a b Mh fun v=>kb v Mh) :
  WO2 D f d (compareOp op) c e M (fun q M'=>∃v,q=.bool v∧M'=M∧kb v Mh) Y:=by
 have inn:∀{kk:Bool→Prop},inA cx a b Mh kk→WO2 D f d (compareOp .In) c e M (fun q M'=>∃v,q=.bool v∧M'=M∧kk v) Y∧WO2 D f d (compareOp .NotIn) c e M (fun q M'=>∃v,q=.bool (!v)∧M'=M∧kk v) Y:=by
  intro kk h
  unfold inA at h
  split at h
  ·cases va;cases vb;exact⟨tm ⟨_,rfl,rfl,h⟩,rt ⟨_,rfl,rfl,h⟩⟩
  ·cases va;cases vb
   split at h
   ·have hk:=tx.kt _ _ ‹lkN _ cx.T.tx.ktups=some _›
    exact⟨yL hk ⟨_,rfl,rfl,h⟩,vV hk ⟨_,rfl,rfl,h⟩⟩
   ·exact h.elim
  ·split at h
   ·rename_i t vs hs
    obtain⟨ws',g1,g2,g3,g4⟩:=aT r vb hs
    obtain rfl:=g4 _ _ rfl
    cases va
    exact⟨to g1 h.1.2 ⟨_,rfl,rfl,h.2⟩,ru g1 h.1.2 ⟨_,rfl,rfl,h.2⟩⟩
   ·exact h.elim
  ·exact h.elim
 unfold nJ at h
 split at h
 ·split at h
  ·cases vb
   obtain⟨h1,h2⟩:=qd r va h
   exact Ea ⟨_,rfl,rfl,h2⟩ h1
  ·exact h.elim
 ·split at h
  ·cases vb
   obtain⟨h1,h2⟩:=qd r va h
   exact vW ⟨_,rfl,rfl,h2⟩ h1
  ·exact h.elim
 ·exact(uy r va vb h).1
 ·refine WO2.mono (uy (Y:=Y) r va vb h).2 (fun q M' z=>?_) fun _ _ z=>z
  obtain⟨v,e1,e2,e3⟩:=z
  exact⟨_,e1,e2,e3⟩
 ·exact(inn h).1
 ·refine WO2.mono (inn h).2 (fun q M' z=>?_) fun _ _ z=>z
  obtain⟨v,e1,e2,e3⟩:=z
  exact⟨_,e1,e2,e3⟩
 ·split at h
  ·cases va;cases vb;exact ti ⟨_,rfl,rfl,h⟩
  ·exact h.elim
 ·split at h
  ·cases va;cases vb;exact tl ⟨_,rfl,rfl,h⟩
  ·cases va;cases vb;exact tj ⟨_,rfl,rfl,h⟩
  ·exact h.elim
 ·split at h
  ·cases va;cases vb;exact tq ⟨_,rfl,rfl,h⟩
  ·exact h.elim
 ·split at h
  ·cases va;cases vb;exact tt ⟨_,rfl,rfl,h⟩
  ·exact h.elim
theorem cJ{α:Type}{x:Str}{v:α}:∀{l:List (Str×α)},lkA x l=some v→(x,v)∈l
 |[],h=>by cases h
 |(y,c)::r,h=>by
  unfold lkA at h
  by_cases q:y=x
  ·rw[sEq_iff.mpr q] at h;cases h;rw[q];exact .head _
  ·rw[sEq_false.mpr q] at h;exact .tail _ (cJ h)
def mE(D:Wd):Nat ⊕ Str→Option Value
 |.inl n=>some (.type (tyS n))
 |.inr c=>(D.cls c).map .ref
theorem qt{a:AV}{c:CV}{kd:Nat ⊕ Str}(r:RM as Mh M)(va:RV as a c)(h:uf Mh a=some kd):oF D M c=mE D kd∧∀n,kd=.inl n→n∈[0,1,2,3,4,5,6]:=by
 unfold uf at h
 split at h<;>(try cases h)<;>(try (cases va;exact⟨rfl,fun n e=>by cases e;decide⟩))<;>try (cases va;exact⟨rfl,fun n e=>by cases e⟩)
 split at h<;>(try cases h)
 ·rename_i hi
  walk_at "bo"
  cases va with|ref e=>
  walk_at "cm"
  exact⟨by simp only[oF,h2];rfl,fun n e=>by cases e⟩
 ·rename_i hi
  walk_at "bo"
  cases va with|ref e=>
  walk_at "cm"
  exact⟨by simp only[oF,h2];rfl,fun n e=>by cases e;decide⟩
 ·rename_i hi
  walk_at "bo"
  cases va with|ref e=>
  walk_at "cm"
  exact⟨by simp only[oF,h2];rfl,fun n e=>by cases e;decide⟩
theorem uh{tx:Tx}(ok:rD D tx){kd:Nat ⊕ Str}{T:Value}{b:Bool}(hk:∀n,kd=.inl n→n∈[0,1,2,3,4,5,6])(h:Af tx kd T=some b):∃t,mE D kd=some t∧jG D.K t=true∧kitOne D.K t T=some b:=by
 have hi:=ok.isi
 unfold pd at hi
 rw[Bool.and_eq_true,List.all_eq_true,List.all_eq_true] at hi
 obtain⟨i1,i2⟩:=hi
 unfold Af at h
 split at h
 ·rename_i t
  cases q:Nat.blt (fD t) 3 with
  |false=>rw[q] at h;cases h
  |true=>
   rw[q,cond_true] at h
   have ht:tyS (fD t)=t∧fD t∈[0,1,2]:=by
    unfold fD at q ⊢
    split<;>first|exact⟨rfl,by decide⟩|(simp at q)
   cases kd with
   |inl n=>
    simp only[Option.some.injEq] at h
    have:=i1 n (hk n rfl)
    rw[Bool.and_eq_true,List.all_eq_true] at this
    have:=this.1 (fD t) ht.2
    rw[ht.1] at this
    have:=eq_of_beq this
    rw[h] at this
    exact⟨_,rfl,rfl,this⟩
   |inr c=>
    dsimp only at h
    split at h
    ·rename_i p hp;cases h
     have h2:=i2 (c,p) (cJ hp)
     simp only[Bool.and_eq_true,List.all_eq_true] at h2
     have:=h2.2.1 (fD t) ht.2
     rw[ht.1] at this
     exact⟨.ref p.1,by simp only[mE,ok.own c p hp];rfl,h2.1,eq_of_beq this⟩
    ·cases h
 ·rename_i C
  cases q:nIn C tx.clss with
  |false=>rw[q] at h;cases h
  |true=>
   rw[q,cond_true] at h
   have hC:=nIn_iff.mp q
   cases kd with
   |inl n=>
    simp only[Option.some.injEq] at h
    have:=i1 n (hk n rfl)
    rw[Bool.and_eq_true,List.all_eq_true,List.all_eq_true] at this
    have:=eq_of_beq (this.2 C hC)
    rw[h] at this
    exact⟨_,rfl,rfl,this⟩
   |inr c=>
    dsimp only at h
    split at h
    ·rename_i p hp;cases h
     have h2:=i2 (c,p) (cJ hp)
     simp only[Bool.and_eq_true,List.all_eq_true] at h2
     exact⟨.ref p.1,by simp only[mE,ok.own c p hp];rfl,h2.1,eq_of_beq (h2.2.2 C hC)⟩
    ·cases h
 ·cases h
theorem mF{tx:Tx}(ok:rD D tx){kd:Nat ⊕ Str}(hk:∀n,kd=.inl n→n∈[0,1,2,3,4,5,6]){t:Value}(ht:mE D kd=some t):∀{Ts:List CV} {b:Bool},pe tx kd Ts=some b→∃Vs,Ts=Vs.map .st∧kitAny D.K t Vs=some b
 |[],b,h=>by cases h;exact⟨[],rfl,rfl⟩
 |c::r,b,h=>by
  cases c<;>simp only[pe,reduceCtorEq] at h
  rename_i T
  split at h
  ·rename_i b1 b2 h1 h2;cases h
   obtain⟨Vs,e1,e2⟩:=mF ok hk ht h2
   obtain⟨t',t1,t2,t3⟩:=uh ok hk h1
   rw[ht] at t1;cases t1
   refine⟨T::Vs,by rw[e1];rfl,?_⟩
   unfold kitAny
   rw[t3]
   cases b1 with
   |true=>rfl
   |false=>exact e2
  ·cases h
theorem vv{tx:Tx}(ok:rD D tx){kd:Nat ⊕ Str}(h:∀c,kd=.inr c→(lkA c tx.mro).isSome=true):∃t,mE D kd=some t∧jG D.K t=true:=by
 cases kd with
 |inl n=>exact⟨_,rfl,rfl⟩
 |inr c=>
  have:=h c rfl
  cases q:lkA c tx.mro with
  |none=>rw[q] at this;cases this
  |some p=>
   have hi:=ok.isi
   unfold pd at hi
   rw[Bool.and_eq_true,List.all_eq_true,List.all_eq_true] at hi
   have h2:=hi.2 (c,p) (cJ q)
   simp only[Bool.and_eq_true] at h2
   exact⟨.ref p.1,by simp only[mE,ok.own c p q];rfl,h2.1⟩
theorem AD{cx:Cx}{id:String}{args:List AV}{cs:List CV}(calm:f.calm=true)(tx:rD D cx.T.tx)(r:RM as Mh M)(va:RVs as args cs)(h:DY cx id args Mh k):WO D f d (fun vs=>call (.builtin id) vs) cs M (PostV as M k) Y:=by
 unfold DY at h
 split at h
 ·obtain⟨c,rfl,v⟩:=VRs.one_inv va;cases v;exact sZ h.1 (.now r (.v _) h.2)
 ·obtain⟨c,rfl,v⟩:=VRs.one_inv va
  split at h
  ·rename_i q hs
   obtain⟨ws',g1,g2,g3,g4⟩:=aT r v hs
   rw[g3] at h
   exact D7 g1 h.1 (.now r (.v _) h.2)
  ·exact h.elim
 ·obtain⟨c,e,rfl,v1,v2⟩:=VRs.two_inv va
  cases v2
  split at h
  ·rename_i kd hkd
   obtain⟨k1,k2⟩:=qt (D:=D) r v1 hkd
   split at h
   ·rename_i b hb
    obtain⟨t,t1,t2,t3⟩:=uh tx k2 hb
    exact D8 (k1.trans t1) t2 t3 (.now r (.v _) h)
   ·exact h.elim
  ·exact h.elim
 ·obtain⟨c,e,rfl,v1,v2⟩:=VRs.two_inv va
  cases v2
  split at h
  ·rename_i kd hkd
   obtain⟨k1,k2⟩:=qt (D:=D) r v1 hkd
   split at h
   ·rename_i b hb
    obtain⟨t,t1,t2⟩:=vv tx h.1
    obtain⟨Vs,rfl,t3⟩:=mF tx k2 t1 hb
    exact AS (k1.trans t1) t2 t3 (.now r (.v _) h.2)
   ·exact h.elim
  ·exact h.elim
 ·obtain⟨c,rfl,v⟩:=VRs.one_inv va;cases v;exact D9 h.1 (.now r (.v _) h.2)
 ·obtain⟨c,rfl,v⟩:=VRs.one_inv va;cases v
  split at h
  ·rename_i c hc;exact D5 hc (.now r (.v _) h)
  ·exact h.elim
 ·obtain⟨c,e,rfl,v1,v2⟩:=VRs.two_inv va
  cases v1;cases v2
  exact D6 calm (.now r (.v _) h)
 ·obtain⟨c,rfl,v⟩:=VRs.one_inv va;cases v
  exact sY calm (gz r (by intro q;cases q) (.lst _) h)
 ·exact h.elim
theorem Db{id:String}{args:List AV}{cs:List CV}(r:RM as Mh M)(va:RVs as args cs)(h:tyA id args Mh k):WO D f d (fun vs=>call (.type id) vs) cs M (PostV as M k) Y:=by
 unfold tyA at h
 split at h
 ·obtain⟨c,rfl,v⟩:=VRs.one_inv va;cases v;exact yH (.now r (.v _) h.2)
 ·obtain⟨c,rfl,v⟩:=VRs.one_inv va;cases v;exact sX h.1 (.now r (.v _) h.2)
 ·obtain⟨c,rfl,v⟩:=VRs.one_inv va;cases v;exact te (.now r (.v _) h)
 ·obtain⟨c,rfl,v⟩:=VRs.one_inv va;cases v;exact rj (.now r (.v _) h)
 ·obtain⟨c,rfl,v⟩:=VRs.one_inv va
  split at h
  ·rename_i t vs hs
   walk_at "c4"
   exact yG g1 h.1 (.now r (.v _) h.2)
  ·exact h.elim
 ·obtain⟨c,rfl,v⟩:=VRs.one_inv va
  split at h
  ·rename_i t vs hs
   walk_at "c4"
   exact AQ g1 h.1 (gz r (by intro q;cases q) (.lst _) h.2)
  ·exact h.elim
 ·obtain⟨c,rfl,v⟩:=VRs.one_inv va;cases v;exact yK (.now r (.v _) h)
 ·exact h.elim
def xD:Nat→Value
 |0=>.builtin "str.lower"
 |1=>.builtin "str.upper"
 |2=>.builtin "str.isascii"
 |3=>.builtin "str.join"
 |4=>.builtin "dict.update"
 |5=>.builtin "list.append"
 |_=>.builtin "list.index"
theorem fQ{x:Str}{s:String}{y:Str}(e:lit s=y.cps.toList)(h:isS x s=true):x=y:=by
 rw[isS_iff,e] at h
 obtain⟨⟨x⟩⟩:=x
 obtain⟨⟨y⟩⟩:=y
 simp at h;rw[h]
theorem lM{id:String}{x:Str}{name:Str}(slot:Slot "str" name id)(ty:typeOf (.builtin id)=pure (.type "method_descriptor")):WG D f d name (.str x) M (.builtin id):=by
 intro fz m A s v pl Q E a S r hq
 cases r
 exact GM.of _ (typeIs_str _ _ _) slot ty GM.noRef (hq s S)
theorem lN{id:String}{c:CV}{vs:List CV}{name:Str}(hg:aY M c=some (false,vs))(slot:Slot "list" name id)(ty:typeOf (.builtin id)=pure (.type "method_descriptor")):WG D f d name c M (.builtin id):=by
 intro fz m A s v pl Q E a S r hq
 obtain⟨a1,us,n1,rfl,g1,q⟩:=S.seq r hg
 exact getMethod_builtin ⟨_,g1,rfl⟩ PySem.F.plainAttrs_list slot ty (fun a e=>by cases e;exact⟨_,g1,rfl⟩) (hq s S)
theorem C8{a:AV}{c:CV}{name:Str}{id:Nat}(r:RM as Mh M)(va:RV as a c)(h:mId Mh a name=some id):WG D f d name c M (xD id):=by
 unfold mId at h
 split at h
 ·cases va
  cases q0:isS name "lower" with
  |true=>rw[q0] at h;cases h;obtain rfl:=fQ (y:= "lower") (by decide +kernel) q0;exact lM PySem.F.slot_str_lower PySem.F.type_str_lower
  |false=>
  rw[q0] at h
  cases q1:isS name "upper" with
  |true=>rw[q1] at h;cases h;obtain rfl:=fQ (y:= "upper") (by decide +kernel) q1;exact lM PySem.F.slot_str_upper PySem.F.type_str_upper
  |false=>
  rw[q1] at h
  cases q2:isS name "isascii" with
  |true=>rw[q2] at h;cases h;obtain rfl:=fQ (y:= "isascii") (by decide +kernel) q2;exact lM PySem.F.slot_str_isascii PySem.F.type_str_isascii
  |false=>
  rw[q2] at h
  cases q3:isS name "join" with
  |true=>rw[q3] at h;cases h;obtain rfl:=fQ (y:= "join") (by decide +kernel) q3;exact lM PySem.F.slot_str_join PySem.F.type_str_join
  |false=>rw[q3] at h;cases h
 ·cases va
  cases q0:isS name "update" with
  |true=>rw[q0] at h;cases h;obtain rfl:=fQ (y:= "update") (by decide +kernel) q0;exact vX
  |false=>rw[q0] at h;cases h
 ·cases va
  cases q0:isS name "index" with
  |true=>rw[q0] at h;cases h;obtain rfl:=fQ (y:= "index") (by decide +kernel) q0;exact lN rfl PySem.F.slot_list_index PySem.F.type_list_index
  |false=>rw[q0] at h;cases h
 ·split at h
  ·rename_i vs hi
   obtain⟨ws',g1,g2,g3,g4⟩:=aT r va (show cS Mh (.ref _)=some (.f false vs) by simp only[cS,hi])
   cases q0:isS name "append" with
   |true=>rw[q0] at h;cases h;obtain rfl:=fQ (y:= "append") (by decide +kernel) q0;exact lN g1 PySem.F.slot_list_append PySem.F.type_list_append
   |false=>
    rw[q0] at h
    cases q1:isS name "index" with
    |true=>rw[q1] at h;cases h;obtain rfl:=fQ (y:= "index") (by decide +kernel) q1;exact lN g1 PySem.F.slot_list_index PySem.F.type_list_index
    |false=>rw[q1] at h;cases h
  ·rename_i vs hi
   obtain⟨ws',g1,g2,g3,g4⟩:=aT r va (show cS Mh (.ref _)=some (.a false vs) by simp only[cS,hi])
   cases q0:isS name "append" with
   |true=>rw[q0] at h;cases h;obtain rfl:=fQ (y:= "append") (by decide +kernel) q0;exact lN g1 PySem.F.slot_list_append PySem.F.type_list_append
   |false=>rw[q0] at h;cases h
  ·cases h
 ·cases h
theorem xA{id:Nat}{a:AV}{c:CV}{args:List AV}{cs:List CV}(r:RM as Mh M)(va:RV as a c)(vs:RVs as args cs)(h:xB id a args Mh k):WO D f d (fun vs=>call (xD id) vs) (c::cs) M (PostV as M k) Y:=by
 unfold xB at h
 split at h
 ·cases va;cases vs;exact yI h.1 (.now r (.v _) h.2)
 ·cases va;cases vs;exact yF h.1 (.now r (.v _) h.2)
 ·cases va;cases vs;exact ta (.now r (.v _) h.2)
 ·cases va
  obtain⟨c,rfl,v⟩:=VRs.one_inv vs
  split at h
  ·rename_i t ws hs
   walk_at "c4"
   obtain⟨l,hl,h⟩:=fj h
   exact AR g1 hl h.1.2 (.now r (.v _) h.2)
  ·exact h.elim
 ·cases va
  obtain⟨c,rfl,v⟩:=VRs.one_inv vs
  cases v
  exact sW (.now r (.v _) h)
 ·obtain⟨c,rfl,v⟩:=VRs.one_inv vs
  cases va with|ref e=>
  split at h
  ·rename_i ws hi
   walk_at "bo"
   walk_at "cm"
   split at h
   ·cases v
    exact fm h2 h.1 ⟨_,_,_,Step.set e h2,r.set hi (by intro q;cases q) e (by intro q;cases q) (.lst _),.v _,h.2⟩
   ·exact fm h2 h.1 ⟨_,_,_,Step.set e h2,r.set hi (by intro q;cases q) e (by intro q;cases q) (.mix ((RVs.ofv _).append (.cons v .nil))),.v _,h.2⟩
  ·rename_i ws hi
   walk_at "bo"
   rw[e] at h1;cases h1
   cases h3 with
   |mix l3=>
    exact fm h2 (by rw[←l3.length];exact h.1) ⟨_,_,_,Step.set e h2,r.set hi (by intro q;cases q) e (by intro q;cases q) (.mix (l3.append (.cons v .nil))),.v _,h.2⟩
  ·exact h.elim
 ·obtain⟨e,rfl,v⟩:=VRs.one_inv vs
  cases v
  split at h
  ·rename_i ws hs
   obtain⟨ws',g1,g2,g3,g4⟩:=aT r va hs
   obtain rfl:=g4 _ _ rfl
   obtain⟨l,hl,h⟩:=fj h
   obtain⟨j,hj,h⟩:=fj h
   exact yJ g1 hl hj h.1 (.now r (.v _) h.2)
  ·exact h.elim
 ·exact h.elim
end
section
variable {D:Wd}{f:Fc}{d:Nat}{as:List Addr}{Mh:AM}{M:MH}{k:K1}{X:KX}{kb:KB}{Y:Str→MH→Prop}
theorem RF.get{fs:List (Str×AV)}{gs:List (Str×CV)}(h:RF as fs gs){x:Str}{a:AV}(e:lkA x fs=some a):∃c,lk x gs=some c∧RV as a c:=by
 induction h with
 |nil=>cases e
 |@cons y b c l cs r _ ih=>
  unfold lkA at e
  unfold lk
  by_cases q:y=x
  ·rw[sEq_iff.mpr q] at e;cases e;exact⟨c,if_pos q,r⟩
  ·rw[sEq_false.mpr q] at e;rw[if_neg q];exact ih e
theorem RF.none{fs:List (Str×AV)}{gs:List (Str×CV)}(h:RF as fs gs){x:Str}(e:lkA x fs=none):lk x gs=.none:=by
 induction h with
 |nil=>rfl
 |@cons y b c l cs r _ ih=>
  unfold lkA at e
  unfold lk
  by_cases q:y=x
  ·rw[sEq_iff.mpr q] at e;cases e
  ·rw[sEq_false.mpr q] at e;rw[if_neg q];exact ih e
theorem RF.put{fs:List (Str×AV)}{gs:List (Str×CV)}(h:RF as fs gs){x:Str}{a:AV}{c:CV}(r:RV as a c):RF as (gr x a fs) (Mine.put x c gs):=by
 induction h with
 |nil=>exact .cons r .nil
 |@cons y b e l cs s t ih=>
  unfold gr Mine.put
  by_cases q:y=x
  ·rw[sEq_iff.mpr q,if_pos q];exact .cons r t
  ·rw[sEq_false.mpr q,if_neg q];exact .cons s ih
theorem RF.length{fs:List (Str×AV)}{gs:List (Str×CV)}(h:RF as fs gs):fs.length=gs.length:=by
 induction h with
 |nil=>rfl
 |cons _ _ ih=>simp[ih]
theorem yw{a b:AV}{c:CV}{x cn:Str}(r:RM as Mh M)(v:RV as a c)(h:uG Mh x a=some (cn,b)):∃c',jl M x c=some (cn,c')∧RV as b c':=by
 cases v with
 |v c=>
  cases c<;>simp only[uG,reduceCtorEq] at h
  rename_i c0 fs
  split at h
  ·rename_i a' e;cases h
   rw[xH] at e
   exact⟨_,by simp only[jl,e];rfl,.v _⟩
  ·cases h
 |tup _=>cases h
 |@ref i ad e=>
  simp only[uG] at h
  split at h
  ·rename_i c0 fs hi
   split at h
   ·rename_i a' q;cases h
    obtain⟨a2,mo,h1,h2,h3⟩:=r.live hi (by intro q;cases q)
    rw[e] at h1;cases h1
    cases h3 with
    |inst rf=>
     obtain⟨c',h4,h5⟩:=rf.get q
     exact⟨c',by simp only[jl,h2,h4];rfl,h5⟩
   ·cases h
  ·cases h
theorem AA{a:AV}{c:CV}{x cn:Str}(r:RM as Mh M)(v:RV as a c)(h:AB Mh a=some cn)(hn:mf Mh x a=true):∃fs,dW M c=some (cn,fs)∧lk x fs=none:=by
 cases v with
 |v c=>
  cases c<;>simp only[AB,reduceCtorEq] at h
  rename_i c0 fs
  cases h
  refine⟨fs,rfl,?_⟩
  simp only[mf] at hn
  split at hn
  ·rename_i q;rw[xH] at q;exact q
  ·cases hn
 |tup _=>cases h
 |@ref i ad e=>
  simp only[AB] at h
  split at h
  ·rename_i c0 fs hi
   cases h
   obtain⟨a2,mo,h1,h2,h3⟩:=r.live hi (by intro q;cases q)
   rw[e] at h1;cases h1
   simp only[mf,hi] at hn
   cases h3 with
   |@inst _ _ gs rf=>
    refine⟨gs,by simp only[dW,h2],?_⟩
    split at hn
    ·rename_i q;exact rf.none q
    ·cases hn
  ·cases h
end
structure FOkS(f:Fc)(cx:Cx):Prop extends FOk f cx where
 sc:f.env.scope=cx.sc
 fn:f.env.scope.kind=.function
structure dN(D:Wd)(E:Ev):Prop where
 e:∀cx f d e mh Mh k X as m M,FOk f cx→TbOk D d cx.T→ML as mh m→RM as Mh M→E.e cx e mh Mh k X→WE D f d e m M (PostV as M k) (PostX as M X)
 b:∀cx f d e mh Mh k X as m M,FOk f cx→TbOk D d cx.T→ML as mh m→RM as Mh M→E.b cx e mh Mh k X→WB D f d e m M (PostB as M k) (PostX as M X)
 s:∀cx f d st mh Mh k X as m M,FOkS f cx→TbOk D d cx.T→ML as mh m→RM as Mh M→E.s cx st mh Mh k X→W1 D f d st m M (PostS as M k) (PostX as M X)
section
variable {D:Wd}{f:Fc}{d:Nat}{m:List (Str×CV)}{M M':MH}{Φ Ψ:CV→MH→Prop}{X Y:Str→MH→Prop}
theorem WL.mono{es:List PySem.Expr}{Φ Ψ:List CV→MH→Prop}(h:WL D f d es m M Φ X)(k:∀c M,Φ c M→Ψ c M)(l:∀c M,X c M→Y c M):WL D f d es m M Ψ Y:=fun pos fz A s a S=>
 wpAny_mono (h pos fz A s a S) (fun _ _ ⟨p,q,r,g,u,t,z⟩=>⟨p,q,r,g,u,t,k _ _ z⟩) (fun _ _ ⟨p,q,r,g,u,t,y,z⟩=>⟨p,q,r,g,u,t,y,l _ _ z⟩)
theorem WB.mono{e:PySem.Expr}{Φ Ψ:Bool→MH→Prop}(h:WB D f d e m M Φ X)(k:∀c M,Φ c M→Ψ c M)(l:∀c M,X c M→Y c M):WB D f d e m M Ψ Y:=fun fz A s a S=>
 wpAny_mono (h fz A s a S) (fun _ _ ⟨p,q,r,g,z⟩=>⟨p,q,r,g,k _ _ z⟩) (fun _ _ ⟨p,q,r,g,u,t,y,z⟩=>⟨p,q,r,g,u,t,y,l _ _ z⟩)
theorem WT.mono{c:CV}{Φ Ψ:Bool→MH→Prop}(h:WT D f d c M Φ X)(k:∀c M,Φ c M→Ψ c M)(l:∀c M,X c M→Y c M):WT D f d c M Ψ Y:=fun fz m A s v a S r=>
 wpAny_mono (h fz m A s v a S r) (fun _ _ ⟨p,q,r,g,z⟩=>⟨p,q,r,g,k _ _ z⟩) (fun _ _ ⟨p,q,r,g,u,t,y,z⟩=>⟨p,q,r,g,u,t,y,l _ _ z⟩)
theorem WA.mono{t:PySem.Expr}{c:CV}{Φ Ψ:List (Str×CV)→MH→Prop}(h:WA D f d t c m M Φ X)(k:∀c M,Φ c M→Ψ c M)(l:∀c M,X c M→Y c M):WA D f d t c m M Ψ Y:=fun fz A s v a S r=>
 wpAny_mono (h fz A s v a S r) (fun _ _ ⟨p,q,r,g,u,z⟩=>⟨p,q,r,g,u,k _ _ z⟩) (fun _ _ ⟨p,q,r,g,u,t,y,z⟩=>⟨p,q,r,g,u,t,y,l _ _ z⟩)
end
section
variable {D:Wd}{E:Ev}{cx:Cx}{f:Fc}{d:Nat}{mh:Vs}{Mh:AM}{k:K1}{X:KX}{kb:KB}{as:List Addr}{m:List (Str×CV)}{M:MH}
theorem jM(o:dN D E)(F:FOk f cx)(T:TbOk D d cx.T):∀{es:List PySem.Expr} {Mh:AM} {k:List AV→AM→Prop} {as:List Addr} {M:MH},ML as mh m→RM as Mh M→evL E cx es mh Mh k X→WL D f d es m M (Ih as M k) (PostX as M X):=by
 intro es
 induction es with
 |nil=>intro Mh k as M l r h;exact Eb ⟨as,[],Mh,Step.rfl',r,.nil,h⟩
 |cons e es ih=>
  intro Mh k as M l r h
  have ns:∀x p,e≠.Starred x p:=fun x p q=>by subst q;exact h
  have h':E.e cx e mh Mh (fun a M1=>evL E cx es mh M1 (fun as M2=>k (a::as) M2) X) X:=by
   cases e<;>first|exact h|exact absurd rfl (ns _ _)
  refine AT ((o.e _ _ _ _ _ _ _ _ _ _ _ F T l r h').mono (fun c M1 q=>?_) (fun _ _ z=>z)) (nC ns)
  walk_at "aq"
  refine(ih (l.mono s1.1) r1 h1).mono (fun cs M2 q=>?_) (fun _ _ z=>z.tr s1)
  obtain⟨as2,l2,Mh2,s2,r2,v2,h2⟩:=q
  exact⟨as2,a::l2,Mh2,s1.tr s2,r2,.cons (v1.mono s2.1) v2,h2⟩
theorem vI(o:dN D E)(F:FOk f cx)(T:TbOk D d cx.T){pos:Pos}:∀{es:List PySem.Expr} {Mh:AM} {as:List Addr} {M:MH},ML as mh m→RM as Mh M→qL E cx es mh Mh kb X→WB D f d (.BoolOp .And es pos) m M (PostB as M kb) (PostX as M X):=by
 intro es
 induction es with
 |nil=>intro Mh as M l r h;exact tC (PostB.now r h)
 |cons e es ih=>
  intro Mh as M l r h
  refine En ((o.b _ _ _ _ _ _ _ _ _ _ _ F T l r h).mono (fun b M1 q=>?_) fun _ _ z=>z)
  walk_at "bf"
  walk_at "c1"
theorem vG(o:dN D E)(F:FOk f cx)(T:TbOk D d cx.T){pos:Pos}:∀{es:List PySem.Expr} {Mh:AM} {as:List Addr} {M:MH},ML as mh m→RM as Mh M→yi E cx es mh Mh kb X→WB D f d (.BoolOp .Or es pos) m M (PostB as M kb) (PostX as M X):=by
 intro es
 induction es with
 |nil=>intro Mh as M l r h;exact vZ (PostB.now r h)
 |cons e es ih=>
  intro Mh as M l r h
  refine Hi ((o.b _ _ _ _ _ _ _ _ _ _ _ F T l r h).mono (fun b M1 q=>?_) fun _ _ z=>z)
  walk_at "bf"
  walk_at "c1"
theorem vH(o:dN D E)(F:FOk f cx)(T:TbOk D d cx.T){pos:Pos}:∀{es:List PySem.Expr} {Mh:AM} {as:List Addr} {M:MH},ML as mh m→RM as Mh M→yj E cx es mh Mh k X→WE D f d (.BoolOp .And es pos) m M (PostV as M k) (PostX as M X):=by
 intro es
 induction es with
 |nil=>intro Mh as M l r h;exact h.elim
 |cons e es ih=>
  intro Mh as M l r h
  cases es with
  |nil=>exact yN (o.e _ _ _ _ _ _ _ _ _ _ _ F T l r h)
  |cons e2 es=>
   refine Ek ((o.e _ _ _ _ _ _ _ _ _ _ _ F T l r h).mono (fun c M1 q=>?_) fun _ _ z=>z)
   walk_at "aq"
   walk_at "bw"
theorem yh(o:dN D E)(F:FOk f cx)(T:TbOk D d cx.T){pos:Pos}:∀{es:List PySem.Expr} {Mh:AM} {as:List Addr} {M:MH},ML as mh m→RM as Mh M→DU E cx es mh Mh k X→WE D f d (.BoolOp .Or es pos) m M (PostV as M k) (PostX as M X):=by
 intro es
 induction es with
 |nil=>intro Mh as M l r h;exact h.elim
 |cons e es ih=>
  intro Mh as M l r h
  cases es with
  |nil=>exact yN (o.e _ _ _ _ _ _ _ _ _ _ _ F T l r h)
  |cons e2 es=>
   refine Hh ((o.e _ _ _ _ _ _ _ _ _ _ _ F T l r h).mono (fun c M1 q=>?_) fun _ _ z=>z)
   walk_at "aq"
   walk_at "bw"
theorem fH{op:CmpOp}{r:PySem.Expr}(h:bQ r=true):behindInMarks op r=false:=by
 cases r<;>first|rfl|cases h
theorem mA{o1 o2:CmpOp}{r1 r2:PySem.Expr}(h:bQ r2=true):lastMarks [o1,o2] [r1,r2]=false:=by
 show behindInMarks o2 r2=false
 exact fH h
end
section
variable {as as':List Addr}{g:Nat→AV}
mutual
theorem RV.ren:∀{a:AV} {c:CV},RV as a c→(∀i∈a.refs,∀ad,as[i]?=some ad→RV as' (g i) (.ref ad))→RV as' (a.ren g) c
 |_,_,.v c,_=>by rw[AV.ren];exact .v c
 |_,_,.ref (i:=i) (a:=ad) e,h=>by rw[AV.ren];exact h i (by simp[AV.refs]) ad e
 |_,_,.tup k,h=>by
  rw[AV.ren]
  exact .tup (RVs.ren k (by simpa [AV.refs] using h))
theorem RVs.ren:∀{a:List AV} {c:List CV},RVs as a c→(∀i∈AV.refss a,∀ad,as[i]?=some ad→RV as' (g i) (.ref ad))→RVs as' (AV.rens g a) c
 |_,_,.nil,_=>by rw[AV.rens];exact .nil
 |_,_,.cons k l,h=>by
  rw[AV.rens]
  exact .cons (RV.ren k fun i hi=>h i (by rw[AV.refss];exact List.mem_append_left _ hi)) (RVs.ren l fun i hi=>h i (by rw[AV.refss];exact List.mem_append_right _ hi))
end
theorem RF.ren{a:List (Str×AV)}{c:List (Str×CV)}(k:RF as a c)(h:∀i∈AV.refsf a,∀ad,as[i]?=some ad→RV as' (g i) (.ref ad)):RF as' (AV.renf g a) c:=by
 induction k with
 |nil=>exact .nil
 |cons r _ ih=>exact .cons (r.ren fun i hi=>h i (by rw[AV.refsf];exact List.mem_append_left _ hi)) (ih fun i hi=>h i (by rw[AV.refsf];exact List.mem_append_right _ hi))
theorem RO.ren{o:AO}{mo:MO}(k:RO as o mo)(h:∀i∈o.refs,∀ad,as[i]?=some ad→RV as' (g i) (.ref ad)):RO as' (o.ren g) mo:=by
 cases k with
 |lst vs=>exact .lst vs
 |mix l=>exact .mix (l.ren h)
 |inst l=>exact .inst (l.ren h)
 |exc m=>exact .exc m
 |caught m=>exact .caught m
theorem rR{g:Nat→AV}(l:List (Str×AV)):(AV.renf g l).map (·.1)=l.map (·.1):=by
 induction l with
 |nil=>rfl
 |cons p r ih=>obtain⟨x,a⟩:=p;simp[AV.renf,ih]
theorem allIn_iff{idx l:List Nat}:ng idx l=true↔∀i∈l,i∈idx:=by
 induction l with
 |nil=>simp[ng]
 |cons x r ih=>
  unfold ng
  cases q:nIn x idx with
  |true=>have:=nIn_iff.mp q;simp[ih,this]
  |false=>
   have:x∉idx:=fun h=>by rw[nIn_iff.mpr h] at q;cases q
   simp[this]
theorem dif_iff{l:List Nat}:dif l=true↔l.Nodup:=by
 induction l with
 |nil=>simp[dif]
 |cons x r ih=>
  unfold dif
  cases q:nIn x r with
  |true=>have:=nIn_iff.mp q;simp[this]
  |false=>
   have:x∉r:=fun h=>by rw[nIn_iff.mpr h] at q;cases q
   simp[ih,this]
theorem fk{x:Nat}:∀{l:List Nat} {n:Nat},x∈l→∃j,Ai x l n=some (n+j)∧l[j]?=some x
 |[],_,h=>by cases h
 |y::r,n,h=>by
  unfold Ai
  cases q:Nat.beq y x with
  |true=>have:=Nat.eq_of_beq_eq_true q;subst this;exact⟨0,rfl,rfl⟩
  |false=>
   have hne:=Nat.ne_of_beq_eq_false q
   obtain⟨j,h1,h2⟩:=fk (l:=r) (n:=n+1) (List.mem_of_ne_of_mem (Ne.symm hne) h)
   exact⟨j+1,by simp only[cond_false];rw[h1];congr 1;omega,h2⟩
theorem cT:∀{idx:List Nat} {os:List AO} {M:AM},(kS M idx os).length=M.length
 |[],os,M=>by cases os<;>rfl
 |_::_,[],M=>rfl
 |i::idx,o::os,M=>by unfold kS;rw[cT];simp
theorem kj{i:Nat}:∀{idx:List Nat} {os:List AO} {M:AM},i∉idx→(kS M idx os)[i]?=M[i]?
 |[],os,M,_=>by cases os<;>rfl
 |_::_,[],M,_=>rfl
 |j::idx,o::os,M,h=>by
  unfold kS
  rw[kj (fun q=>h (.tail _ q)),List.getElem?_set_ne]
  exact fun q=>h (q▸.head _)
theorem pP:∀{idx:List Nat} {os:List AO} {M:AM} {i j:Nat},idx.Nodup→idx[j]?=some i→i < M.length→j < os.length→(kS M idx os)[i]?=os[j]?
 |[],_,_,_,j,_,h,_,_=>by simp at h
 |_::_,[],_,_,_,_,_,_,h=>by simp at h
 |k::idx,o::os,M,i,j,nd,h,hi,hj=>by
  rw[List.nodup_cons] at nd
  unfold kS
  cases j with
  |zero=>
   simp only[List.getElem?_cons_zero,Option.some.injEq] at h
   subst h
   rw[kj nd.1,List.getElem?_set_self hi];rfl
  |succ j=>
   simp only[List.getElem?_cons_succ] at h ⊢
   exact pP nd.2 h (by simpa using hi) (by simpa using hj)
end
section
variable {D:Wd}{f:Fc}{d:Nat}{as:List Addr}{Mh:AM}{M:MH}{k:K1}{X:KX}
theorem FnC.mono{fv:Value}{cs:List CV}{kn:List Str}{ck:List CV}{Φ Ψ:CV→MH→Prop}{Y Z:Str→MH→Prop}(h:FnC D d fv cs kn ck M Φ Y)(k:∀c M,Φ c M→Ψ c M)(l:∀c M,Y c M→Z c M):FnC D d fv cs kn ck M Ψ Z:=fun f fz m A s vs ks cf a S r rk=>
 codeAny_mono (h f fz m A s vs ks cf a S r rk) fun r s' z=>by
  rcases r with e|(v|_|_|_)
  ·obtain⟨p,q,r,g,u,t,y,z⟩:=z;exact⟨p,q,r,g,u,t,y,l _ _ z⟩
  all_goals first|exact z.elim|(obtain⟨p,q,r,g,u,t,z⟩:=z;exact⟨p,q,r,g,u,t,k _ _ z⟩)
theorem nY{idx:List Nat}{as2:List Addr}{Mh':AM}{M':MH}(r:RM as Mh M)(nd:idx.Nodup)(lv:∀i∈idx,∃o,Mh[i]?=some o∧o≠.gone)(hs:Step (idx.map fun i=>as.getD i 0) M as2 M')(r2:RM as2 Mh' M') :
  Step as M (as++as2.drop idx.length) M'∧RM (as++as2.drop idx.length) (gF Mh idx Mh') M'∧∀a c,RV as2 a c→RV (as++as2.drop idx.length) (a.ren (dX idx Mh.length)) c:=by
 walk_at "dd"
 have hsub:∀(j i:Nat),idx[j]?=some i→∃ad,as[i]?=some ad∧as2[j]?=some ad:=fun j i e=>by
  have hi:=hlt i (List.mem_of_getElem? e)
  rw[←r.len] at hi
  refine⟨as[i],by simp[hi],hs.1 j _ ?_⟩
  rw[List.getElem?_map,e]
  simp[hi]
 have hlen:idx.length≤as2.length:=by
  cases q:idx.length with
  |zero=>omega
  |succ n=>
   have hn:n < idx.length:=by omega
   obtain⟨ad,_,h2⟩:=hsub n idx[n] (by simp[hn])
   have:=(List.getElem?_eq_some_iff.mp h2).1
   omega
 have hlen':idx.length≤Mh'.length:=r2.len▸hlen
 have memSub:∀b,b∈(idx.map fun i=>as.getD i 0)→b∈as:=fun b hb=>by
  obtain⟨i,hi,e⟩:=List.mem_map.mp hb
  have h:=hlt i hi
  rw[←r.len] at h
  rw[←e];simp[h]
 have stp:Step as M (as++as2.drop idx.length) M':=⟨fun i ad e=>by rw[List.getElem?_append_left (List.getElem?_eq_some_iff.mp e).1];exact e,fun b mo hb hg=>by
  obtain⟨h1,h2⟩:=hs.2 b mo (fun q=>hb (memSub b q)) hg
  exact⟨fun q=>by
   rcases List.mem_append.mp q with q|q
   ·exact hb q
   ·exact h1 (List.mem_of_mem_drop q),h2⟩⟩
 have getNew:∀j:Nat,(as++as2.drop idx.length)[Mh.length+j]?=as2[idx.length+j]?:=fun j=>by
  rw[←r.len,List.getElem?_append_right (Nat.le_add_right _ _),List.getElem?_drop];congr 1;omega
 have back:∀j ad,as2[j]?=some ad→RV (as++as2.drop idx.length) (dX idx Mh.length j) (.ref ad):=fun j ad e=>by
  unfold dX
  cases q:idx[j]? with
  |some i=>
   obtain⟨ad',h1,h2⟩:=hsub j i q
   rw[e] at h2;cases h2
   exact .ref (stp.1 _ _ h1)
  |none=>
   have hj:idx.length≤j:=List.getElem?_eq_none_iff.mp q
   refine .ref ?_
   rw[getNew,show idx.length+(j - idx.length)=j by omega]
   exact e
 have rv:∀a c,RV as2 a c→RV (as++as2.drop idx.length) (a.ren (dX idx Mh.length)) c:=fun a c h=>h.ren fun i _ ad e=>back i ad e
 have ro:∀o mo,RO as2 o mo→RO (as++as2.drop idx.length) (o.ren (dX idx Mh.length)) mo:=fun a c h=>h.ren fun i _ ad e=>back i ad e
 have takeLen:((rS (dX idx Mh.length) Mh').take idx.length).length=idx.length:=by simp[rS];omega
 have mget:∀(i:Nat) (o:AO),(gF Mh idx Mh')[i]?=some o→(i∉idx∧Mh[i]?=some o)∨∃(j:Nat) (p:AO),Mh'[j]?=some p∧o=p.ren (dX idx Mh.length)∧(as++as2.drop idx.length)[i]?=as2[j]?∧(idx[j]?=some i∨(idx.length≤j∧i=Mh.length+(j - idx.length))):=by
  intro i o e
  unfold gF at e
  by_cases hi:i < Mh.length
  ·rw[List.getElem?_append_left (by rw[cT];exact hi)] at e
   by_cases hx:i∈idx
   ·obtain⟨j,_,hj⟩:=fk (n:=0) hx
    have hjl:=(List.getElem?_eq_some_iff.mp hj).1
    rw[pP nd hj hi (by rw[takeLen];exact hjl),List.getElem?_take,if_pos hjl,rS,List.getElem?_map,Option.map_eq_some_iff] at e
    obtain⟨p,h1,rfl⟩:=e
    obtain⟨ad,h2,h3⟩:=hsub j i hj
    exact .inr ⟨j,p,h1,rfl,by rw[stp.1 _ _ h2,h3],.inl hj⟩
   ·rw[kj hx] at e;exact .inl ⟨hx,e⟩
  ·rw[List.getElem?_append_right (by rw[cT];omega),cT,List.getElem?_drop,rS,List.getElem?_map,Option.map_eq_some_iff] at e
   obtain⟨p,h1,rfl⟩:=e
   refine .inr ⟨_,p,h1,rfl,?_,.inr ⟨by omega,by omega⟩⟩
   have:=getNew (i - Mh.length)
   rw[show Mh.length+(i - Mh.length)=i by omega] at this
   exact this
 have old:∀(i:Nat) (o:AO) (ad:Addr),i∉idx→Mh[i]?=some o→o≠.gone→as[i]?=some ad→∃mo,M'.get ad=some mo∧RO as o mo∧ad∉as2:=by
  intro i o ad hi e hl ha
  obtain⟨ad',mo,h1,h2,h3⟩:=r.live e hl
  rw[ha] at h1;cases h1
  have:ad∉(idx.map fun i=>as.getD i 0):=fun q=>by
   obtain⟨i',hi',e'⟩:=List.mem_map.mp q
   obtain⟨o',ho',hl'⟩:=lv i' hi'
   have hlt':=hlt i' hi'
   rw[←r.len] at hlt'
   have:as[i']?=some ad:=by rw[←e'];simp[hlt']
   exact hi (r.inj i i' o o' ad e hl ho' hl' ha this▸hi')
  obtain⟨k1,k2⟩:=hs.2 ad mo this h2
  exact⟨mo,k2,h3,k1⟩
 refine⟨stp,⟨?_,fun i o e=>?_,?_,fun b hb=>?_⟩,rv⟩
 ·simp only[gF,List.length_append,cT,List.length_drop,rS,List.length_map,r.len,r2.len]
 ·rcases mget i o e with ⟨hi,e'⟩|⟨j,p,h1,rfl,h2,_⟩
  ·by_cases hl:o=.gone
   ·exact .inl hl
   ·obtain⟨ad,mo,k1,k2,k3⟩:=r.live e' hl
    obtain⟨mo',z1,z2,_⟩:=old i o ad hi e' hl k1
    exact .inr ⟨ad,mo',stp.1 _ _ k1,z1,z2.mono stp.1⟩
  ·rcases r2.at' j p h1 with rfl|⟨ad,mo,k1,k2,k3⟩
   ·exact .inl rfl
   ·exact .inr ⟨ad,mo,by rw[h2];exact k1,k2,ro _ _ k3⟩
 ·have hsubEq:∀ad∈as2,ad∉as2.drop idx.length→ad∈idx.map fun i=>as.getD i 0:=fun ad h1 h2=>by
   obtain⟨j,hj,e⟩:=List.mem_iff_getElem.mp h1
   have hjl:j < idx.length:=by
    apply Decidable.byContradiction
    intro q
    exact h2 (List.mem_iff_getElem.mpr ⟨j - idx.length,by simp;omega,by simp[←e];congr 1;omega⟩)
   obtain⟨ad',k1,k2⟩:=hsub j idx[j] (by simp[hjl])
   have:ad'=ad:=by rw[List.getElem?_eq_getElem hj] at k2;cases k2;exact e
   subst this
   refine List.mem_map.mpr ⟨idx[j],List.getElem_mem _,?_⟩
   simp[k1]
  rw[List.nodup_append]
  refine⟨r.nd,r2.nd.sublist (List.drop_sublist _ _),fun x hx y hy e=>?_⟩
  subst e
  obtain⟨mo,hmo⟩:=r.dom x hx
  have hxs:x∉idx.map fun i=>as.getD i 0:=fun q=>by
   obtain⟨i,hi,e⟩:=List.mem_map.mp q
   obtain⟨j,_,hj⟩:=fk (n:=0) hi
   obtain⟨ad,k1,k2⟩:=hsub j i hj
   have:ad=x:=by rw[←e];simp[k1]
   subst this
   have hjl:=(List.getElem?_eq_some_iff.mp hj).1
   obtain⟨l,hl,e2⟩:=List.mem_iff_getElem.mp hy
   have e3:as2[idx.length+l]?=some ad:=by
    rw[←e2,List.getElem_drop]
    exact List.getElem?_eq_getElem (by simp at hl;omega)
   have:=(List.getElem?_inj (List.getElem?_eq_some_iff.mp k2).1 r2.nd).mp (k2.trans e3.symm)
   omega
  exact(hs.2 x mo hxs hmo).1 (List.mem_of_mem_drop hy)
 ·rcases List.mem_append.mp hb with hb|hb
  ·by_cases q:b∈idx.map fun i=>as.getD i 0
   ·obtain⟨i,hi,e⟩:=List.mem_map.mp q
    obtain⟨j,_,hj⟩:=fk (n:=0) hi
    obtain⟨ad,k1,k2⟩:=hsub j i hj
    have:ad=b:=by rw[←e];simp[k1]
    subst this
    exact r2.dom _ (List.mem_of_getElem? k2)
   ·obtain⟨mo,hmo⟩:=r.dom b hb
    exact⟨mo,(hs.2 b mo q hmo).2⟩
  ·exact r2.dom b (List.mem_of_mem_drop hb)
theorem jT{S:aE}{fa:Addr}{args:List AV}{kws:List (Str×AV)}{cs:List CV}{ck:List (Str×CV)}(ok:SpecOk D d fa S)(r:RM as Mh M)(va:RVs as args cs)(vk:RF as kws ck)(h:jU S args kws Mh k X) :
  FnC D d (.ref fa) cs (kws.map (·.1)) (ck.map (·.2)) M (PostV as M k) (PostX as M X):=by
 rw[qX] at h
 unfold kF sN at h
 generalize nS 200 Mh (AV.refss args++AV.refsf kws) []=idx at h
 cases q:uo Mh args kws idx with
 |false=>rw[q] at h;exact h.elim
 |true=>
 rw[q] at h
 unfold uo at q
 simp only[Bool.and_eq_true,List.all_eq_true] at q
 obtain⟨q1,q2,q3,q4⟩:=q
 have nd:=dif_iff.mp q1
 have lv:∀i∈idx,∃o,Mh[i]?=some o∧o≠.gone:=fun i hi=>by
  have:=(q4 i hi).1
  unfold xI at this
  split at this<;>first|cases this|skip
  rename_i o h1 h2
  exact⟨o,h2,fun e=>h1 e⟩
 walk_at "dd"
 have pos:∀i∈idx,∀ad,as[i]?=some ad→RV (idx.map fun i=>as.getD i 0) (jx idx i) (.ref ad):=fun i hi ad e=>by
  obtain⟨j,h1,h2⟩:=fk (n:=0) hi
  unfold jx
  rw[h1]
  refine .ref ?_
  rw[Nat.zero_add,List.getElem?_map,h2]
  simp[e]
 have rs:RM (idx.map fun i=>as.getD i 0) (u0 Mh idx) M:=by
  have key:∀(j:Nat) (o:AO),(u0 Mh idx)[j]?=some o→∃i p ad mo,idx[j]?=some i∧Mh[i]?=some p∧p≠.gone∧as[i]?=some ad∧(idx.map fun i=>as.getD i 0)[j]?=some ad∧M.get ad=some mo∧RO (idx.map fun i=>as.getD i 0) o mo:=fun j o e=>by
   unfold u0 at e
   rw[List.getElem?_map,Option.map_eq_some_iff] at e
   obtain⟨i,hi,rfl⟩:=e
   obtain⟨p,hp,hl⟩:=lv i (List.mem_of_getElem? hi)
   obtain⟨ad,mo,z1,z2,z3⟩:=r.live hp hl
   refine⟨i,p,ad,mo,hi,hp,hl,z1,by rw[List.getElem?_map,hi];simp[z1],z2,?_⟩
   have hd:Mh.getD i .gone=p:=by simp[hp]
   rw[hd]
   refine z3.ren fun i' hi' ad' e'=>pos i' ?_ ad' e'
   have:=(q4 i (List.mem_of_getElem? hi)).2
   rw[hd] at this
   exact allIn_iff.mp this i' hi'
  refine⟨by simp[u0],fun j o e=>?_,?_,fun b hb=>?_⟩
  ·obtain⟨i,p,ad,mo,z1,z2,z3,z4,z5,z6,z7⟩:=key j o e
   exact .inr ⟨ad,mo,z5,z6,z7⟩
  ·refine List.Pairwise.map _ (fun x y h=>h) ?_
   refine List.Pairwise.imp_of_mem (fun {x y} hx hy hne=>?_) nd
   have lx:=hlt x hx
   have ly:=hlt y hy
   rw[←r.len] at lx ly
   intro e
   have ex:as[x]?=some (as.getD x 0):=by simp[lx]
   have ey:as[y]?=some (as.getD y 0):=by simp[ly]
   rw[←e] at ey
   exact hne ((List.getElem?_inj lx r.nd).mp (ex.trans ey.symm))
  ·obtain⟨i,hi,e⟩:=List.mem_map.mp hb
   have lx:=hlt i hi
   rw[←r.len] at lx
   exact r.dom b (by rw[←e];simp[lx])
 have e1:=va.ren (as':=idx.map fun i=>as.getD i 0) (g:=jx idx) fun i hi ad e=>pos i (allIn_iff.mp q2 i hi) ad e
 have e2:=vk.ren (as':=idx.map fun i=>as.getD i 0) (g:=jx idx) fun i hi ad e=>pos i (allIn_iff.mp q3 i hi) ad e
 have H:=ok _ _ _ _ _ _ _ _ _ e1 e2 rs h
 rw[rR] at H
 refine H.mono (fun c M' z=>?_) (fun msg M' z=>?_)
 ·obtain⟨as2,a,Mh',s2,r2,v2,hk⟩:=z
  obtain⟨m1,m2,m3⟩:=nY r nd lv s2 r2
  exact⟨_,_,_,m1,m2,m3 _ _ v2,hk⟩
 ·obtain⟨as2,Mh',s2,r2,hk⟩:=z
  obtain⟨m1,m2,m3⟩:=nY r nd lv s2 r2
  exact⟨_,_,m1,m2,hk⟩
end
theorem MH.mem_of_get{M:MH}{a:Addr}{o:MO}(h:M.get a=some o):(a,o)∈M:=by
 obtain⟨M1,M2,e,_⟩:=MH.get_split' h
 rw[e];exact List.mem_append_right _ (.head _)
section
variable {cls:Str→Option Addr}{fz fz':Led}{as:List Addr}{Mh:AM}{M:MH}{b:Nat}
inductive Mq(cls:Str→Option Addr)(fz:Led)(q:Addr→Bool)(ml2:Led):MH→Led→Prop
 |nil:Mq cls fz q ml2 [] []
 |keep {a:Addr} {o:MO} {M:MH} {l1 l2:Led}:q a=false→MR1 cls fz a o l1→Mq cls fz q ml2 M l2→Mq cls fz q ml2 ((a,o)::M) (l1++l2)
 |move {a:Addr} {o:MO} {M:MH} {lx l2:Led}:q a=true→MR1 cls fz a o lx→(∀p∈lx,p∈ml2)→Mq cls fz q ml2 M l2→Mq cls fz q ml2 ((a,o)::M) l2
theorem Mq.mono{q:Addr→Bool}{ml2 ml3:Led}(h:∀p∈ml2,p∈ml3){M:MH}{l:Led}(x:Mq cls fz q ml2 M l):Mq cls fz q ml3 M l:=by
 induction x with
 |nil=>exact .nil
 |keep a b _ ih=>exact .keep a b ih
 |move a b c _ ih=>exact .move a b (fun p hp=>h p (c p hp)) ih
theorem MRs.part(q:Addr→Bool):∀{M:MH} {ml:Led},MRs cls fz M ml→∃ml1 ml2,ml.Perm (ml2++ml1)∧Mq cls fz q ml2 M ml1
 |_,_,.nil=>⟨[],[],.refl _,.nil⟩
 |_,_,.cons (a:=a) (o:=o) (M:=M) (l1:=l1) (l2:=l2) x y=>by
  obtain⟨ml1,ml2,p,k⟩:=y.part q
  cases hq:q a with
  |true=>
   refine⟨ml1,l1++ml2,?_,.move hq x (fun p hp=>List.mem_append_left _ hp) (k.mono fun p hp=>List.mem_append_right _ hp)⟩
   rw[List.append_assoc];exact List.Perm.append_left _ p
  |false=>
   refine⟨l1++ml1,ml2,?_,.keep hq x k⟩
   refine(List.Perm.append_left l1 p).trans ?_
   rw[←List.append_assoc,←List.append_assoc]
   exact List.perm_append_comm.append_right _
theorem Mq.moved{q:Addr→Bool}{ml2:Led}{M:MH}{l:Led}(x:Mq cls fz q ml2 M l):∀a mo,(a,mo)∈M→q a=true→∃lx,MR1 cls fz a mo lx∧∀p∈lx,p∈ml2:=by
 induction x with
 |nil=>intro a mo h;cases h
 |keep h1 h2 _ ih=>
  intro a mo h hq
  cases h with
  |head=>rw[h1] at hq;cases hq
  |tail _ h=>exact ih a mo h hq
 |move h1 h2 h3 _ ih=>
  intro a mo h hq
  cases h with
  |head=>exact⟨_,h2,h3⟩
  |tail _ h=>exact ih a mo h hq
mutual
theorem tT{g:Nat→CV}(k:∀p∈fz,p∈fz')(hg:∀i ad,as[i]?=some ad→VR cls fz' (g i) (.ref ad)):∀{x:AV} {c:CV} {v:Value},RV as x c→VR cls fz c v→VR cls fz' (toC g x) v
 |_,_,_,.v c,r=>by rw[toC];exact r.mono k
 |_,_,_,.ref e,r=>by rw[toC];cases r;exact hg _ _ e
 |_,_,_,.tup l,r=>by
  rw[toC]
  cases r with
  |tup hm hr=>exact .tup (k _ hm) (lS k hg l hr)
theorem lS{g:Nat→CV}(k:∀p∈fz,p∈fz')(hg:∀i ad,as[i]?=some ad→VR cls fz' (g i) (.ref ad)):∀{x:List AV} {c:List CV} {v:List Value},RVs as x c→VRs cls fz c v→VRs cls fz' (oI g x) v
 |_,_,_,.nil,r=>by cases r;rw[oI];exact .nil
 |_,_,_,.cons a l,r=>by
  cases r with
  |cons r1 r2=>rw[oI];exact .cons (tT k hg a r1) (lS k hg l r2)
end
theorem wq{g:Nat→CV}(k:∀p∈fz,p∈fz')(hg:∀i ad,as[i]?=some ad→VR cls fz' (g i) (.ref ad)){x:List (Str×AV)}{c:List (Str×CV)}{es:List DictEntry}(h:RF as x c)(r:VRf cls fz c es):VRf cls fz' (uW g x) es:=by
 induction h generalizing es with
 |nil=>cases r;exact .nil
 |cons a _ ih=>
  cases r with
  |cons r1 r2=>exact .cons (tT k hg a r1) (ih r2)
structure Fz(cls:Str→Option Addr)(fz fz':Led)(as:List Addr)(Mh:AM)(M:MH)(b:Nat):Prop where
 sub:∀p∈fz,p∈fz'
 rm:RM as Mh M
 moved:∀i ad o mo,b≤i→Mh[i]?=some o→o≠.gone→as[i]?=some ad→M.get ad=some mo→∃lx,MR1 cls fz ad mo lx∧∀p∈lx,p∈fz'
theorem mP(F:Fz cls fz fz' as Mh M b):∀(n i:Nat) (ad:Addr),as[i]?=some ad→VR cls fz' (sv b Mh n i) (.ref ad)
 |0,_,_,_=>.any _ rfl
 |n+1,i,ad,e=>by
  unfold sv
  cases hb:Nat.blt i b with
  |true=>exact .any _ rfl
  |false=>
   have hbi:b≤i:=by
    have:¬ i < b:=fun q=>by rw[Nat.blt_eq.mpr q] at hb;cases hb
    omega
   simp only[cond_false]
   split
   ·rename_i vs hi
    walk_at "cZ"
    walk_at "cm"
    walk_at "cO"
    cases r with
    |lst hv=>exact .lst (hl _ (.head _)) (hv.mono F.sub)
   ·rename_i l hi
    walk_at "cZ"
    rw[e] at h1;cases h1
    cases h3 with
    |mix hl3=>
    walk_at "cO"
    cases r with
    |lst hv=>exact .lst (hl _ (.head _)) (lS F.sub (mP F n) hl3 hv)
   ·rename_i c fs hi
    walk_at "cZ"
    rw[e] at h1;cases h1
    cases h3 with
    |inst hl3=>
    walk_at "cO"
    cases r with
    |inst hc hv=>exact .inst hc (hl _ (.head _)) (hl _ (.tail _ (.head _))) (wq F.sub (mP F n) hl3 hv)
   ·exact .any _ rfl
theorem pH{i:Nat}{ad:Addr}(e:as[i]?=some ad)(h:i < b):(as.take b)[i]?=some ad:=by rw[List.getElem?_take,if_pos h];exact e
theorem xZ(F:Fz cls fz fz' as Mh M b){i:Nat}{ad:Addr}(e:as[i]?=some ad):∃c',RV (as.take b) (x0 b Mh i) c'∧VR cls fz' c' (.ref ad):=by
 unfold x0
 cases hb:Nat.blt i b with
 |true=>exact⟨.ref ad,.ref (pH e (Nat.blt_eq.mp hb)),.ref _⟩
 |false=>exact⟨_,.v _,mP F 12 i ad e⟩
mutual
theorem jK(F:Fz cls fz fz' as Mh M b):∀{x:AV} {c:CV},RV as x c→∃c',RV (as.take b) (fS b Mh x) c'∧∀v,VR cls fz c v→VR cls fz' c' v
 |_,_,.v c=>by rw[fS];exact⟨c,.v _,fun v r=>r.mono F.sub⟩
 |_,_,.ref e=>by
  rw[fS]
  obtain⟨c',h1,h2⟩:=xZ F e
  exact⟨c',h1,fun v r=>by cases r;exact h2⟩
 |_,_,.tup l=>by
  rw[fS]
  obtain⟨cs,h1,h2⟩:=iu F l
  exact⟨_,RV.mkTup h1,fun v r=>by cases r with|tup hm hr=>exact .tup (F.sub _ hm) (h2 _ hr)⟩
theorem iu(F:Fz cls fz fz' as Mh M b):∀{x:List AV} {c:List CV},RVs as x c→∃c',RVs (as.take b) (dE b Mh x) c'∧∀v,VRs cls fz c v→VRs cls fz' c' v
 |_,_,.nil=>by rw[dE];exact⟨[],.nil,fun v r=>by cases r;exact .nil⟩
 |_,_,.cons a l=>by
  rw[dE]
  obtain⟨c1,p1,p2⟩:=jK F a
  obtain⟨c2,q1,q2⟩:=iu F l
  exact⟨c1::c2,.cons p1 q1,fun v r=>by cases r with|cons r1 r2=>exact .cons (p2 _ r1) (q2 _ r2)⟩
end
theorem mR(F:Fz cls fz fz' as Mh M b){x:AV}{c:CV}{v:Value}(h:RV as x c)(r:VR cls fz c v):∃c',RV (as.take b) (fS b Mh x) c'∧VR cls fz' c' v:=by
 obtain⟨c',h1,h2⟩:=jK F h
 exact⟨c',h1,h2 v r⟩
theorem vz(F:Fz cls fz fz' as Mh M b){x:List AV}{c:List CV}{v:List Value}(h:RVs as x c)(r:VRs cls fz c v):∃c',RVs (as.take b) (dE b Mh x) c'∧VRs cls fz' c' v:=by
 obtain⟨c',h1,h2⟩:=iu F h
 exact⟨c',h1,h2 v r⟩
theorem x5(F:Fz cls fz fz' as Mh M b){x:List (Str×AV)}{c:List (Str×CV)}{es:List DictEntry}(h:RF as x c)(r:VRf cls fz c es):∃c',RF (as.take b) (mQ b Mh x) c'∧VRf cls fz' c' es:=by
 induction h generalizing es with
 |nil=>cases r;exact⟨[],.nil,.nil⟩
 |cons a _ ih=>
  cases r with
  |cons r1 r2=>
   obtain⟨c1,p1,p2⟩:=mR F a r1
   obtain⟨c2,q1,q2⟩:=ih r2
   exact⟨_::c2,.cons p1 q1,.cons p2 q2⟩
theorem x4(F:Fz cls fz fz' as Mh M b){o:AO}{mo:MO}{ad:Addr}{lx:Led}(h:RO as o mo)(r:MR1 cls fz ad mo lx):∃mo',RO (as.take b) (qz b Mh o) mo'∧MR1 cls fz' ad mo' lx:=by
 cases h with
 |lst vs=>exact⟨_,.lst _,r.mono F.sub⟩
 |mix l=>
  cases r with
  |lst hv=>
   obtain⟨cs,h1,h2⟩:=vz F l hv
   exact⟨_,RO.mkLst h1,.lst h2⟩
 |inst l=>
  cases r with
  |inst hc hv=>
   obtain⟨cs,h1,h2⟩:=x5 F l hv
   exact⟨_,.inst h1,.inst hc h2⟩
 |exc m=>exact⟨_,.exc _,r.mono F.sub⟩
 |caught m=>exact⟨_,.caught _,r.mono F.sub⟩
theorem frzO_gone{o:AO}:qz b Mh o=.gone↔o=.gone:=by
 cases o<;>simp only[qz,reduceCtorEq]
 exact iff_of_false (dS _) (by intro q;cases q)
theorem MRs.conv(F:Fz cls fz fz' as Mh M b){q:Addr→Bool}{ml2:Led}(h2:∀p∈ml2,p∈fz'):∀{Mk:MH} {ml:Led},Mq cls fz q ml2 Mk ml→(∀a mo,(a,mo)∈Mk→M.get a=some mo)→∃Mk',MRs cls fz' Mk' ml ∧
  ∀a mo,Mk.get a=some mo→∃mo',Mk'.get a=some mo'∧(q a=false→(a∉as→mo'=mo)∧∀i o,i < b→Mh[i]?=some o→o≠.gone→as[i]?=some a→RO (as.take b) (qz b Mh o) mo')
 |_,_,.nil,_=>⟨[],.nil,fun a mo h=>by cases h⟩
 |_,_,.move (a:=a) (o:=mo) (M:=Mk) hq x hx y,hM=>by
  obtain⟨Mk',r,k⟩:=MRs.conv F h2 y fun a mo h=>hM a mo (.tail _ h)
  obtain⟨ob,hob⟩:=x.has
  have hin:(a,ob)∈fz':=by
   rcases hob with hob|hob
   ·exact h2 _ (hx _ hob)
   ·exact F.sub _ hob
  refine⟨(a,.dead)::Mk',.cons (.dead hin) r,fun a' mo2 h=>?_⟩
  rw[MH.get_cons] at h
  by_cases e:a'=a
  ·subst e;exact⟨.dead,by rw[MH.get_cons,if_pos rfl],fun h=>by rw[hq] at h;cases h⟩
  walk_at "dj"
 |_,_,.keep (a:=a) (o:=mo) (M:=Mk) hq x y,hM=>by
  obtain⟨Mk',r,k⟩:=MRs.conv F h2 y fun a mo h=>hM a mo (.tail _ h)
  have hget:=hM a mo (.head _)
  obtain⟨mo',h1,h2,h3⟩:∃mo',MR1 cls fz' a mo' _∧(a∉as→mo'=mo)∧∀i o,i < b→Mh[i]?=some o→o≠.gone→as[i]?=some a→RO (as.take b) (qz b Mh o) mo':=by
   by_cases q:∃i o,i < b∧Mh[i]?=some o∧o≠.gone∧as[i]?=some a
   ·obtain⟨i,o,q1,q2,q3,q4⟩:=q
    obtain⟨a',mo2,z1,z2,z3⟩:=F.rm.live q2 q3
    rw[q4] at z1;cases z1
    rw[hget] at z2;cases z2
    obtain⟨mo',w1,w2⟩:=x4 F z3 x
    refine⟨mo',w2,fun h=>absurd (List.mem_of_getElem? q4) h,fun j p j1 j2 j3 j4=>?_⟩
    have:=F.rm.inj i j o p a q2 q3 j2 j3 q4 j4
    subst this
    rw[q2] at j2;cases j2
    exact w1
   ·exact⟨mo,x.mono F.sub,fun _=>rfl,fun i o q1 q2 q3 q4=>absurd ⟨i,o,q1,q2,q3,q4⟩ q⟩
  refine⟨(a,mo')::Mk',.cons h1 r,fun a' mo2 h=>?_⟩
  ·rw[MH.get_cons] at h
   by_cases e:a'=a
   ·rw[if_pos e] at h;cases h;subst e
    exact⟨mo',by rw[MH.get_cons,if_pos rfl],fun _=>⟨h2,h3⟩⟩
   walk_at "dj"
end
section
variable {D:Wd}{f:Fc}{d:Nat}{m:List (Str×CV)}{as:List Addr}{Mh:AM}{M:MH}{b:Nat}{fz:Led}{s:Shared}
theorem MR1.where{cls:Str→Option Addr}{a:Addr}{o:MO}{l:Led}(x:MR1 cls fz a o l):(o=.dead∧a∈fz.map (·.1))∨(o≠.dead∧a∈l.map (·.1)):=by
 cases x<;>first|exact .inl ⟨rfl,List.mem_map.mpr ⟨_,‹_›,rfl⟩⟩|exact .inr ⟨(by intro q;cases q),.head _⟩
theorem Hp.getNodup{cls:Str→Option Addr}{h₀:Heap}{xo:Led}{mr:Str→Option Value}{cells fo ml:Led}{h:Heap}(H:Hp cls h₀ f fz m M xo mr cells fo ml h):∀a mo,(a,mo)∈M→M.get a=some mo:=by
 have nd0:=H.nd
 simp only[aa,List.map_append,List.nodup_append,List.mem_append] at nd0
 have nd:(ml.map (·.1)).Nodup:=nd0.2.1.2.1.2.1.2.1.1
 have dj:∀x∈fz.map (·.1),∀y∈ml.map (·.1),x≠y:=fun x hx y hy=>nd0.2.2 x hx y (.inr (.inr (.inr (.inl hy))))
 have key:∀{M:MH} {ml:Led},MRs cls fz M ml→(ml.map (·.1)).Nodup→(∀x∈fz.map (·.1),∀y∈ml.map (·.1),x≠y)→(∀a mo,(a,mo)∈M→(mo=.dead∧a∈fz.map (·.1))∨(mo≠.dead∧a∈ml.map (·.1)))∧∀a mo,(a,mo)∈M→M.get a=some mo:=by
  intro M ml r
  induction r with
  |nil=>intro _ _;exact⟨fun _ _ h=>(nomatch h),fun _ _ h=>(nomatch h)⟩
  |@cons a o M l1 l2 x _ ih=>
   intro nd dj
   rw[List.map_append,List.nodup_append] at nd
   rw[List.map_append] at dj
   obtain⟨i1,i2⟩:=ih nd.2.1 fun x hx y hy=>dj x hx y (List.mem_append_right _ hy)
   have hw:=x.where
   refine⟨fun a' mo h=>?_,fun a' mo h=>?_⟩
   ·rw[List.map_append]
    cases h with
    |head=>exact hw.imp id fun⟨p,q⟩=>⟨p,List.mem_append_left _ q⟩
    |tail _ h=>exact(i1 a' mo h).imp id fun⟨p,q⟩=>⟨p,List.mem_append_right _ q⟩
   ·cases h with
    |head=>exact MH.get_hd _ _ _
    |tail _ h=>
     by_cases e:a'=a
     ·subst e
      rw[MH.get_hd]
      rcases hw with ⟨p1,p2⟩|⟨p1,p2⟩<;>rcases i1 _ mo h with ⟨q1,q2⟩|⟨q1,q2⟩
      ·rw[p1,q1]
      ·exact absurd rfl (dj _ p2 _ (List.mem_append_right _ q2))
      ·exact absurd rfl (dj _ q2 _ (List.mem_append_left _ p2))
      ·exact absurd rfl (nd.2.2 _ p2 _ q2)
     ·rw[MH.get_tl e];exact i2 a' mo h
 exact(key H.mrs nd dj).2
theorem oe{xo:Led}(S:St D.cls D.h₀ D.os f fz m M xo s)(r:RM as Mh M)(hb:b≤Mh.length):∃fz' M',Sub fz fz'∧(∀m',(∀x c,lk x m'=some c→(∃c0,lk x m=some c0∧∀v,VR D.cls fz c0 v→VR D.cls fz' c v))→St D.cls D.h₀ D.os f fz' m' M' xo s)∧RM (as.take b) (bM b Mh) M' ∧
  (∀a mo,a∉as→M.get a=some mo→M'.get a=some mo)∧(∀a∈as,∃mo,M'.get a=some mo)∧Fz D.cls fz fz' as Mh M b:=by
 classical
 walk_at "cr"
 let q:Addr→Bool:=fun a=>decide (∃i o,b≤i∧Mh[i]?=some o∧o≠.gone∧as[i]?=some a)
 obtain⟨ml1,ml2,pm,r1⟩:=H.mrs.part q
 have F:Fz D.cls fz (ml2++fz) as Mh M b:=⟨fun p hp=>List.mem_append_right _ hp,r,fun i ad o mo h1 h2 h3 h4 h5=>by
  obtain⟨lx,z1,z2⟩:=r1.moved ad mo (MH.mem_of_get h5) (decide_eq_true ⟨i,o,h1,h2,h3,h4⟩)
  exact⟨lx,z1,fun p hp=>List.mem_append_left _ (z2 p hp)⟩⟩
 obtain⟨M',r2,k⟩:=MRs.conv F (fun p hp=>List.mem_append_left _ hp) r1 fun a mo h=>H.getNodup a mo h
 have pl:(aa fz f.pin cells fo ml xo).Perm (aa (ml2++fz) f.pin cells fo ml1 xo):=by
  refine List.perm_iff_count.mpr fun x=>?_
  have:=pm.count_eq x
  simp only[aa,List.count_append,List.count_nil] at this ⊢
  omega
 refine⟨ml2++fz,M',F.sub,fun m' hm=>⟨⟨mr,cells,fo,ml1,⟨H.F,jE pl H.N,(pl.map _).nodup_iff.mp H.nd,H.cellsAre,H.fos,r2,fun x c e=>?_⟩⟩,g,os⟩,?_,fun a mo ha hg=>?_,fun a ha=>?_,F⟩
 ·obtain⟨c0,e0,hv⟩:=hm x c e
  rcases H.loc x c0 e0 with ⟨h1,v,h2,h3⟩|⟨h1,ad,o,v,h2,h3,h4,h5⟩
  ·exact .inl ⟨h1,v,h2,hv v h3⟩
  ·exact .inr ⟨h1,ad,o,v,h2,h3,h4,hv v h5⟩
 ·have hl:=r.len
  refine⟨by simp[bM,hl],fun i o e=>?_,r.nd.sublist (List.take_sublist _ _),fun a ha=>?_⟩
  ·unfold bM at e
   rw[List.getElem?_map,Option.map_eq_some_iff] at e
   obtain⟨o0,h0,rfl⟩:=e
   rw[List.getElem?_take] at h0
   by_cases hi:i < b
   ·rw[if_pos hi] at h0
    by_cases hg:o0=.gone
    ·exact .inl (frzO_gone.mpr hg)
    ·obtain⟨ad,mo,z1,z2,z3⟩:=r.live h0 hg
     have hq:q ad=false:=decide_eq_false fun⟨j,p,y1,y2,y3,y4⟩=>by
      have:=r.inj i j o0 p ad h0 hg y2 y3 z1 y4
      omega
     obtain⟨mo',w1,w3⟩:=k ad mo z2
     exact .inr ⟨ad,mo',pH z1 hi,w1,(w3 hq).2 i o0 hi h0 hg z1⟩
   ·rw[if_neg hi] at h0;cases h0
  ·obtain⟨mo,hmo⟩:=r.dom a (List.mem_of_mem_take ha)
   obtain⟨mo',w1,_⟩:=k a mo hmo
   exact⟨mo',w1⟩
 ·have hq:q a=false:=decide_eq_false fun⟨j,p,y1,y2,y3,y4⟩=>ha (List.mem_of_getElem? y4)
  obtain⟨mo',w1,w2⟩:=k a mo hg
  rw[w1,(w2 hq).1 ha]
 ·obtain⟨mo,hmo⟩:=r.dom a ha
  obtain⟨mo',w1,_⟩:=k a mo hmo
  exact⟨mo',w1⟩
theorem da(S:SS D f fz m M s)(r:RM as Mh M)(hb:b≤Mh.length):∃fz' M',Sub fz fz'∧(∀m',(∀x c,lk x m'=some c→(∃c0,lk x m=some c0∧∀v,VR D.cls fz c0 v→VR D.cls fz' c v))→SS D f fz' m' M' s)∧RM (as.take b) (bM b Mh) M' ∧
  (∀a mo,a∉as→M.get a=some mo→M'.get a=some mo)∧(∀a∈as,∃mo,M'.get a=some mo)∧Fz D.cls fz fz' as Mh M b:=oe S r hb
end
theorem bD{e:PySem.Expr}{env:Env}(h:bQ e=true):∀x,foldedSetIterable e env x=pure x:=by
 intro x
 unfold foldedSetIterable
 cases e<;>first|rfl|cases h
theorem allDif_iff{l:List Str}:fW l=true↔l.Nodup:=by
 induction l with
 |nil=>simp[fW]
 |cons x r ih=>
  unfold fW
  cases q:sIn x r with
  |true=>have:=sIn_iff.mp q;simp[this]
  |false=>
   have:x∉r:=fun h=>by rw[sIn_iff.mpr h] at q;cases q
   simp[ih,this]
theorem jj{env:Env}:∀(names:List (Str×NameKind)) (acc:List (Str×Addr)),(∀x,(x,NameKind.free)∈names→(env.cells.lookup x).isSome=true) →
  ∃cl,(forIn names acc fun x r=>(if x.2 == NameKind.free then do let a ←cellOf env x.1;pure (ForInStep.yield ((x.1,a)::r)) else pure (ForInStep.yield r):Sem _))=pure cl ∧
   (∀x a,(x,a)∈cl→(x,a)∈acc∨env.cells.lookup x=some a)∧(∀p,p∈acc→p∈cl)∧∀x,(x,NameKind.free)∈names→∃a,(x,a)∈cl
 |[],acc,_=>⟨acc,rfl,fun x a h=>.inl h,fun p h=>h,fun x h=>(nomatch h)⟩
 |(n,k)::r,acc,h=>by
  have h':∀x,(x,NameKind.free)∈r→(env.cells.lookup x).isSome=true:=fun x hx=>h x (.tail _ hx)
  rw[List.forIn_cons]
  by_cases hk:k=.free
  ·subst hk
   obtain⟨ad,had⟩:=Option.isSome_iff_exists.mp (h n (.head _))
   obtain⟨cl,e,c1,c2,c3⟩:=jj r ((n,ad)::acc) h'
   refine⟨cl,?_,fun x a hx=>?_,fun p hp=>c2 p (.tail _ hp),fun x hx=>?_⟩
   ·have:cellOf env n=pure ad:=by unfold cellOf;rw[had]
    simp only[this]
    exact e
   ·rcases c1 x a hx with q|q
    ·cases q with
     |head=>exact .inr had
     |tail _ q=>exact .inl q
    ·exact .inr q
   ·cases hx with
    |head=>exact⟨ad,c2 _ (.head _)⟩
    |tail _ hx=>exact c3 x hx
  ·obtain⟨cl,e,c1,c2,c3⟩:=jj r acc h'
   refine⟨cl,?_,c1,c2,fun x hx=>?_⟩
   ·have hkb:(k == NameKind.free)=false:=by simpa using hk
    simp only[hkb]
    exact e
   ·cases hx with
    |head=>exact absurd rfl hk
    |tail _ hx=>exact c3 x hx
theorem dU{α:Type}{x:Str}{a:α}:∀{l:List (Str×α)},l.lookup x=some a→(x,a)∈l
 |(y,b)::r,h=>by
  rw[List.lookup_cons] at h
  by_cases q:x=y
  ·subst q;simp at h;subst h;exact .head _
  ·have:(x == y)=false:=by simp[q]
   rw[this] at h;exact .tail _ (dU h)
theorem mn{α:Type}{x:Str}{a:α}:∀{l:List (Str×α)},(x,a)∈l→(l.lookup x).isSome=true
 |(y,b)::r,h=>by
  rw[List.lookup_cons]
  by_cases q:x=y
  ·subst q;simp
  ·have:(x == y)=false:=by simp[q]
   rw[this]
   cases h with
   |head=>exact absurd rfl q
   |tail _ h=>exact mn h
theorem jD{α:Type}{x:Str}{a:α}:∀{l:List (Str×α)},(l.map (·.1)).Nodup→(x,a)∈l→l.lookup x=some a
 |(y,b)::r,nd,h=>by
  rw[List.map_cons,List.nodup_cons] at nd
  rw[List.lookup_cons]
  cases h with
  |head=>simp
  |tail _ h=>
   have:x≠y:=fun e=>nd.1 (List.mem_map.mpr ⟨(x,a),h,e⟩)
   have:(x == y)=false:=by simp[this]
   rw[this];exact jD nd.2 h
theorem et{scope:Scope}{env:Env}{x:Str}:∀{names:List (Str×NameKind)} {k:NameKind},names.lookup x=some k →
  (names.map fun(n,k)=>if (k == NameKind.free&&env.scope.kind == .function&&env.kindOf n == some .cell) then (n,NameKind.cell) else (n,k)).lookup x=some k ∨
  (k=.free∧(names.map fun(n,k)=>if (k == NameKind.free&&env.scope.kind == .function&&env.kindOf n == some .cell) then (n,NameKind.cell) else (n,k)).lookup x=some .cell)
 |[],k,h=>by simp at h
 |(n,k0)::r,k,h=>by
  rw[List.map_cons]
  show List.lookup x ((if (k0 == NameKind.free&&env.scope.kind == .function&&env.kindOf n == some .cell)=true then (n,NameKind.cell) else (n,k0))::_)=_∨(_∧List.lookup x ((if (k0 == NameKind.free&&env.scope.kind == .function&&env.kindOf n == some .cell)=true then (n,NameKind.cell) else (n,k0))::_)=_)
  rw[List.lookup_cons] at h
  by_cases q:x=n
  ·subst q
   simp only[beq_self_eq_true] at h
   cases h
   by_cases hc:(k0 == NameKind.free&&env.scope.kind == .function&&env.kindOf x == some .cell)=true
   ·rw[if_pos hc]
    simp only[Bool.and_eq_true,beq_iff_eq] at hc
    exact .inr ⟨hc.1.1,by simp[List.lookup_cons]⟩
   ·rw[if_neg hc];exact .inl (by simp[List.lookup_cons])
  ·have hb:(x == n)=false:=by simp[q]
   rw[hb] at h
   have ih:=et (scope:=scope) (env:=env) (names:=r) (k:=k) h
   by_cases hc:(k0 == NameKind.free&&env.scope.kind == .function&&env.kindOf n == some .cell)=true
   ·rw[if_pos hc];simp only[List.lookup_cons,hb];exact ih
   ·rw[if_neg hc];simp only[List.lookup_cons,hb];exact ih
section
variable {D:Wd}{E:Ev}{cx:Cx}{f:Fc}{d:Nat}{mh:Vs}{Mh:AM}{k:K1}{X:KX}{kb:KB}{as:List Addr}{m:List (Str×CV)}{M:MH}
theorem pn{sc:Scope}(F:FOk f cx)(h:i5 cx.sc sc=true):∃cl,kN f sc cl∧∀x,sc.names.lookup x=some .free→(cl.lookup x).isSome=true∧f.env.kindOf x=some .cell:=by
 walk_at "cU"
 obtain⟨⟨h1,h2⟩,h3⟩:=h
 have nd:=allDif_iff.mp h2
 have kd:sc.kind=.function:=by
  revert h1;cases sc.kind<;>simp
 have free:∀x,(x,NameKind.free)∈sc.names→f.env.kindOf x=some .cell∧(f.env.cells.lookup x).isSome=true:=fun x hx=>by
  have:=h3 _ hx
  simp only at this
  split at this
  ·rename_i q
   obtain⟨a,_,c⟩:=F.own x q
   exact⟨a,c⟩
  ·cases this
 obtain⟨cl,e,c1,_,c3⟩:=jj (env:=f.env) sc.names [] fun x hx=>(free x hx).2
 refine⟨cl,⟨?_,kd,fun p hp hl=>?_,fun p hp hc=>?_,fun x ad hx=>?_⟩,fun x hx=>?_⟩
 ·unfold closureFor
  exact congrArg (fun(z:Sem (List (Str×Addr)))=>z >>= pure) e
 ·exact jD nd (by obtain⟨x,k⟩:=p;cases hl;exact hp)
 ·obtain⟨x,k⟩:=p
  simp only at hc
  subst hc
  exact absurd (h3 _ hp) (by simp)
 ·rcases c1 x ad (dU hx) with q|q
  ·cases q
  ·exact q
 ·have hm:=dU hx
  obtain⟨a,ha⟩:=c3 x hm
  exact⟨mn ha,(free x hm).1⟩
def nK(sc:Scope)(m:List (Str×CV)):List (Str×CV):=m.filter fun p=>decide (sc.names.lookup p.1=some .free)
theorem nZ{q:Str→Bool}{x:Str}:lk x (m.filter fun p=>q p.1)=if q x then lk x m else none:=by
 induction m with
 |nil=>simp[lk]
 |cons p r ih=>
  obtain⟨y,c⟩:=p
  by_cases h:y=x
  ·subst h
   cases hq:q y with
   |true=>rw[List.filter_cons_of_pos (by simp[hq])];simp[lk]
   |false=>rw[List.filter_cons_of_neg (by simp[hq]),ih,hq];simp
  ·cases hq:q y with
   |true=>rw[List.filter_cons_of_pos (by simp[hq])];unfold lk;rw[if_neg h,if_neg h];exact ih
   |false=>rw[List.filter_cons_of_neg (by simp[hq]),ih];(conv=>rhs;unfold lk);rw[if_neg h]
theorem se{q:Str→Bool}{x:Str}:lkA x (mh.filter fun p=>q p.1)=if q x then lkA x mh else none:=by
 induction mh with
 |nil=>simp[lkA]
 |cons p r ih=>
  obtain⟨y,c⟩:=p
  by_cases h:y=x
  ·subst h
   cases hq:q y with
   |true=>rw[List.filter_cons_of_pos (by simp[hq])];simp[lkA,b8]
   |false=>rw[List.filter_cons_of_neg (by simp[hq]),ih,hq];simp
  ·have h':=sEq_false.mpr h
   cases hq:q y with
   |true=>rw[List.filter_cons_of_pos (by simp[hq])];unfold lkA;rw[h'];exact ih
   |false=>rw[List.filter_cons_of_neg (by simp[hq]),ih];(conv=>rhs;unfold lkA);rw[h'];rfl
theorem po{sc:Scope}{cl:List (Str×Addr)}(ci:∀x,sc.names.lookup x=some .free→(cl.lookup x).isSome=true∧f.env.kindOf x=some .cell):Cap f sc cl (nK sc m) m:=fun x c e=>by
 unfold nK at e
 rw[nZ (q:=fun x=>decide (sc.names.lookup x=some .free))] at e
 split at e
 ·rename_i h
  have h:=of_decide_eq_true h
  obtain⟨h1,h2⟩:=ci x h
  refine⟨e,.inl h2,?_,h1⟩
  rcases et (scope:=sc) (env:=f.env) h with q|⟨_,q⟩
  ·exact .inr q
  ·exact .inl q
 ·cases e
theorem m9{sc:Scope}(h:i5 cx.sc sc=true)(l:ML as mh m):ML as (sM mh sc) (nK sc m):=fun x a e=>by
 unfold sM at e
 rw[se (q:=Dk sc)] at e
 split at e
 ·rename_i hq
  unfold Dk at hq
  obtain⟨c,h1,h2⟩:=l x a e
  refine⟨c,?_,h2⟩
  unfold nK
  rw[nZ (q:=fun x=>decide (sc.names.lookup x=some .free)),if_pos]
  ·exact h1
  ·rw[decide_eq_true_eq,←bE]
   split at hq
   ·rename_i q;exact q
   ·rename_i q
    rw[bE] at q
    walk_at "cU"
    have:=h.2 _ (dU q)
    simp at this
   ·cases hq
 ·cases e
theorem FOk.comp{sc:Scope}{cl:List (Str×Addr)}{C:Addr}{frs:List (Addr×(Value×Data))}{pin:Led}{it:Addr}{dt:Value×Data}(F:FOk f cx)(h:i5 cx.sc sc=true):FOk ((a8 f sc cl C frs pin).more it dt) { cx with sc:=sc }:=by
 have hk:=h
 walk_at "cU"
 have kd:sc.kind=.function:=by
  revert h;cases sc.kind<;>simp
 refine⟨fun x hx=>?_,fun x hx=>?_,fun x hx=>?_,F.calm,?_⟩
 ·rw[bE] at hx
  rcases et (scope:=sc) (env:=f.env) hx with q|⟨q,_⟩
  ·exact q
  ·cases q
 ·rw[bE] at hx
  rcases et (scope:=sc) (env:=f.env) hx with q|⟨q,_⟩
  ·exact q
  ·cases q
 ·rw[bE] at hx
  have:=h.2 _ (dU hx)
  simp at this
 ·show (sc.kind == .module&&_)=false
  rw[kd];rfl
theorem FOk.more{it:Addr}{dt:Value×Data}(F:FOk f cx):FOk (f.more it dt) cx:=⟨F.glob,F.loc,F.own,F.calm,F.inter⟩
end
def C5(as:List Addr)(M:MH)(k:AV→AM→Prop):CV→MH→Prop:=fun c M'=>∃a Mh',Step as M as M'∧RM as Mh' M'∧RV as a c∧k a Mh'
def Ig(as:List Addr)(M:MH)(k:AM→Prop):MH→Prop:=fun M'=>∃Mh',Step as M as M'∧RM as Mh' M'∧k Mh'
def uR(as:List Addr)(M:MH)(k:Vs→AM→Prop):List (Str×CV)→MH→Prop:=fun m' M'=>∃as' mh' Mh',Step as M as' M'∧RM as' Mh' M'∧ML as' mh' m'∧k mh' Mh'
section
variable {D:Wd}{E:Ev}{cx:Cx}{f:Fc}{d:Nat}{mh:Vs}{Mh:AM}{k:K1}{X:KX}{kb:KB}{as:List Addr}{m:List (Str×CV)}{M:MH}{fz:Led}{s:Shared}{b:Nat}{Y:Str→MH→Prop}
theorem fe{as as2:List Addr}(h:Pre as as2)(hb:as.length=b):as2.take b=as:=by
 refine List.ext_getElem? fun i=>?_
 rw[List.getElem?_take]
 by_cases hi:i < b
 ·rw[if_pos hi]
  have:i < as.length:=hb▸hi
  rw[h i as[i] (by simp[this])]
  simp[this]
 ·rw[if_neg hi]
  exact(List.getElem?_eq_none (by omega)).symm
theorem Pre.len{as as2:List Addr}(h:Pre as as2):as.length≤as2.length:=by
 cases q:as.length with
 |zero=>omega
 |succ n=>
  have hn:n < as.length:=by omega
  have:=(List.getElem?_eq_some_iff.mp (h n as[n] (by simp[hn]))).1
  omega
theorem Es{v:Value}(hb:as.length=b)(h:VP D f fz m (PostV as M (fun a Mh=>k (fS b Mh a) (bM b Mh))) v s):VP D f fz m (C5 as M k) v s:=by
 obtain⟨f1,c,M1,k1,S1,r1,as2,a,Mh2,st,rm,rv,hk⟩:=h
 walk_at "bi"
 obtain⟨c',h1,h2⟩:=mR F rv r1
 rw[e] at h1
 refine⟨f2,c',M2,k1.tr k2,S2 m fun x c hx=>⟨c,hx,fun v hv=>hv.mono k2⟩,h2,_,_,⟨Pre.rfl',fun ad mo x y=>?_⟩,rm2,h1,hk⟩
 obtain⟨z1,z2⟩:=st.2 ad mo x y
 exact⟨x,un ad mo z1 z2⟩
theorem tA{e:PySem.Expr}{Ms:MH}(hb:as.length=b)(h:WE D f d e m Ms (PostV as M (fun a Mh=>k (fS b Mh a) (bM b Mh))) Y):WE D f d e m Ms (C5 as M k) Y:=fun fz A s a S=>
 wpAny_mono (h fz A s a S) (fun v s' z=>Es hb z) fun _ _ z=>z
theorem AN{ifs:List PySem.Expr}{Ms:MH}{kt:Bool→MH→Prop}{kf:AM→Prop}(hb:as.length=b)(h:WTs D f d ifs m Ms (fun v M'=>(v=true→kt v M')∧(v=false→∃as' Mh',Step as M as' M'∧RM as' Mh' M'∧kf (bM b Mh'))) Y) :
  WTs D f d ifs m Ms (fun v M'=>(v=true→kt v M')∧(v=false→Ig as M kf M')) Y:=fun fz A s a S=>
 wpAny_mono (h fz A s a S) (fun v s' z=>by
  obtain⟨f1,M1,k1,S1,z1,z2⟩:=z
  cases v with
  |true=>exact⟨f1,M1,k1,S1,z1,fun e=>by cases e⟩
  |false=>
   obtain⟨as2,Mh2,st,rm,hk⟩:=z2 rfl
   walk_at "bi"
   refine⟨f2,M2,k1.tr k2,S2 m fun x c hx=>⟨c,hx,fun v hv=>hv.mono k2⟩,(fun e=>by cases e),fun _=>⟨_,⟨Pre.rfl',fun ad mo x y=>?_⟩,rm2,hk⟩⟩
   obtain⟨z1,z2⟩:=st.2 ad mo x y
   exact⟨x,un ad mo z1 z2⟩) fun _ _ z=>z
theorem oA{cls:Str→Option Addr}{fz fz':Led}{as:List Addr}(F:Fz cls fz fz' as Mh M b):∀{xs:List Str} {vs:List AV} {mh:Vs},gh mh xs=some vs→ML as mh m →
  ∃m',ML (as.take b) (xs.zip (dE b Mh vs)) m'∧∀x c,lk x m'=some c→∃c0,lk x m=some c0∧∀v,VR cls fz c0 v→VR cls fz' c v
 |[],vs,mh,h,l=>⟨[],(fun x a e=>by cases e),(fun x c e=>by cases e)⟩
 |x::xs,vs,mh,h,l=>by
  unfold gh at h
  split at h
  ·rename_i a ha
   split at h
   ·rename_i l2 h2
    cases h
    obtain⟨m',p1,p2⟩:=oA F h2 l
    obtain⟨c0,q1,q2⟩:=l x a ha
    obtain⟨c',r1,r2⟩:=jK F q2
    refine⟨(x,c')::m',fun y ay e=>?_,fun y cy e=>?_⟩
    ·rw[dE,List.zip_cons_cons] at e
     unfold lkA at e
     unfold lk
     by_cases q:x=y
     ·rw[sEq_iff.mpr q] at e;cases e;exact⟨c',if_pos q,r1⟩
     ·rw[sEq_false.mpr q] at e;rw[if_neg q];exact p1 y ay e
    ·unfold lk at e
     by_cases q:x=y
     ·rw[if_pos q] at e;cases e;subst q;exact⟨c0,q1,r2⟩
     ·rw[if_neg q] at e;exact p2 y cy e
   ·cases h
  ·cases h
theorem lF{as:List Addr}:∀{xs:List Str} {vs:List AV} {mh:Vs},gh mh xs=some vs→ML as mh m→ML as (xs.zip vs) m
 |[],vs,mh,h,l=>fun x a e=>by cases e
 |x::xs,vs,mh,h,l=>by
  unfold gh at h
  split at h
  ·rename_i a ha
   split at h
   ·rename_i l2 h2
    cases h
    intro y ay e
    rw[List.zip_cons_cons] at e
    unfold lkA at e
    by_cases q:x=y
    ·rw[sEq_iff.mpr q] at e;cases e;subst q;exact l x a ha
    ·rw[sEq_false.mpr q] at e;exact lF h2 l y ay e
   ·cases h
  ·cases h
def keepB(src:Option Nat)(M M':AM):Prop:=match src with
 |none=>True
 |some i=>M'[i]?=M[i]?
theorem keepS_iff{src:Option Nat}{M M':AM}{p:Prop}:dq src M M' p↔keepB src M M'∧p:=by
 cases src<;>simp[dq,keepB]
theorem keepB.tr{src:Option Nat}{M M1 M2:AM}(h:keepB src M M1)(k:keepB src M1 M2):keepB src M M2:=by
 cases src with
 |none=>trivial
 |some i=>exact Eq.trans (show M2[i]?=M1[i]? from k) h
theorem keepB.rfl'{src:Option Nat}{M:AM}:keepB src M M:=by cases src<;>trivial
theorem dO{a:AV}{c:CV}{ki:Option Nat→List CV→Prop}(r:RM as Mh M)(v:RV as a c)(h:eU a Mh ki):∃src vs,ki src vs∧vs.length≤1000∧(∀i,src=some i→i < Mh.length) ∧
  ∃P,Itb D c vs P∧∀as' Mh' M',Pre as as'→RM as' Mh' M'→keepB src Mh Mh'→P M':=by
 cases v with
 |v c=>
  cases c<;>simp only[eU] at h<;>first|exact h.elim|skip
  ·exact⟨none,_,h.2,by simpa [Str.length] using h.1,fun i e=>(by cases e),_,Bt,fun _ _ _ _ _ _=>trivial⟩
  ·exact⟨none,_,h.2,h.1,fun i e=>(by cases e),_,jY (t:=true),fun _ _ _ _ _ _=>rfl⟩
  ·exact⟨none,_,h.2,h.1,fun i e=>(by cases e),_,jY (t:=false),fun _ _ _ _ _ _=>rfl⟩
  ·exact⟨none,_,h.2,by simp only[List.length_map,List.length_range];have h1:=h.1.1;have h2:=h.1.2.1;omega,fun i e=>(by cases e),_,Bu (by have:=h.1.1;omega) h.1.2.1 h.1.2.2,fun _ _ _ _ _ _=>trivial⟩
 |tup k=>
  simp only[eU] at h
  split at h
  ·rename_i cs hu
   rw[oD hu] at k
   exact⟨none,_,h.2,h.1,fun i e=>(by cases e),_,jY (t:=true),fun _ _ _ _ _ _=>by rw[k.inv_v];rfl⟩
  ·exact h.elim
 |@ref i ad e=>
  simp only[eU] at h
  split at h
  ·rename_i vs hi
   refine⟨some i,vs,h.2,h.1,fun j e=>by cases e;exact(List.getElem?_eq_some_iff.mp hi).1,_,jY (t:=false),fun as' Mh' M' p r' kb=>?_⟩
   have hi':Mh'[i]?=some (.lst vs):=Eq.trans (show Mh'[i]?=Mh[i]? from kb) hi
   obtain⟨ad',mo,h1,h2,h3⟩:=r'.live hi' (by intro q;cases q)
   rw[p i ad e] at h1;cases h1
   cases h3
   simp only[aY,h2]
  ·rename_i l hi
   split at h
   ·rename_i cs hu
    refine⟨some i,cs,h.2,h.1,fun j e=>by cases e;exact(List.getElem?_eq_some_iff.mp hi).1,_,jY (t:=false),fun as' Mh' M' p r' kb=>?_⟩
    have hi':Mh'[i]?=some (.mix l):=Eq.trans (show Mh'[i]?=Mh[i]? from kb) hi
    obtain⟨ad',mo,h1,h2,h3⟩:=r'.live hi' (by intro q;cases q)
    rw[p i ad e] at h1;cases h1
    cases h3 with
    |mix k=>
     rw[oD hu] at k
     simp only[aY,h2]
     rw[k.inv_v]
   ·exact h.elim
  ·exact h.elim
end
section
variable {D:Wd}{E:Ev}{cx:Cx}{f:Fc}{d:Nat}{mh:Vs}{Mh:AM}{k:K1}{X:KX}{kb:KB}{as:List Addr}{m:List (Str×CV)}{M:MH}
theorem vO(o:dN D E)(F:FOk f cx)(T:TbOk D d cx.T){l₁:PySem.Expr}{ops:List CmpOp}{rs:List PySem.Expr}{pos:Pos}(l:ML as mh m)(r:RM as Mh M)(h:vP E cx l₁ ops rs mh Mh kb X):WB D f d (.Compare l₁ ops rs pos) m M (PostB as M kb) (PostX as M X):=by
 unfold vP at h
 split at h
 ·rename_i op e2
  cases hn:bQ e2 with
  |false=>rw[hn] at h;exact h.elim
  |true=>
  rw[hn] at h
  refine Em ((o.e _ _ _ _ _ _ _ _ _ _ _ F T l r h).mono (fun c M1 q=>?_) fun _ _ z=>z) (fH hn)
  walk_at "aq"
  cases ht:si e2 with
  |true=>
   simp only[jH,ht,cond_true,gN,ds] at h1
   refine(tA (b:=Mh1.length) (k:=fun b' M3=>nJ cx op a b' M3 fun v=>kb v M3) (Y:=PostX as M X) r1.len ((o.e _ _ _ _ _ _ _ _ _ _ _ F T (l.mono s1.1) r1 h1).mono (fun _ _ z=>z) fun _ _ z=>z.tr s1)).mono (fun c2 M2 q=>?_) fun _ _ z=>z
   obtain⟨b,Mh2,s2,r2,v2,h2⟩:=q
   refine(eC (Y:=PostX as M X) T.tx r2 v1 v2 h2).mono (fun q M3 z=>?_) fun _ _ z=>z
   obtain⟨v,rfl,rfl,hv⟩:=z
   exact iz ⟨as1,Mh2,s1.tr s2,r2,hv⟩
  |false=>
  simp only[jH,ht,cond_false] at h1
  walk_at "aC"
  refine(eC (Y:=PostX as M X) T.tx r2 (v1.mono s2.1) v2 h2).mono (fun q M3 z=>?_) fun _ _ z=>z
  obtain⟨v,rfl,rfl,hv⟩:=z
  exact iz ⟨as2,Mh2,s1.tr s2,r2,hv⟩
 ·rename_i o1 o2 e1 e2
  cases hn:bQ e2 with
  |false=>rw[hn] at h;exact h.elim
  |true=>
  rw[hn] at h
  refine A8 (mA hn) ((o.e _ _ _ _ _ _ _ _ _ _ _ F T l r h).mono (fun c M1 q=>?_) fun _ _ z=>z)
  walk_at "aq"
  walk_at "aC"
  refine(eC (kb:=fun v Mq=>bif v then E.e cx e2 mh Mq (fun c M3=>nJ cx o2 b c M3 fun v'=>kb v' M3) X else kb false Mq) (Y:=PostX as M X) T.tx r2 (v1.mono s2.1) v2 h2).mono (fun q M3 z=>?_) fun _ _ z=>z
  obtain⟨v,rfl,rfl,hv⟩:=z
  refine iz ⟨fun e=>?_,fun e=>?_⟩
  ·subst e
   walk_at "cC"
   refine(eC (Y:=PostX as M X) T.tx r3 (v2.mono s3.1) v3 h3).mono (fun q M5 z=>?_) fun _ _ z=>z
   obtain⟨v,rfl,rfl,hv⟩:=z
   exact iz ⟨as3,Mh3,(s1.tr s2).tr s3,r3,hv⟩
  ·subst e;exact⟨as2,Mh2,s1.tr s2,r2,hv⟩
 ·exact h.elim
theorem yn(o:dN D E)(F:FOk f cx)(T:TbOk D d cx.T){l₁:PySem.Expr}{ops:List CmpOp}{rs:List PySem.Expr}{pos:Pos}(l:ML as mh m)(r:RM as Mh M)(h:vP E cx l₁ ops rs mh Mh (fun v M1=>k (.v (.bool v)) M1) X):WE D f d (.Compare l₁ ops rs pos) m M (PostV as M k) (PostX as M X):=by
 unfold vP at h
 split at h
 ·rename_i op e2
  cases hn:bQ e2 with
  |false=>rw[hn] at h;exact h.elim
  |true=>
  rw[hn] at h
  refine Eh ((o.e _ _ _ _ _ _ _ _ _ _ _ F T l r h).mono (fun c M1 q=>?_) fun _ _ z=>z) (fH hn)
  walk_at "aq"
  cases ht:si e2 with
  |true=>
   simp only[jH,ht,cond_true,gN,ds] at h1
   refine(tA (b:=Mh1.length) (k:=fun b' M3=>nJ cx op a b' M3 fun v=>k (.v (.bool v)) M3) (Y:=PostX as M X) r1.len ((o.e _ _ _ _ _ _ _ _ _ _ _ F T (l.mono s1.1) r1 h1).mono (fun _ _ z=>z) fun _ _ z=>z.tr s1)).mono (fun c2 M2 q=>?_) fun _ _ z=>z
   obtain⟨b,Mh2,s2,r2,v2,h2⟩:=q
   refine(eC (kb:=fun v M1=>k (.v (.bool v)) M1) (Y:=PostX as M X) T.tx r2 v1 v2 h2).mono (fun q M3 z=>?_) fun _ _ z=>z
   obtain⟨v,rfl,rfl,hv⟩:=z
   exact⟨as1,.v (.bool v),Mh2,s1.tr s2,r2,.v _,hv⟩
  |false=>
  simp only[jH,ht,cond_false] at h1
  walk_at "aC"
  refine(eC (kb:=fun v M1=>k (.v (.bool v)) M1) (Y:=PostX as M X) T.tx r2 (v1.mono s2.1) v2 h2).mono (fun q M3 z=>?_) fun _ _ z=>z
  obtain⟨v,rfl,rfl,hv⟩:=z
  exact⟨as2,.v (.bool v),Mh2,s1.tr s2,r2,.v _,hv⟩
 ·rename_i o1 o2 e1 e2
  cases hn:bQ e2 with
  |false=>rw[hn] at h;exact h.elim
  |true=>
  rw[hn] at h
  refine A4 (mA hn) ((o.e _ _ _ _ _ _ _ _ _ _ _ F T l r h).mono (fun c M1 q=>?_) fun _ _ z=>z)
  walk_at "aq"
  walk_at "aC"
  refine(eC (kb:=fun v Mq=>bif v then E.e cx e2 mh Mq (fun c M3=>nJ cx o2 b c M3 fun v'=>k (.v (.bool v')) M3) X else k (.v (.bool false)) Mq) (Y:=PostX as M X) T.tx r2 (v1.mono s2.1) v2 h2).mono (fun q M3 z=>?_) fun _ _ z=>z
  obtain⟨v,rfl,rfl,hv⟩:=z
  refine iz ⟨fun e=>?_,fun e=>?_⟩
  ·subst e
   walk_at "cC"
   refine(eC (kb:=fun v M1=>k (.v (.bool v)) M1) (Y:=PostX as M X) T.tx r3 (v2.mono s3.1) v3 h3).mono (fun q M5 z=>?_) fun _ _ z=>z
   obtain⟨v,rfl,rfl,hv⟩:=z
   exact⟨as3,.v (.bool v),Mh3,(s1.tr s2).tr s3,r3,.v _,hv⟩
  ·subst e;exact⟨as2,.v (.bool false),Mh2,s1.tr s2,r2,.v _,hv⟩
 ·exact h.elim
theorem u3(o:dN D E)(F:FOk f cx)(T:TbOk D d cx.T){e:PySem.Expr}(l:ML as mh m)(r:RM as Mh M)(h:BC E cx e mh Mh kb X):WB D f d e m M (PostB as M kb) (PostX as M X):=by
 have plain:(isTrue e f.env (eval e f.env)=(do let v ←eval e f.env;standAt e.pos;holding [v] (truthy v)))→E.e cx e mh Mh (fun a M1=>truth a M1 kb) X→WB D f d e m M (PostB as M kb) (PostX as M X):=fun he h=>by
  refine yR ((o.e _ _ _ _ _ _ _ _ _ _ _ F T l r h).mono (fun c M1 q=>?_) fun _ _ z=>z) he
  walk_at "aq"
  exact(ie r1 v1 h1).mono (fun _ _ z=>z.tr s1) fun _ _ z=>z
 cases e<;>first|exact plain rfl h|exact vO o F T l r h|skip
 ·rename_i op es pos
  cases op with
  |And=>exact vI o F T l r h
  |Or=>exact vG o F T l r h
 ·rename_i op e pos
  cases op with
  |Not=>
   refine El ((o.b _ _ _ _ _ _ _ _ _ _ _ F T l r h).mono (fun b M1 q=>?_) fun _ _ z=>z)
   obtain⟨as1,Mh1,s1,r1,h1⟩:=q
   exact⟨as1,Mh1,s1,r1,h1⟩
  |_=>exact plain rfl h
 ·refine yS ((o.b _ _ _ _ _ _ _ _ _ _ _ F T l r h).mono (fun b M1 q=>?_) fun _ _ z=>z)
  walk_at "bf"
  walk_at "dh"
  walk_at "dh"
end
section
variable {D:Wd}{E:Ev}{cx:Cx}{f:Fc}{d:Nat}{mh:Vs}{Mh:AM}{k:K1}{X:KX}{kb:KB}{as:List Addr}{m:List (Str×CV)}{M:MH}{fz:Led}{s:Shared}{b:Nat}{Y:Str→MH→Prop}
theorem FOk.ownN(F:FOk f cx){x:Str}(h:cx.kind x=some .local∨cx.kind x=some .cell):Own f x:=by
 rcases h with h|h
 ·exact .inl (F.loc x h)
 ·exact .inr (F.own x h)
theorem mW(F:FOk f cx):∀{ts:List PySem.Expr} {vs:List AV} {cs:List CV} {mh:Vs} {m:List (Str×CV)} {k:Vs→AM→Prop},RVs as vs cs→ML as mh m→RM as Mh M→evA.evAs cx ts vs mh k Mh →
  WAs D f d ts cs m M (uR as M k) Y∧(assignEach ts f.env).length=vs.length∧(assignEach ts f.env).findIdx? (·.1)=none
 |[],[],cs,mh,m,k,rv,l,r,h=>by
  cases rv
  exact⟨A9 ⟨as,mh,Mh,Step.rfl',r,l,h⟩,rfl,rfl⟩
 |[],_::_,_,_,_,_,_,_,_,h=>h.elim
 |t::ts,vs,cs,mh,m,k,rv,l,r,h=>by
  cases t with
  |Name x p=>
   cases vs with
   |nil=>exact h.elim
   |cons v vs=>
   cases rv with
   |cons r1 r2=>
   simp only[evA.evAs] at h
   have key:(cx.kind x=some .local∨cx.kind x=some .cell)→evA.evAs cx ts vs (gr x v mh) k Mh→_:=fun hk h=>by
    obtain⟨q1,q2,q3⟩:=mW F r2 (l.put r1) r h
    exact(show WAs D f d (.Name x p::ts) _ m M (uR as M k) Y∧(assignEach (.Name x p::ts) f.env).length=(v::vs).length∧(assignEach (.Name x p::ts) f.env).findIdx? (·.1)=none from
     ⟨yT (uK (F.ownN hk) q1) rfl,by simp[assignEach,q2],by
      show List.findIdx? _ ((false,assign (.Name x p) f.env)::assignEach ts f.env)=none
      rw[List.findIdx?_cons];simp[q3]⟩)
   walk_at "dt"
  |_=>cases vs<;>exact h.elim
theorem eB(F:FOk f cx){t:PySem.Expr}{v:AV}{c:CV}{k:Vs→AM→Prop}(rv:RV as v c)(l:ML as mh m)(r:RM as Mh M)(h:evA cx t v mh Mh k X):WA D f d t c m M (uR as M k) Y:=by
 cases t with
 |Name x p=>
  simp only[evA] at h
  have key:(cx.kind x=some .local∨cx.kind x=some .cell)→k (gr x v mh) Mh→WA D f d (.Name x p) c m M (uR as M k) Y:=fun hk h=>
   uK (F.ownN hk) ⟨as,_,Mh,Step.rfl',r,l.put rv,h⟩
  walk_at "dt"
 |Tuple ts n p=>
  simp only[evA] at h
  cases hh:cx.hot with
  |true=>rw[hh] at h;exact h.elim
  |false=>
  rw[hh] at h
  split at h
  ·rename_i vs hq
   obtain⟨cs,e1,e2,e3,e4⟩:=aT r rv hq
   obtain rfl:=e4 _ _ rfl
   walk_at "db"
  ·rename_i vs hq
   obtain⟨cs,e1,e2,e3,e4⟩:=aT r rv hq
   walk_at "db"
  ·exact h.elim
 |_=>exact h.elim
theorem nR(o:dN D E)(F:FOk f cx)(T:TbOk D d cx.T):∀{ifs:List PySem.Expr} {Mh:AM} {as:List Addr} {M:MH},ML as mh m→RM as Mh M→qL E cx ifs mh Mh kb X→WTs D f d ifs m M (PostB as M kb) (PostX as M X)
 |[],Mh,as,M,l,r,h=>AL (PostB.now r h)
 |e::es,Mh,as,M,l,r,h=>by
  refine yE ((o.b _ _ _ _ _ _ _ _ _ _ _ F T l r h).mono (fun b M1 q=>?_) fun _ _ z=>z)
  walk_at "bf"
  ·subst e
   intro fz A s a S
   exact wpAny_mono (nR o F T (l.mono s1.1) r1 h1 fz A s a S) (fun _ _ ⟨p,q,t,u,w⟩=>⟨p,q,t,u,w.tr s1⟩) fun _ _ ⟨p,q,t,u,w,x,y,z⟩=>⟨p,q,t,u,w,x,y,z.tr s1⟩
  ·subst e;exact⟨as1,Mh1,s1,r1,h1⟩
structure Hk(E:Ev)(cx:Cx)(src:Option Nat)(target:PySem.Expr)(ifs:List PySem.Expr)(elt:PySem.Expr)(mt:Vs)(b:Nat)(R:List CV→AM→(List CV→AM→Prop)→Prop)(X:KX):Prop where
 nil:∀M k,R [] M k→k [] M
 cons:∀c cs M k,M.length=b→R (c::cs) M k→iy E cx target ifs elt c mt M (fun r M1=>match r with
  |none=>dq src M (bM b M1) (R cs (bM b M1) k)
  |some a=>match fS b M1 a with
   |.v c'=>dq src M (bM b M1) (R cs (bM b M1) (fun es M'=>k (c'::es) M'))
   |_=>False) X
theorem RM.ext{M':MH}(r:RM as Mh M)(h:∀a∈as,M'.get a=M.get a):RM as Mh M':=⟨r.len,fun i o e=>by
 rcases r.at' i o e with q|⟨a,mo,h1,h2,h3⟩
 ·exact .inl q
 ·exact .inr ⟨a,mo,h1,(h a (List.mem_of_getElem? h1)).trans h2,h3⟩,r.nd,fun a ha=>by
 obtain⟨mo,e⟩:=r.dom a ha
 exact⟨mo,(h a ha).trans e⟩⟩
theorem qP(o:dN D E){sc:Scope}{cl:List (Str×Addr)}(F:FOk f cx)(hsc:i5 cx.sc sc=true)(T:TbOk D d cx.T){target elt:PySem.Expr}{ifs:List PySem.Expr}{src:Option Nat}{vals:List CV}{mt:Vs}{R:List CV→AM→(List CV→AM→Prop)→Prop}{k':List CV→AM→Prop}{c:CV}{M1:MH}{Mh1:AM}
  (l:ML as mt (nK sc m)) (r:RM as Mh1 M1) (hz:vals.length≤1000) {P:MH→Prop} (ib:Itb D c vals P) (hP:∀as' Mh' M',Pre as as'→RM as' Mh' M'→keepB src Mh1 Mh'→P M')
  (tn:Hk E { cx with sc:=sc } src target ifs elt mt Mh1.length R X) (h0:R vals Mh1 k') :
  CompH D f d elt target ifs sc cl (nK sc m) c M1 (fun accA M'=>∃as' es Mh',Step as M1 as' M'∧RM as' (Mh'++[.lst es]) M'∧RV as' (.ref Mh'.length) (.ref accA)∧k' es Mh') (PostX as M1 X):=by
 walk_at "de"
 refine⟨fun i M'=>∃Mh' acc,Step as M1 as M'∧RM as Mh' M'∧M'.get accA=some (.lst acc)∧acc.length≤i∧i≤vals.length∧keepB src Mh1 Mh'∧R (vals.drop i) Mh' (fun es M=>k' (acc++es) M),?_,?_,?_⟩
 ·have ne:∀a,(∃mo,M1.get a=some mo)→a≠accA:=fun a ⟨mo,e⟩ q=>by rw[q,hget] at e;cases e
  refine⟨Mh1,[],⟨Pre.rfl',fun a mo h1 h2=>⟨h1,by rw[MH.get_tl (ne a ⟨mo,h2⟩)];exact h2⟩⟩,r.ext fun a ha=>MH.get_tl (ne a (r.dom a ha)) _ _,MH.get_hd _ _ _,Nat.le_refl _,Nat.zero_le _,keepB.rfl',?_⟩
  rw[List.drop_zero];simpa using h0
 ·rintro M ⟨Mh',acc,st,rm,hg,h1,h2,hk,hR⟩
  rw[List.drop_length] at hR
  have hk':=tn.nil _ _ hR
  rw[List.append_nil] at hk'
  refine⟨hP as Mh' M Pre.rfl' rm hk,as++[accA],acc,Mh',⟨fun i ad e=>by rw[bq,if_neg];exact e;intro q;rw[q] at e;simp at e,fun a mo x y=>?_⟩,rm.track (.lst acc) hacc hg,.ref (by rw[bq,if_pos rm.len.symm]),hk'⟩
  walk_at "dg"
 ·rintro C frs pin i c' M dt it hv ⟨Mh',acc,st,rm,hg,h1,h2,hk,hR⟩
  walk_at "bm"
  have hdrop:vals.drop i=c'::vals.drop (i+1):=by
   walk_at "bB"
  rw[hdrop] at hR
  refine⟨hP as Mh' M Pre.rfl' rm hk,?_⟩
  have hlen:Mh'.length=Mh1.length:=by rw[←rm.len,hb]
  have FC:=FOk.comp (cl:=cl) (C:=C) (frs:=frs) (pin:=pin) (it:=it) (dt:=dt) F hsc
  have turn:=tn.cons _ _ _ _ hlen hR
  unfold iy at turn
  refine(eB (D:=D) (d:=d) (Y:=PostX as M1 X) FC (.v c') l rm turn).mono (fun m2 M2 q=>?_) fun _ _ z=>z
  obtain⟨as2,mh2,Mh2,s2,r2,l2,q⟩:=q
  have key:WTs D ((a8 f sc cl C frs pin).more it dt) d ifs m2 M2 (fun v M'=>(v=true→∃as3 Mh3,Step as M as3 M'∧RM as3 Mh3 M'∧ML as3 mh2 m2∧E.e { cx with sc:=sc } elt mh2 Mh3 (fun a M3=>match fS Mh1.length M3 a with
    |.v c'=>dq src Mh' (bM Mh1.length M3) (R (vals.drop (i+1)) (bM Mh1.length M3) (fun es M'=>k' (acc++(c'::es)) M'))
    |_=>False) X)∧(v=false→∃as3 Mh3,Step as M as3 M'∧RM as3 Mh3 M'∧dq src Mh' (bM Mh1.length Mh3) (R (vals.drop (i+1)) (bM Mh1.length Mh3) (fun es M=>k' (acc++es) M)))) (PostX as M1 X):=by
   intro fz A s a S
   refine wpAny_mono (nR o FC T l2 r2 q fz A s a S) (fun v s' ⟨f1,M3,k1,S1,as3,Mh3,s3,r3,hq⟩=>⟨f1,M3,k1,S1,fun e=>?_,fun e=>?_⟩) fun _ _ ⟨p,q,t,u,w,x,y,z⟩=>⟨p,q,t,u,w,x,y,(z.tr s2).tr st⟩
   ·subst e;exact⟨as3,Mh3,s2.tr s3,r3,l2.mono s3.1,hq⟩
   ·subst e;exact⟨as3,Mh3,s2.tr s3,r3,hq⟩
  have key2:=AN (kf:=fun Mq=>dq src Mh' Mq (R (vals.drop (i+1)) Mq (fun es M=>k' (acc++es) M))) (b:=Mh1.length) hb key
  intro fz A s a S
  refine wpAny_mono (key2 fz A s a S) (fun v s' ⟨f1,M3,k1,S1,z1,z2⟩=>⟨f1,M3,k1,S1,fun e=>?_,fun e=>?_⟩) fun _ _ z=>z
  ·obtain⟨as3,Mh3,s3,r3,l3,hq⟩:=z1 e
   have he:=o.e _ ((a8 f sc cl C frs pin).more it dt) d _ _ _ _ _ _ _ _ FC T l3 r3 hq
   refine(tA (b:=Mh1.length) (k:=fun a Mq=>match a with
    |.v c'=>dq src Mh' Mq (R (vals.drop (i+1)) Mq (fun es M'=>k' (acc++(c'::es)) M'))
    |_=>False) (Y:=PostX as M1 X) hb (he.mono (fun c M z=>z.tr s3) fun _ _ z=>(z.tr s3).tr st)).mono (fun x M4 z=>?_) fun _ _ z=>z
   obtain⟨av,Mh4,s4,r4,v4,hq4⟩:=z
   cases av with
   |v c2=>
    cases v4
    obtain⟨hk4,hR4⟩:=keepS_iff.mp hq4
    have hg4:=(s4.2 accA _ hacc hg).2
    have neA:∀a∈as,a≠accA:=fun a ha q=>hacc (q▸ha)
    refine⟨acc,hg4,by omega,Mh4,acc++[x],⟨Pre.rfl',fun a mo x1 y1=>⟨x1,?_⟩⟩,r4.ext fun a ha=>?_,?_,by simp;omega,by omega,hk.tr hk4,?_⟩
    ·have:a≠accA:=fun q=>by rw[q,hget] at y1;cases y1
     rw[MH.get_set hg4,if_neg this]
     exact(s4.2 a mo x1 (st.2 a mo x1 y1).2).2
    ·rw[MH.get_set hg4,if_neg (neA a ha)]
    ·rw[MH.get_set hg4,if_pos rfl]
    ·simpa using hR4
   |_=>exact hq4.elim
  ·obtain⟨Mh3,s3,r3,hq⟩:=z2 e
   obtain⟨hk3,hR3⟩:=keepS_iff.mp hq
   exact⟨Mh3,acc,st.tr s3,r3,(s3.2 accA _ hacc hg).2,by omega,by omega,hk.tr hk3,hR3⟩
end
section
variable {D:Wd}{E:Ev}{cx:Cx}{f:Fc}{d:Nat}{mh:Vs}{Mh:AM}{k:K1}{X:KX}{kb:KB}{as:List Addr}{m:List (Str×CV)}{M:MH}{fz:Led}{s:Shared}{b:Nat}{Y:Str→MH→Prop}
theorem CompH.mono{elt target:PySem.Expr}{ifs:List PySem.Expr}{sc:Scope}{cl:List (Str×Addr)}{mc:List (Str×CV)}{c:CV}{M1:MH}{Ξ Ω:Addr→MH→Prop}{Z:Str→MH→Prop}(h:CompH D f d elt target ifs sc cl mc c M1 Ξ Y)(k:∀a M,Ξ a M→Ω a M)(l:∀e M,Y e M→Z e M):CompH D f d elt target ifs sc cl mc c M1 Ω Z:=by
 obtain⟨vals,P,ib,hP,hh⟩:=h
 refine⟨vals,P,ib,hP,fun accA hg=>?_⟩
 obtain⟨J,j1,j2,j3⟩:=hh accA hg
 refine⟨J,j1,fun M hM=>⟨(j2 M hM).1,k _ _ (j2 M hM).2⟩,fun C frs pin i c M dt it hv hi=>⟨(j3 C frs pin i c M dt it hv hi).1,(j3 C frs pin i c M dt it hv hi).2.mono (fun m2 M2 z=>?_) l⟩⟩
 intro fz A s a S
 exact wpAny_mono (z fz A s a S) (fun v s' ⟨f1,M3,k1,S1,z1,z2⟩=>⟨f1,M3,k1,S1,fun e=>(z1 e).mono (fun _ _ z=>z) l,z2⟩) fun _ _ ⟨p,q,t,u,w,x,y,z⟩=>⟨p,q,t,u,w,x,y,l _ _ z⟩
theorem om(o:dN D E){sc:Scope}{cl:List (Str×Addr)}(F:FOk f cx)(hsc:i5 cx.sc sc=true)(T:TbOk D d cx.T){line:Nat}{target elt:PySem.Expr}{ifs:List PySem.Expr}{src:Option Nat}{items:List CV}{c:CV}
  (l:ML as mh m) (r:RM as Mh M) (hz:items.length≤1000) {P:MH→Prop} (ib:Itb D c items P) (hP:∀as' Mh' M',Pre as as'→RM as' Mh' M'→keepB src Mh Mh'→P M')
  (h:qS E cx line sc target ifs elt src items mh Mh k X):CompH D f d elt target ifs sc cl (nK sc m) c M (fun accA M'=>PostV as M k (.ref accA) M') (PostX as M X):=by
 have fin:∀accA M',(∃as' es Mh',Step as M as' M'∧RM as' (Mh'++[.lst es]) M'∧RV as' (.ref Mh'.length) (.ref accA)∧k (.ref Mh'.length) (Mh'++[.lst es]))→PostV as M k (.ref accA) M':=fun accA M' ⟨as',es,Mh',z1,z2,z3,z4⟩=>⟨as',_,_,z1,z2,z3,z4⟩
 unfold qS at h
 split at h
 ·rename_i L hL
  split at h
  ·rename_i vals hv
   refine(qP o F hsc T (mt:=L.vars.zip vals) (R:=fun cs M k=>L.spec cs vals M k X) (k':=fun es Mq=>k (.ref Mq.length) (Mq++[.lst es])) (lF hv (m9 hsc l)) r hz ib hP ⟨fun M k h'=>h.1.1 _ _ _ _ h',fun c cs M k hb h'=>?_⟩ h.2).mono fin fun _ _ z=>z
   have:=h.1.2 _ _ _ _ _ _ h'
   rw[hb] at this
   exact this
  ·exact h.elim
 ·refine(qP o F hsc T (mt:=sM mh sc) (R:=fun cs M k=>mV E { cx with sc:=sc } src target ifs elt cs (sM mh sc) M k X) (k':=fun es Mq=>k (.ref Mq.length) (Mq++[.lst es])) (m9 hsc l) r hz ib hP ⟨fun M k h'=>h',fun c cs M k hb h'=>?_⟩ h).mono fin fun _ _ z=>z
  rw[mV] at h'
  rw[hb] at h'
  exact h'
theorem mD(o:dN D E)(F:FOk f cx)(T:TbOk D d cx.T):∀{kws:List Keyword} {Mh:AM} {kk:List (Str×AV)→AM→Prop} {as:List Addr} {M:MH},ML as mh m→RM as Mh M→Au E cx kws mh Mh kk X →
  (∃kn,co kws=some kn)→WK D f d kws m M (fun cs M'=>∃as' ks Mh' ck,Step as M as' M'∧RM as' Mh' M'∧RF as' ks ck∧co kws=some (ks.map (·.1))∧cs=ck.map (·.2)∧kk ks Mh') (PostX as M X)
 |[],Mh,kk,as,M,l,r,h,_=>Ec ⟨as,[],Mh,[],Step.rfl',r,.nil,rfl,rfl,h⟩
 |⟨some n,e,p⟩::kws,Mh,kk,as,M,l,r,h,hn=>by
  have hn':∃kn,co kws=some kn:=by
   obtain⟨kn,hn⟩:=hn
   unfold co at hn
   rw[Option.map_eq_some_iff] at hn
   obtain⟨a,b,_⟩:=hn
   exact⟨a,b⟩
  rw[Au] at h
  refine AU ((o.e _ _ _ _ _ _ _ _ _ _ _ F T l r h).mono (fun c M1 q=>?_) fun _ _ z=>z)
  walk_at "aq"
  intro pos fz A s ao S
  refine wpAny_mono (mD o F T (l.mono s1.1) r1 h1 hn' pos fz A s ao S) (fun vs s' ⟨f2,cs,M2,k2,S2,r2,as2,ks,Mh2,ck,z1,z2,z3,z4,z5,z6⟩=>⟨f2,cs,M2,k2,S2,r2,as2,(n,a)::ks,Mh2,(n,c)::ck,s1.tr z1,z2,.cons (v1.mono z1.1) z3,?_,by rw[z5];rfl,z6⟩) fun _ _ ⟨p,q,t,u,w,x,y,z⟩=>⟨p,q,t,u,w,x,y,z.tr s1⟩
  unfold co
  rw[z4];rfl
 |⟨none,e,p⟩::kws,_,_,_,_,_,_,_,hn=>by obtain⟨kn,hn⟩:=hn;cases hn
end
section
variable {D:Wd}{f:Fc}{d:Nat}{m mc:List (Str×CV)}{M M':MH}{X Y:Str→MH→Prop}{fz fz' fz0:Led}{s:Shared}{A:Around}{Φ:CV→MH→Prop}{Ψ:Bool→MH→Prop}
theorem nH(elt t1 i1 t2 i2:PySem.Expr)(scope:Scope)(pos:Pos)(it acc:Value)(env:Env) :
  compTurn (.ListComp elt [⟨t1,i1,[],0⟩,⟨t2,i2,[],0⟩] scope pos) 0 it acc env=(do
   standAt i1.pos
   match ←pyNext it with
   |none=>pure (.done .next)
   |some v=>
    letOwnedTupleGo t1 it v
    assign t1 env v
    let x ←eval i2 env
    standAt i2.pos
    let x ←foldedSetIterable i2 env x
    let _ ←runOwn (.compStart (.ListComp elt [⟨t1,i1,[],0⟩,⟨t2,i2,[],0⟩] scope pos) 1 (←holding [x] (pyIter x)) acc env) env
    again (.compLoop (.ListComp elt [⟨t1,i1,[],0⟩,⟨t2,i2,[],0⟩] scope pos) 0 it acc env)):=by rfl
theorem nG(elt t1 i1 t2 i2:PySem.Expr)(scope:Scope)(pos:Pos)(it acc:Value)(env:Env) :
  compTurn (.ListComp elt [⟨t1,i1,[],0⟩,⟨t2,i2,[],0⟩] scope pos) 1 it acc env=(do
   standAt i2.pos
   match ←pyNext it with
   |none=>pure (.done .next)
   |some v=>
    letOwnedTupleGo t2 it v
    assign t2 env v
    (do let _ ←call (.builtin "list.append") [acc,←eval elt env])
    again (.compLoop (.ListComp elt [⟨t1,i1,[],0⟩,⟨t2,i2,[],0⟩] scope pos) 1 it acc env)):=by rfl
theorem qQ{it:Addr}{dts:Nat→Value×Data}{vals:List CV}{P:MH→Prop}{t1 i1 t2 elt i2:PySem.Expr}{scope:Scope}{pos:Pos}{accA:Addr}(calm:f.calm=true)(a:AOk f d A)(pr:nM D it dts vals fz0 P)
  (hmc:∀dt fz' m' M' s',Sub fz0 fz'→SS D (f.more it dt) fz' m' M' s'→SS D (f.more it dt) fz' mc M' s')
  (J:Nat→MH→Prop) (Ξ:MH→Prop)
  (step:∀i c M dt,vals[i]?=some c→J i M→P M∧WA D (f.more it dt) d t2 c mc M (fun m2 M2=>WE D (f.more it dt) d elt m2 M2 (fun x M4=>
   ∃vs,M4.get accA=some (.lst vs)∧vs.length≤999∧J (i+1) (M4.set accA (.lst (vs++[x])))) X) X)
  (fin:∀M,J vals.length M→P M∧Ξ M)
  (h0:J 0 M) (k0:Sub fz0 fz) (S:SS D (f.more it (dts 0)) fz m M s) :
  codeAny (model D.prog D.w) A (.compLoop (.ListComp elt [⟨t1,i1,[],0⟩,⟨t2,i2,[],0⟩] scope pos) 1 (.ref it) (.ref accA) f.env) (fun r s'=>match r with|.ok _=>∃fz' m' M',Sub fz fz'∧SS D f fz' m' M' s'∧Ξ M'|.error e=>∃fz' M' xo msg,Sub fz fz'∧St D.cls D.h₀ D.os f fz' [] M' xo s'∧ExT D xo fz' msg e∧X msg M') s:=by
 walk_at "aU"
 show wpAny _ _ ((compTurn (.ListComp elt [⟨t1,i1,[],0⟩,⟨t2,i2,[],0⟩] scope pos) 1 (.ref it) (.ref accA) f.env).onRaise (fun x=>do noteFrame x f.env;theTreesLotGoes x)) _ _ s'
 refine wpAny_noted ?_
 walk_at "ap"
 rw[nG]
 walk_at "b3"
 cases hv:vals[i]? with
 |none=>
  walk_at "aG"
 |some c=>
  walk_at "aH"
  refine wpAny_bind (pr.lo f (i+1) f2 mc M1 s2 t2 v _ _ A S2c ?_)
  walk_at "bp"
  refine wpAny_bind (wpAny_bind (wpAny_mono (hB f3 A s3 a.more S3) (fun x s5 h5=>?_) fun _ _ z=>err kk3 z.less1))
  obtain⟨f5,c5,M5,k5,S5,r5,vs,hg,hz,hJ⟩:=h5
  have kk5:=kk3.tr k5
  walk_at "a7"
theorem gu{t1 i1 t2 i2 elt:PySem.Expr}{scope:Scope}{pos:Pos}{it acc:Value}{env:Env}{R:Result→Shared→Prop}
  (h0:codeAny (model D.prog D.w) A (.compLoop (.ListComp elt [⟨t1,i1,[],0⟩,⟨t2,i2,[],0⟩] scope pos) 1 it acc env) R s)
  (h:wpAny (model D.prog D.w) A (pyIter it) (fun it' s'=>codeAny (model D.prog D.w) A (.compLoop (.ListComp elt [⟨t1,i1,[],0⟩,⟨t2,i2,[],0⟩] scope pos) 1 it' acc env) R s')
   (notedBy (model D.prog D.w) A env fun x s'=>R (.error x) s') s) :
  codeAny (model D.prog D.w) A (.compStart (.ListComp elt [⟨t1,i1,[],0⟩,⟨t2,i2,[],0⟩] scope pos) 1 it acc env) R s:=by
 refine codeAny_of_tree ?_
 show wpAny _ _ ((compStart (.ListComp elt [⟨t1,i1,[],0⟩,⟨t2,i2,[],0⟩] scope pos) 1 it acc env).onRaise (fun x=>do noteFrame x env;standAt theWindowsPlace)) _ _ s
 refine wpAny_notedAt ?_
 unfold compStart
 show wpAny _ _ (ask >>= _) _ _ s
 refine wpAny_bind (wpAny_askSetting (wpAny_ite ?_))
 split
 ·first
   |exact wpAny_bind (wpAny_pure (wpAny_pure (And.intro rfl h0)))
   |exact wpAny_pure (And.intro rfl h0)
 ·first
   |exact wpAny_bind (wpAny_rule (wpAny_bind (wpAny_standAt (wpAny_bind (wpAny_mono h (fun it' s' h'=>wpAny_pure (And.intro rfl h')) fun _ _ x=>x)))))
   |(refine wpAny_bind (wpAny_rule ?_);show wpAny _ _ (standAt i2.pos >>= _) _ _ s;exact wpAny_bind (wpAny_standAt (wpAny_bind (wpAny_mono h (fun it' s' h'=>wpAny_pure (And.intro rfl h')) fun _ _ x=>x))))
theorem qR{it:Addr}{dts:Nat→Value×Data}{vals:List CV}{P:MH→Prop}{t1 i1 t2 elt i2:PySem.Expr}{scope:Scope}{pos:Pos}{accA:Addr}(calm:f.calm=true)(a:AOk f d A)(pr:nM D it dts vals fz0 P)
  (hmc:∀dt fz' m' M' s',Sub fz0 fz'→SS D (f.more it dt) fz' m' M' s'→SS D (f.more it dt) fz' mc M' s')
  (hmc2:∀dt it2 dt2 fz' m' M' s',Sub fz0 fz'→SS D ((f.more it dt).more it2 dt2) fz' m' M' s'→SS D ((f.more it dt).more it2 dt2) fz' mc M' s')
  (hs:∀x,foldedSetIterable i2 f.env x=pure x)
  (J:Nat→MH→Prop) (Ξ:MH→Prop)
  (step:∀i c M dt,vals[i]?=some c→J i M→P M∧WA D (f.more it dt) d t1 c mc M (fun m2 M2=>WE D (f.more it dt) d i2 m2 M2 (fun c2 M3=>
   ∃vals2 P2,Itb D c2 vals2 P2∧P2 M3∧∃J2:Nat→MH→Prop,J2 0 M3∧(∀M,J2 vals2.length M→P2 M∧J (i+1) M) ∧
    ∀j c' M dt it2 dt2,vals2[j]?=some c'→J2 j M→P2 M∧WA D ((f.more it dt).more it2 dt2) d t2 c' mc M (fun m4 M4=>WE D ((f.more it dt).more it2 dt2) d elt m4 M4 (fun x M5=>
     ∃vs,M5.get accA=some (.lst vs)∧vs.length≤999∧J2 (j+1) (M5.set accA (.lst (vs++[x])))) X) X) X) X)
  (fin:∀M,J vals.length M→P M∧Ξ M)
  (h0:J 0 M) (k0:Sub fz0 fz) (S:SS D (f.more it (dts 0)) fz m M s) :
  codeAny (model D.prog D.w) A (.compLoop (.ListComp elt [⟨t1,i1,[],0⟩,⟨t2,i2,[],0⟩] scope pos) 0 (.ref it) (.ref accA) f.env) (fun r s'=>match r with|.ok _=>∃fz' m' M',Sub fz fz'∧SS D f fz' m' M' s'∧Ξ M'|.error e=>∃fz' M' xo msg,Sub fz fz'∧St D.cls D.h₀ D.os f fz' [] M' xo s'∧ExT D xo fz' msg e∧X msg M') s:=by
 walk_at "aU"
 show wpAny _ _ ((compTurn (.ListComp elt [⟨t1,i1,[],0⟩,⟨t2,i2,[],0⟩] scope pos) 0 (.ref it) (.ref accA) f.env).onRaise (fun x=>do noteFrame x f.env;theTreesLotGoes x)) _ _ s'
 refine wpAny_noted ?_
 walk_at "ap"
 rw[nH]
 walk_at "b3"
 cases hv:vals[i]? with
 |none=>
  walk_at "aG"
 |some c=>
  walk_at "aH"
  refine wpAny_bind (pr.lo f (i+1) f2 mc M1 s2 t1 v _ _ A S2c ?_)
  walk_at "bp"
  refine wpAny_bind (wpAny_mono (hB f3 A s3 a.more S3) (fun x s5 h5=>?_) fun _ _ z=>err kk3 z.less1)
  obtain⟨f5,c5,M5,k5,S5,r5,vals2,P2,ib,hP2,J2,j0,jf,js⟩:=h5
  have kk5:=kk3.tr k5
  walk_at "b3"
  rw[hs]
  refine wpAny_bind (wpAny_pure ?_)
  refine wpAny_bind (wpAny_holding ?_)
  refine ib (f.more it (dts (i+1))) d f5 m3 M5 s5 A x _ _ calm a.more S5 r5 hP2 fun it2 dts2 s6 S6 pr2=>?_
  have loop:codeAny (model D.prog D.w) A (.compLoop (.ListComp elt [⟨t1,i1,[],0⟩,⟨t2,i2,[],0⟩] scope pos) 1 (.ref it2) (.ref accA) f.env) (fun r s'=>match r with|.ok f'=>(∃fz' m' M',Sub f5 fz'∧SS D (f.more it (dts (i+1))) fz' m' M' s'∧J (i+1) M')|.error e=>∃fz' M' xo msg,Sub f5 fz'∧St D.cls D.h₀ D.os (f.more it (dts (i+1))) fz' [] M' xo s'∧ExT D xo fz' msg e∧X msg M') s6:=
   qQ (f:=f.more it (dts (i+1))) calm a.more pr2 (fun dt fz' m' M' s' kk SS'=>hmc2 _ _ _ _ _ _ _ ((k0.tr kk5).tr kk) SS') J2 (J (i+1)) (fun j c' M dt hv2 hj=>js j c' M (dts (i+1)) it2 dt hv2 hj) jf j0 Sub.rfl' S6
  refine wpAny_bind (wpAny_runOwn (codeAny_mono (R:=fun r s'=>match r with|.ok f'=>(∃fz' m' M',Sub f5 fz'∧SS D (f.more it (dts (i+1))) fz' m' M' s'∧J (i+1) M')|.error e=>∃fz' M' xo msg,Sub f5 fz'∧St D.cls D.h₀ D.os (f.more it (dts (i+1))) fz' [] M' xo s'∧ExT D xo fz' msg e∧X msg M') ?_ fun r s7 h7=>?_))
  ·exact gu loop (pr2.self _ _ _ _ _ _ _ _ S6 loop)
  ·cases r with
   |ok fl=>
    obtain⟨f7,m7,M7,k7,S7,hJ⟩:=h7
    exact wpAny_pure ⟨rfl,n - 1,by omega,i+1,f7,m7,M7,by omega,kk5.tr k7,S7,hJ⟩
   |error e=>
    obtain⟨f7,M7,xo7,msg,k7,S7,ex7,hx⟩:=h7
    refine jk (f:=f.more it (dts (i+1))) S7 ex7 fun xo8 s8 S8 ex8=>?_
    exact err (kk5.tr k7) (XP.less1 (it:=it) (dt:=dts (i+1)) ⟨f7,M7,xo8,msg,Sub.rfl',S8,ex8.ex,hx⟩)
end
section
variable {D:Wd}{f:Fc}{d:Nat}{m mc:List (Str×CV)}{M M':MH}{X Y:Str→MH→Prop}{fz fz' fz0:Led}{s:Shared}{A:Around}{Φ:CV→MH→Prop}{Ψ:Bool→MH→Prop}
theorem sI{elt target iter t2 i2:PySem.Expr}{scope:Scope}{pos:Pos}{cl:List (Str×Addr)}{use:Option (Value→Sem Unit)}{Q:Value→Shared→Prop}(calm:f.calm=true)(a:AOk f d A)(ci:kN f scope cl)(cap:Cap f scope cl mc m)
  {vals:List CV} {P:MH→Prop} {it:Addr} {dts:Nat→Value×Data} (S:SS D (f.more it (dts 0)) fz m M s) (pr:nM D it dts vals fz P) {Ξ:Addr→MH→Prop}
  (hs2:∀x,foldedSetIterable i2 (compEnvC scope cl 0 f.env) x=pure x)
  (h:∀accA,M.get accA=none→∃J:Nat→MH→Prop,J 0 ((accA,.lst [])::M)∧(∀M,J vals.length M→P M∧Ξ accA M) ∧
   ∀C frs pin i c M dt,vals[i]?=some c→J i M→P M∧WA D ((a8 f scope cl C frs pin).more it dt) d target c mc M (fun m2 M2=>WE D ((a8 f scope cl C frs pin).more it dt) d i2 m2 M2 (fun c2 M3=>
    ∃vals2 P2,Itb D c2 vals2 P2∧P2 M3∧∃J2:Nat→MH→Prop,J2 0 M3∧(∀M,J2 vals2.length M→P2 M∧J (i+1) M) ∧
     ∀j c' M dt it2 dt2,vals2[j]?=some c'→J2 j M→P2 M∧WA D (((a8 f scope cl C frs pin).more it dt).more it2 dt2) d t2 c' mc M (fun m4 M4=>WE D (((a8 f scope cl C frs pin).more it dt).more it2 dt2) d elt m4 M4 (fun x M5=>
      ∃vs,M5.get accA=some (.lst vs)∧vs.length≤999∧J2 (j+1) (M5.set accA (.lst (vs++[x])))) X) X) X) X)
  (hok:∀accA C o fz' M' s' fl mm,Sub fz fz'→SS D (f.more C (o,fl)) fz' m M' s'→NsD fl mm→Ξ accA M'→compPost (model D.prog D.w) A (XP D f fz X) use Q (.ref accA) C (.ok .next) s') :
  wpAny (model D.prog D.w) A (newList []) (fun acc s₃=>wpAny (model D.prog D.w) A (newFunctionEnv scope f.env.globals cl [] f.env.qual none .none (some f.env)) (fun cenv s₄=>
   codeAny (model D.prog D.w) A (.compStart (.ListComp elt [⟨target,iter,[],0⟩,⟨t2,i2,[],0⟩] scope pos) 0 (.ref it) acc { cenv with scope:=relabel scope f.env }) (compPost (model D.prog D.w) A (XP D f fz X) use Q acc cenv.locals) s₄) (XP D f fz X) s₃) (XP D f fz X) s:=by
 walk_at "bZ"
 walk_at "ao"
 walk_at "co"
 let fc:Fc:=a8 f scope cl C ((f.L,(oL.cls,oL.data))::f.frs) (cells++f.pin)
 have hfos:=H₁.fos
 cases hfos with
 |@cons _ _ oit _ fo2 hdit hfr=>
 walk_at "ae"
 have hmc2:∀dt it2 dt2 fz' m' M' s',Sub fz fz'→SS D ((fc.more it dt).more it2 dt2) fz' m' M' s'→SS D ((fc.more it dt).more it2 dt2) fz' mc M' s':=by
  intro dt it2 dt2 fz' m' M' s' k ⟨⟨mr',cells',fo',ml',H'⟩,g',o'⟩
  refine⟨⟨mr',cells',fo',ml',⟨H'.F,H'.N,H'.nd,H'.cellsAre,H'.fos,H'.mrs,fun x c e=>?_⟩⟩,g',o'⟩
  obtain⟨e1,e2,e3,e4⟩:=cap x c e
  obtain⟨ad,e4⟩:=Option.isSome_iff_exists.mp e4
  rcases H₁.loc x c e1 with ⟨q,_⟩|⟨_,ad',o,v,q1,q2,q3,q4⟩
  ·rw[show f.env.kindOf x=some .local from q] at e2;rcases e2 with e2|e2<;>cases e2
  ·have:=ci.cells x ad e4
   rw[show f.env.cells.lookup x=some ad' from q1] at this
   cases this
   refine .inr ⟨e3,ad,o,v,e4,List.mem_append_left _ ?_,q3,q4.mono k⟩
   rcases List.mem_append.mp q2 with q2|q2
   ·exact List.mem_append_right _ q2
   ·exact List.mem_append_left _ q2
 walk_at "ac"
 have loop:∀s',SS D (fc.more it (dts 0)) fz [] ((accA,.lst [])::M) s'→codeAny (model D.prog D.w) A (.compLoop (.ListComp elt [⟨target,iter,[],0⟩,⟨t2,i2,[],0⟩] scope pos) 0 (.ref it) (.ref accA) fc.env) (compPost (model D.prog D.w) A (XP D f fz X) use Q (.ref accA) C) s':=fun s' S'=>
  codeAny_mono (qR (f:=fc) calm aC pr hmc hmc2 hs2 J (Ξ accA) (fun i c M dt hv hi=>hstep C _ _ i c M dt hv hi) hfin hJ0 Sub.rfl' S') post
 refine codeAny_compStart_list (loop _ Sc) ?_
 exact pr.self fc fz [] _ _ _ _ A Sc (loop _ Sc)
end
def zu(D:Wd)(f:Fc)(d:Nat)(elt target t2 i2:PySem.Expr)(scope:Scope)(cl:List (Str×Addr))(mc:List (Str×CV))(c:CV)(M1:MH)(Ξ:Addr→MH→Prop)(X:Str→MH→Prop):Prop:=
 ∃vals P,Itb D c vals P∧P M1∧∀accA,M1.get accA=none→∃J:Nat→MH→Prop,J 0 ((accA,.lst [])::M1)∧(∀M,J vals.length M→P M∧Ξ accA M) ∧
   ∀C frs pin i c M dt it,vals[i]?=some c→J i M→P M∧WA D ((a8 f scope cl C frs pin).more it dt) d target c mc M (fun m2 M2=>WE D ((a8 f scope cl C frs pin).more it dt) d i2 m2 M2 (fun c2 M3=>
    ∃vals2 P2,Itb D c2 vals2 P2∧P2 M3∧∃J2:Nat→MH→Prop,J2 0 M3∧(∀M,J2 vals2.length M→P2 M∧J (i+1) M) ∧
     ∀j c' M dt it2 dt2,vals2[j]?=some c'→J2 j M→P2 M∧WA D (((a8 f scope cl C frs pin).more it dt).more it2 dt2) d t2 c' mc M (fun m4 M4=>WE D (((a8 f scope cl C frs pin).more it dt).more it2 dt2) d elt m4 M4 (fun x M5=>
      ∃vs,M5.get accA=some (.lst vs)∧vs.length≤999∧J2 (j+1) (M5.set accA (.lst (vs++[x])))) X) X) X) X
section
variable {D:Wd}{f:Fc}{d:Nat}{m mc:List (Str×CV)}{M M':MH}{X Y:Str→MH→Prop}{fz fz' fz0:Led}{s:Shared}{A:Around}{Φ:CV→MH→Prop}{Ψ:Bool→MH→Prop}
theorem yQ{elt target iter t2 i2:PySem.Expr}{scope:Scope}{pos:Pos}{cl:List (Str×Addr)}(calm:f.calm=true)(ci:kN f scope cl)(cap:Cap f scope cl mc m)(hs:∀x,foldedSetIterable iter f.env x=pure x)
  (hs2:∀x,foldedSetIterable i2 (compEnvC scope cl 0 f.env) x=pure x)
  (h:WE D f d iter m M (fun c M1=>zu D f d elt target t2 i2 scope cl mc c M1 (fun accA M'=>Φ (.ref accA) M') X) X):WE D f d (.ListComp elt [⟨target,iter,[],0⟩,⟨t2,i2,[],0⟩] scope pos) m M Φ X:=by
 walk_at "by"
 have core:=sI (D:=D) (d:=d) (X:=X) (elt:=elt) (target:=target) (iter:=iter) (t2:=t2) (i2:=i2) (pos:=pos) (use:=none) (Q:=VP D f fz m Φ) calm a ci cap S0 pr (Ξ:=fun accA M'=>Φ (.ref accA) M') hs2 (fun accA hg=>by
  obtain⟨J,j1,j2,j3⟩:=hh accA hg
  exact⟨J,j1,j2,fun C frs pin i c M dt hv hi=>j3 C frs pin i c M dt it hv hi⟩) ?_
 walk_at "aT"
end
section
variable {D:Wd}{E:Ev}{cx:Cx}{f:Fc}{d:Nat}{mh:Vs}{Mh:AM}{k:K1}{X:KX}{kb:KB}{as:List Addr}{m:List (Str×CV)}{M:MH}{fz:Led}{s:Shared}{b:Nat}{Y:Str→MH→Prop}
theorem Pre.same{as2:List Addr}(h:Pre as as2)(e:as2.length=as.length):as2=as:=by
 refine List.ext_getElem? fun i=>?_
 cases q:as[i]? with
 |some a=>exact h i a q
 |none=>
  have:=List.getElem?_eq_none_iff.mp q
  exact List.getElem?_eq_none_iff.mpr (by omega)
theorem vL(o:dN D E){sc:Scope}{cl:List (Str×Addr)}(F:FOk f cx)(hsc:i5 cx.sc sc=true)(T:TbOk D d cx.T){t1 i2 t2 elt:PySem.Expr}{vals:List CV}{mt:Vs}{k':List CV→Prop}{c:CV}{M1:MH}{Mh1:AM}{src:Option Nat}
  (l:ML as mt (nK sc m)) (r:RM as Mh1 M1) {P:MH→Prop} (ib:Itb D c vals P) (hP:∀as' Mh' M',Pre as as'→RM as' Mh' M'→keepB src Mh1 Mh'→P M')
  (h0:sD E { cx with sc:=sc } t1 i2 t2 elt mt Mh1 X vals [] k') :
  zu D f d elt t1 t2 i2 sc cl (nK sc m) c M1 (fun accA M'=>∃as' es,Step as M1 as' M'∧RM as' (Mh1++[.lst es]) M'∧RV as' (.ref Mh1.length) (.ref accA)∧k' es) (PostX as M1 X):=by
 walk_at "de"
 have neA:∀a∈as,a≠accA:=fun a ha q=>hacc (q▸ha)
 refine⟨fun i M'=>∃acc,Step as M1 as M'∧RM as Mh1 M'∧M'.get accA=some (.lst acc)∧sD E { cx with sc:=sc } t1 i2 t2 elt mt Mh1 X (vals.drop i) acc k',?_,?_,?_⟩
 ·have ne:∀a,(∃mo,M1.get a=some mo)→a≠accA:=fun a ⟨mo,e⟩ q=>by rw[q,hget] at e;cases e
  refine⟨[],⟨Pre.rfl',fun a mo h1 h2=>⟨h1,by rw[MH.get_tl (ne a ⟨mo,h2⟩)];exact h2⟩⟩,r.ext fun a ha=>MH.get_tl (ne a (r.dom a ha)) _ _,MH.get_hd _ _ _,?_⟩
  rw[List.drop_zero];exact h0
 ·rintro M ⟨acc,st,rm,hg,hR⟩
  rw[List.drop_length] at hR
  refine⟨hP as Mh1 M Pre.rfl' rm keepB.rfl',as++[accA],acc,⟨fun i ad e=>by rw[bq,if_neg];exact e;intro q;rw[q] at e;simp at e,fun a mo x y=>?_⟩,rm.track (.lst acc) hacc hg,.ref (by rw[bq,if_pos rm.len.symm]),hR⟩
  walk_at "dg"
 ·rintro C frs pin i c' M dt it hv ⟨acc,st,rm,hg,hR⟩
  walk_at "bm"
  have hdrop:vals.drop i=c'::vals.drop (i+1):=by
   walk_at "bB"
  rw[hdrop] at hR
  refine⟨hP as Mh1 M Pre.rfl' rm keepB.rfl',?_⟩
  have FC:=FOk.comp (cl:=cl) (C:=C) (frs:=frs) (pin:=pin) (it:=it) (dt:=dt) F hsc
  rw[sD] at hR
  refine(eB (D:=D) (d:=d) (Y:=PostX as M1 X) FC (.v c') l rm hR).mono (fun m2 M2 q=>?_) fun _ _ z=>z
  obtain⟨as2,mh2,Mh2,s2,r2,l2,q⟩:=q
  refine(o.e _ ((a8 f sc cl C frs pin).more it dt) d _ _ _ _ _ _ _ _ FC T l2 r2 q).mono (fun c2 M3 q=>?_) fun _ _ z=>(z.tr s2).tr st
  obtain⟨as3,a3,Mh3,s3,r3,v3,rfl,q⟩:=q
  obtain⟨src2,vals2,hk,hz,hsl,P2,ib2,hP2⟩:=dO r3 v3 q
  have st3:=(st.tr s2).tr s3
  have e3:as=as3:=((s2.1.tr s3.1).same (by rw[r3.len,←r.len])).symm
  subst e3
  have hg3:M3.get accA=some (.lst acc):=(s3.2 accA _ (s2.2 accA _ hacc hg).1 (s2.2 accA _ hacc hg).2).2
  refine⟨vals2,P2,ib2,hP2 as Mh3 M3 Pre.rfl' r3 keepB.rfl',fun j M'=>∃acc,Step as M1 as M'∧RM as Mh3 M'∧M'.get accA=some (.lst acc)∧qK E { cx with sc:=sc } t2 elt mt Mh3 X (vals2.drop j) acc (fun acc'=>sD E { cx with sc:=sc } t1 i2 t2 elt mt Mh3 X (vals.drop (i+1)) acc' k'),⟨acc,st3,r3,hg3,by rw[List.drop_zero];exact hk⟩,?_,?_⟩
  ·rintro M ⟨acc,st,rm,hg,hR⟩
   rw[List.drop_length] at hR
   exact⟨hP2 as Mh3 M Pre.rfl' rm keepB.rfl',acc,st,rm,hg,hR⟩
  ·rintro j c3 M dt1 it2 dt2 hv ⟨acc,st,rm,hg,hR⟩
   walk_at "bm"
   have hdrop:vals2.drop j=c3::vals2.drop (j+1):=by
    walk_at "bB"
   rw[hdrop] at hR
   refine⟨hP2 as Mh3 M Pre.rfl' rm keepB.rfl',?_⟩
   have FC2:FOk (((a8 f sc cl C frs pin).more it dt1).more it2 dt2) { cx with sc:=sc }:=(FOk.comp (cl:=cl) (C:=C) (frs:=frs) (pin:=pin) (it:=it) (dt:=dt1) F hsc).more
   rw[qK] at hR
   refine(eB (D:=D) (d:=d) (Y:=PostX as M1 X) FC2 (.v c3) l rm hR).mono (fun m2 M2 q=>?_) fun _ _ z=>z
   obtain⟨as2,mh2,Mh2,s2,r2,l2,q⟩:=q
   refine(o.e _ (((a8 f sc cl C frs pin).more it dt1).more it2 dt2) d _ _ _ _ _ _ _ _ FC2 T l2 r2 q).mono (fun c4 M4 q=>?_) fun _ _ z=>(z.tr s2).tr st
   obtain⟨as4,a4,Mh4,s4,r4,v4,q⟩:=q
   cases a4 with
   |v c5=>
    cases v4
    obtain⟨hz5,rfl,hR5⟩:=q
    have e4:as=as4:=((s2.1.tr s4.1).same (by rw[r4.len,←r3.len])).symm
    subst e4
    have st4:=(st.tr s2).tr s4
    have hg4:M4.get accA=some (.lst acc):=(s4.2 accA _ (s2.2 accA _ hacc hg).1 (s2.2 accA _ hacc hg).2).2
    refine⟨acc,hg4,hz5,acc++[c4],⟨Pre.rfl',fun a mo x1 y1=>⟨x1,?_⟩⟩,r4.ext fun a ha=>?_,?_,hR5⟩
    ·have:a≠accA:=fun q=>by rw[q,hget] at y1;cases y1
     rw[MH.get_set hg4,if_neg this]
     exact(st4.2 a mo x1 y1).2
    ·rw[MH.get_set hg4,if_neg (neA a ha)]
    ·rw[MH.get_set hg4,if_pos rfl]
   |_=>exact q.elim
end
theorem xO{x:Str}{s:String}(h:isS x s=false)(hs:(Str.ofString s).cps.toList=lit s):(x == (Str.ofString s))=false:=by
 rw[beq_eq_false_iff_ne]
 intro e
 rw[e] at h
 have:isS (Str.ofString s) s=true:=isS_iff.mpr hs
 rw[this] at h;cases h
theorem vt:(Str.ofString "__debug__").cps.toList=lit "__debug__":=by decide +kernel
theorem DJ:(Str.ofString "__classdict__").cps.toList=lit "__classdict__":=by decide +kernel
theorem ql:(Str.ofString "message").cps.toList=lit "message":=by decide +kernel
theorem zD{x y:Str}(h:x.cps.toList=y.cps.toList):x=y:=by
 obtain⟨⟨a⟩⟩:=x;obtain⟨⟨b⟩⟩:=y
 simpa using h
theorem xP{x:Str}{s:String}(h:isS x s=true)(hs:(Str.ofString s).cps.toList=lit s):x=Str.ofString s:=zD ((isS_iff.mp h).trans hs.symm)
theorem z8{o:PySem.Expr}{name:Str}{apos pos:Pos}{args:List PySem.Expr}{env:Env}(h1:i6 o=true)(h2:noStar args=true)(h3:args.length < 30)(h4:apos.endLine=pos.line) :
  eval (.Call (.Attribute o name apos) args [] pos) env=(do
   let ov ←eval o env
   standAt apos.atName
   let (fu,first) ←holding [ov] (getMethod ov name (do return (←importBound o env).getD true))
   callWith pos fu first (backTo pos (starEach args env)) []):=by
 have e:eval (.Call (.Attribute o name apos) args [] pos) env=(do
   let ov ←attributeBase o name env (eval o env)
   standAt apos.atName
   methodCall o name apos pos env ov (args.length+0) (backTo pos (starEach args env)) (backToKw pos (keywordEach [] env))):=rfl
 rw[e,db h1]
 have hf:methodCallForm (args.length+0) (backTo pos (starEach args env)) (backToKw pos (keywordEach [] env))=true:=by
  unfold methodCallForm
  have ha:=i7 (env:=env) (pos:=pos) h2
  have:(backTo pos (starEach args env)).all (fun x=>!x.1)=true:=by
   rw[List.all_eq_not_any_not]
   simp only[Bool.not_not]
   rw[ha];rfl
  rw[this]
  simp[backToKw,keywordEach]
  omega
 unfold methodCall
 rw[hf]
 have hp:methodCallPos true o env apos pos=pure pos:=by
  unfold methodCallPos
  simp[h4]
 rw[hp]
 rfl
section
variable {D:Wd}{E:Ev}{cx:Cx}{f:Fc}{d:Nat}{mh:Vs}{Mh:AM}{k:K1}{X:KX}{kb:KB}{as:List Addr}{m:List (Str×CV)}{M:MH}{fz:Led}{s:Shared}{b:Nat}{Y:Str→MH→Prop}
theorem oj(o:dN D E)(F:FOk f cx)(T:TbOk D d cx.T){e:Option PySem.Expr}{kk:Option Int→AM→Prop}(l:ML as mh m)(r:RM as Mh M)(h:qJ E cx e mh Mh kk X) :
  WP D f d e m M (fun a M'=>∃as' Mh',Step as M as' M'∧RM as' Mh' M'∧kk a Mh') (PostX as M X):=by
 cases e with
 |none=>exact⟨as,Mh,Step.rfl',r,h⟩
 |some e=>
  refine WE.mono (o.e _ _ _ _ _ _ _ _ _ _ _ F T l r h) (fun c M1 q=>?_) fun _ _ z=>z
  walk_at "aq"
  split at h1
  ·cases v1;exact⟨_,rfl,as1,Mh1,s1,r1,h1⟩
  ·exact h1.elim
theorem WP.mono{e:Option PySem.Expr}{Φ Ψ:Option Int→MH→Prop}{X Y:Str→MH→Prop}(h:WP D f d e m M Φ X)(k:∀c M,Φ c M→Ψ c M)(l:∀c M,X c M→Y c M):WP D f d e m M Ψ Y:=by
 cases e with
 |none=>exact k _ _ h
 |some e=>exact WE.mono h (fun c M ⟨i,e,z⟩=>⟨i,e,k _ _ z⟩) l
theorem zC(o:dN D E)(F:FOk f cx)(T:TbOk D d cx.T){v sl:PySem.Expr}{p:Pos}(l:ML as mh m)(r:RM as Mh M)(h:iG E cx (.Subscript v sl p) mh Mh k X):WE D f d (.Subscript v sl p) m M (PostV as M k) (PostX as M X):=by
 have gen:(∀o i,subscripted sl false o i=operate [o,i] (getItem o i))→E.e cx v mh Mh (fun c M1=>E.e cx sl mh M1 (fun ic M2=>match ic with
  |.v (.int i)=>(match c with
   |.v (.str x)=>fG (bP x.cps.toList i) fun p=>bk (x.length≤1000) (k (.v (.str ⟨#[p]⟩)) M2)
   |_=>match cS M2 c with
    |some q=>fG (q.nth i) fun a=>bk (q.len≤1000) (k a M2)
    |none=>bad "a subscript")
  |_=>bad "an index's kind") X) X→WE D f d (.Subscript v sl p) m M (PostV as M k) (PostX as M X):=by
  intro hs h
  refine AY ((o.e _ _ _ _ _ _ _ _ _ _ _ F T l r h).mono (fun c M1 q=>?_) fun _ _ z=>z) hs
  walk_at "aq"
  walk_at "aC"
  split at h2
  ·cases v2
   split at h2
   ·cases v1
    obtain⟨p,hn,h2⟩:=fj h2
    exact .inr ⟨_,_,_,rfl,rfl,h2.1,hn,as2,_,Mh2,s1.tr s2,r2,.v _,h2.2⟩
   ·split at h2
    ·rename_i q hq
     obtain⟨a',ha,h2⟩:=fj h2
     obtain⟨cs,g1,g2,g3,g4⟩:=aT r2 (v1.mono s2.1) hq
     obtain⟨c',n1,n2⟩:=zU g2 ha
     exact .inl ⟨_,cs,_,c',g1,rfl,g3▸h2.1,n1,as2,_,Mh2,s1.tr s2,r2,n2,h2.2⟩
    ·exact h2.elim
  ·exact h2.elim
 cases sl with
 |Slice lo hi st p'=>
  cases st with
  |none=>
   change E.e cx v mh Mh (fun c M1=>qJ E cx lo mh M1 (fun a M2=>qJ E cx hi mh M2 (fun b M3=>rO c a b M3 k) X) X) X at h
   refine yM ((o.e _ _ _ _ _ _ _ _ _ _ _ F T l r h).mono (fun c M1 q=>?_) fun _ _ z=>z)
   walk_at "aq"
   refine(oj o F T (l.mono s1.1) r1 h1).mono (fun ia M2 q=>?_) fun _ _ z=>z.tr s1
   obtain⟨as2,Mh2,s2,r2,h2⟩:=q
   refine(oj o F T (l.mono (s1.tr s2).1) r2 h2).mono (fun ib M3 q=>?_) fun _ _ z=>z.tr (s1.tr s2)
   obtain⟨as3,Mh3,s3,r3,h3⟩:=q
   unfold rO at h3
   split at h3
   ·rename_i vs hs
    obtain⟨cs,g1,g2,g3,g4⟩:=aT r3 (v1.mono (s2.tr s3).1) hs
    obtain rfl:=g4 _ _ rfl
    refine⟨cs,g1,h3.1,fun ad hn=>?_⟩
    obtain⟨p1,p2,p3,p4,p5,p6,p7⟩:=gz r3 (by intro q;cases q) (.lst (dQ cs ia ib)) h3.2 ad hn
    exact⟨p1,p2,p3,(s1.tr (s2.tr s3)).tr p4,p5,p6,p7⟩
   ·exact h3.elim
  |some st=>exact gen (fun _ _=>rfl) h
 |_=>exact gen (fun _ _=>rfl) h
theorem oo(T:TbOk D d cx.T)(calm:f.calm=true){fv:Value}{args:List AV}{cs:List CV}(r:RM as Mh M)(va:RVs as args cs)(h:qY cx (.st fv) args [] Mh k X):WO D f d (fun vs=>call fv vs) cs M (PostV as M k) (PostX as M X):=by
 cases fv with
 |ref a=>
  simp only[qY] at h
  split at h
  ·rename_i S hS
   exact E7 (jT (T.fns a S hS).1 r va .nil h) f calm
  ·exact h.elim
 |builtin id=>exact AD calm T.tx r va h
 |type id=>exact Db r va h
 |_=>exact h.elim
theorem mB{kw:Keyword}{kws:List Keyword}:co (kw::kws)≠some []:=by
 intro h
 obtain⟨n,e,p⟩:=kw
 cases n with
 |none=>cases h
 |some n=>
  unfold co at h
  rw[Option.map_eq_some_iff] at h
  obtain⟨a,_,h⟩:=h
  cases h
theorem lb(T:TbOk D d cx.T){fv:Value}(h:nb cx fv=true):cU D.K fv=true:=by
 cases fv<;>first|rfl|skip
 simp only[nb] at h
 obtain⟨S,hS⟩:=Option.isSome_iff_exists.mp h
 exact(T.fns _ S hS).2
theorem vn(id:Nat):cU D.K (xD id)=true:=by
 unfold xD
 split<;>rfl
theorem yl{p:Pos}(r:RM as Mh M)(h:k (.v .dct) Mh):WE D f d (.Dict [] [] p) m M (PostV as M k) Y:=yP (.now r (.v _) h)
theorem u2(o:dN D E)(F:FOk f cx)(T:TbOk D d cx.T){e:PySem.Expr}(l:ML as mh m)(r:RM as Mh M)(h:iG E cx e mh Mh k X):WE D f d e m M (PostV as M k) (PostX as M X):=by
 have tx:=T.tx
 cases e with
 |Constant c n p=>
  cases c<;>simp only[iG,ym] at h<;>first|exact h.elim|skip
  ·exact A0 (PostV.now r (.v _) h)
  ·exact A6 (PostV.now r (.v _) h)
  ·exact Eg (PostV.now r (.v _) h)
  ·exact Ee (PostV.now r (.v _) h)
 |Name x p=>
  simp only[iG] at h
  cases q:isS x "__debug__" with
  |true=>rw[q] at h;exact h.elim
  |false=>
  cases q2:isS x "__classdict__" with
  |true=>rw[q,q2] at h;exact h.elim
  |false=>
  rw[q,q2] at h
  have hd:=xO q vt
  have hc:=xO q2 DJ
  have loc:∀a,lkA x mh=some a→k a Mh→WE D f d (.Name x p) m M (PostV as M k) (PostX as M X):=fun a ha h=>by
   obtain⟨c,h1,h2⟩:=l x a ha
   exact tz h1 (PostV.now r h2 h) hd hc
  change (match cx.kind x with|some .local=>_|some .cell=>_|some .free=>_|some .globalImplicit=>_|_=>_) at h
  split at h
  walk_at "cY"
  walk_at "cY"
  walk_at "cY"
  ·rename_i hk
   split at h
   ·rename_i a ha
    have hg:=F.glob x hk
    rcases tx.glob x a ha with ⟨v,h1,h2⟩|⟨v,h1,rfl,h3,h4,h5,h6⟩
    ·exact A3 hg h1 h2 (PostV.now r (.v _) h) hd
    ·exact Ei hg h1 h3 h4 h5 h6 (PostV.now r (.v _) h) hd
   ·exact h.elim
  ·exact h.elim
 |Attribute ob x p=>
  simp only[iG] at h
  cases hs:i6 ob with
  |false=>rw[hs] at h;exact h.elim
  |true=>
  rw[hs] at h
  cases hx:isS x "message" with
  |true=>
   rw[hx] at h
   obtain rfl:=xP hx ql
   obtain⟨C,fI,ek,eg,_⟩:=tx.exc
   refine tB ek.k eg ((o.e _ _ _ _ _ _ _ _ _ _ _ F T l r h).mono (fun c M1 q=>?_) fun _ _ z=>z) (db hs)
   walk_at "aq"
   cases a with
   |ref i=>
    simp only at h1
    split at h1
    ·rename_i msg hi
     obtain⟨ad,mo,z1,z2,z3⟩:=r1.live hi (by intro q;cases q)
     cases v1 with
     |ref e1=>
     rw[e1] at z1;cases z1
     cases z3
     exact⟨_,msg,rfl,z2,as1,_,Mh1,s1,r1,.v _,h1⟩
    ·exact h1.elim
   |_=>exact h1.elim
  |false=>
   rw[hx] at h
   refine A7 ((o.e _ _ _ _ _ _ _ _ _ _ _ F T l r h).mono (fun c M1 q=>?_) fun _ _ z=>z) (db hs)
   walk_at "aq"
   split at h1
   ·rename_i cn a' ha
    obtain⟨c',e1,e2⟩:=yw r1 v1 ha
    split at h1
    ·rename_i fl hfl
     cases hin:sIn x fl with
     |false=>rw[hin] at h1;exact h1.elim
     |true=>
      rw[hin] at h1
      exact⟨cn,c',e1,fun C hC=>(tx.flds cn fl x hfl (sIn_iff.mp hin) C hC).1,as1,a',Mh1,s1,r1,e2,h1⟩
    ·exact h1.elim
   ·exact h1.elim
 |Subscript v sl p=>exact zC o F T l r h
 |Call fn args kws p=>
  cases fn with
  |Name x px=>
   simp only[iG] at h
   cases hst:noStar args with
   |false=>rw[hst] at h;exact h.elim
   |true=>
   cases hh:cx.hot with
   |true=>rw[hst,hh] at h;exact h.elim
   |false=>
   cases hkn:(co kws).isSome with
   |false=>rw[hst,hh,hkn] at h;simp at h;exact h.elim
   |true=>
   rw[hst,hh,hkn] at h
   have calm:=F.calm hh
   cases kws with
   |nil=>
    change E.e cx (.Name x px) mh Mh _ X at h
    refine A5 ((o.e _ _ _ _ _ _ _ _ _ _ _ F T l r h).mono (fun c M1 q=>?_) fun _ _ z=>z) (i7 hst)
    walk_at "aq"
    split at h1
    ·rename_i fv
     cases v1
     cases hc:nb cx fv with
     |false=>rw[hc] at h1;exact h1.elim
     |true=>
     rw[hc] at h1
     refine⟨fv,rfl,lb T hc,?_⟩
     walk_at "bV"
     exact(oo T calm r2 v2 h2).mono (fun _ _ z=>z.tr (s1.tr s2)) fun _ _ z=>z.tr (s1.tr s2)
    ·exact h1.elim
   |cons kw kws=>
    cases args with
    |cons _ _=>simp at h;exact h.elim
    |nil=>
    obtain⟨kn,hkn⟩:=Option.isSome_iff_exists.mp hkn
    change E.e cx (.Name x px) mh Mh _ X at h
    refine vY hkn ((o.e _ _ _ _ _ _ _ _ _ _ _ F T l r h).mono (fun c M1 q=>?_) fun _ _ z=>z) calm
    walk_at "aq"
    split at h1
    ·rename_i fv
     cases v1
     cases hc:nb cx fv with
     |false=>rw[hc] at h1;exact h1.elim
     |true=>
     rw[hc] at h1
     refine⟨fv,rfl,lb T hc,?_⟩
     intro pos fz A s ao S
     refine wpAny_mono (mD o F T (l.mono s1.1) r1 h1 ⟨kn,hkn⟩ pos fz A s ao S) (fun vs s' ⟨f2,cs,M2,k2,S2,r2,as2,ks,Mh2,ck,z1,z2,z3,z4,z5,z6⟩=>⟨f2,cs,M2,k2,S2,r2,?_⟩) fun _ _ ⟨p,q,t,u,w,x,y,z⟩=>⟨p,q,t,u,w,x,y,z.tr s1⟩
     rw[hkn] at z4
     cases z4
     subst z5
     cases fv with
     |ref a=>
      simp only[qY] at z6
      split at z6
      ·rename_i S hS
       exact(jT (T.fns a S hS).1 z2 .nil z3 z6).mono (fun _ _ z=>z.tr (s1.tr z1)) fun _ _ z=>z.tr (s1.tr z1)
      ·exact z6.elim
     |builtin id=>
      cases ks with
      |nil=>exact absurd hkn mB
      |cons _ _=>exact z6.elim
     |type id=>
      cases ks with
      |nil=>exact absurd hkn mB
      |cons _ _=>exact z6.elim
     |_=>exact z6.elim
    ·exact h1.elim
  |Attribute ob name apos=>
   cases kws with
   |cons _ _=>exact h.elim
   |nil=>
   simp only[iG] at h
   cases hh:cx.hot with
   |true=>rw[hh] at h;exact h.elim
   |false=>
   cases hq:(i6 ob&&noStar args&&Nat.blt args.length 30&&Nat.beq apos.endLine p.line) with
   |false=>rw[hh,hq] at h;exact h.elim
   |true=>
   rw[hh,hq] at h
   simp only[Bool.and_eq_true] at hq
   obtain⟨⟨⟨q1,q2⟩,q3⟩,q4⟩:=hq
   have calm:=F.calm hh
   change E.e cx ob mh Mh _ X at h
   refine A1 ((o.e _ _ _ _ _ _ _ _ _ _ _ F T l r h).mono (fun c M1 q=>?_) fun _ _ z=>z) (z8 q1 q2 (Nat.blt_eq.mp q3) (Nat.eq_of_beq_eq_true q4)) (i7 q2)
   walk_at "aq"
   split at h1
   ·rename_i cn hcn
    split at h1
    ·rename_i ms hms
     split at h1
     ·rename_i fa hfa
      cases hnf:mf Mh1 name a with
      |false=>rw[hnf] at h1;exact h1.elim
      |true=>
      rw[hnf] at h1
      obtain⟨fs,e1,e2⟩:=AA r1 v1 hcn hnf
      obtain⟨hm,hk⟩:=tx.meth cn ms name fa hms hfa
      refine⟨.ref fa,AW e1 hm e2,hk,?_⟩
      walk_at "bV"
      exact(oo T calm r2 (.cons (v1.mono s2.1) v2) h2).mono (fun _ _ z=>z.tr (s1.tr s2)) fun _ _ z=>z.tr (s1.tr s2)
     ·exact h1.elim
    ·exact h1.elim
   ·split at h1
    ·rename_i id hid
     refine⟨xD id,C8 r1 v1 hid,vn id,?_⟩
     walk_at "bV"
     exact(xA r2 (v1.mono s2.1) v2 h2).mono (fun _ _ z=>z.tr (s1.tr s2)) fun _ _ z=>z
    ·exact h1.elim
  |_=>exact h.elim
 |BinOp a op b p=>
  refine Ej ((o.e _ _ _ _ _ _ _ _ _ _ _ F T l r h).mono (fun c M1 q=>?_) fun _ _ z=>z)
  walk_at "aq"
  walk_at "aC"
  exact(AE r2 (v1.mono s2.1) v2 h2).mono (fun _ _ z=>z.tr (s1.tr s2)) fun _ _ z=>z
 |UnaryOp op a p=>
  cases op with
  |Not=>
   refine Ef ((o.e _ _ _ _ _ _ _ _ _ _ _ F T l r h).mono (fun c M1 q=>?_) fun _ _ z=>z)
   walk_at "aq"
   refine(ie (X:=PostX as M X) r1 v1 h1).mono (fun b M2 q=>?_) fun _ _ z=>z
   obtain⟨as2,Mh2,s2,r2,h2⟩:=q
   exact⟨as2,_,Mh2,s1.tr s2,r2,.v _,h2⟩
  |USub=>
   refine AX ((o.e _ _ _ _ _ _ _ _ _ _ _ F T l r h).mono (fun c M1 q=>?_) fun _ _ z=>z)
   walk_at "aq"
   cases a with
   |v c'=>
    cases v1
    cases c<;>first|exact h1.elim|exact⟨_,rfl,as1,_,Mh1,s1,r1,.v _,h1⟩
   |_=>exact h1.elim
  |_=>exact h.elim
 |BoolOp op es p=>
  cases op with
  |And=>exact vH o F T l r h
  |Or=>exact yh o F T l r h
 |Compare a ops rs p=>exact yn o F T l r h
 |IfExp t a b p=>
  refine yO ((o.b _ _ _ _ _ _ _ _ _ _ _ F T l r h).mono (fun v M1 q=>?_) fun _ _ z=>z)
  walk_at "bf"
  walk_at "di"
  walk_at "di"
 |Tuple es n p=>
  refine Ed ((jM o F T l r h).mono (fun cs M1 q=>?_) fun _ _ z=>z)
  obtain⟨as1,l1,Mh1,s1,r1,v1,h1⟩:=q
  exact⟨v1.length▸h1.1,as1,_,Mh1,s1,r1,RV.mkTup v1,h1.2⟩
 |List es p=>
  refine A2 ((jM o F T l r h).mono (fun cs M1 q=>?_) fun _ _ z=>z)
  obtain⟨as1,l1,Mh1,s1,r1,v1,h1⟩:=q
  refine⟨v1.length▸h1.1,fun a hn=>⟨as1++[a],_,_,s1.tr (Step.push hn),r1.push (dS l1) (RO.mkLst v1) hn,.ref ?_,h1.2⟩⟩
  rw[bq,if_pos r1.len.symm]
 |Dict ks vs p=>
  cases ks with
  |cons _ _=>exact h.elim
  |nil=>
   cases vs with
   |cons _ _=>exact h.elim
   |nil=>exact yl r h
 |ListComp elt gens sc p=>
  match gens,h with
  |[⟨target,iter,ifs,0⟩],h=>
   simp only[iG] at h
   cases hh:cx.hot with
   |true=>rw[hh] at h;exact h.elim
   |false=>
   cases hq:(i5 cx.sc sc&&bQ iter) with
   |false=>rw[hh,hq] at h;exact h.elim
   |true=>
   rw[hh,hq] at h
   rw[Bool.and_eq_true] at hq
   obtain⟨cl,ci,cc⟩:=pn F hq.1
   change E.e cx iter mh Mh _ X at h
   refine uJ (F.calm hh) ci (po cc) (bD hq.2) ((o.e _ _ _ _ _ _ _ _ _ _ _ F T l r h).mono (fun c M1 q=>?_) fun _ _ z=>z)
   walk_at "aq"
   obtain⟨src,vs,hk,hz,hsl,P,ib,hP⟩:=dO r1 v1 h1
   exact(om o F hq.1 T (l.mono s1.1) r1 hz ib hP hk).mono (fun _ _ z=>z.tr s1) fun _ _ z=>z.tr s1
  |[⟨t1,i1,[],0⟩,⟨t2,i2,[],0⟩],h=>
   simp only[iG] at h
   cases hh:cx.hot with
   |true=>rw[hh] at h;exact h.elim
   |false=>
   cases hq:(i5 cx.sc sc&&(bQ i1&&bQ i2)) with
   |false=>rw[hh,hq] at h;exact h.elim
   |true=>
   rw[hh,hq] at h
   rw[Bool.and_eq_true,Bool.and_eq_true] at hq
   obtain⟨cl,ci,cc⟩:=pn F hq.1
   change E.e cx i1 mh Mh _ X at h
   refine yQ (F.calm hh) ci (po cc) (bD hq.2.1) (bD hq.2.2) ((o.e _ _ _ _ _ _ _ _ _ _ _ F T l r h).mono (fun c M1 q=>?_) fun _ _ z=>z)
   walk_at "aq"
   obtain⟨src,vs,hk,hz,hsl,P,ib,hP⟩:=dO r1 v1 h1
   rw[←hh] at hk
   have cs:=vL (cl:=cl) o F hq.1 T (m9 hq.1 (l.mono s1.1)) r1 ib hP hk
   obtain⟨vals,P,ib,hP,hh⟩:=cs
   refine⟨vals,P,ib,hP,fun accA hg=>?_⟩
   obtain⟨J,j1,j2,j3⟩:=hh accA hg
   refine⟨J,j1,fun M hM=>⟨(j2 M hM).1,?_⟩,fun C frs pin i c M dt it hv hi=>⟨(j3 C frs pin i c M dt it hv hi).1,((j3 C frs pin i c M dt it hv hi).2).mono (fun m2 M2 z=>z.mono (fun c2 M3 z=>?_) fun _ _ z=>z.tr s1) fun _ _ z=>z.tr s1⟩⟩
   ·obtain⟨as2,es,s2,r2,v2,h2⟩:=(j2 M hM).2
    exact⟨as2,_,_,s1.tr s2,r2,v2,h2⟩
   ·obtain⟨vals2,P2,ib2,hP2,J2,q1,q2,q3⟩:=z
    exact⟨vals2,P2,ib2,hP2,J2,q1,q2,fun j c' M dt it2 dt2 hv2 hj=>⟨(q3 j c' M dt it2 dt2 hv2 hj).1,((q3 j c' M dt it2 dt2 hv2 hj).2).mono (fun m4 M4 z=>z.mono (fun _ _ z=>z) fun _ _ z=>z.tr s1) fun _ _ z=>z.tr s1⟩⟩
 |_=>exact h.elim
end
theorem eS{e:PySem.Expr}{t:Option PySem.Expr}{n:Nat}{env:Env}(h:ij e=true):swapsWith e t n env=pure false:=by
 cases e<;>first|rfl|cases h
theorem gB{e t:PySem.Expr}{n:Nat}{env:Env}(h:∀x p,t≠.Name x p):swapsWith e (some t) n env=pure false:=by
 cases e<;>first|rfl|(cases t<;>first|rfl|exact absurd rfl (h _ _))
theorem sH{elt:PySem.Expr}{gens:List Comprehension}{sc:Scope}{pos:Pos}{x:Str}{p:Pos}{n:Nat}{env:Env}:∃b,swapsWith (.ListComp elt gens sc pos) (some (.Name x p)) n env=pure b:=⟨_,rfl⟩
def ke(vs:List PySem.Expr):Bool:=vs.any fun|.Starred ..=>true|_=>false
def gC(env:Env)(ts:List PySem.Expr)(line:Nat):List Str:=ts.filterMap fun|.Name id pos=>if env.kindOf id == some .local&&pos.line == line then some id else none|_=>none
theorem nA{ts vs:List PySem.Expr}{n n2:Nat}{p p2:Pos}{env:Env}:swappedStores [.Tuple ts n p] (.Tuple vs n2 p2) env =
  (if (!(ts.length == 2||ts.length == 3)||vs.length != ts.length||env.blockKind != .function)=true then pure none else if ke vs=true then pure none else
   if ((gC env ts ((ts.head?.map (·.pos.line)).getD 0)).length != ts.length||(gC env ts ((ts.head?.map (·.pos.line)).getD 0)).eraseDups.length != (gC env ts ((ts.head?.map (·.pos.line)).getD 0)).length)=true then pure none else
   if vs.all (foldedForSure 8)=true then pure none else if vs.all (constantsAlone 8)=true then (do unsupported "assign.tuple-of-constant-expressions:order-of-the-stores";pure (some (gC env ts ((ts.head?.map (·.pos.line)).getD 0)))) else pure (some (gC env ts ((ts.head?.map (·.pos.line)).getD 0)))):=by rfl
theorem GS(a b:Nat):Nat.beq a b=(a == b):=by
 rw[Bool.eq_iff_iff,Nat.beq_eq,beq_iff_eq]
theorem qf{vs:List PySem.Expr}(h:noStar vs=true):ke vs=false:=by
 induction vs with
 |nil=>rfl
 |cons e r ih=>cases e<;>first|(cases h;done)|(unfold ke;rw[List.any_cons];exact ih h)
theorem qe{vs:List PySem.Expr}(h:noStar vs=false):ke vs=true:=by
 induction vs with
 |nil=>cases h
 |cons e r ih=>cases e<;>first|(unfold ke;rw[List.any_cons];exact Bool.or_eq_true_iff.mpr (.inr (ih h)))|(unfold ke;rw[List.any_cons];rfl)
theorem lA{l:List Str}(h:l.Nodup):l.eraseDups=l:=by
 induction l with
 |nil=>rfl
 |cons x r ih=>
  rw[List.nodup_cons] at h
  rw[List.eraseDups_cons]
  have:r.filter (fun b=>!b == x)=r:=List.filter_eq_self.mpr fun a ha=>by
   simp only[Bool.not_eq_true',beq_eq_false_iff_ne]
   exact fun e=>h.1 (e▸ha)
  rw[this,ih h.2]
theorem gE{sc:Scope}{line:Nat}{env:Env}(hs:env.scope=sc):∀{ts:List PySem.Expr} {names:List Str},ik sc line ts=some names →
  gC env ts line=names∧names.length=ts.length∧(∀x∈names,env.kindOf x=some .local)∧∃ps,ts=(names.zip ps).map (fun p=>PySem.Expr.Name p.1 p.2)∧ps.length=names.length
 |[],names,h=>by cases h;exact⟨rfl,rfl,fun _ h=>(nomatch h),[],rfl,rfl⟩
 |t::ts,names,h=>by
  cases t with
  |Name x p=>
   unfold ik at h
   cases hq:(kW sc x&&Nat.beq p.line line) with
   |false=>rw[hq] at h;cases h
   |true=>
   rw[hq] at h
   simp only[cond_true] at h
   split at h
   ·rename_i l hl
    cases h
    obtain⟨e1,e2,e3,ps,e4,e5⟩:=gE hs hl
    rw[Bool.and_eq_true] at hq
    have hk:env.kindOf x=some .local:=by
     have:=hq.1
     unfold kW at this
     split at this
     ·rename_i q;rw[bE,←hs] at q;exact q
     ·cases this
    have hl:=Nat.eq_of_beq_eq_true hq.2
    refine⟨?_,by simp[e2],fun y hy=>?_,p::ps,by rw[e4];rfl,by simp[e5]⟩
    ·unfold gC
     rw[List.filterMap_cons]
     simp only[hk,hl,beq_self_eq_true,Bool.and_self,if_true]
     exact congrArg (x::·) e1
    ·cases hy with
     |head=>exact hk
     |tail _ hy=>exact e3 y hy
   ·cases h
  |_=>cases h
theorem zW{env:Env}{line:Nat}(ts:List PySem.Expr):(gC env ts line).length≤ts.length:=by
 unfold gC;exact List.length_filterMap_le _ _
theorem nW{sc:Scope}{line:Nat}{env:Env}(hs:env.scope=sc):∀{ts:List PySem.Expr},(gC env ts line).length=ts.length→∃names,ik sc line ts=some names
 |[],_=>⟨[],rfl⟩
 |t::ts,h=>by
  have hle:=zW (env:=env) (line:=line) ts
  have key:∀{o:Option Str},(match o with|some b=>b::gC env ts line|none=>gC env ts line).length=ts.length+1→∃b,o=some b:=fun {o} e=>by
   cases o with
   |none=>simp only at e;omega
   |some b=>exact⟨b,rfl⟩
  cases t with
  |Name x p=>
   have h':(List.filterMap _ (PySem.Expr.Name x p::ts)).length=ts.length+1:=h
   rw[List.filterMap_cons] at h'
   simp only at h'
   cases hq:(env.kindOf x == some .local&&p.line == line) with
   |false=>
    rw[hq] at h'
    simp only[Bool.false_eq_true,if_false] at h'
    exfalso
    have:(gC env ts line).length=ts.length+1:=h'
    omega
   |true=>
    rw[hq] at h'
    simp only[if_true,List.length_cons] at h'
    have h2:(gC env ts line).length=ts.length:=Nat.succ.inj h'
    obtain⟨names,hn⟩:=nW hs h2
    rw[Bool.and_eq_true,beq_iff_eq,beq_iff_eq] at hq
    refine⟨x::names,?_⟩
    unfold ik
    have e1:kW sc x=true:=by
     unfold kW
     have:=hq.1
     rw[bE,←hs]
     rw[show env.scope.names.lookup x=some .local from this]
    rw[e1,hq.2,Nat.beq_refl,hn]
    rfl
  |_=>
   exfalso
   have:(gC env ts line).length=ts.length+1:=h
   omega
theorem tW{sc:Scope}{ts:List PySem.Expr}{n:Nat}{p:Pos}{e:PySem.Expr}{env:Env}{r:Option (List Str)}(hs:env.scope=sc)(hk:env.scope.kind=.function)(h:swN sc ts e=some r):swappedStores [.Tuple ts n p] e env=pure r:=by
 have hbk:env.blockKind=.function:=by unfold Env.blockKind;rw[hk];rfl
 cases e with
 |Tuple vs n2 p2=>
  simp only[swN] at h
  rw[nA]
  simp only[hbk]
  cases h1:(!(Nat.beq ts.length 2||Nat.beq ts.length 3) || !Nat.beq vs.length ts.length) with
  |true=>
   rw[h1] at h;cases h
   have:(!(ts.length == 2||ts.length == 3)||vs.length != ts.length)=true:=by
    rw[←h1];simp only[GS];rfl
   rw[this];rfl
  |false=>
   rw[h1] at h
   have:(!(ts.length == 2||ts.length == 3)||vs.length != ts.length)=false:=by
    rw[←h1];simp only[GS];rfl
   rw[this]
   simp only[cond_false] at h
   cases h2:noStar vs with
   |false=>
    rw[h2] at h;cases h
    rw[qe h2];rfl
   |true=>
    rw[h2] at h
    simp only[Bool.not_true,cond_false] at h
    rw[qf h2]
    split at h
    ·rename_i hn
     cases h
     have hne:(gC env ts ((ts.head?.map (·.pos.line)).getD 0)).length≠ts.length:=fun e=>by
      obtain⟨names,q⟩:=nW hs e
      rw[q] at hn;cases hn
     have:((gC env ts ((ts.head?.map (·.pos.line)).getD 0)).length != ts.length)=true:=bne_iff_ne.mpr hne
     rw[this];rfl
    ·rename_i names hn
     obtain⟨e1,e2,e3,ps,e4,e5⟩:=gE hs hn
     cases h3:fW names with
     |false=>rw[h3] at h;cases h
     |true=>
     rw[h3] at h
     simp only[Bool.not_true,cond_false] at h
     rw[e1,lA (allDif_iff.mp h3),e2]
     cases h4:vs.all (foldedForSure 8) with
     |true=>rw[h4] at h;cases h;simp
     |false=>
      rw[h4] at h
      cases h5:vs.all (constantsAlone 8) with
      |true=>rw[h5] at h;cases h
      |false=>rw[h5] at h;cases h;simp
 |_=>cases h;rfl
section
variable {D:Wd}{E:Ev}{cx:Cx}{f:Fc}{d:Nat}{mh:Vs}{Mh:AM}{k:K1}{ks:KS}{X:KX}{kb:KB}{as:List Addr}{m:List (Str×CV)}{M:MH}{fz:Led}{s:Shared}{b:Nat}{Y:Str→MH→Prop}
theorem FOkS.more{it:Addr}{dt:Value×Data}(F:FOkS f cx):FOkS (f.more it dt) cx:=⟨F.toFOk.more,F.sc,F.fn⟩
theorem cK(o:dN D E)(F:FOkS f cx)(T:TbOk D d cx.T):∀{sts:List Stmt} {mh:Vs} {Mh:AM} {as:List Addr} {m:List (Str×CV)} {M:MH} {ks:KS},ML as mh m→RM as Mh M→evS E cx sts mh Mh ks X→WS D f d sts m M (PostS as M ks) (PostX as M X)
 |[],mh,Mh,as,m,M,ks,l,r,h=>sV ⟨as,.next,mh,Mh,Step.rfl',r,l,trivial,h⟩
 |st::sts,mh,Mh,as,m,M,ks,l,r,h=>by
  refine pv ((o.s _ _ _ _ _ _ _ _ _ _ _ F T l r h).mono (fun c m1 M1 q=>?_) fun _ _ z=>z)
  obtain⟨as1,a,mh1,Mh1,s1,r1,l1,rc,h1⟩:=q
  rw[oi,mS] at h1
  refine⟨fun e=>?_,fun e=>?_⟩
  ·subst e
   cases a<;>first|exact rc.elim|skip
   exact(cK o F T l1 r1 h1).mono (fun _ _ _ z=>z.tr s1) fun _ _ z=>z.tr s1
  ·cases a with
   |next=>cases c<;>first|exact rc.elim|exact absurd rfl e
   |brk=>exact⟨as1,_,mh1,Mh1,s1,r1,l1,rc,h1⟩
   |cont=>exact⟨as1,_,mh1,Mh1,s1,r1,l1,rc,h1⟩
   |ret r=>exact⟨as1,_,mh1,Mh1,s1,r1,l1,rc,h1⟩
theorem sy(o:dN D E)(F:FOkS f cx)(T:TbOk D d cx.T)(calm:f.calm=true){target iter:PySem.Expr}{body:List Stmt}{pos:Pos}(hs:∀x,foldedSetIterable iter f.env x=pure x){M0:MH}
  (h:WE D f d iter m M0 (fun c M=>∃as mh Mh src vs,ML as mh m∧RM as Mh M∧mU E cx src target body vs mh Mh ks X∧(∃P,Itb D c vs P∧∀as' Mh' M',Pre as as'→RM as' Mh' M'→keepB src Mh Mh'→P M') ∧
   (∀e M',PostX as M X e M'→Y e M')∧∀c m' M',PostS as M ks c m' M'→Ψ c m' M') Y):W1 D f d (.For target iter body [] pos) m M0 Ψ Y:=by
 refine uL calm (h.mono (fun c M1 q=>?_) fun _ _ z=>z) hs
 obtain⟨as,mh,Mh,src,vs,l,r,he,⟨P,ib,hP⟩,hY,hΨ⟩:=q
 refine⟨vs,P,ib,hP as Mh M1 Pre.rfl' r keepB.rfl',fun i m' M'=>∃as' mh' Mh',Step as M1 as' M'∧RM as' Mh' M'∧ML as' mh' m'∧keepB src Mh Mh'∧mU E cx src target body (vs.drop i) mh' Mh' ks X,⟨as,mh,Mh,Step.rfl',r,l,keepB.rfl',by rw[List.drop_zero];exact he⟩,?_,?_⟩
 ·rintro ia ix i c' m' M' hv ⟨as',mh',Mh',st,rm,ml,hk,hR⟩
  walk_at "bm"
  have hdrop:vs.drop i=c'::vs.drop (i+1):=by
   walk_at "bB"
  rw[hdrop,mU,tP] at hR
  refine⟨hP as' Mh' M' st.1 rm hk,?_⟩
  have FM:=F.more (it:=ia) (dt:=ix)
  refine(eB (D:=D) (d:=d) (Y:=Y) FM.toFOk (.v c') ml rm hR).mono (fun m2 M2 q=>?_) fun _ _ z=>z
  obtain⟨as2,mh2,Mh2,s2,r2,l2,h2⟩:=q
  refine(cK o FM T l2 r2 h2).mono (fun cf m3 M3 q=>?_) fun e M' z=>hY e M' (z.tr (st.tr s2))
  obtain⟨as3,a,mh3,Mh3,s3,r3,l3,rc,h3⟩:=q
  have stt:=(st.tr s2).tr s3
  cases a<;>cases cf<;>first|exact rc.elim|skip
  ·obtain⟨k1,k2⟩:=keepS_iff.mp h3
   exact⟨as3,mh3,Mh3,stt,r3,l3,hk.tr k1,k2⟩
  ·exact hΨ _ _ _ ⟨as3,.next,mh3,Mh3,stt,r3,l3,trivial,h3⟩
  ·obtain⟨k1,k2⟩:=keepS_iff.mp h3
   exact⟨as3,mh3,Mh3,stt,r3,l3,hk.tr k1,k2⟩
  ·exact hΨ _ _ _ ⟨as3,.ret _,mh3,Mh3,stt,r3,l3,rc,h3⟩
 ·rintro m' M' ⟨as',mh',Mh',st,rm,ml,hk,hR⟩
  rw[List.drop_length] at hR
  exact⟨hP as' Mh' M' st.1 rm hk,hΨ _ _ _ ⟨as',.next,mh',Mh',st,rm,ml,trivial,hR⟩⟩
theorem Fa{fl:Flow}{xs:List Str}{kq:List AV→AM→Prop}{Ψ Ω:CF→List (Str×CV)→MH→Prop}(hb:as.length=b)
  (hΨ:∀m' M',(Ψ .next m' M'∨Ψ .cont m' M')→∃as2 mh2 Mh2 vs,Step as M as2 M'∧RM as2 Mh2 M'∧ML as2 mh2 m'∧gh mh2 xs=some vs∧kq (dE b Mh2 vs) (bM b Mh2))
  (h1:∀m' M' vs Mh2,Step as M as M'→RM as Mh2 M'→ML as (xs.zip vs) m'→kq vs Mh2→Ω .next m' M'∧Ω .cont m' M') (h2:∀m' M',Ψ .brk m' M'→Ω .brk m' M') (h3:∀r m' M',Ψ (.ret r) m' M'→Ω (.ret r) m' M')
  (h:FP D f fz Ψ fl s):FP D f fz Ω fl s:=by
 obtain⟨f1,c,m1,M1,k1,S1,r1,z⟩:=h
 have go:(Ψ .next m1 M1∨Ψ .cont m1 M1)→∃f2 m2 M2,Sub f1 f2∧SS D f f2 m2 M2 s∧Ω .next m2 M2∧Ω .cont m2 M2:=fun z=>by
  obtain⟨as2,mh2,Mh2,vs,st,rm,ml,hl,hk⟩:=hΨ m1 M1 z
  walk_at "bi"
  obtain⟨m2,q1,q2⟩:=oA F hl ml
  rw[e] at q1
  walk_at "bQ"
  exact⟨f2,m2,M2,k2,S2 m2 q2,h1 m2 M2 _ _ st2 rm2 q1 hk⟩
 cases c with
 |next=>
  obtain⟨f2,m2,M2,k2,S2,w1,w2⟩:=go (.inl z)
  refine⟨f2,.next,m2,M2,k1.tr k2,S2,?_,w1⟩
  cases fl<;>first|trivial|exact r1.elim
 |cont=>
  obtain⟨f2,m2,M2,k2,S2,w1,w2⟩:=go (.inr z)
  refine⟨f2,.cont,m2,M2,k1.tr k2,S2,?_,w2⟩
  cases fl<;>first|trivial|exact r1.elim
 |brk=>exact⟨f1,.brk,m1,M1,k1,S1,r1,h2 _ _ z⟩
 |ret r=>exact⟨f1,.ret r,m1,M1,k1,S1,r1,h3 _ _ _ z⟩
end
section
variable {D:Wd}{E:Ev}{cx:Cx}{f:Fc}{d:Nat}{mh:Vs}{Mh:AM}{k:K1}{ks:KS}{X:KX}{kb:KB}{as:List Addr}{m:List (Str×CV)}{M:MH}{fz:Led}{s:Shared}{b:Nat}{Y:Str→MH→Prop}
theorem x9(o:dN D E)(F:FOkS f cx)(T:TbOk D d cx.T)(calm:f.calm=true){target iter:PySem.Expr}{body:List Stmt}{pos:Pos}(hs:∀x,foldedSetIterable iter f.env x=pure x){M0:MH}{L:cP}{Ψ:CF→List (Str×CV)→MH→Prop}
  (h:WE D f d iter m M0 (fun c M=>∃as vals Mh src vs,ML as (L.vars.zip vals) m∧RM as Mh M∧zn E cx src target body L∧L.spec vs vals Mh (fun cf vals' M'=>ks cf (L.vars.zip vals') M') X∧(∃P,Itb D c vs P∧∀as' Mh' M',Pre as as'→RM as' Mh' M'→keepB src Mh Mh'→P M') ∧
   (∀e M',PostX as M X e M'→Y e M')∧∀c m' M',PostS as M ks c m' M'→Ψ c m' M') Y):W1 D f d (.For target iter body [] pos) m M0 Ψ Y:=by
 refine uL calm (h.mono (fun c M1 q=>?_) fun _ _ z=>z) hs
 obtain⟨as,vals,Mh,src,vs,l,r,lo,he,⟨P,ib,hP⟩,hY,hΨ⟩:=q
 have hb:=r.len
 refine⟨vs,P,ib,hP as Mh M1 Pre.rfl' r keepB.rfl',fun i m' M'=>∃vals' Mh',Step as M1 as M'∧RM as Mh' M'∧ML as (L.vars.zip vals') m'∧keepB src Mh Mh'∧L.spec (vs.drop i) vals' Mh' (fun cf vals' M'=>ks cf (L.vars.zip vals') M') X,⟨vals,Mh,Step.rfl',r,l,keepB.rfl',by rw[List.drop_zero];exact he⟩,?_,?_⟩
 ·rintro ia ix i c' m' M' hv ⟨vals',Mh',st,rm,ml,hk,hR⟩
  walk_at "bm"
  have hdrop:vs.drop i=c'::vs.drop (i+1):=by
   walk_at "bB"
  rw[hdrop] at hR
  have turn:=lo.2 _ _ _ _ _ _ hR
  have hlen:Mh'.length=Mh.length:=by rw[←rm.len,hb]
  rw[hlen] at turn
  unfold tP at turn
  refine⟨hP as Mh' M' Pre.rfl' rm hk,?_⟩
  have FM:=F.more (it:=ia) (dt:=ix)
  refine(eB (D:=D) (d:=d) (Y:=Y) FM.toFOk (.v c') ml rm turn).mono (fun m2 M2 q=>?_) fun _ _ z=>z
  obtain⟨as2,mh2,Mh2,s2,r2,l2,h2⟩:=q
  have body:=(cK o FM T l2 r2 h2)
  intro fz A s a S
  refine wpAny_mono (body fz A s a S) (fun fl s' z=>?_) fun e s' ⟨p,q,t,u,w,x,y,z⟩=>⟨p,q,t,u,w,x,y,hY _ _ (z.tr (st.tr s2))⟩
  refine Fa (as:=as) (M:=M') (b:=Mh.length) (xs:=L.vars) (kq:=fun vs' Mq=>dq src Mh' Mq (L.spec (vs.drop (i+1)) vs' Mq (fun cf vals' M'=>ks cf (L.vars.zip vals') M') X)) hb ?_ ?_ ?_ ?_ z
  ·rintro m3 M3 (⟨as3,a,mh3,Mh3,s3,r3,l3,rc,h3⟩|⟨as3,a,mh3,Mh3,s3,r3,l3,rc,h3⟩)
   walk_at "cz"
   walk_at "cz"
  ·intro m3 M3 vs' Mh3 s3 r3 l3 h3
   obtain⟨k1,k2⟩:=keepS_iff.mp h3
   exact⟨⟨vs',Mh3,st.tr s3,r3,l3,hk.tr k1,k2⟩,⟨vs',Mh3,st.tr s3,r3,l3,hk.tr k1,k2⟩⟩
  ·rintro m3 M3 ⟨as3,a,mh3,Mh3,s3,r3,l3,rc,h3⟩
   cases a<;>first|exact rc.elim|skip
   simp only at h3
   split at h3
   ·rename_i vs' hvs
    exact hΨ _ _ _ ⟨as3,.next,_,Mh3,(st.tr s2).tr s3,r3,lF hvs l3,trivial,h3⟩
   ·exact h3.elim
  ·rintro r' m3 M3 ⟨as3,a,mh3,Mh3,s3,r3,l3,rc,h3⟩
   cases a<;>first|exact rc.elim|skip
   simp only at h3
   exact hΨ _ _ _ ⟨as3,.ret _,_,Mh3,(st.tr s2).tr s3,r3,(fun x a e=>by simp[lkA] at e),rc,h3⟩
 ·rintro m' M' ⟨vals',Mh',st,rm,ml,hk,hR⟩
  rw[List.drop_length] at hR
  exact⟨hP as Mh' M' Pre.rfl' rm hk,hΨ _ _ _ ⟨as,.next,_,Mh',st,rm,ml,trivial,lo.1 _ _ _ _ hR⟩⟩
theorem uS(o:dN D E)(F:FOkS f cx)(T:TbOk D d cx.T)(calm:f.calm=true){t:PySem.Expr}{body:List Stmt}{pos:Pos}{n:Nat}(l:ML as mh m)(r:RM as Mh M)(h:iw E cx t body n mh Mh ks X):W1 D f d (.While t body [] pos) m M (PostS as M ks) (PostX as M X):=by
 refine yV calm (fun n m' M'=>∃as' mh' Mh',Step as M as' M'∧RM as' Mh' M'∧ML as' mh' m'∧iw E cx t body n mh' Mh' ks X) ?_ (n:=n) ⟨as,mh,Mh,Step.rfl',r,l,h⟩
 rintro n m' M' ⟨as',mh',Mh',st,rm,ml,hR⟩
 cases n with
 |zero=>exact hR.elim
 |succ n=>
 rw[iw] at hR
 refine(o.b _ _ _ _ _ _ _ _ _ _ _ F.toFOk T ml rm hR).mono (fun v M1 q=>?_) fun _ _ z=>z.tr st
 walk_at "bf"
 ·subst e
  refine(cK o F T (ml.mono s1.1) r1 h1).mono (fun cf m2 M2 q=>?_) fun _ _ z=>z.tr (st.tr s1)
  obtain⟨as2,a,mh2,Mh2,s2,r2,l2,rc,h2⟩:=q
  have stt:=(st.tr s1).tr s2
  cases a<;>cases cf<;>first|exact rc.elim|skip
  ·exact⟨n,Nat.lt_succ_self _,as2,mh2,Mh2,stt,r2,l2,h2⟩
  ·exact⟨as2,.next,mh2,Mh2,stt,r2,l2,trivial,h2⟩
  ·exact⟨n,Nat.lt_succ_self _,as2,mh2,Mh2,stt,r2,l2,h2⟩
  ·exact⟨as2,.ret _,mh2,Mh2,stt,r2,l2,rc,h2⟩
 ·subst e;exact⟨as1,.next,mh',Mh1,st.tr s1,r1,ml.mono s1.1,trivial,h1⟩
theorem kr:∀{xs:List Str} {cs:List CV} {m:List (Str×CV)} {y:Str},y∉xs→lk y (gy xs cs m)=lk y m
 |[],cs,m,y,_=>by cases cs<;>rfl
 |x::xs,[],m,y,_=>rfl
 |x::xs,c::cs,m,y,h=>by
  unfold gy
  have hne:y≠x:=fun q=>h (by rw[q];exact .head _)
  rw[kr (fun q=>h (.tail _ q)),im hne]
theorem nT:∀{xs:List Str} {cs:List CV} {m:List (Str×CV)} {i:Nat} {y:Str} {c:CV},xs.Nodup→xs[i]?=some y→cs[i]?=some c→xs.length=cs.length→lk y (gy xs cs m)=some c
 |[],_,_,_,_,_,_,h,_,_=>by simp at h
 |_::_,[],_,_,_,_,_,_,h,_=>by simp at h
 |x::xs,c0::cs,m,i,y,c,nd,h1,h2,hl=>by
  rw[List.nodup_cons] at nd
  unfold gy
  cases i with
  |zero=>
   simp only[List.getElem?_cons_zero,Option.some.injEq] at h1 h2
   subst h1;subst h2
   rw[kr nd.1,dn]
  |succ i=>
   simp only[List.getElem?_cons_succ] at h1 h2
   exact nT nd.2 h1 h2 (by simpa using hl)
def l9:List Str→List AV→Vs→Vs
 |x::xs,c::cs,m=>l9 xs cs (gr x c m)
 |_,_,m=>m
theorem km:∀{xs:List Str} {cs:List AV} {m:Vs} {y:Str},y∉xs→lkA y (l9 xs cs m)=lkA y m
 |[],cs,m,y,_=>by cases cs<;>rfl
 |x::xs,[],m,y,_=>rfl
 |x::xs,c::cs,m,y,h=>by
  unfold l9
  have hne:y≠x:=fun q=>h (by rw[q];exact .head _)
  rw[km (fun q=>h (.tail _ q)),o7,if_neg hne]
theorem qa:∀{xs:List Str} {cs:List AV} {m:Vs} {i:Nat} {y:Str} {c:AV},xs.Nodup→xs[i]?=some y→cs[i]?=some c→xs.length=cs.length→lkA y (l9 xs cs m)=some c
 |[],_,_,_,_,_,_,h,_,_=>by simp at h
 |_::_,[],_,_,_,_,_,_,h,_=>by simp at h
 |x::xs,c0::cs,m,i,y,c,nd,h1,h2,hl=>by
  rw[List.nodup_cons] at nd
  unfold l9
  cases i with
  |zero=>
   simp only[List.getElem?_cons_zero,Option.some.injEq] at h1 h2
   subst h1;subst h2
   rw[km nd.1,o7,if_pos rfl]
  |succ i=>
   simp only[List.getElem?_cons_succ] at h1 h2
   exact qa nd.2 h1 h2 (by simpa using hl)
theorem tV{names:List Str}{vs:List AV}{cs:List CV}(nd:names.Nodup)(hl:names.length=vs.length)(rv:RVs as vs cs)(l:ML as mh m):ML as (l9 names vs mh) (gy names.reverse cs.reverse m):=fun y a e=>by
 by_cases q:y∈names
 ·obtain⟨i,hi,he⟩:=List.mem_iff_getElem.mp q
  have hv:i < vs.length:=hl▸hi
  have e1:=qa (m:=mh) nd (i:=i) (y:=y) (c:=vs[i]) (by simp[hi,he]) (by simp[hv]) hl
  rw[e1] at e;cases e
  obtain⟨c,h1,h2⟩:=rv.get (i:=i) (a:=vs[i]) (by simp[hv])
  have hlc:=rv.length
  refine⟨c,nT (i:=names.length - 1 - i) (List.pairwise_reverse.mpr (nd.imp fun h=>Ne.symm h)) ?_ ?_ (by simp;omega),h2⟩
  ·rw[List.getElem?_reverse (by omega),show names.length - 1 - (names.length - 1 - i)=i by omega]
   simp[hi,he]
  ·rw[List.getElem?_reverse (by omega),show cs.length - 1 - (names.length - 1 - i)=i by omega]
   exact h1
 ·rw[km q] at e
  obtain⟨c,h1,h2⟩:=l y a e
  exact⟨c,by rw[kr (by simpa using q)];exact h1,h2⟩
theorem fV:∀{names:List Str} {ps:List Pos} {vs:List AV} {mh:Vs} {k:Vs→AM→Prop},ps.length=names.length→evA.evAs cx ((names.zip ps).map fun p=>PySem.Expr.Name p.1 p.2) vs mh k Mh→k (l9 names vs mh) Mh∧names.length=vs.length
 |[],ps,[],mh,k,hp,h=>⟨h,rfl⟩
 |[],ps,_::_,mh,k,hp,h=>h.elim
 |x::xs,[],vs,mh,k,hp,h=>by simp at hp
 |x::xs,p::ps,[],mh,k,hp,h=>h.elim
 |x::xs,p::ps,v::vs,mh,k,hp,h=>by
  rw[List.zip_cons_cons,List.map_cons] at h
  simp only[evA.evAs] at h
  split at h
  ·obtain⟨a,b⟩:=fV (by simpa using hp) h;exact⟨a,by simp[b]⟩
  ·obtain⟨a,b⟩:=fV (by simpa using hp) h;exact⟨a,by simp[b]⟩
  ·exact h.elim
end
section
variable {as:List Addr}{n:Nat}
mutual
theorem RV.take:∀{a:AV} {c:CV},RV as a c→(∀i∈a.refs,i < n)→RV (as.take n) a c
 |_,_,.v c,_=>.v c
 |_,_,.ref (i:=i) e,h=>.ref (by rw[List.getElem?_take,if_pos (h i (by simp[AV.refs]))];exact e)
 |_,_,.tup k,h=>.tup (RVs.take k (by simpa [AV.refs] using h))
theorem RVs.take:∀{a:List AV} {c:List CV},RVs as a c→(∀i∈AV.refss a,i < n)→RVs (as.take n) a c
 |_,_,.nil,_=>.nil
 |_,_,.cons k l,h=>.cons (RV.take k fun i hi=>h i (by rw[AV.refss];exact List.mem_append_left _ hi)) (RVs.take l fun i hi=>h i (by rw[AV.refss];exact List.mem_append_right _ hi))
end
theorem RF.take{a:List (Str×AV)}{c:List (Str×CV)}(k:RF as a c)(h:∀i∈AV.refsf a,i < n):RF (as.take n) a c:=by
 induction k with
 |nil=>exact .nil
 |cons r _ ih=>exact .cons (r.take fun i hi=>h i (by rw[AV.refsf];exact List.mem_append_left _ hi)) (ih fun i hi=>h i (by rw[AV.refsf];exact List.mem_append_right _ hi))
theorem RO.take{o:AO}{mo:MO}(k:RO as o mo)(h:∀i∈o.refs,i < n):RO (as.take n) o mo:=by
 cases k with
 |lst vs=>exact .lst vs
 |mix l=>exact .mix (l.take h)
 |inst l=>exact .inst (l.take h)
 |exc m=>exact .exc m
 |caught m=>exact .caught m
end
section
variable {D:Wd}{E:Ev}{cx:Cx}{f:Fc}{d:Nat}{mh:Vs}{Mh:AM}{k:K1}{ks:KS}{X:KX}{kb:KB}{as:List Addr}{m:List (Str×CV)}{M:MH}{fz:Led}{s:Shared}{b:Nat}{Y:Str→MH→Prop}
theorem pR{a c:AV}{av cv:CV}{x:Str}{kk:AM→Prop}(T:rD D cx.T.tx)(r:RM as Mh M)(ra:RV as a av)(rc:RV as c cv)(h:l4 cx Mh c x a kk) :
  ∃ad cn fs,cv=.ref ad∧M.get ad=some (.inst cn fs)∧E8 D cn x∧(put x av fs).length≤1000∧∃Mh',Step as M as (M.set ad (.inst cn (put x av fs)))∧RM as Mh' (M.set ad (.inst cn (put x av fs)))∧kk Mh':=by
 cases c with
 |ref i=>
  simp only[l4] at h
  split at h
  ·rename_i cn fs hi
   split at h
   ·rename_i l hl
    cases hq:(sIn x l&&Nat.ble fs.length 50) with
    |false=>rw[hq] at h;exact h.elim
    |true=>
    rw[hq] at h
    rw[Bool.and_eq_true] at hq
    walk_at "bo"
    cases rc with
    |ref e=>
    rw[e] at h1;cases h1
    cases h3 with
    |@inst _ _ gs rf=>
    have hp:=rf.put (x:=x) ra
    have hlen:(put x av gs).length≤1000:=by
     have h50:=Nat.le_of_ble_eq_true hq.2
     have hg:=rf.length
     have:∀(l:List (Str×CV)),(put x av l).length≤l.length+1:=fun l=>by
      induction l with
      |nil=>simp[put]
      |cons p l ih=>
       obtain⟨y,c⟩:=p
       unfold put
       split<;>simp
       exact ih
     have:=this gs
     omega
    exact⟨ad,cn,gs,rfl,h2,T.flds cn l x hl (sIn_iff.mp hq.1),hlen,_,Step.set e h2,r.set hi (by intro q;cases q) e (by intro q;cases q) (.inst hp),h⟩
   ·exact h.elim
  ·exact h.elim
 |_=>exact h.elim
theorem pQ{a c:AV}{av cv:CV}{j:Int}{kk:AM→Prop}(r:RM as Mh M)(ra:RV as a av)(rc:RV as c cv)(h:lZ Mh c j a kk) :
  ∃ad vs,cv=.ref ad∧M.get ad=some (.lst vs)∧0≤j∧j < vs.length∧vs.length≤1000∧∃Mh',Step as M as (M.set ad (.lst (vs.set j.toNat av)))∧RM as Mh' (M.set ad (.lst (vs.set j.toNat av)))∧kk Mh':=by
 cases c with
 |ref i=>
  cases a with
  |v w=>
   cases ra
   simp only[lZ] at h
   split at h
   ·rename_i vs hi
    cases hq:decide (0≤j∧j < vs.length) with
    |false=>rw[hq] at h;exact h.elim
    |true=>
    rw[hq] at h
    have hj:=of_decide_eq_true hq
    walk_at "bo"
    cases rc with
    |ref e=>
    walk_at "cm"
    exact⟨ad,vs,rfl,h2,hj.1,hj.2,h.1,_,Step.set e h2,r.set hi (by intro q;cases q) e (by intro q;cases q) (.lst _),h.2⟩
   ·exact h.elim
  |_=>exact h.elim
 |_=>exact h.elim
theorem ve{i:Nat}{c:CV}{as1:List Addr}{Mh1:AM}{M1:MH}{msg:Str}(r:RM as Mh M)(s:Step as M as1 M1)(r1:RM as1 Mh1 M1)(v1:RV as1 (.ref i) c)(hi:Mh1[i]?=some (.exc (some msg)))(h1:Mh.length≤i)(h2:i+1=Mh1.length)(h3:jW i (Mh1.take i)=true)(hX:X msg (Mh1.take i)) :
  ∃a,c=.ref a∧M1.get a=some (.exc (some msg))∧PostX as M X msg (M1.del a):=by
 obtain⟨ad,mo,z1,z2,z3⟩:=r1.live hi (by intro q;cases q)
 cases v1 with
 |ref e1=>
 rw[e1] at z1;cases z1
 cases z3
 have hlen:=r1.len
 have notin:ad∉as1.take i:=fun q=>by
  obtain⟨j,hj,e⟩:=List.mem_iff_getElem.mp q
  simp at hj
  have:as1[j]?=some ad:=by rw[←e];simp
  have:=(List.getElem?_inj (List.getElem?_eq_some_iff.mp this).1 r1.nd).mp (this.trans e1.symm)
  omega
 have get:∀b,b≠ad→(M1.del ad).get b=M1.get b:=fun b hb=>MH.get_del z2 hb
 refine⟨ad,rfl,z2,as1.take i,Mh1.take i,⟨fun j b e=>?_,fun b mo hb hg=>?_⟩,⟨by simp[hlen],fun j o e=>?_,r1.nd.sublist (List.take_sublist _ _),fun b hb=>?_⟩,hX⟩
 ·have hj:=(List.getElem?_eq_some_iff.mp e).1
  have:=r.len
  rw[List.getElem?_take,if_pos (by omega)]
  exact s.1 j b e
 ·obtain⟨w1,w2⟩:=s.2 b mo hb hg
  refine⟨fun q=>w1 (List.mem_of_mem_take q),?_⟩
  rw[get b (fun q=>w1 (q▸List.mem_of_getElem? e1))]
  exact w2
 ·have e0:=e
  rw[List.getElem?_take] at e
  split at e
  ·rename_i hj
   rcases r1.at' j o e with q|⟨b,mo,w1,w2,w3⟩
   ·exact .inl q
   ·have hb:b∈as1.take i:=List.mem_iff_getElem?.mpr ⟨j,by rw[List.getElem?_take,if_pos hj];exact w1⟩
    refine .inr ⟨b,mo,by rw[List.getElem?_take,if_pos hj];exact w1,?_,w3.take fun x hx=>?_⟩
    ·rw[get b (fun q=>notin (q▸hb))];exact w2
    ·unfold jW at h3
     simp only[List.all_eq_true] at h3
     exact Nat.blt_eq.mp (h3 o (List.mem_of_getElem? e0) x hx)
  ·cases e
 ·obtain⟨mo,w⟩:=r1.dom b (List.mem_of_mem_take hb)
  exact⟨mo,by rw[get b (fun q=>notin (q▸hb))];exact w⟩
theorem FOkS.hot(F:FOkS f cx):FOkS f.hot { cx with hot:=true }:=⟨⟨F.glob,F.loc,F.own,(fun h=>by cases h),F.inter⟩,F.sc,F.fn⟩
theorem WS.nox{sts:List Stmt}{Ψ:CF→List (Str×CV)→MH→Prop}(h:WS D f d sts m M Ψ (PostX as M fun _ _=>False)):WS D f d sts m M Ψ (fun _ _=>False):=h.mono (fun _ _ _ z=>z) fun _ _ ⟨_,_,_,_,z⟩=>z
theorem o8:(Str.ofString "SqlError").cps.toList=lit "SqlError":=by decide +kernel
theorem kE(F:FOk f cx){x:Str}(h:na cx.sc x=true):Own f x:=by
 unfold na at h
 split at h
 ·rename_i q;exact F.ownN (.inl q)
 ·rename_i q;exact F.ownN (.inr q)
 ·cases h
theorem mX{x:Str}{p:Pos}{a:AV}{kk:Vs→AM→Prop}(h:evA cx (.Name x p) a mh Mh kk X):kk (gr x a mh) Mh:=by
 simp only[evA] at h
 split at h
 ·exact h
 ·exact h
 ·exact h.elim
theorem sJ{e:PySem.Expr}{c:C7}(h:sK e=some c):e=.ListComp c.elt [⟨c.target,c.iter,c.ifs,0⟩] c.sc c.pos:=by
 unfold sK at h
 split at h
 ·cases h;rfl
 ·cases h
theorem sp{hs:List ExceptHandler}{o f:List Stmt}{c:C6}(h:sq hs o f=some c):hs=[.ExceptHandler (some (.Name c.cls c.cpos)) c.name (c.first::c.rest) c.hpos]∧o=[]∧f=[]:=by
 unfold sq at h
 split at h
 ·cases h;exact⟨rfl,rfl,rfl⟩
 ·cases h
theorem sP(o:dN D E)(F:FOkS f cx)(T:TbOk D d cx.T){targets:List PySem.Expr}{e:PySem.Expr}{pos:Pos}(l:ML as mh m)(r:RM as Mh M)(h:pt E cx targets e mh Mh ks X):W1 D f d (.Assign targets e pos) m M (PostS as M ks) (PostX as M X):=by
 have tx:=T.tx
 have FF:=F.toFOk
 unfold pt at h
 split at h
 ·rename_i x p
  split at h
  ·rename_i c hc
   obtain rfl:=sJ hc
   cases hh:cx.hot with
   |true=>rw[hh] at h;exact h.elim
   |false=>
   cases hq:(i5 cx.sc c.sc&&bQ c.iter&&na cx.sc x) with
   |false=>rw[hh,hq] at h;exact h.elim
   |true=>
   rw[hh,hq] at h
   simp only[Bool.and_eq_true] at hq
   obtain⟨cl,ci,cc⟩:=pn FF hq.1.1
   change E.e cx c.iter mh Mh _ X at h
   have calm:=FF.calm hh
   have hx:=kE FF hq.2
   have core:∀cv M1,PostV as M (fun a M1=>eU a M1 fun src items=>qS E cx c.pos.line c.sc c.target c.ifs c.elt src items mh M1 (fun a M2=>evA cx (.Name x p) a mh M2 (fun m' M3=>ks .next m' M3) X) X) cv M1 →
     CompH D f d c.elt c.target c.ifs c.sc cl (nK c.sc m) cv M1 (fun accA M'=>PostV as M (fun a M2=>ks .next (gr x a mh) M2) (.ref accA) M') (PostX as M X):=fun cv M1 ⟨as1,a,Mh1,s1,r1,v1,h1⟩=>by
    obtain⟨src,vs,hk,hz,hsl,P,ib,hP⟩:=dO r1 v1 h1
    exact(om o FF hq.1.1 T (l.mono s1.1) r1 hz ib hP hk).mono (fun accA M' z=>by
     obtain⟨as2,a2,Mh2,s2,r2,v2,h2⟩:=z
     exact⟨as2,a2,Mh2,s1.tr s2,r2,v2,mX h2⟩) fun _ _ z=>z.tr s1
   have fin:∀accA M',PostV as M (fun a M2=>ks .next (gr x a mh) M2) (.ref accA) M'→PostS as M ks .next (put x (.ref accA) m) M':=fun accA M' ⟨as2,a2,Mh2,s2,r2,v2,h2⟩=>⟨as2,.next,_,Mh2,s2,r2,(l.mono s2.1).put v2,trivial,h2⟩
   obtain⟨b,hb⟩:=sH (elt:=c.elt) (gens:=[⟨c.target,c.iter,c.ifs,0⟩]) (sc:=c.sc) (pos:=c.pos) (x:=x) (p:=p) (n:=pos.line) (env:=f.env)
   cases b with
   |true=>
    exact nL calm ci (po cc) (bD hq.1.2) hb hx ((o.e _ _ _ _ _ _ _ _ _ _ _ FF T l r h).mono (fun c M1 q=>(core c M1 q).mono fin fun _ _ z=>z) fun _ _ z=>z)
   |false=>
    refine kG hx (uJ calm ci (po cc) (bD hq.1.2) ((o.e _ _ _ _ _ _ _ _ _ _ _ FF T l r h).mono (fun c M1 q=>(core c M1 q).mono (fun accA M' z=>?_) fun _ _ z=>z) fun _ _ z=>z)) hb
    exact fin accA M' z
  ·cases hc:(ij e&&na cx.sc x) with
   |false=>rw[hc] at h;exact h.elim
   |true=>
   rw[hc] at h
   walk_at "cR"
   walk_at "aq"
   exact⟨as1,.next,_,Mh1,s1,r1,(l.mono s1.1).put v1,trivial,mX h1⟩
 ·rename_i x p y q
  refine Eo ((o.e _ _ _ _ _ _ _ _ _ _ _ FF T l r h).mono (fun c M1 z=>?_) fun _ _ z=>z) rfl
  walk_at "cs"
  refine(eB (Y:=PostX as M X) FF (v1.mono s2.1) l2 r2 h2).mono (fun m3 M3 z=>?_) fun _ _ z=>z
  obtain⟨as3,mh3,Mh3,s3,r3,l3,h3⟩:=z
  exact⟨as3,.next,mh3,Mh3,(s1.tr s2).tr s3,r3,l3,trivial,h3⟩
 ·refine tF ((o.e _ _ _ _ _ _ _ _ _ _ _ FF T l r h).mono (fun c M1 z=>?_) fun _ _ z=>z) (gB (by intro x p q;cases q))
  walk_at "cl"
  obtain⟨ad,cn,fs,w1,w2,w3,w4,Mh3,w5,w6,w7⟩:=pR tx r2 (v1.mono s2.1) v2 h2
  exact⟨ad,cn,fs,w1,w2,w3,w4,as2,.next,mh,Mh3,(s1.tr s2).tr w5,w6,l.mono (s1.tr s2).1,trivial,w7⟩
 ·refine tE ((o.e _ _ _ _ _ _ _ _ _ _ _ FF T l r h).mono (fun c M1 z=>?_) fun _ _ z=>z) (gB (by intro x p q;cases q))
  walk_at "cl"
  refine(o.e _ _ _ _ _ _ _ _ _ _ _ FF T (l.mono (s1.tr s2).1) r2 h2).mono (fun c3 M3 z=>?_) fun _ _ z=>z.tr (s1.tr s2)
  obtain⟨as3,a3,Mh3,s3,r3,v3,h3⟩:=z
  split at h3
  ·rename_i j
   cases v3
   obtain⟨ad,vs,w1,w2,w3,w4,w5,Mh4,w6,w7,w8⟩:=pQ r3 ((v1.mono s2.1).mono s3.1) (v2.mono s3.1) h3
   exact⟨ad,vs,j,w1,w2,rfl,w3,w4,w5,as3,.next,mh,Mh4,((s1.tr s2).tr s3).tr w6,w7,l.mono ((s1.tr s2).tr s3).1,trivial,w8⟩
  ·exact h3.elim
 ·rename_i ts n p
  have hsole:swapsWithSole [.Tuple ts n p] e pos.line f.env=pure false:=by
   show swapsWith e (some (.Tuple ts n p)) pos.line f.env=pure false
   exact gB (by intro x p q;cases q)
  split at h
  ·exact h.elim
  ·rename_i hsw
   have hsw':=tW (n:=n) (p:=p) F.sc F.fn hsw
   refine v8 ((o.e _ _ _ _ _ _ _ _ _ _ _ FF T l r h).mono (fun c M1 z=>?_) fun _ _ z=>z) hsole hsw'
   walk_at "cs"
   exact⟨as2,.next,mh2,Mh2,s1.tr s2,r2,l2,trivial,h2⟩
  ·rename_i names hsw
   cases hh:cx.hot with
   |true=>rw[hh] at h;exact h.elim
   |false=>
   rw[hh] at h
   change E.e cx e mh Mh _ X at h
   have hsw':=tW (n:=n) (p:=p) F.sc F.fn hsw
   obtain⟨nd,hloc,ps,hts,hps⟩:names.Nodup∧(∀x∈names,f.env.kindOf x=some .local)∧∃ps:List Pos,ts=(names.zip ps).map (fun p=>PySem.Expr.Name p.1 p.2)∧ps.length=names.length:=by
    cases e<;>simp only[swN,reduceCtorEq,Option.some.injEq] at hsw
    rename_i vs _ _
    cases h1:(!(Nat.beq ts.length 2||Nat.beq ts.length 3) || !Nat.beq vs.length ts.length) with
    |true=>rw[h1] at hsw;cases hsw
    |false=>
    rw[h1] at hsw
    cases h2:noStar vs with
    |false=>rw[h2] at hsw;cases hsw
    |true=>
    rw[h2] at hsw
    simp only[Bool.not_true,cond_false] at hsw
    split at hsw
    ·cases hsw
    ·rename_i nm hn
     obtain⟨e1,e2,e3,ps,e4,e5⟩:=gE F.sc hn
     cases h3:fW nm with
     |false=>rw[h3] at hsw;cases hsw
     |true=>
     rw[h3] at hsw
     simp only[Bool.not_true,cond_false] at hsw
     cases h4:vs.all (foldedForSure 8) with
     |true=>rw[h4] at hsw;cases hsw
     |false=>
      rw[h4] at hsw
      cases h5:vs.all (constantsAlone 8) with
      |true=>rw[h5] at hsw;cases hsw
      |false=>rw[h5] at hsw;cases hsw;exact⟨allDif_iff.mp h3,e3,ps,e4,e5⟩
   refine tD (names:=names) (FF.calm hh) (fun x hx=>.inl (hloc x hx)) ((o.e _ _ _ _ _ _ _ _ _ _ _ FF T l r h).mono (fun c M1 z=>?_) fun _ _ z=>z) hsole hsw'
   obtain⟨as1,a,Mh1,s1,r1,v1,h1⟩:=z
   subst hts
   simp only[evA,hh] at h1
   change (match cS Mh1 a with|some (.f true vs)=>_|some (.a true vs)=>_|_=>_) at h1
   split at h1
   walk_at "b6"
   walk_at "b6"
   ·exact h1.elim
 ·exact h.elim
theorem u1(o:dN D E)(F:FOkS f cx)(T:TbOk D d cx.T){st:Stmt}(l:ML as mh m)(r:RM as Mh M)(h:lX E cx st mh Mh ks X):W1 D f d st m M (PostS as M ks) (PostX as M X):=by
 have tx:=T.tx
 have FF:=F.toFOk
 have ret:∀{c:CV} {M1:MH} {kk:AV→AM→Prop},PostV as M kk c M1→(∀a Mh',kk a Mh'→ks (.ret a) mh Mh')→PostS as M ks (.ret c) m M1:=fun⟨as1,a,Mh1,s1,r1,v1,h1⟩ hk=>⟨as1,.ret a,mh,Mh1,s1,r1,l.mono s1.1,v1,hk _ _ h1⟩
 have asg:∀{x:Str} {p pos:Pos} {e:PySem.Expr},(ij e&&na cx.sc x)=true→E.e cx e mh Mh (fun a M1=>evA cx (.Name x p) a mh M1 (fun m' M2=>ks .next m' M2) X) X→W1 D f d (.Assign [.Name x p] e pos) m M (PostS as M ks) (PostX as M X):=fun {x p pos e} hc h=>by
  walk_at "cR"
  walk_at "aq"
  exact⟨as1,.next,_,Mh1,s1,r1,(l.mono s1.1).put v1,trivial,mX h1⟩
 cases st with
 |Return v p=>
  cases v with
  |none=>exact Bb ⟨as,.ret (.v .none),mh,Mh,Step.rfl',r,l,.v _,h⟩
  |some e=>exact Ep ((o.e _ _ _ _ _ _ _ _ _ _ _ FF T l r h).mono (fun c M1 q=>ret q fun _ _ z=>z) fun _ _ z=>z)
 |Pass p=>exact Bc ⟨as,.next,mh,Mh,Step.rfl',r,l,trivial,h⟩
 |Break p=>exact Er ⟨as,.brk,mh,Mh,Step.rfl',r,l,trivial,h⟩
 |Continue p=>exact Be ⟨as,.cont,mh,Mh,Step.rfl',r,l,trivial,h⟩
 |Expr e p=>
  simp only[lX] at h
  cases hc:ij e with
  |false=>rw[hc] at h;exact h.elim
  |true=>
  rw[hc] at h
  refine Bd ((o.e _ _ _ _ _ _ _ _ _ _ _ FF T l r h).mono (fun c M1 q=>?_) fun _ _ z=>z) FF.inter (eS hc)
  walk_at "aq"
  exact⟨as1,.next,mh,Mh1,s1,r1,l.mono s1.1,trivial,h1⟩
 |If t a b p=>
  refine Hj ((o.b _ _ _ _ _ _ _ _ _ _ _ FF T l r h).mono (fun v M1 q=>?_) fun _ _ z=>z)
  walk_at "bf"
  ·subst e;exact(cK o F T (l.mono s1.1) r1 h1).mono (fun _ _ _ z=>z.tr s1) fun _ _ z=>z.tr s1
  ·subst e;exact(cK o F T (l.mono s1.1) r1 h1).mono (fun _ _ _ z=>z.tr s1) fun _ _ z=>z.tr s1
 |For target iter body orelse pos=>
  cases orelse with
  |cons _ _=>exact h.elim
  |nil=>
  simp only[lX] at h
  cases hh:cx.hot with
  |true=>rw[hh] at h;exact h.elim
  |false=>
  cases hn:bQ iter with
  |false=>rw[hh,hn] at h;exact h.elim
  |true=>
  rw[hh,hn] at h
  change E.e cx iter mh Mh _ X at h
  have he:=o.e _ f d _ _ _ _ _ _ _ _ FF T l r h
  have calm:=FF.calm hh
  cases hL:lkN pos.line cx.T.loops with
  |none=>
   refine sy (ks:=ks) (X:=X) o F T calm (bD hn) (he.mono (fun c M1 q=>?_) fun _ _ z=>z)
   walk_at "aq"
   obtain⟨src,vs,hk,hz,hsl,hP⟩:=dO r1 v1 h1
   rw[DQ,hL] at hk
   exact⟨as1,mh,Mh1,src,vs,l.mono s1.1,r1,hk,hP,fun e M' z=>z.tr s1,fun c m' M' z=>z.tr s1⟩
  |some L=>
   refine x9 (ks:=ks) (X:=X) (L:=L) o F T calm (bD hn) (he.mono (fun c M1 q=>?_) fun _ _ z=>z)
   walk_at "aq"
   obtain⟨src,vs,hk,hz,hsl,hP⟩:=dO r1 v1 h1
   rw[DQ,hL] at hk
   simp only at hk
   split at hk
   ·rename_i vals hv
    exact⟨as1,vals,Mh1,src,vs,lF hv (l.mono s1.1),r1,hk.1,hk.2,hP,fun e M' z=>z.tr s1,fun c m' M' z=>z.tr s1⟩
   ·exact hk.elim
 |While t body orelse p=>
  cases orelse with
  |cons _ _=>exact h.elim
  |nil=>
  simp only[lX] at h
  cases hh:cx.hot with
  |true=>rw[hh] at h;exact h.elim
  |false=>
  rw[hh] at h
  exact uS o F T (FF.calm hh) l r h
 |Raise e c p=>
  cases e with
  |none=>exact h.elim
  |some e=>
  cases c with
  |some _=>exact h.elim
  |none=>
  simp only[lX] at h
  cases hh:cx.hot with
  |true=>rw[hh] at h;exact h.elim
  |false=>
  rw[hh] at h
  change E.e cx e mh Mh _ X at h
  obtain⟨C,fI,ek,eg,_⟩:=tx.exc
  refine wa ek.k (FF.calm hh) ((o.e _ _ _ _ _ _ _ _ _ _ _ FF T l r h).mono (fun c M1 q=>?_) fun _ _ z=>z)
  walk_at "aq"
  cases a with
  |ref i=>
   simp only at h1
   split at h1
   ·rename_i msg hi
    cases hq:(Nat.ble Mh.length i&&Nat.beq (i+1) Mh1.length&&jW i (Mh1.take i)) with
    |false=>rw[hq] at h1;exact h1.elim
    |true=>
    rw[hq] at h1
    simp only[Bool.and_eq_true] at hq
    obtain⟨ad,w1,w2,w3⟩:=ve r s1 r1 v1 hi (Nat.le_of_ble_eq_true hq.1.1) (Nat.eq_of_beq_eq_true hq.1.2) hq.2 h1
    exact⟨ad,msg,w1,w2,w3⟩
   ·exact h1.elim
  |_=>exact h1.elim
 |Assign targets e pos=>exact sP o F T l r h
 |Try body hs orelse fin pos=>
  simp only[lX] at h
  split at h
  ·rename_i hp hhp
   obtain⟨rfl,rfl,rfl⟩:=sp hhp
   cases hq:(isS hp.cls "SqlError" && !cx.hot&&sj cx.sc hp.cls&&xz cx.sc hp.name) with
   |false=>rw[hq] at h;exact h.elim
   |true=>
   rw[hq] at h
   simp only[Bool.and_eq_true,Bool.not_eq_true'] at hq
   obtain⟨⟨⟨q1,q2⟩,q4⟩,q5⟩:=hq
   have ec:=xP q1 o8
   obtain⟨C,fI,ek,eg,hg⟩:=tx.exc
   have hx:f.env.kindOf (Str.ofString "SqlError")=some .globalImplicit:=by
    rw[ec] at q4
    unfold sj at q4
    split at q4
    ·rename_i q;exact FF.glob _ q
    ·cases q4
   obtain⟨cls,cpos,name,first,rest,hpos⟩:=hp
   simp only at ec h q5 ⊢
   subst ec
   cases name with
   |none=>
    refine Ba ek hx hg ((cK o F T l r h).mono (fun _ _ _ z=>z) fun msg M' z=>?_)
    obtain⟨as1,Mh1,s1,r1,h1⟩:=z
    refine(WS.nox (cK o F.hot T (fun x a e=>by simp[lkA] at e) r1 h1)).mono (fun c m' M'' z=>?_) fun _ _ z=>z
    obtain⟨as2,a,mh2,Mh2,s2,r2,l2,rc,h2⟩:=z
    exact⟨as2,a,[],Mh2,s1.tr s2,r2,(fun x a e=>by simp[lkA] at e),rc,h2⟩
   |some x=>
    have hk:f.env.kindOf x=some .local:=by
     change kW cx.sc x=true at q5
     unfold kW at q5
     split at q5
     ·rename_i q;exact FF.loc _ q
     ·cases q5
    refine yW ek hk hx hg ((cK o F T l r h).mono (fun _ _ _ z=>z) fun msg M' z=>?_)
    obtain⟨as1,Mh1,s1,r1,h1⟩:=z
    intro a ha
    have rp:=r1.push (o:=.caught msg) (mo:=.caught msg) (by intro q;cases q) (.caught msg) ha
    refine(WS.nox (cK o F.hot T (fun y b e=>?_) rp h1)).mono (fun c m' M'' z=>?_) fun _ _ z=>z
    ·unfold lkA at e
     by_cases q:x=y
     ·rw[sEq_iff.mpr q] at e;cases e
      exact⟨.ref a,if_pos q,.ref (by rw[bq,if_pos r1.len.symm])⟩
     ·rw[sEq_false.mpr q] at e;simp[lkA] at e
    ·obtain⟨as2,a2,mh2,Mh2,s2,r2,l2,rc,h2⟩:=z
     exact⟨as2,a2,[],Mh2,(s1.tr (Step.push ha)).tr s2,r2,(fun x a e=>by simp[lkA] at e),rc,h2⟩
  ·exact h.elim
 |_=>exact h.elim
end
theorem mT{D:Wd}:∀n,dN D (ev n)
 |0=>⟨fun _ _ _ _ _ _ _ _ _ _ _ _ _ _ _ h=>h.elim,fun _ _ _ _ _ _ _ _ _ _ _ _ _ _ _ h=>h.elim,fun _ _ _ _ _ _ _ _ _ _ _ _ _ _ _ h=>h.elim⟩
 |n+1=>⟨fun _ _ _ _ _ _ _ _ _ _ _ F T l r h=>u2 (mT n) F T l r h,fun _ _ _ _ _ _ _ _ _ _ _ F T l r h=>u3 (mT n) F T l r h,fun _ _ _ _ _ _ _ _ _ _ _ F T l r h=>u1 (mT n) F T l r h⟩
section
variable {D:Wd}{f:Fc}{d:Nat}{mh:Vs}{Mh:AM}{k:K1}{ks:KS}{X:KX}{as:List Addr}{m:List (Str×CV)}{M:MH}{fz:Led}{s:Shared}{b:Nat}
theorem tK{fl:Flow}(hb:as.length=b)(h:FP D f fz (PostS as M (fun cf _ M'=>match cf with
  |.ret a=>k (fS b M' a) (bM b M')
  |.next=>k (.v .none) (bM b M')
  |_=>False)) fl s):FP D f fz (Bq (PostV as M k)) fl s:=by
 obtain⟨f1,c,m1,M1,k1,S1,r1,as2,a,mh2,Mh2,st,rm,ml,rc,h⟩:=h
 walk_at "bi"
 walk_at "bQ"
 have S3:=S2 [] (fun x c hx=>by cases hx)
 cases a<;>cases c<;>first|exact rc.elim|exact h.elim|skip
 ·exact⟨f2,.next,[],M2,k1.tr k2,S3,by cases fl<;>first|trivial|exact r1.elim,as,.v .none,_,st2,rm2,.v _,h⟩
 ·cases fl<;>first|exact r1.elim|skip
  obtain⟨c',q1,q2⟩:=mR F rc r1
  rw[e] at q1
  exact⟨f2,.ret c',[],M2,k1.tr k2,S3,q2,as,_,_,st2,rm2,q1,h⟩
theorem yD{ev:Value}(hb:as.length=b)(h:XP D f fz (PostX as M (fun msg M'=>X msg (bM b M'))) ev s):XP D f fz (PostX as M X) ev s:=by
 obtain⟨f1,M1,xo,msg,k1,S1,ex,as2,Mh2,st,rm,h⟩:=h
 obtain⟨f2,M2,k2,S2,rm2,un,_,F⟩:=oe (b:=b) S1 rm (by rw[←rm.len,←hb];exact st.1.len)
 have e:=fe st.1 hb
 rw[e] at rm2
 walk_at "bQ"
 refine⟨f2,M2,xo,msg,k1.tr k2,S2 [] (fun x c hx=>by cases hx),?_,as,_,st2,rm2,h⟩
 obtain⟨e',C,dx,vs,sl,n,t,u,h1,h2,h3,h4,h5⟩:=ex
 exact⟨e',C,dx,vs,sl,n,t,u,h1,h2,k2 _ h3,h4,h5⟩
theorem lO{T:Tb}{qual:Str}{scope:Scope}{fa L:Addr}{cdv:Value}{envs:List Env}{frs:List (Addr×(Value×Data))}{pin:Led}(hk:scope.kind=.function):FOkS (vF qual scope fa cdv L envs frs pin true) ⟨T,scope,false⟩:=by
 refine⟨⟨fun x h=>?_,fun x h=>?_,fun x h=>?_,fun _=>rfl,?_⟩,rfl,hk⟩
 ·rw[bE] at h;exact h
 ·rw[bE] at h;exact h
 ·rw[bE] at h
  exact⟨h,rfl,cellsFrom_some scope.names (L+1) [] (.inl h)⟩
 ·show (scope.kind == .module&&_)=false
  rw[hk];rfl
structure az(D:Wd)(fa:Addr)(I:FnI)(n:Nat)(kn:List Str):Prop where
 at':∃cdv qual fd,Ik D fa cdv qual fd I.body I.scope∧∃m0:List CV→List (Str×CV),
  (∀fz s vs ks cs ck,D.K.In s.heap→VRs D.cls fz cs vs→VRs D.cls fz ck ks→cs.length=n→ck.length=kn.length→∃binds,BindsTo s fd ⟨vs,kn.zip ks⟩ binds∧BdR D.cls fz (m0 (cs++ck)) binds) ∧
  (∀as args cs,RVs as args cs→cs.length=n+kn.length→ML as (I.locals args) (m0 cs)) ∧
  ∀cs,cs.length=n+kn.length→((m0 cs).map (·.1)).Nodup∧((m0 cs).all fun y=>I.scope.names.lookup y.1 == some .local||I.scope.names.lookup y.1 == some .cell)=true
 keep:cU D.K (.ref fa)=true
theorem BdR.zip{cls:Str→Option Addr}{fz:Led}:∀{names:List Str} {cs:List CV} {vs:List Value} {m:List (Str×CV)} {b:List (Str×Value)},VRs cls fz cs vs→BdR cls fz m b→BdR cls fz (names.zip cs++m) (names.zip vs++b)
 |[],_,_,_,_,_,k=>k
 |_::_,_,_,_,_,.nil,k=>k
 |n::names,_,_,_,_,.cons a b,k=>.cons a (BdR.zip b k)
theorem E5{names:List Str}:∀{l:List AV} {cs:List CV} {df:List (Str×CV)},RVs as l cs→ML as (names.zip l++df.map fun p=>(p.1,AV.v p.2)) (names.zip cs++df):=by
 induction names with
 |nil=>
  intro l cs df _
  intro x a e
  rw[List.zip_nil_left,List.nil_append] at e ⊢
  induction df with
  |nil=>cases e
  |cons p r ih=>
   obtain⟨y,c⟩:=p
   rw[List.map_cons] at e
   unfold lkA at e
   unfold lk
   by_cases q:y=x
   ·rw[sEq_iff.mpr q] at e;cases e;exact⟨c,if_pos q,.v c⟩
   ·rw[sEq_false.mpr q] at e;rw[if_neg q];exact ih e
 |cons n names ih=>
  intro l cs df h
  cases h with
  |nil=>
   have:=ih (l:=[]) (cs:=[]) (df:=df) .nil
   simpa using this
  |@cons a c l cs h1 h2=>
   intro x a' e
   rw[List.zip_cons_cons,List.cons_append] at e ⊢
   unfold lkA at e
   unfold lk
   by_cases q:n=x
   ·rw[sEq_iff.mpr q] at e;cases e;exact⟨c,if_pos q,h1⟩
   ·rw[sEq_false.mpr q] at e;rw[if_neg q];exact ih h2 x a' e
theorem sEqs_iff:∀{a b:List Str},pT a b=true↔a=b
 |[],[]=>by simp[pT]
 |[],_::_=>by simp[pT]
 |_::_,[]=>by simp[pT]
 |x::a,y::b=>by
  unfold pT
  by_cases q:x=y
  ·subst q;rw[b8];simp[sEqs_iff]
  ·rw[sEq_false.mpr q];simp[q]
theorem RF.vals{kws:List (Str×AV)}{ck:List (Str×CV)}(h:RF as kws ck):RVs as (kws.map (·.2)) (ck.map (·.2)):=by
 induction h with
 |nil=>exact .nil
 |cons a _ ih=>exact .cons a ih
theorem tH{n:Nat}{kn:List Str}{S:List AV→AM→K1→KX→Prop}{args:List AV}{kws:List (Str×AV)}(h:Sp n kn S args kws Mh k X):args.length=n∧kws.map (·.1)=kn∧S (args++kws.map (·.2)) Mh k X:=by
 unfold Sp at h
 cases q:(Nat.beq args.length n&&pT (kws.map (·.1)) kn) with
 |false=>rw[q] at h;exact h.elim
 |true=>
  rw[q] at h
  rw[Bool.and_eq_true] at q
  exact⟨Nat.eq_of_beq_eq_true q.1,sEqs_iff.mp q.2,h⟩
theorem ah{T:Tb}{I:FnI}{n:Nat}{kn:List Str}{fa:Addr}(F:az D fa I n kn)(ok:TbOk D d T):SpecOk D (d+1) fa (i8 T I n kn):=by
 walk_at "cP"
 rw[yr] at h3
 walk_at "a2"
 ·have W:=cK (mT 40) (lO (T:=T) (qual:=qual) (fa:=fa) (L:=L) (cdv:=cdv) (envs:=envs) (frs:=frs) (pin:=pin) fa'.kind) ok (b2 as (args++kws.map (·.2)) (cs++ck.map (·.2)) (rv.append rf.vals) (by simp;omega)) rm h3
  intro fz A s a S
  exact wpAny_mono (W fz A s a S) (fun fl s' z=>tK rm.len z) fun e s' z=>yD rm.len z
theorem a9{T:Tb}{I:FnI}{n:Nat}{kn:List Str}{fa:Addr}(F:az D fa I n kn)(ok:TbOk D d T):SpecOk D (d+1) fa (em T I n kn):=by
 walk_at "cP"
 walk_at "a2"
 ·refine(cK (mT 40) (lO (T:=T) (qual:=qual) (fa:=fa) (L:=L) (cdv:=cdv) (envs:=envs) (frs:=frs) (pin:=pin) fa'.kind) ok (b2 as (args++kws.map (·.2)) (cs++ck.map (·.2)) (rv.append rf.vals) (by simp;omega)) rm h3).mono (fun c m' M' z=>?_) fun _ _ z=>z
  obtain⟨as2,a,mh2,Mh2,s2,r2,l2,rc,h4⟩:=z
  cases a<;>cases c<;>first|exact rc.elim|exact h4.elim|skip
  ·exact⟨as2,.v .none,Mh2,s2,r2,.v _,h4⟩
  ·exact⟨as2,_,Mh2,s2,r2,rc,h4⟩
theorem SpecOk.less{fa:Addr}{S S':aE}(h:SpecOk D d fa S)(k:∀args kws M k X,S' args kws M k X→S args kws M k X):SpecOk D d fa S':=fun as args kws Mh kk X M cs ck rv rf rm z=>h as args kws Mh kk X M cs ck rv rf rm (k _ _ _ _ _ z)
theorem FnC.up{fv:Value}{cs:List CV}{kn:List Str}{ck:List CV}{Φ:CV→MH→Prop}{Y:Str→MH→Prop}{e:Nat}(h:FnC D d fv cs kn ck M Φ Y)(he:d≤e):FnC D e fv cs kn ck M Φ Y:=fun f fz m A s vs ks cf a S r rk=>h f fz m A s vs ks cf (a.less he) S r rk
theorem SpecOk.up{fa:Addr}{S:aE}{e:Nat}(h:SpecOk D d fa S)(he:d≤e):SpecOk D e fa S:=fun as args kws Mh kk X M cs ck rv rf rm z=>(h as args kws Mh kk X M cs ck rv rf rm z).up he
structure dK(D:Wd)(c:Str)(C fI:Addr):Prop where
 cls:D.cls c=some C
 makes:makesIn D.K C=true
 init:findIn D.K (.ref C) "__init__" = some (some (.ref fI))
 fn:isFn D.K (.ref fI)=true
theorem bT{c:Str}{C fI:Addr}{S:aE}(ok:dK D c C fI)(h:SpecOk D d fI S):SpecOk D (d+1) C (iC c S):=by
 intro as args kws Mh k X M cs ck rv rf rm z
 change S (.ref Mh.length::args) kws (Mh++[.inst c []]) (fun r M'=>r=.v .none∧k (.ref Mh.length) M') X at z
 refine Bw ok.cls ok.makes ok.init ok.fn fun a hn=>?_
 have pre:Pre as (as++[a]):=(Step.push (as:=as) (M:=M) (a:=a) (mo:=.inst c []) hn).1
 have hl:(as++[a])[Mh.length]?=some a:=by rw[bq,if_pos rm.len.symm]
 have:=h (as++[a]) (.ref Mh.length::args) kws (Mh++[.inst c []]) _ X ((a,.inst c [])::M) (.ref a::cs) ck (.cons (.ref hl) (rv.mono pre)) (rf.mono pre) (rm.push (by intro q;cases q) (.inst .nil) hn) z
 refine this.mono (fun r M' w=>?_) fun e M' w=>w.tr (Step.push hn)
 obtain⟨as2,av,Mh2,s2,r2,v2,rfl,h2⟩:=w
 cases v2
 exact⟨rfl,as2,.ref Mh.length,Mh2,(Step.push hn).tr s2,r2,.ref (s2.1 _ _ hl),h2⟩
theorem x6{cls:Str→Option Addr}{fz fz':Led}(F:Fz cls fz fz' as Mh M b){x:List (Str×AV)}{c:List (Str×CV)}(h:RF as x c):∃c',RF (as.take b) (mQ b Mh x) c'∧∀v,VRs cls fz (c.map (·.2)) v→VRs cls fz' (c'.map (·.2)) v:=by
 induction h with
 |nil=>exact⟨[],.nil,fun v r=>by cases r;exact .nil⟩
 |cons a _ ih=>
  obtain⟨c1,p1,p2⟩:=jK F a
  obtain⟨c2,q1,q2⟩:=ih
  exact⟨_::c2,.cons p1 q1,fun v r=>by cases r with|cons r1 r2=>exact .cons (p2 _ r1) (q2 _ r2)⟩
theorem frzF_names{x:List (Str×AV)}:(mQ b Mh x).map (·.1)=x.map (·.1):=by
 induction x with
 |nil=>rfl
 |cons p l ih=>obtain⟨y,a⟩:=p;rw[mQ,List.map_cons,List.map_cons,ih]
theorem pO{as as2:List Addr}{i:Nat}{ad:Addr}(hl:as.length=Mh.length)(e:as2[i]?=some ad):RV (as++as2) (lY Mh.length i) (.ref ad):=by
 refine .ref ?_
 rw[←hl,List.getElem?_append_right (Nat.le_add_right _ _),Nat.add_sub_cancel_left];exact e
theorem uB{as2:List Addr}{Mh2:AM}{M' M2:MH}(rm:RM as Mh M)(un:∀a mo,a∉as→M.get a=some mo→M'.get a=some mo)(dm:∀a∈as,∃mo,M'.get a=some mo)(st:Step [] M' as2 M2)(r2:RM as2 Mh2 M2) :
  Step as M (as++as2) M2∧RM (as++as2) (List.replicate Mh.length .gone++Mh2.map fun o=>o.ren (lY Mh.length)) M2:=by
 have hd:∀a∈as,a∉as2∧∃mo,M2.get a=some mo:=fun a ha=>by
  obtain⟨mo,e⟩:=dm a ha
  obtain⟨q1,q2⟩:=st.2 a mo (by simp) e
  exact⟨q1,mo,q2⟩
 refine⟨⟨fun i a e=>?_,fun a mo h1 h2=>?_⟩,⟨?_,fun i o e=>?_,?_,fun a ha=>?_⟩⟩
 ·rw[List.getElem?_append_left (List.getElem?_eq_some_iff.mp e).1];exact e
 ·obtain⟨q1,q2⟩:=st.2 a mo (by simp) (un a mo h1 h2)
  exact⟨by simp[h1,q1],q2⟩
 ·simp[rm.len,r2.len]
 ·by_cases hi:i < Mh.length
  ·rw[List.getElem?_append_left (by simpa using hi),List.getElem?_replicate,if_pos hi] at e
   cases e;exact .inl rfl
  ·rw[List.getElem?_append_right (by simpa using hi),List.length_replicate,List.getElem?_map] at e
   cases q:Mh2[i - Mh.length]? with
   |none=>rw[q] at e;cases e
   |some o2=>
    rw[q] at e;cases e
    rcases r2.at' _ o2 q with rfl|⟨a,mo,h1,h2,h3⟩
    ·exact .inl rfl
    ·refine .inr ⟨a,mo,?_,h2,h3.ren fun j _ ad e=>pO rm.len e⟩
     rw[List.getElem?_append_right (by rw[rm.len];omega),rm.len];exact h1
 ·rw[List.nodup_append]
  exact⟨rm.nd,r2.nd,fun x hx y hy e=>by subst e;exact(hd x hx).1 hy⟩
 ·rcases List.mem_append.mp ha with ha|ha
  ·exact(hd a ha).2
  ·exact r2.dom a ha
theorem jh{fa:Addr}{S:aE}(h:SpecOk D d fa S):SpecOk D d fa (lK S):=by
 intro as args kws Mh k X M cs ck rv rf rm z f fz m A s vs ks cf a S0 r1 r2
 obtain⟨fz2,M2,kk,S2,rm2,un,dm,F⟩:=da (b:=0) S0 rm (Nat.zero_le _)
 obtain⟨cs2,v1,v2⟩:=iu F rv
 obtain⟨ck2,w1,w2⟩:=x6 F rf
 have e0:as.take 0=[]:=rfl
 have m0:bM 0 Mh=[]:=by simp[bM]
 rw[e0] at rm2 v1 w1
 rw[m0] at rm2
 have S3:=S2 m fun x c hx=>⟨c,hx,fun v r=>r.mono F.sub⟩
 have hn:kws.map (·.1)=(mQ 0 Mh kws).map (·.1):=frzF_names.symm
 rw[hn]
 have C:=h [] _ _ [] _ _ M2 cs2 ck2 v1 w1 rm2 z f fz2 m A s vs ks cf a S3 (v2 _ r1) (w2 _ r2)
 refine codeAny_mono C fun r s' q=>?_
 cases r with
 |error e=>
  obtain⟨f1,M1,xo,msg,k1,S1,ex,as2,Mh2,st,r3,hx⟩:=q
  obtain⟨g1,g2⟩:=uB rm un dm st r3
  exact⟨f1,M1,xo,msg,kk.tr k1,S1,ex,_,_,g1,g2,hx⟩
 |ok r=>
  cases r with
  |ret v=>
   obtain⟨f1,c,M1,k1,S1,rr,as2,a2,Mh2,st,r3,va,hx⟩:=q
   obtain⟨g1,g2⟩:=uB rm un dm st r3
   exact⟨f1,c,M1,kk.tr k1,S1,rr,_,_,_,g1,g2,va.ren fun j _ ad e=>pO rm.len e,hx⟩
  |_=>exact q
end
section
variable {D:Wd}{d:Nat}
theorem Ar{C fI:Addr}{I:FnI}(ek:tL D C fI)(F:az D fI I 2 []){sx mx:Str}{p1 p2 p3 pos:Pos}(hb:I.body=[.Assign [.Attribute (.Name sx p1) "message" p2] (.Name mx p3) pos])
  (h1:∀a b,lkA sx (I.locals [a,b])=some a) (h2:∀a b,lkA mx (I.locals [a,b])=some b)
  (n1:(sx == ("__debug__" : Str))=false∧(sx == ("__classdict__" : Str))=false) (n2:(mx == ("__debug__" : Str))=false∧(mx == ("__classdict__" : Str))=false):SpecOk D (d+2) C As:=by
 intro as args kws Mh k X M cs ck rv rf rm z
 unfold As at z
 split at z
 ·rename_i msg
  obtain⟨c,rfl,v⟩:=VRs.one_inv rv
  cases v
  cases rf
  refine Bv ek (by show 1≤1000;omega) fun a hn=>?_
  obtain⟨⟨cdv,qual,fd,fa',m0,b1,b2,b3⟩,_⟩:=F
  have hml:=b2 [a] [.ref 0,.v (.str msg)] [.ref a,.str msg] (.cons (.ref rfl) (.cons (.v _) .nil)) rfl
  obtain⟨c1,g1,r1⟩:=hml sx _ (h1 _ _)
  obtain⟨c2,g2,r2⟩:=hml mx _ (h2 _ _)
  cases r2
  cases r1 with|ref e=>
  cases e
  obtain⟨q1,q2⟩:=b3 [.ref a,.str msg] rfl
  refine pz (m0:=m0 [.ref a,.str msg]) fa' (fun fz s vs ks K r1 r2=>?_) q1 q2 fun L envs frs pin=>?_
  ·have:=b1 fz s vs ks [.ref a,.str msg] [] K r1 r2 rfl rfl
   exact this
  ·rw[hb]
   refine pv (v9 ek (tz g2 ⟨msg,rfl,tz g1 ⟨a,M,rfl,rfl,fun _=>sV ?_,fun h=>absurd rfl h⟩ n1.1 n1.2⟩ n2.1 n2.2) rfl)
   walk_at "aB"
   exact gz rm (by intro q;cases q) (.exc _) z a hn
 ·exact z.elim
end
def DK:Stmt→Nat
 |.Assign _ _ p=>p.line
 |_=>0
def evZ(E:Ev)(cx:Cx)(b:Nat)(zs:List (Nat×List Str)):List Stmt→Vs→AM→KS→KX→Prop
 |[],m,M,k,_=>k .next m M
 |st::r,m,M,k,X=>match lkN (DK st) zs with
  |none=>E.s cx st m M (fun cf m1 M1=>fF m1 fun m2=>fM M1 fun M2=>match cf with
    |.next=>evZ E cx b zs r m2 M2 k X
    |cf=>k cf m2 M2) X
  |some xs=>E.s cx st m M (fun cf m1 M1=>fF m1 fun m3=>fM M1 fun M3=>match cf with
    |.next=>(match gh m3 xs with
     |some vs=>jg b M3 vs fun vs'=>gf b M3 fun M2=>evZ E cx b zs r (xs.zip vs') M2 k X
     |none=>False)
    |.cont=>False
    |.brk=>False
    |.ret r=>False) X
section
variable {D:Wd}{E:Ev}{cx:Cx}{f:Fc}{d:Nat}{k:K1}{ks:KS}{X:KX}{as:List Addr}{M:MH}{b:Nat}
theorem lL(o:dN D E)(F:FOkS f cx)(T:TbOk D d cx.T){zs:List (Nat×List Str)}(hb:as.length=b):∀{sts:List Stmt} {mh:Vs} {Mh:AM} {as1:List Addr} {m:List (Str×CV)} {M1:MH},Step as M as1 M1→ML as1 mh m→RM as1 Mh M1→evZ E cx b zs sts mh Mh ks X→WS D f d sts m M1 (PostS as M ks) (PostX as M X)
 |[],mh,Mh,as1,m,M1,st,l,r,h=>sV ⟨as1,.next,mh,Mh,st,r,l,trivial,h⟩
 |s0::sts,mh,Mh,as1,m,M1,st,l,r,h=>by
  unfold evZ at h
  split at h
  ·refine pv ((o.s _ _ _ _ _ _ _ _ _ _ _ F T l r h).mono (fun c m1 M2 q=>?_) fun _ _ z=>z.tr st)
   obtain⟨as2,a,mh1,Mh1,s1,r1,l1,rc,h1⟩:=q
   rw[oi,mS] at h1
   refine⟨fun e=>?_,fun e=>?_⟩
   ·subst e
    cases a<;>first|exact rc.elim|skip
    exact lL o F T hb (st.tr s1) l1 r1 h1
   ·cases a with
    |next=>cases c<;>first|exact rc.elim|exact absurd rfl e
    |brk=>exact⟨as2,_,mh1,Mh1,st.tr s1,r1,l1,rc,h1⟩
    |cont=>exact⟨as2,_,mh1,Mh1,st.tr s1,r1,l1,rc,h1⟩
    |ret r=>exact⟨as2,_,mh1,Mh1,st.tr s1,r1,l1,rc,h1⟩
  ·rename_i xs hxs
   intro fz A s a S
   refine wpAny_execs_cons (wpAny_mono (o.s _ _ _ _ _ _ _ _ _ _ _ F T l r h fz A s a S) (fun fl s₁ h₁=>?_) fun _ _ ⟨p,q,t,u,w,x,y,z⟩=>⟨p,q,t,u,w,x,y,z.tr st⟩)
   obtain⟨f1,c,m1,M2,k1,S1,rr,as2,av,mh2,Mh2,s2,r2,l2,rc,h2⟩:=h₁
   rw[oi,mS] at h2
   cases av with
   |next=>
    cases c<;>first|exact rc.elim|skip
    cases fl<;>first|exact rr.elim|skip
    simp only at h2
    split at h2
    ·rename_i vs hvs
     rw[ir,ds] at h2
     have st2:=st.tr s2
     obtain⟨f3,M3,k3,S3,rm3,un,_,FF⟩:=da (b:=b) S1 r2 (by rw[←r2.len,←hb];exact st2.1.len)
     have e:=fe st2.1 hb
     rw[e] at rm3
     obtain⟨m3,q1,q2⟩:=oA FF hvs l2
     rw[e] at q1
     have st3:Step as M as M3:=⟨Pre.rfl',fun ad mo x y=>by
      obtain⟨z1,z2⟩:=st2.2 ad mo x y
      exact⟨x,un ad mo z1 z2⟩⟩
     have W:=lL o F T hb st3 q1 rm3 h2
     exact wpAny_mono (W f3 A s₁ a (S3 m3 q2)) (fun _ _ z=>(z.sub k3).sub k1) fun _ _ z=>(z.sub k3).sub k1
    ·exact h2.elim
   |brk=>exact h2.elim
   |cont=>exact h2.elim
   |ret r=>exact h2.elim
def iM(T:Tb)(I:FnI)(zs:List (Nat×List Str))(args:List AV)(M:AM)(k:K1)(X:KX):Prop:=
 evZ (ev 40) ⟨T,I.scope,false⟩ M.length zs I.body (I.locals args) M (vJ M.length k) (fun msg M'=>gf M.length M' fun M2=>X msg M2)
def DB(T:Tb)(I:FnI)(zs:List (Nat×List Str))(n:Nat):aE:=Sp n [] (iM T I zs)
theorem zX{T:Tb}{I:FnI}{zs:List (Nat×List Str)}{n:Nat}{fa:Addr}(F:az D fa I n [])(ok:TbOk D d T):SpecOk D (d+1) fa (DB T I zs n):=by
 walk_at "cP"
 unfold iM at h3
 rw[pk] at h3
 obtain⟨⟨cdv,qual,fd,fa',m0,b1,b2,b3⟩,_⟩:=F
 have hl:=rv.length
 have hl2:=rf.length
 have hkn:(kws.map (·.1)).length=([]:List Str).length:=by rw[h2]
 simp only[List.length_map] at hkn
 have hkn0:kws.length=0:=hkn
 obtain⟨n1,n2⟩:=b3 (cs++ck.map (·.2)) (by simp;omega)
 refine pz (m0:=m0 (cs++ck.map (·.2))) fa' (fun fz s vs ks K r1 r2=>?_) n1 n2 fun L envs frs pin=>?_
 ·have:=b1 fz s vs ks cs (ck.map (·.2)) K r1 r2 (by omega) (by rw[List.length_map];show ck.length=0;omega)
  rw[h2];exact this
 ·have h3':evZ (ev 40) ⟨T,I.scope,false⟩ Mh.length zs I.body (I.locals (args++kws.map (·.2))) Mh (qN Mh.length k) (fun msg M'=>X msg (bM Mh.length M')):=by
   have e:(fun msg M'=>gf Mh.length M' fun M2=>X msg M2)=(fun msg M'=>X msg (bM Mh.length M')):=by funext msg M';exact ds _
   rw[e] at h3;exact h3
  have W:=lL (as:=as) (M:=M) (mT 40) (lO (T:=T) (qual:=qual) (fa:=fa) (L:=L) (cdv:=cdv) (envs:=envs) (frs:=frs) (pin:=pin) fa'.kind) ok rm.len Step.rfl' (b2 as (args++kws.map (·.2)) (cs++ck.map (·.2)) (rv.append rf.vals) (by simp;omega)) rm h3'
  intro fz A s a S
  exact wpAny_mono (W fz A s a S) (fun fl s' z=>tK rm.len z) fun e s' z=>yD rm.len z
end
section
variable {D:Wd}{d:Nat}{m0:List (Str×CV)}{fz:Led}{s:Shared}{A:Around}{Φ:CV→MH→Prop}
variable {name qual:Str}{params:Arguments}{body:List Stmt}{scope:Scope}{dV kV doc pm cdv ct oc:Value}{an od:Option Addr}{osl:Array (Option Value)}{fa:Addr}{args:Args}{binds:List (Str×Value)}
def Ii(D:Wd)(fz:Led)(Φ:CV→MH→Prop)(r:Result)(s':Shared):Prop:=∃v fz' c M',r=.ok (.ret v)∧Sub fz fz'∧VR D.cls fz' c v∧Φ c M'∧(∀b o,D.h₀.get? b=some o→s'.heap.get? b=some o)∧(∀p∈fz',s'.heap.get? p.1=some p.2)∧s'.gens = #[]∧s'.os=D.os
theorem DN(hA1:A.handled=none)(hA2:A.frames=some [])(hA3:A.depth+1+4*d+10≤990)(hA4:A.units+3+20*d+60≤9000)(hA5:A.guards=some [])
  (keep:∀b o,D.h₀.get? b=some o→s.heap.get? b=some o) (hsz:D.h₀.objs.size≤s.heap.objs.size)
  (hfz:∀p∈fz,s.heap.get? p.1=some p.2∧D.h₀.get? p.1=none) (nd:(fz.map (·.1)).Nodup) (gn:s.gens = #[]) (os:s.os=D.os)
  (ho:D.K.lookup fa=some ⟨oc,od,.func (fnX name qual params body scope [] dV kV doc pm an cdv ct),osl⟩) (hcd:codeIn D.K cdv qual=true)
  (hbind:BindsTo s (fnX name qual params body scope [] dV kV doc pm an cdv ct) args binds) (bd:BdR D.cls fz m0 binds) (nd0:(m0.map (·.1)).Nodup)
  (kinds:(m0.all fun y=>scope.names.lookup y.1 == some .local||scope.names.lookup y.1 == some .cell)=true)
  (cnd:((cellsFrom 0 scope.names []).map (·.1)).Nodup)
  (W:∀L envs frs pin,WS D (vF qual scope fa cdv L envs frs pin true) d body m0 [] (Bq Φ) fun _ _=>False)
  (hco:scope.isCoroutine=false) (hgen:scope.isGenerator=false) (hk:scope.kind=.function) :
  codeAny (model D.prog D.w) A (.call (.ref fa) args) (Ii D fz Φ) s:=by
 have X0:=D.X.keeps keep
 walk_at "aA"
 refine codeAny_call_function (Nat.lt_of_lt_of_le (show A.depth < 990 by omega) (by decide)) (X0 _ _ ho) rfl hco hgen rfl (codeRec_of X0 hcd) (hbind _ _ _ _ ?_)
 refine wpAny_newFunctionEnv_cells hk (kindsX kb _) fun env' he s' x=>?_
 subst he
 refine⟨(D.T.nolimit.keeps keep).keeps x.toInCall.keep,codeAny_func ?_⟩
 walk_at "bJ"
 have newc:∀p∈cells',h₁.get? p.1=some p.2∧p.1≠s.heap.objs.size∧D.h₀.get? p.1=none:=fun p hp=>⟨(NC p hp).1,(NC p hp).2.1,by
  cases q:D.h₀.get? p.1 with
  |none=>rfl
  |some o=>have:=keep _ _ q;rw[(NC p hp).2.2] at this;cases this⟩
 walk_at "bU"
 let G:Fc:=vF qual scope fa cdv s.heap.objs.size [envOfC qual scope s.heap.objs.size fa cdv] [] [] true
 have HG:Hp D.cls D.h₀ G fz m0 [] [] (bindL (envOfC qual scope s.heap.objs.size fa cdv).kindOf binds fun _=>none) cells' [] [] h₁:=by
  refine⟨⟨x.toInCall.ns,fun b o e=>hk₁ b o (keep b o e),hsz⟩,?_,?_,?_,.nil,.nil,?_⟩
  ·intro p hp
   have hc:p∈fz∨p∈cells':=by
    simp only[aa,List.mem_append,List.mem_cons,List.not_mem_nil,or_false,false_or,G] at hp
    exact hp
   rcases hc with q|q
   ·exact⟨hk₁ _ _ (hfz p q).1,Nat.ne_of_lt (Heap.lt_size (hfz p q).1),(hfz p q).2⟩
   ·exact newc p q
  ·have cn:(cells'.map (·.1)).Nodup:=by
    rw[de Y]
    exact List.pairwise_map.mpr x.apart
   have e:aa fz G.pin cells' [] [] []=fz++cells':=by simp[aa,G]
   rw[e,List.map_append,List.nodup_append]
   refine⟨nd,cn,fun b hb c hc e=>?_⟩
   obtain⟨p,hp,ep⟩:=List.mem_map.mp hb
   obtain⟨q,hq,eq⟩:=List.mem_map.mp hc
   have h1:=Heap.lt_size (hfz p hp).1
   have h2:=cgt q hq
   rw[ep,e,←eq] at h1
   exact Nat.lt_irrefl _ (Nat.lt_trans h1 h2)
  walk_at "al"
 have aG:AOk G d (A.deeper (envOfC qual scope s.heap.objs.size fa cdv)):=by
  refine⟨fun _=>hA1,by show A.frames.map _=_;rw[hA2];rfl,by show A.depth+1+_+_≤_;omega,by show A.units+3+_+_≤_;omega,hA5,⟨hk,rfl,rfl,rfl,fun e he=>?_,⟨_,_,_,rfl,rfl,rfl⟩,fun y z ad h1 h2=>name_of_addr x.apart (mem_of_lookup h1) (mem_of_lookup h2)⟩⟩
  cases List.mem_singleton.mp he
  exact⟨by show scope.kind≠_;rw[hk];decide,s.heap.objs.size,rfl,.inl rfl⟩
 refine wpAny_mono (W _ _ _ _ fz _ _ aG ⟨⟨_,cells',_,_,HG⟩,gn,os⟩) (fun fl s₂ h₂=>?_) fun e s₂ h₂=>?_
 ·obtain⟨fz',c,m',M',k,⟨⟨mr',cells'',fo',ml',HH⟩,g2,o2⟩,r,z⟩:=h₂
  have hN:∀p∈fz',s₂.heap.get? p.1=some p.2:=fun p hp=>(HH.N p (List.mem_append_left _ hp)).1
  cases fl<;>cases c<;>first|exact z.elim|exact r.elim|skip
  ·exact⟨_,fz',.none,M',rfl,k,.none,z,HH.F.keep,hN,g2,o2⟩
  ·exact⟨_,fz',_,M',rfl,k,r,z,HH.F.keep,hN,g2,o2⟩
 ·obtain⟨fz',M',xo,msg,k,S2,ex,z⟩:=h₂
  exact z.elim
end
theorem r8{D:Wd}{d:Nat}{T:Tb}{I:FnI}{zs:List (Nat×List Str)}{n:Nat}{fa:Addr}{A:Around}{s:Shared}{fz:Led}{cs:List CV}{vs:List Value}{k:K1}(F:az D fa I n [])(ok:TbOk D d T)
  (hA1:A.handled=none) (hA2:A.frames=some []) (hA3:A.depth+1+4*d+10≤990) (hA4:A.units+3+20*d+60≤9000) (hA5:A.guards=some [])
  (keep:∀b o,D.h₀.get? b=some o→s.heap.get? b=some o) (hsz:D.h₀.objs.size≤s.heap.objs.size)
  (hfz:∀p∈fz,s.heap.get? p.1=some p.2∧D.h₀.get? p.1=none) (nd:(fz.map (·.1)).Nodup) (gn:s.gens = #[]) (os:s.os=D.os)
  (rv:VRs D.cls fz cs vs) (hn:cs.length=n)
  (h:iM T I zs (cs.map .v) [] k fun _ _=>False) :
  codeAny (model D.prog D.w) A (.call (.ref fa) ⟨vs,[]⟩) (Ii D fz (PostV [] [] k)) s:=by
 unfold iM at h
 rw[pk] at h
 obtain⟨⟨cdv,qual,fd,fa',m0,b1,b2,b3⟩,_⟩:=F
 obtain⟨n1,n2⟩:=b3 cs (by simpa using hn)
 have hrv:RVs [] (cs.map .v) cs:=by
  clear h n1 n2 b1 b2 b3 hn rv
  induction cs with
  |nil=>exact .nil
  |cons c cs ih=>exact .cons (.v c) ih
 obtain⟨⟨oc,od,osl,name,params,dV,kV,doc,pm,an,ct,ho,rfl⟩,hcd,h1,h2,h3,h4⟩:=fa'
 obtain⟨binds,hbind,bd⟩:=b1 fz s vs [] cs [] (D.X.keeps keep) rv .nil hn rfl
 rw[List.append_nil] at bd
 refine DN (m0:=m0 cs) hA1 hA2 hA3 hA4 hA5 keep hsz hfz nd gn os ho hcd hbind bd n1 n2 h4 (fun L envs frs pin=>?_) h1 h2 h3
 have h3':evZ (ev 40) ⟨T,I.scope,false⟩ 0 zs I.body (I.locals (cs.map .v)) [] (qN 0 k) (fun msg M'=>False):=by
  have e:(fun(msg:Str) (M':AM)=>gf ([]:AM).length M' fun M2=>False)=(fun msg M'=>False):=by funext msg M';exact ds _
  rw[e] at h;exact h
 have rm0:RM [] [] []:=⟨rfl,fun i o h=>by simp at h,List.nodup_nil,fun a h=>(nomatch h)⟩
 have W:=lL (as:=[]) (M:=[]) (mT 40) (lO (T:=T) (qual:=qual) (fa:=fa) (L:=L) (cdv:=cdv) (envs:=envs) (frs:=frs) (pin:=pin) h3) ok rfl Step.rfl' (b2 [] (cs.map .v) cs hrv (by simpa using hn)) rm0 h3'
 intro fz A s a S
 refine wpAny_mono (W fz A s a S) (fun fl s' z=>tK rfl z) fun e s' z=>?_
 obtain⟨f1,M1,xo,msg,k1,S1,ex,as2,Mh2,st,rm,h⟩:=z
 exact⟨f1,M1,xo,msg,k1,S1,ex,h⟩
theorem qn{R:WRecords}{cl:Str→Option Addr}{P:Params}{ord:List DictEntry→List DictEntry}{cls:Str→Option Addr}{fz:Led}:∀(l:List Int) (s:Shared) (r:List Value×Shared),layAllW R cl P ord (l.map WData.int) s=some r→VRs cls fz (l.map CV.int) r.1∧∃tk,r.2={ s with toks:=tk }
 |[],s,r,h=>by
  simp only[List.map_nil,layAllW,Option.some.injEq] at h
  subst h
  exact⟨.nil,_,rfl⟩
 |i::l,s,r,h=>by
  rw[List.map_cons] at h
  obtain⟨a,q,ha,hq,rfl⟩:=layAllW_cons h
  simp only[layW,Option.some.injEq] at ha
  subst ha
  obtain⟨h1,tk,h2⟩:=qn l _ q hq
  exact⟨.cons (.int i _) h1,tk,h2⟩
theorem Ae{l:OpenLaw}(h1:l.most=some 63)(h2:l.bound=none){args:List WData}(h:l.row.claim.pre args=true):∃xs:List Int,args=[.list (xs.map WData.int)]∧xs.length≤63:=by
 obtain⟨a,b⟩:=Bool.and_eq_true_iff.mp (show (WShape.hasAll [] args [.list .int]&&l.pre.holds [] { args:=args })=true from h)
 obtain⟨d,r,rfl,c1,c2⟩:=hasAllW_cons a
 cases hasAllW_nil c2
 obtain⟨xs,rfl,y⟩:=hasW_list c1
 obtain⟨l',rfl⟩:=items_int y
 refine⟨l',rfl,?_⟩
 unfold OpenLaw.pre at b
 rw[h1,h2] at b
 by_cases q:63 < l'.length
 ·exfalso
  have q2:(decide ((63:Int) < (l'.length:Int)))=true:=decide_eq_true (by omega)
  simp[WTm.holds,WTm.value,less?,Num.less?] at b
  first
   |(rw[show (decide ((63:Int) < (l'.length:Int)))=true from q2] at b;exact absurd b (by decide))
   |(simp only[q2] at b;exact absurd b (by decide))
 ·omega
theorem law_join{D:Wd}{d:Nat}{T:Tb}{I:FnI}{zs:List (Nat×List Str)}{a:Addr}{l:OpenLaw}{s₀ s₁:Shared}{args:List WData}{vals:List Value}{as:List Addr}
  (F:az D a I 1 []) (ok:TbOk D d T) (hd:d≤160) (h1:l.most=some 63) (h2:l.bound=none)
  (hh:D.h₀=s₀.heap) (ho:D.os=s₁.os) (L:Laid [] D.w s₀ s₁ args vals as) (hpre:l.row.claim.pre args=true)
  (h:∀xs:List Int,xs.length≤63→iM T I zs [.v (.lst (xs.map CV.int))] [] (fun r _=>r=.v (.bool true)) fun _ _=>False) :
  wpAny (model D.prog D.w) callerA (PySem.call (.ref a) vals) (fun v s'=>GoodWG l.row.claim (classAt s₀.heap) (ExcName.means s₀.heap) args s₁ (.ok (.ret v)) s')
    (fun e s'=>GoodWG l.row.claim (classAt s₀.heap) (ExcName.means s₀.heap) args s₁ (.error e) s') s₁:=by
 obtain⟨xs,rfl,hlen⟩:=Ae h1 h2 hpre
 obtain⟨ord,_,hl⟩:=L.laid
 obtain⟨a1,q,ha,hq,e⟩:=layAllW_cons hl
 obtain⟨q1,hq1,rfl⟩:=layW_list ha
 simp only[layAllW,Option.some.injEq] at hq
 subst hq
 obtain⟨hv,tk,h3⟩:=qn (cls:=D.cls) (fz:=[(q1.2.heap.objs.size,be q1.1 0)]) xs _ q1 hq1
 obtain⟨vs1,s1⟩:=q1
 simp only at h3
 subst h3
 obtain⟨rfl,rfl⟩:=Prod.mk.inj e
 have hget:(s₀.heap.push { cls:=.type "list",data:=.seq vs1.toArray }).get? s₀.heap.objs.size=some (be vs1 0):=Heap.get?_push_size _ rfl
 have hnone:D.h₀.get? s₀.heap.objs.size=none:=by rw[hh];exact Heap.get?_none_of_le (Nat.le_refl _)
 refine wpAny_call (codeAny_mono (r8 (fz:=[(s₀.heap.objs.size,be vs1 0)]) (cs:=[.lst (xs.map CV.int)]) (k:=fun r _=>r=.v (.bool true)) F ok rfl rfl ?_ ?_ rfl ?_ ?_ ?_ ?_ L.gens ho.symm ?_ rfl (h xs hlen)) fun r s' z=>?_)
 ·show 301+1+4*d+10≤990
  omega
 ·show 4+3+20*d+60≤9000
  omega
 ·intro b o hb
  rw[hh] at hb
  exact Heap.get?_push_of_some _ hb
 ·rw[hh]
  show _≤(s₀.heap.push _).objs.size
  rw[Heap.size_push];omega
 ·intro p hp
  cases List.mem_singleton.mp hp
  exact⟨hget,hnone⟩
 ·exact List.nodup_cons.mpr ⟨fun h=>(nomatch h),List.nodup_nil⟩
 ·exact .cons (.lst (.head _) hv) .nil
 ·obtain⟨v,fz',c,M',rfl,k1,rv,⟨as',av,Mh',_,_,rva,rfl⟩,kp,kz,kg,ko⟩:=z
  cases rva
  cases rv
  refine⟨.inl ⟨.bool true,.bool true,[],rfl,fun _=>rfl,.bool true,?_,fun _=>⟨List.nodup_nil,fun a h=>(nomatch h)⟩⟩,.of_keep fun b o hb=>?_,ko.trans ho,.of_eq kg⟩
  ·show (WShape.has [] (.bool true) .bool&&WTm.holds [] (.eq .res (.lit (.bool true))) { args:=[.list (xs.map WData.int)],res:=some (.bool true),after:=[.list (xs.map WData.int)] })=true
   kernel_rfl
  ·by_cases q:b=s₀.heap.objs.size
   ·subst q
    have hb:(s₀.heap.push { cls:=.type "list",data:=.seq vs1.toArray }).get? s₀.heap.objs.size=some o:=hb
    rw[hget] at hb
    cases hb
    exact kz _ (k1 _ (.head _))
   ·refine kp b o ?_
    rw[hh]
    have hb:(s₀.heap.push { cls:=.type "list",data:=.seq vs1.toArray }).get? b=some o:=hb
    have hlt:=Heap.lt_size hb
    rw[Heap.size_push] at hlt
    rw[Heap.get?_push_ne _ _ _ (by omega)] at hb
    exact hb
end Mine
open_shared tp for PySem.Challenge.pw_xw0243_01 leaving 0
namespace Mine
abbrev P1:Program:=PySem.Challenge.pw_xw0243_01
abbrev qq:Pos:=⟨0,0,0,0⟩
abbrev bb:List Stmt:=behindTheImports P1
abbrev cc:Code:=.body bb tp.env_1
abbrev S0(w:World)(os:OsState):Shared:=⟨boot_heap w.params,Array.mk [],boot_drawn,boot_toks,os⟩
abbrev SbT(w:World)(os:OsState):SharedT:=⟨tp.tree_4 w.params,15,{},Array.mk [],{},187,os⟩
abbrev SkT(w:World)(os:OsState):SharedT:=⟨tp.tree_1766 w.params,1601,{},Array.mk [],{},2697,os⟩
def H1(P:Params):Heap:=absHeap (tp.tree_1766 P) 1601 {}
abbrev IE:Pos:=⟨1172,0,1192,74⟩
theorem Dn(w:World)(os:OsState):topGo treeTable P1 w 11 (some (.ref 6)) 12 (S0 w os) (topStub P1)=some ((SbT w os).abs,⟨denote treeTable cc,cc,qq,[topFrame qq]⟩):=by
 kernel_rfl
theorem yv(w:World)(os:OsState):segRun treeTable P1 w 11 (some (.ref 6)) 1 1 (SbT w os).abs (blockOf bb tp.env_1 cc qq [topFrame qq])=some (.next,(SbT w os).abs,cc,qq):=by
 kernel_rfl
theorem DT(w:World)(os:OsState):topRun treeTable P1 w 11 (some (.ref 6)) 2 (SkT w os).abs (restOf [] tp.env_1 cc IE [topFrame qq])=some (SkT w os).abs:=by
 kernel_rfl
theorem Hc:bb=(tp.sts_4++(tp.sts_36++(tp.sts_52++(tp.sts_85++(tp.sts_132++(tp.sts_156++(tp.sts_172++(tp.sts_202++(tp.sts_232++(tp.sts_262++(tp.sts_292++(tp.sts_322++(tp.sts_352++(tp.sts_382++(tp.sts_412++(tp.sts_442++(tp.sts_472++(tp.sts_500++(tp.sts_530++(tp.sts_560++(tp.sts_590++(tp.sts_620++(tp.sts_650++(tp.sts_680++(tp.sts_710++(tp.sts_740++(tp.sts_770++(tp.sts_800++(tp.sts_828++(tp.sts_858++(tp.sts_888++(tp.sts_937++(tp.sts_1025++(tp.sts_1030++(tp.sts_1057++(tp.sts_1101++(tp.sts_1166++(tp.sts_1179++(tp.sts_1234++(tp.sts_1281++(tp.sts_1319++(tp.sts_1379++(tp.sts_1435++(tp.sts_1473++(tp.sts_1556++(tp.sts_1635++(tp.sts_1713++[]))))))))))))))))))))))))))))))))))))))))))))))):=by kernel_rfl
theorem Dl(w:World)(os:OsState):topRun treeTable P1 w 11 (some (.ref 6)) (Nat.add 12 (Nat.add 1 (Nat.add 267 (Nat.add 223 (Nat.add 560 (Nat.add 279 (Nat.add 221 (Nat.add 214 (Nat.add 291 (Nat.add 296 (Nat.add 291 (Nat.add 293 (Nat.add 295 (Nat.add 297 (Nat.add 295 (Nat.add 295 (Nat.add 293 (Nat.add 291 (Nat.add 292 (Nat.add 297 (Nat.add 293 (Nat.add 293 (Nat.add 293 (Nat.add 300 (Nat.add 281 (Nat.add 281 (Nat.add 279 (Nat.add 286 (Nat.add 288 (Nat.add 274 (Nat.add 281 (Nat.add 279 (Nat.add 399 (Nat.add 395 (Nat.add 261 (Nat.add 398 (Nat.add 257 (Nat.add 429 (Nat.add 94 (Nat.add 384 (Nat.add 355 (Nat.add 302 (Nat.add 401 (Nat.add 259 (Nat.add 405 (Nat.add 383 (Nat.add 364 (Nat.add 365 (Nat.add 270 2))))))))))))))))))))))))))))))))))))))))))))))))) (S0 w os) (topStub P1)=some (SkT w os).abs:=by
 have h:=tp.chain P1 bb w os [] 2 (SkT w os).abs (DT w os)
 rw[←Hc] at h
 exact go_top (Dn w os) (piece_block (yv w os) h)
theorem zS:∀w:World,(fencedOpening treeTable P1 w 30000).map (fun s=>(s.heap,s.gens,s.drawn,s.toks))=some (boot_heap w.params,Array.mk [],boot_drawn,boot_toks):=
 boot_open (by kernel_rfl) (by decide) (by intro s;kernel_rfl)
theorem zI:∀w:World,((boot_heap w.params).isNs mainGlobals&&(Array.mk []:Array GenState).size == 0,(boot_heap w.params).objs.size,(boot_heap w.params).nsMap mainGlobals "__annotations__")=(true,11,some (.ref 6)):=by
 intro w;kernel_rfl
def q1:Program:=view P1 [156]
def loose1:List Str:=P1.boundNames.filter fun n=>n != ("law" : Str)
abbrev Sf(w:World)(os:OsState):Shared:=⟨H1 w.params,Array.mk [],{},2697,os⟩
theorem DG(w:World)(os:OsState):(staticsOk (importedModules P1.main.body) (boot_heap w.params) (H1 w.params))=true:=by kernel_rfl
theorem DF(w:World)(os:OsState):(namesBound P1 (H1 w.params))=true:=by kernel_rfl
theorem DE(w:World)(os:OsState):gensDone (Sf w os)=true:=by kernel_rfl
theorem DD(w:World)(os:OsState):laidKept (boot_heap w.params) (H1 w.params)=true:=by kernel_rfl
abbrev Xt1:Shared→Bool:=fun _=>true
theorem s1(w:World)(os:OsState):seen ((recsOf q1).map (·.name)) (ownsOf q1) [] { (Sf w os) with gens:=#[] }=expectedOf q1:=by kernel_rfl
theorem s2(w:World)(os:OsState):(Sf w os).heap.bltView=bltViewBooted:=by kernel_rfl
theorem s3(w:World)(os:OsState):((Sf w os).heap.keysOk (looseW q1 loose1) ((recsOf q1).map (·.name)) ((litsOf q1).map (·.1)) ((clssOf q1 (looseW q1 loose1)).map (·.name)))=true:=by kernel_rfl
theorem s4(w:World)(os:OsState):((Sf w os).heap.accountedOkI (importedModules P1.main.body)&&(Sf w os).heap.isNs mainGlobals&&(Sf w os).heap.isNs builtinsNs&&tablesOk q1 (Sf w os).heap&&Xt1 (Sf w os)&&(Sf w os).gens.size == 0)=true:=by kernel_rfl
theorem s5(w:World)(os:OsState):tabsOk q1 (Sf w os)=true:=by kernel_rfl
theorem s6(w:World)(os:OsState):pinSeenD q1 (drecsOf q1) (Sf w os)=pinGoodD (drecsOf q1):=by kernel_rfl
theorem s7(w:World)(os:OsState):plainSeenE q1 (looseW q1 loose1) (Sf w os)=plainGoodE q1 (looseW q1 loose1):=by kernel_rfl
theorem s8(w:World)(os:OsState):plainSeenD q1 loose1 (Sf w os)=plainGoodD q1 loose1:=by kernel_rfl
theorem s9(w:World)(os:OsState):wideSeen q1 (Sf w os)=wideGood q1:=by kernel_rfl
theorem s10(w:World)(os:OsState):clsSeenW q1 loose1 (Sf w os)=clsGoodW q1 loose1:=by kernel_rfl
theorem FD(h:PySem.Challenge.rw_xw0243_01.row.wellSaid=true→PySem.Challenge.rw_xw0243_01.row.Holds):PySem.Challenge.rw_xw0243_01.Holds:=by
 w_on;o_law
 exact h (by assumption)
theorem ok1:(chainsOk q1&&opensWell PySem.Challenge.rw_xw0243_01.row.prog&&(frees PySem.Challenge.rw_xw0243_01.row.toRowW&&PySem.Challenge.rw_xw0243_01.row.within.isEmpty))=true:=by decide +kernel
theorem Hd:PySem.Challenge.rw_xw0243_01.row.prog.bare:=⟨rfl,rfl,rfl,rfl,rfl,by decide +kernel⟩
theorem FQ:PySem.Challenge.rw_xw0243_01.row.toRowW.promised:=by w_witness2
theorem pp{a b:Bool}(x:a=true)(y:b=true):(a&&b)=true:=by rw[x,y];rfl
theorem FB(w:World)(os:OsState):openSeen q1 loose1 (importedModules P1.main.body) Xt1 true (Sf w os)=openGood q1 loose1:=by
 delta openSeen openGood
 refine looks_pair (s1 w os) (looks_pair (s2 w os) (looks_pair ?_ (looks_pair (s5 w os) (looks_pair (s6 w os) (looks_pair (s7 w os) (looks_pair (s8 w os) (looks_pair (s9 w os) (s10 w os))))))))
 have h3:=s3 w os
 obtain⟨h4,a6⟩:=Bool.and_eq_true_iff.mp (s4 w os)
 obtain⟨h4,a5⟩:=Bool.and_eq_true_iff.mp h4
 obtain⟨h4,a4⟩:=Bool.and_eq_true_iff.mp h4
 obtain⟨h4,a3⟩:=Bool.and_eq_true_iff.mp h4
 obtain⟨a1,a2⟩:=Bool.and_eq_true_iff.mp h4
 exact pp (pp (pp (pp (pp (pp h3 a1) a2) a3) a4) a5) a6
theorem G4:LeftO P1 q1 loose1 Xt1 (fun s=>s.heap) (fun w=>H1 w.params) 30000:=
 LeftO.of_pieces (p:=P1) (q:=q1) (loose:=loose1) (Xt:=Xt1) (Yf:=fun s=>s.heap) (Ya:=fun w=>H1 w.params) (N:=30000) (g0:=true) (H₀:=boot_heap) (H₁:=H1)
  (gs₀:=Array.mk []) (gs₁:=Array.mk []) (d₀:=boot_drawn) (d₁:={}) (k₀:=boot_toks) (k₁:=2697) (m₀:=11) (ann:=some (.ref 6))
  zS zI Dl (by decide)
  (fun w=>funext fun os=>looks_pair (pp (pp (pp (DG w os) (DF w os)) (DE w os)) (DD w os)) (looks_pair (FB w os) rfl))
def d1:DefRec:=(recsOf q1).headD ⟨("" : Str),default,[],default,default⟩
theorem Ha:defOf q1 ("law" : Str)=some (d1,[]):=by kernel_rfl
theorem I7:P1.theDef ("law" : Str)=some (d1.params,d1.body,d1.scope):=by kernel_rfl
theorem I6:kwWritten? d1.params.kwonlyargs d1.params.kw_defaults=some []:=by kernel_rfl
theorem head1(hc:∀(w:World) (s₀ s₁:Shared) (mg mb:Str→Option Value),Ground q1 loose1 [] (fun _ _=>True) w s₀ mg mb s₁.heap→s₀.heap=H1 w.params→∀(args:List WData) (vals:List Value) (as:List Addr) (a:Addr),
   mg ("law" : Str)=some (.ref a)→Laid [] w s₀ s₁ args vals as→PySem.Challenge.rw_xw0243_01.row.claim.pre args=true→WData.layableAll args=true →
   wpAny (model P1 w) callerA (PySem.call (.ref a) vals) (fun v s'=>GoodWG PySem.Challenge.rw_xw0243_01.row.claim (classAt s₀.heap) (ExcName.means s₀.heap) args s₁ (.ok (.ret v)) s')
    (fun e s'=>GoodWG PySem.Challenge.rw_xw0243_01.row.claim (classAt s₀.heap) (ExcName.means s₀.heap) args s₁ (.error e) s') s₁):PySem.Challenge.rw_xw0243_01.Holds:=by
 refine FD fun said=>?_
 have hn:d1.name=("law" : Str):=defOf_name Ha
 refine holds_openX (r:=PySem.Challenge.rw_xw0243_01.row) (q:=q1) (loose:=loose1) (XP:=fun _ _=>True) (d:=d1) (kwd:=[]) G4 (fun _ _=>trivial) (fun _ _ _ _ _=>trivial) Ha I7 I6 (fun _ _=>recFacts_nil rfl) rfl said ok1 Hd FQ ?_
 intro w s₀ s₁ mg mb G Y a o pm cd doc dV kV ho hd hcd hD hmg hg args vals as L hpre hlay hrd hwl hlo
 exact hc w s₀ s₁ mg mb G Y args vals as a (hn▸hmg) L hpre hlay
def KL(P:Params):Frag:=[
(0,boot_o_0 P),
(1,boot_o_1 P),
(2,tp.o_5 P),
(3,tp.o_1713 P),
(38,tp.o_38 P),
(51,tp.o_48 P),
(141,tp.o_890 P),
(155,tp.o_622 P),
(181,tp.o_198 P),
(207,tp.o_228 P),
(233,tp.o_258 P),
(259,tp.o_288 P),
(285,tp.o_318 P),
(311,tp.o_348 P),
(337,tp.o_378 P),
(363,tp.o_408 P),
(389,tp.o_438 P),
(415,tp.o_468 P),
(439,tp.o_496 P),
(465,tp.o_526 P),
(491,tp.o_556 P),
(517,tp.o_586 P),
(543,tp.o_616 P),
(569,tp.o_646 P),
(595,tp.o_676 P),
(621,tp.o_706 P),
(647,tp.o_736 P),
(673,tp.o_766 P),
(699,tp.o_796 P),
(723,tp.o_824 P),
(749,tp.o_854 P),
(775,tp.o_884 P),
(801,tp.o_914 P),
(1029,tp.o_1160 P),
(1089,tp.o_1228 P),
(1133,tp.o_1275 P),
(1168,tp.o_1313 P),
(1211,tp.o_1359 P),
(1313,tp.o_1467 P),
(35,tp.o_28 P),
(96,tp.o_100 P),
(104,tp.o_108 P),
(112,tp.o_116 P),
(171,tp.o_188 P),
(178,tp.o_195 P),
(197,tp.o_218 P),
(204,tp.o_225 P),
(256,tp.o_285 P),
(275,tp.o_308 P),
(282,tp.o_315 P),
(455,tp.o_516 P),
(462,tp.o_523 P),
(514,tp.o_583 P),
(585,tp.o_666 P),
(592,tp.o_673 P),
(637,tp.o_726 P),
(644,tp.o_733 P),
(663,tp.o_756 P),
(670,tp.o_763 P),
(689,tp.o_786 P),
(696,tp.o_793 P),
(720,tp.o_821 P),
(746,tp.o_851 P),
(772,tp.o_881 P),
(791,tp.o_904 P),
(798,tp.o_911 P),
(822,tp.o_935 P),
(829,tp.o_945 P),
(836,tp.o_952 P),
(850,tp.o_966 P),
(857,tp.o_973 P),
(877,tp.o_993 P),
(885,tp.o_1001 P),
(892,tp.o_1008 P),
(899,tp.o_1015 P),
(907,tp.o_1023 P),
(916,tp.o_1039 P),
(923,tp.o_1046 P),
(930,tp.o_1053 P),
(938,tp.o_1066 P),
(945,tp.o_1073 P),
(957,tp.o_1085 P),
(971,tp.o_1099 P),
(985,tp.o_1116 P),
(993,tp.o_1124 P),
(998,tp.o_1129 P),
(1005,tp.o_1136 P),
(1012,tp.o_1143 P),
(1019,tp.o_1150 P),
(1026,tp.o_1157 P),
(1055,tp.o_1194 P),
(1060,tp.o_1199 P),
(1067,tp.o_1206 P),
(1072,tp.o_1211 P),
(1079,tp.o_1218 P),
(1086,tp.o_1225 P),
(1100,tp.o_1242 P),
(1123,tp.o_1265 P),
(1130,tp.o_1272 P),
(1151,tp.o_1296 P),
(1158,tp.o_1303 P),
(1165,tp.o_1310 P),
(1187,tp.o_1335 P),
(1194,tp.o_1342 P),
(1201,tp.o_1349 P),
(1208,tp.o_1356 P),
(1222,tp.o_1370 P),
(1229,tp.o_1377 P),
(1242,tp.o_1393 P),
(1249,tp.o_1400 P),
(1256,tp.o_1407 P),
(1263,tp.o_1414 P),
(1268,tp.o_1419 P),
(1296,tp.o_1450 P),
(1324,tp.o_1481 P),
(1338,tp.o_1495 P),
(1350,tp.o_1507 P),
(1355,tp.o_1512 P),
(1362,tp.o_1519 P),
(1369,tp.o_1526 P),
(1376,tp.o_1533 P),
(1383,tp.o_1540 P),
(1390,tp.o_1547 P),
(1404,tp.o_1564 P),
(1409,tp.o_1569 P),
(1421,tp.o_1581 P),
(1428,tp.o_1588 P),
(1442,tp.o_1602 P),
(1481,tp.o_1644 P),
(1488,tp.o_1651 P),
(1495,tp.o_1658 P),
(1502,tp.o_1665 P),
(1509,tp.o_1672 P),
(1514,tp.o_1677 P),
(1519,tp.o_1682 P),
(1524,tp.o_1687 P),
(1531,tp.o_1694 P),
(1536,tp.o_1699 P),
(1541,tp.o_1704 P),
(1548,tp.o_1711 P),
(1555,tp.o_1721 P),
(1562,tp.o_1728 P),
(1569,tp.o_1735 P),
(1576,tp.o_1742 P),
(1583,tp.o_1749 P),
(1588,tp.o_1754 P),
(1595,tp.o_1761 P),
(1600,tp.o_1766 P),
(24,tp.o_17 P),
(37,tp.o_30 P),
(44,tp.o_41 P),
(50,tp.o_47 P),
(54,tp.o_53 P),
(72,tp.o_71 P),
(83,tp.o_87 P),
(127,tp.o_136 P),
(140,tp.o_149 P),
(148,tp.o_161 P),
(154,tp.o_167 P),
(160,tp.o_177 P),
(180,tp.o_197 P),
(186,tp.o_207 P),
(206,tp.o_227 P),
(212,tp.o_237 P),
(232,tp.o_257 P),
(238,tp.o_267 P),
(258,tp.o_287 P),
(264,tp.o_297 P),
(284,tp.o_317 P),
(290,tp.o_327 P),
(310,tp.o_347 P),
(316,tp.o_357 P),
(336,tp.o_377 P),
(342,tp.o_387 P),
(362,tp.o_407 P),
(368,tp.o_417 P),
(388,tp.o_437 P),
(394,tp.o_447 P),
(414,tp.o_467 P),
(420,tp.o_477 P),
(438,tp.o_495 P),
(444,tp.o_505 P),
(464,tp.o_525 P),
(470,tp.o_535 P),
(490,tp.o_555 P),
(496,tp.o_565 P),
(516,tp.o_585 P),
(522,tp.o_595 P),
(542,tp.o_615 P),
(548,tp.o_625 P),
(568,tp.o_645 P),
(574,tp.o_655 P),
(594,tp.o_675 P),
(600,tp.o_685 P),
(620,tp.o_705 P),
(626,tp.o_715 P),
(646,tp.o_735 P),
(652,tp.o_745 P),
(672,tp.o_765 P),
(678,tp.o_775 P),
(698,tp.o_795 P),
(704,tp.o_805 P),
(722,tp.o_823 P),
(728,tp.o_833 P),
(748,tp.o_853 P),
(754,tp.o_863 P),
(774,tp.o_883 P),
(780,tp.o_893 P),
(800,tp.o_913 P),
(908,tp.o_1026 P),
(909,tp.o_1032 P),
(974,tp.o_1105 P),
(1028,tp.o_1159 P),
(1034,tp.o_1168 P),
(1044,tp.o_1183 P),
(1088,tp.o_1227 P),
(1112,tp.o_1254 P),
(1132,tp.o_1274 P),
(1140,tp.o_1285 P),
(1167,tp.o_1312 P),
(1175,tp.o_1323 P),
(1210,tp.o_1358 P),
(1285,tp.o_1439 P),
(1312,tp.o_1466 P),
(9,boot_o_9 P),
(34,tp.o_27 P),
(95,tp.o_99 P),
(103,tp.o_107 P),
(111,tp.o_115 P),
(170,tp.o_187 P),
(177,tp.o_194 P),
(196,tp.o_217 P),
(203,tp.o_224 P),
(255,tp.o_284 P),
(274,tp.o_307 P),
(281,tp.o_314 P),
(454,tp.o_515 P),
(461,tp.o_522 P),
(513,tp.o_582 P),
(584,tp.o_665 P),
(591,tp.o_672 P),
(636,tp.o_725 P),
(643,tp.o_732 P),
(662,tp.o_755 P),
(669,tp.o_762 P),
(688,tp.o_785 P),
(695,tp.o_792 P),
(719,tp.o_820 P),
(745,tp.o_850 P),
(771,tp.o_880 P),
(790,tp.o_903 P),
(797,tp.o_910 P),
(821,tp.o_934 P),
(828,tp.o_944 P),
(835,tp.o_951 P),
(849,tp.o_965 P),
(856,tp.o_972 P),
(876,tp.o_992 P),
(884,tp.o_1000 P),
(891,tp.o_1007 P),
(898,tp.o_1014 P),
(906,tp.o_1022 P),
(915,tp.o_1038 P),
(922,tp.o_1045 P),
(929,tp.o_1052 P),
(937,tp.o_1065 P),
(944,tp.o_1072 P),
(956,tp.o_1084 P),
(970,tp.o_1098 P),
(984,tp.o_1115 P),
(992,tp.o_1123 P),
(997,tp.o_1128 P),
(1004,tp.o_1135 P),
(1011,tp.o_1142 P),
(1018,tp.o_1149 P),
(1025,tp.o_1156 P),
(1054,tp.o_1193 P),
(1059,tp.o_1198 P),
(1066,tp.o_1205 P),
(1071,tp.o_1210 P),
(1078,tp.o_1217 P),
(1085,tp.o_1224 P),
(1099,tp.o_1241 P),
(1122,tp.o_1264 P),
(1129,tp.o_1271 P),
(1150,tp.o_1295 P),
(1157,tp.o_1302 P),
(1164,tp.o_1309 P),
(1186,tp.o_1334 P),
(1193,tp.o_1341 P),
(1200,tp.o_1348 P),
(1207,tp.o_1355 P),
(1221,tp.o_1369 P),
(1228,tp.o_1376 P),
(1241,tp.o_1392 P),
(1248,tp.o_1399 P),
(1255,tp.o_1406 P),
(1262,tp.o_1413 P),
(1267,tp.o_1418 P),
(1295,tp.o_1449 P),
(1323,tp.o_1480 P),
(1337,tp.o_1494 P),
(1349,tp.o_1506 P),
(1354,tp.o_1511 P),
(1361,tp.o_1518 P),
(1368,tp.o_1525 P),
(1375,tp.o_1532 P),
(1382,tp.o_1539 P),
(1389,tp.o_1546 P),
(1403,tp.o_1563 P),
(1408,tp.o_1568 P),
(1420,tp.o_1580 P),
(1427,tp.o_1587 P),
(1441,tp.o_1601 P),
(1480,tp.o_1643 P),
(1487,tp.o_1650 P),
(1494,tp.o_1657 P),
(1501,tp.o_1664 P),
(1508,tp.o_1671 P),
(1513,tp.o_1676 P),
(1518,tp.o_1681 P),
(1523,tp.o_1686 P),
(1530,tp.o_1693 P),
(1535,tp.o_1698 P),
(1540,tp.o_1703 P),
(1547,tp.o_1710 P),
(1554,tp.o_1720 P),
(1561,tp.o_1727 P),
(1568,tp.o_1734 P),
(1575,tp.o_1741 P),
(1582,tp.o_1748 P),
(1587,tp.o_1753 P),
(1594,tp.o_1760 P),
(1599,tp.o_1765 P),
(97,tp.o_101 P),
(98,tp.o_102 P),
(99,tp.o_103 P),
(100,tp.o_104 P),
(101,tp.o_105 P),
(102,tp.o_106 P),
(105,tp.o_109 P),
(106,tp.o_110 P),
(107,tp.o_111 P),
(108,tp.o_112 P),
(109,tp.o_113 P),
(110,tp.o_114 P),
(870,tp.o_986 P),
(871,tp.o_987 P),
(872,tp.o_988 P),
(873,tp.o_989 P),
(874,tp.o_990 P),
(875,tp.o_991 P),
(878,tp.o_994 P),
(879,tp.o_995 P),
(880,tp.o_996 P),
(881,tp.o_997 P),
(882,tp.o_998 P),
(883,tp.o_999 P),
(900,tp.o_1016 P),
(901,tp.o_1017 P),
(902,tp.o_1018 P),
(903,tp.o_1019 P),
(904,tp.o_1020 P),
(905,tp.o_1021 P),
(910,tp.o_1033 P),
(911,tp.o_1034 P),
(931,tp.o_1059 P),
(986,tp.o_1117 P),
(987,tp.o_1118 P),
(988,tp.o_1119 P),
(989,tp.o_1120 P),
(990,tp.o_1121 P),
(991,tp.o_1122 P),
(1101,tp.o_1243 P),
(1102,tp.o_1244 P),
(1179,tp.o_1327 P),
(1180,tp.o_1328 P),
(1181,tp.o_1329 P),
(1182,tp.o_1330 P),
(1183,tp.o_1331 P),
(1184,tp.o_1332 P),
(1185,tp.o_1333 P),
(1474,tp.o_1637 P),
(1475,tp.o_1638 P),
(1476,tp.o_1639 P),
(1477,tp.o_1640 P),
(1478,tp.o_1641 P),
(1479,tp.o_1642 P)]
theorem Br(P:Params):(KL P).map (fun p=>(tp.tree_1766 P).get p.1)=(KL P).map (fun p=>some p.2):=by kernel_rfl
theorem Bs(P:Params):(KL P).all (fun p=>!p.2.isFreed&&Nat.blt p.1 1601)=true:=by kernel_rfl
theorem gG{α:Type}:∀{l:List (Nat×α)} {n:Nat} {c:α},l.lookup n=some c→(n,c)∈l
 |(k,v)::r,n,c,h=>by
  rw[List.lookup_cons] at h
  cases hb:n == k with
  |true=>rw[hb] at h;cases h;rw[beq_iff_eq.mp hb];exact List.mem_cons_self
  |false=>rw[hb] at h;exact List.mem_cons_of_mem _ (gG h)
theorem KL_in(P:Params):(KL P).In (H1 P):=by
 intro a o h
 have hm:=gG h
 have h1:(tp.tree_1766 P).get a=some o:=by
  have:=Br P
  have k:∀l:List (Nat×Obj),l.map (fun p=>(tp.tree_1766 P).get p.1)=l.map (fun p=>some p.2)→(a,o)∈l→(tp.tree_1766 P).get a=some o:=fun l=>by
   induction l with
   |nil=>intro _ h;cases h
   |cons p l ih=>
    intro e h
    simp only[List.map_cons,List.cons.injEq] at e
    cases h with
    |head=>exact e.1
    |tail _ h=>exact ih e.2 h
  exact k _ this hm
 have h2:=List.all_eq_true.mp (Bs P) _ hm
 simp only[Bool.and_eq_true,Bool.not_eq_true',Nat.blt_eq] at h2
 have h3:=absHeap_at (tp.tree_1766 P) 1601 {} a
 rw[if_pos h2.2,h1] at h3
 unfold H1 Heap.get?
 rw[h3]
 obtain⟨c,d,dt,sl⟩:=o
 cases dt<;>first|rfl|(simp[Obj.isFreed] at h2)
def gTab:List (Str×CV):=[
 (⟨#[95,119,97,108,108]⟩,.st (.ref 21)),
 (⟨#[80,97,103,101,98,97,115,101,69,114,114,111,114]⟩,.st (.ref 38)),
 (⟨#[83,113,108,69,114,114,111,114]⟩,.st (.ref 51)),
 (⟨#[83,67,65,76,65,82,83]⟩,.st (.ref 54)),
 (⟨#[65,71,71,82,69,71,65,84,69,83]⟩,.st (.ref 83)),
 (⟨#[102,105,116,115]⟩,.st (.ref 96)),
 (⟨#[105,115,95,97,103,103,114,101,103,97,116,101]⟩,.st (.ref 104)),
 (⟨#[99,104,101,99,107,95,99,97,108,108]⟩,.st (.ref 112)),
 (⟨#[114,111,119,95,111,102]⟩,.st (.ref 119)),
 (⟨#[114,111,119,115,95,111,102]⟩,.st (.ref 124)),
 (⟨#[78,111,100,101]⟩,.st (.ref 141)),
 (⟨#[69,120,112,114]⟩,.st (.ref 155)),
 (⟨#[76,105,116,101,114,97,108]⟩,.st (.ref 181)),
 (⟨#[78,97,109,101]⟩,.st (.ref 207)),
 (⟨#[86,97,114,105,97,98,108,101]⟩,.st (.ref 233)),
 (⟨#[85,110,97,114,121]⟩,.st (.ref 259)),
 (⟨#[66,105,110,97,114,121]⟩,.st (.ref 285)),
 (⟨#[66,101,116,119,101,101,110]⟩,.st (.ref 311)),
 (⟨#[73,110,76,105,115,116]⟩,.st (.ref 337)),
 (⟨#[73,110,83,101,108,101,99,116]⟩,.st (.ref 363)),
 (⟨#[69,120,105,115,116,115]⟩,.st (.ref 389)),
 (⟨#[83,99,97,108,97,114]⟩,.st (.ref 415)),
 (⟨#[67,97,115,101]⟩,.st (.ref 439)),
 (⟨#[67,97,108,108]⟩,.st (.ref 465)),
 (⟨#[67,97,115,116]⟩,.st (.ref 491)),
 (⟨#[67,111,108,108,97,116,101]⟩,.st (.ref 517)),
 (⟨#[73,115,78,117,108,108]⟩,.st (.ref 543)),
 (⟨#[77,97,116,99,104]⟩,.st (.ref 569)),
 (⟨#[82,101,115,117,108,116,67,111,108,117,109,110]⟩,.st (.ref 595)),
 (⟨#[84,97,98,108,101,83,111,117,114,99,101]⟩,.st (.ref 621)),
 (⟨#[83,101,108,101,99,116,83,111,117,114,99,101]⟩,.st (.ref 647)),
 (⟨#[74,111,105,110]⟩,.st (.ref 673)),
 (⟨#[67,111,114,101]⟩,.st (.ref 699)),
 (⟨#[86,97,108,117,101,115]⟩,.st (.ref 723)),
 (⟨#[67,111,109,112,111,117,110,100]⟩,.st (.ref 749)),
 (⟨#[79,114,100,101,114,84,101,114,109]⟩,.st (.ref 775)),
 (⟨#[83,101,108,101,99,116]⟩,.st (.ref 801)),
 (⟨#[102,111,108,100,95,97,115,99,105,105]⟩,.st (.ref 810)),
 (⟨#[97,102,102,105,110,105,116,121,95,111,102,95,116,121,112,101]⟩,.st (.ref 817)),
 (⟨#[102,111,108,100]⟩,.st (.ref 822)),
 (⟨#[99,104,105,108,100,114,101,110]⟩,.st (.ref 829)),
 (⟨#[114,101,98,117,105,108,116]⟩,.st (.ref 836)),
 (⟨#[114,101,98,117,105,108,116,95,99,97,115,101]⟩,.st (.ref 843)),
 (⟨#[105,115,95,97,103,103,114,101,103,97,116,101,95,99,97,108,108]⟩,.st (.ref 850)),
 (⟨#[97,103,103,114,101,103,97,116,101,115,95,105,110]⟩,.st (.ref 857)),
 (⟨#[104,97,115,95,115,117,98,113,117,101,114,121]⟩,.st (.ref 862)),
 (⟨#[110,97,109,101,115,95,105,110]⟩,.st (.ref 869)),
 (⟨#[114,101,102,117,115,101,95,97,103,103,114,101,103,97,116,101,115]⟩,.st (.ref 877)),
 (⟨#[97,102,102,105,110,105,116,121,95,111,102]⟩,.st (.ref 885)),
 (⟨#[101,120,112,108,105,99,105,116,95,99,111,108,108,97,116,105,111,110]⟩,.st (.ref 892)),
 (⟨#[99,111,108,117,109,110,95,99,111,108,108,97,116,105,111,110]⟩,.st (.ref 899)),
 (⟨#[99,111,108,108,97,116,105,111,110,95,111,102]⟩,.st (.ref 907)),
 (⟨#[76,79,87,69,83,84]⟩,.int 1),
 (⟨#[78,79,84,95,76,69,86,69,76]⟩,.int 3),
 (⟨#[69,81,85,65,76,95,76,69,86,69,76]⟩,.int 4),
 (⟨#[76,69,83,83,95,76,69,86,69,76]⟩,.int 5),
 (⟨#[83,73,71,78,95,76,69,86,69,76,83]⟩,.st (.ref 908)),
 (⟨#[75,69,89,95,76,69,86,69,76,83]⟩,.st (.ref 909)),
 (⟨#[70,73,71,85,82,69,83]⟩,.str ⟨#[48,49,50,51,52,53,54,55,56,57]⟩),
 (⟨#[76,69,84,84,69,82,83]⟩,.str ⟨#[97,98,99,100,101,102,103,104,105,106,107,108,109,110,111,112,113,114,115,116,117,118,119,120,121,122,65,66,67,68,69,70,71,72,73,74,75,76,77,78,79,80,81,82,83,84,85,86,87,88,89,90,95]⟩),
 (⟨#[78,65,77,69,95,83,73,71,78,83]⟩,.str ⟨#[97,98,99,100,101,102,103,104,105,106,107,108,109,110,111,112,113,114,115,116,117,118,119,120,121,122,65,66,67,68,69,70,71,72,73,74,75,76,77,78,79,80,81,82,83,84,85,86,87,88,89,90,95,48,49,50,51,52,53,54,55,56,57,36]⟩),
 (⟨#[82,69,83,69,82,86,69,68]⟩,.st (.ref 910)),
 (⟨#[74,79,73,78,73,78,71]⟩,.st (.ref 911)),
 (⟨#[102,111,108,100,101,100]⟩,.st (.ref 916)),
 (⟨#[98,101,103,105,110,115,95,110,97,109,101]⟩,.st (.ref 923)),
 (⟨#[103,111,101,115,95,111,110,95,110,97,109,101]⟩,.st (.ref 930)),
 (⟨#[81,85,79,84,69,68,95,65,76,87,65,89,83]⟩,.st (.ref 931)),
 (⟨#[105,115,95,98,97,114,101]⟩,.st (.ref 938)),
 (⟨#[119,114,105,116,101,95,110,97,109,101]⟩,.st (.ref 945)),
 (⟨#[119,114,105,116,101,95,110,97,109,101,115]⟩,.st (.ref 950)),
 (⟨#[119,114,105,116,101,95,118,97,108,117,101]⟩,.st (.ref 957)),
 (⟨#[119,114,105,116,101,95,116,121,112,101]⟩,.st (.ref 964)),
 (⟨#[67,79,76,76,65,84,69,95,76,69,86,69,76]⟩,.int 10),
 (⟨#[65,72,69,65,68,95,76,69,86,69,76]⟩,.int 11),
 (⟨#[65,76,79,78,69,95,76,69,86,69,76]⟩,.int 12),
 (⟨#[108,101,118,101,108,95,111,102]⟩,.st (.ref 971)),
 (⟨#[69,120,112,114,101,115,115,105,111,110,87,114,105,116,101,114]⟩,.st (.ref 1029)),
 (⟨#[74,79,73,78,95,87,79,82,68,83]⟩,.st (.ref 1034)),
 (⟨#[119,114,105,116,101,95,97,108,105,97,115]⟩,.st (.ref 1041)),
 (⟨#[83,101,108,101,99,116,87,114,105,116,101,114]⟩,.st (.ref 1089)),
 (⟨#[119,114,105,116,101,95,101,120,112,114,101,115,115,105,111,110]⟩,.st (.ref 1100)),
 (⟨#[82,79,87,73,68,95,78,65,77,69,83]⟩,.st (.ref 1101)),
 (⟨#[67,79,76,76,65,84,73,79,78,83]⟩,.st (.ref 1102)),
 (⟨#[99,104,101,99,107,95,99,111,108,108,97,116,105,111,110]⟩,.st (.ref 1109)),
 (⟨#[67,111,117,110,116,101,114]⟩,.st (.ref 1133)),
 (⟨#[83,111,117,114,99,101]⟩,.st (.ref 1168)),
 (⟨#[83,99,111,112,101]⟩,.st (.ref 1211)),
 (⟨#[119,114,105,116,116,101,110,95,110,97,109,101]⟩,.st (.ref 1222)),
 (⟨#[98,111,117,110,100,95,110,97,109,101]⟩,.st (.ref 1229)),
 (⟨#[116,97,98,108,101,95,115,111,117,114,99,101]⟩,.st (.ref 1235)),
 (⟨#[115,101,108,101,99,116,95,115,111,117,114,99,101]⟩,.st (.ref 1242)),
 (⟨#[114,101,115,111,108,118,101,95,110,97,109,101]⟩,.st (.ref 1249)),
 (⟨#[108,111,111,107,95,97,116,95,99,97,108,108]⟩,.st (.ref 1256)),
 (⟨#[108,111,111,107,95,97,116]⟩,.st (.ref 1263)),
 (⟨#[114,101,115,111,108,118,101,95,101,120,112,114,101,115,115,105,111,110]⟩,.st (.ref 1268)),
 (⟨#[105,110,110,101,114,95,115,101,108,101,99,116]⟩,.st (.ref 1275)),
 (⟨#[111,110,101,95,99,111,108,117,109,110]⟩,.st (.ref 1282)),
 (⟨#[82,101,115,111,108,118,101,100]⟩,.st (.ref 1313)),
 (⟨#[102,108,97,116,116,101,110,95,115,111,117,114,99,101]⟩,.st (.ref 1324)),
 (⟨#[119,105,116,104,95,109,111,114,101]⟩,.st (.ref 1331)),
 (⟨#[114,101,97,100,95,115,111,117,114,99,101]⟩,.st (.ref 1338)),
 (⟨#[99,104,101,99,107,95,104,105,110,116]⟩,.st (.ref 1343)),
 (⟨#[117,115,105,110,103,95,99,111,110,100,105,116,105,111,110]⟩,.st (.ref 1350)),
 (⟨#[114,101,97,100,95,115,111,117,114,99,101,115]⟩,.st (.ref 1355)),
 (⟨#[115,116,97,114,95,111,117,116,112,117,116,115]⟩,.st (.ref 1362)),
 (⟨#[111,117,116,112,117,116,95,110,97,109,101]⟩,.st (.ref 1369)),
 (⟨#[114,101,97,100,95,111,117,116,112,117,116,115]⟩,.st (.ref 1376)),
 (⟨#[111,114,100,105,110,97,108]⟩,.st (.ref 1383)),
 (⟨#[116,111,108,100,95,112,108,97,99,101]⟩,.st (.ref 1390)),
 (⟨#[97,108,105,97,115,95,112,108,97,99,101]⟩,.st (.ref 1397)),
 (⟨#[114,101,97,100,95,103,114,111,117,112,115]⟩,.st (.ref 1404)),
 (⟨#[114,101,115,111,108,118,101,95,99,111,114,101]⟩,.st (.ref 1409)),
 (⟨#[114,101,115,111,108,118,101,95,118,97,108,117,101,115]⟩,.st (.ref 1414)),
 (⟨#[114,101,115,111,108,118,101,95,98,111,100,121]⟩,.st (.ref 1421)),
 (⟨#[111,117,116,101,114,95,111,102]⟩,.st (.ref 1428)),
 (⟨#[111,114,100,101,114,95,116,101,114,109]⟩,.st (.ref 1435)),
 (⟨#[99,111,114,101,95,111,114,100,101,114]⟩,.st (.ref 1442)),
 (⟨#[108,105,107,101,95,112,108,97,99,101]⟩,.st (.ref 1449)),
 (⟨#[105,115,95,115,97,109,101,95,115,111,117,114,99,101]⟩,.st (.ref 1454)),
 (⟨#[115,105,109,112,108,101,95,98,111,100,105,101,115]⟩,.st (.ref 1461)),
 (⟨#[99,111,109,112,111,117,110,100,95,111,114,100,101,114]⟩,.st (.ref 1466)),
 (⟨#[116,114,105,101,100,95,112,108,97,99,101]⟩,.st (.ref 1473)),
 (⟨#[114,101,115,111,108,118,101,95,115,101,108,101,99,116]⟩,.st (.ref 1481)),
 (⟨#[95,108,97,119,95,112,111,111,108]⟩,.st (.ref 1488)),
 (⟨#[95,108,97,119,95,116,97,107,101]⟩,.st (.ref 1495)),
 (⟨#[95,108,97,119,95,111,110,101]⟩,.st (.ref 1502)),
 (⟨#[95,108,97,119,95,108,101,116,116,101,114,115]⟩,.st (.ref 1509)),
 (⟨#[95,108,97,119,95,115,101,108,101,99,116]⟩,.st (.ref 1514)),
 (⟨#[95,108,97,119,95,102,114,111,109]⟩,.st (.ref 1519)),
 (⟨#[95,108,97,119,95,97,108,108,95,110,97,109,101,115]⟩,.st (.ref 1524)),
 (⟨#[95,108,97,119,95,105,115,95,99,97,108,108,101,100]⟩,.st (.ref 1531)),
 (⟨#[95,108,97,119,95,102,111,117,110,100]⟩,.st (.ref 1536)),
 (⟨#[95,108,97,119,95,109,101,97,110,116]⟩,.st (.ref 1541)),
 (⟨#[95,108,97,119,95,110,97,109,101]⟩,.st (.ref 1548)),
 (⟨#[95,108,97,119,95,115,116,97,114,114,101,100]⟩,.st (.ref 1555)),
 (⟨#[95,108,97,119,95,99,111,108,117,109,110]⟩,.st (.ref 1562)),
 (⟨#[95,108,97,119,95,111,117,116,112,117,116,115]⟩,.st (.ref 1569)),
 (⟨#[95,108,97,119,95,103,114,111,117,112,115]⟩,.st (.ref 1576)),
 (⟨#[95,108,97,119,95,116,97,103]⟩,.st (.ref 1583)),
 (⟨#[95,108,97,119,95,116,111,108,100]⟩,.st (.ref 1588)),
 (⟨#[95,108,97,119,95,116,111,108,100,95,114,111,119,115,95,114,105,103,104,116]⟩,.st (.ref 1595)),
 (⟨#[108,97,119]⟩,.st (.ref 1600))]
def bTab:List (Str×Value):=[
 (⟨#[108,101,110]⟩,.builtin "len"),
 (⟨#[105,115,105,110,115,116,97,110,99,101]⟩,.builtin "isinstance"),
 (⟨#[99,104,114]⟩,.builtin "chr"),
 (⟨#[111,114,100]⟩,.builtin "ord"),
 (⟨#[109,97,120]⟩,.builtin "max"),
 (⟨#[115,111,114,116,101,100]⟩,.builtin "sorted"),
 (⟨#[97,110,121]⟩,.builtin "any"),
 (⟨#[97,108,108]⟩,.builtin "all"),
 (⟨#[114,97,110,103,101]⟩,.type "range"),
 (⟨#[115,116,114]⟩,.type "str"),
 (⟨#[105,110,116]⟩,.type "int"),
 (⟨#[116,117,112,108,101]⟩,.type "tuple"),
 (⟨#[108,105,115,116]⟩,.type "list"),
 (⟨#[100,105,99,116]⟩,.type "dict"),
 (⟨#[122,105,112]⟩,.type "zip")]
def cTab:List (Str×Addr):=[
(⟨#[76,105,116,101,114,97,108]⟩,181),(⟨#[78,97,109,101]⟩,207),(⟨#[85,110,97,114,121]⟩,259),(⟨#[66,105,110,97,114,121]⟩,285),(⟨#[67,97,108,108]⟩,465),(⟨#[67,111,108,108,97,116,101]⟩,517),(⟨#[82,101,115,117,108,116,67,111,108,117,109,110]⟩,595),(⟨#[83,101,108,101,99,116,83,111,117,114,99,101]⟩,647),(⟨#[74,111,105,110]⟩,673),(⟨#[67,111,114,101]⟩,699),(⟨#[86,97,108,117,101,115]⟩,723),(⟨#[67,111,109,112,111,117,110,100]⟩,749),(⟨#[79,114,100,101,114,84,101,114,109]⟩,775),(⟨#[83,101,108,101,99,116]⟩,801),(⟨#[69,120,112,114,101,115,115,105,111,110,87,114,105,116,101,114]⟩,1029),(⟨#[83,101,108,101,99,116,87,114,105,116,101,114]⟩,1089),(⟨#[67,111,117,110,116,101,114]⟩,1133),(⟨#[83,111,117,114,99,101]⟩,1168),(⟨#[83,99,111,112,101]⟩,1211),(⟨#[82,101,115,111,108,118,101,100]⟩,1313),(⟨#[83,113,108,69,114,114,111,114]⟩,51)]
def mTab:List (Str×List (Str×Addr)):=[
 (⟨#[76,105,116,101,114,97,108]⟩,[(⟨#[114,111,119]⟩,178)]),
 (⟨#[78,97,109,101]⟩,[(⟨#[114,111,119]⟩,204)]),
 (⟨#[85,110,97,114,121]⟩,[(⟨#[114,111,119]⟩,256)]),
 (⟨#[66,105,110,97,114,121]⟩,[(⟨#[114,111,119]⟩,282)]),
 (⟨#[67,97,108,108]⟩,[(⟨#[114,111,119]⟩,462)]),
 (⟨#[67,111,108,108,97,116,101]⟩,[(⟨#[114,111,119]⟩,514)]),
 (⟨#[82,101,115,117,108,116,67,111,108,117,109,110]⟩,[(⟨#[114,111,119]⟩,592)]),
 (⟨#[83,101,108,101,99,116,83,111,117,114,99,101]⟩,[(⟨#[114,111,119]⟩,644)]),
 (⟨#[74,111,105,110]⟩,[(⟨#[114,111,119]⟩,670)]),
 (⟨#[67,111,114,101]⟩,[(⟨#[114,111,119]⟩,696)]),
 (⟨#[86,97,108,117,101,115]⟩,[(⟨#[114,111,119]⟩,720)]),
 (⟨#[67,111,109,112,111,117,110,100]⟩,[(⟨#[114,111,119]⟩,746)]),
 (⟨#[79,114,100,101,114,84,101,114,109]⟩,[(⟨#[114,111,119]⟩,772)]),
 (⟨#[83,101,108,101,99,116]⟩,[(⟨#[114,111,119]⟩,798)]),
 (⟨#[69,120,112,114,101,115,115,105,111,110,87,114,105,116,101,114]⟩,[(⟨#[99,97,115,101]⟩,1026),(⟨#[102,114,101,101]⟩,1005),(⟨#[108,105,115,116,101,100]⟩,998),(⟨#[116,101,115,116]⟩,1019),(⟨#[117,110,97,114,121]⟩,1012),(⟨#[119,114,105,116,101]⟩,993)]),
 (⟨#[83,101,108,101,99,116,87,114,105,116,101,114]⟩,[(⟨#[98,111,100,121]⟩,1072),(⟨#[99,111,108,117,109,110]⟩,1079),(⟨#[115,111,117,114,99,101]⟩,1086),(⟨#[116,101,114,109]⟩,1067),(⟨#[119,114,105,116,101]⟩,1060)]),
 (⟨#[67,111,117,110,116,101,114]⟩,[(⟨#[116,97,107,101]⟩,1130)]),
 (⟨#[83,111,117,114,99,101]⟩,[(⟨#[105,115,95,110,97,109,101,100]⟩,1165),(⟨#[112,108,97,99,101,95,111,102]⟩,1158)]),
 (⟨#[83,99,111,112,101]⟩,[(⟨#[97,108,105,97,115,95,112,108,97,99,101]⟩,1208),(⟨#[102,105,110,100,95,97,108,105,97,115]⟩,1201),(⟨#[102,105,110,100,95,99,111,108,117,109,110]⟩,1194)]),
 (⟨#[82,101,115,111,108,118,101,100]⟩,[])]
def rTab:List (Str×Addr×List Addr):=[
(⟨#[76,105,116,101,114,97,108]⟩,181,[181,155]),(⟨#[78,97,109,101]⟩,207,[207,155]),(⟨#[85,110,97,114,121]⟩,259,[259,155]),(⟨#[66,105,110,97,114,121]⟩,285,[285,155]),(⟨#[67,97,108,108]⟩,465,[465,155]),(⟨#[67,111,108,108,97,116,101]⟩,517,[517,155]),(⟨#[82,101,115,117,108,116,67,111,108,117,109,110]⟩,595,[595]),(⟨#[83,101,108,101,99,116,83,111,117,114,99,101]⟩,647,[647]),(⟨#[74,111,105,110]⟩,673,[673]),(⟨#[67,111,114,101]⟩,699,[699]),(⟨#[86,97,108,117,101,115]⟩,723,[723]),(⟨#[67,111,109,112,111,117,110,100]⟩,749,[749]),(⟨#[79,114,100,101,114,84,101,114,109]⟩,775,[775]),(⟨#[83,101,108,101,99,116]⟩,801,[801]),(⟨#[69,120,112,114,101,115,115,105,111,110,87,114,105,116,101,114]⟩,1029,[1029]),(⟨#[83,101,108,101,99,116,87,114,105,116,101,114]⟩,1089,[1089]),(⟨#[67,111,117,110,116,101,114]⟩,1133,[1133]),(⟨#[83,111,117,114,99,101]⟩,1168,[1168]),(⟨#[83,99,111,112,101]⟩,1211,[1211]),(⟨#[82,101,115,111,108,118,101,100]⟩,1313,[1313])]
def I1:List Addr:=[181,207,259,285,311,337,363,389,415,439,465,491,517,543,569,233,621,647,673,699,723,749]
def fTab:List (Str×List Str):=[
 (⟨#[76,105,116,101,114,97,108]⟩,[⟨#[118,97,108,117,101]⟩]),
 (⟨#[78,97,109,101]⟩,[⟨#[116,97,98,108,101]⟩,⟨#[99,111,108,117,109,110]⟩,⟨#[115,111,117,114,99,101]⟩,⟨#[112,108,97,99,101]⟩,⟨#[100,101,112,116,104]⟩,⟨#[97,102,102,105,110,105,116,121]⟩,⟨#[99,111,108,108,97,116,105,111,110]⟩]),
 (⟨#[85,110,97,114,121]⟩,[⟨#[111,112]⟩,⟨#[111,112,101,114,97,110,100]⟩]),
 (⟨#[66,105,110,97,114,121]⟩,[⟨#[111,112]⟩,⟨#[108,101,102,116]⟩,⟨#[114,105,103,104,116]⟩]),
 (⟨#[67,97,108,108]⟩,[⟨#[110,97,109,101]⟩,⟨#[97,114,103,117,109,101,110,116,115]⟩,⟨#[100,105,115,116,105,110,99,116]⟩,⟨#[115,116,97,114]⟩]),
 (⟨#[67,111,108,108,97,116,101]⟩,[⟨#[118,97,108,117,101]⟩,⟨#[99,111,108,108,97,116,105,111,110]⟩]),
 (⟨#[82,101,115,117,108,116,67,111,108,117,109,110]⟩,[⟨#[118,97,108,117,101]⟩,⟨#[97,108,105,97,115]⟩,⟨#[115,116,97,114,95,116,97,98,108,101]⟩]),
 (⟨#[83,101,108,101,99,116,83,111,117,114,99,101]⟩,[⟨#[115,101,108,101,99,116]⟩,⟨#[97,108,105,97,115]⟩]),
 (⟨#[74,111,105,110]⟩,[⟨#[107,105,110,100]⟩,⟨#[108,101,102,116]⟩,⟨#[114,105,103,104,116]⟩,⟨#[111,110]⟩,⟨#[117,115,105,110,103]⟩]),
 (⟨#[67,111,114,101]⟩,[⟨#[99,111,108,117,109,110,115]⟩,⟨#[100,105,115,116,105,110,99,116]⟩,⟨#[115,111,117,114,99,101]⟩,⟨#[119,104,101,114,101]⟩,⟨#[103,114,111,117,112,115]⟩,⟨#[104,97,118,105,110,103]⟩,⟨#[115,111,117,114,99,101,115]⟩,⟨#[111,117,116,112,117,116,115]⟩,⟨#[115,99,111,112,101]⟩,⟨#[105,115,95,97,103,103,114,101,103,97,116,101]⟩]),
 (⟨#[86,97,108,117,101,115]⟩,[⟨#[114,111,119,115]⟩,⟨#[111,117,116,112,117,116,115]⟩,⟨#[115,99,111,112,101]⟩]),
 (⟨#[67,111,109,112,111,117,110,100]⟩,[⟨#[111,112]⟩,⟨#[108,101,102,116]⟩,⟨#[114,105,103,104,116]⟩,⟨#[111,117,116,112,117,116,115]⟩]),
 (⟨#[79,114,100,101,114,84,101,114,109]⟩,[⟨#[118,97,108,117,101]⟩,⟨#[100,101,115,99,101,110,100,105,110,103]⟩,⟨#[112,108,97,99,101]⟩]),
 (⟨#[83,101,108,101,99,116]⟩,[⟨#[98,111,100,121]⟩,⟨#[111,114,100,101,114]⟩,⟨#[108,105,109,105,116]⟩,⟨#[111,102,102,115,101,116]⟩]),
 (⟨#[69,120,112,114,101,115,115,105,111,110,87,114,105,116,101,114]⟩,[⟨#[115,101,108,101,99,116,115]⟩]),
 (⟨#[83,101,108,101,99,116,87,114,105,116,101,114]⟩,[⟨#[101,120,112,114,101,115,115,105,111,110,115]⟩]),
 (⟨#[67,111,117,110,116,101,114]⟩,[⟨#[108,97,115,116]⟩]),
 (⟨#[83,111,117,114,99,101]⟩,[⟨#[110,117,109,98,101,114]⟩,⟨#[97,108,105,97,115]⟩,⟨#[116,97,98,108,101]⟩,⟨#[99,111,108,117,109,110,115]⟩,⟨#[115,101,108,101,99,116]⟩,⟨#[107,105,110,100]⟩,⟨#[104,105,110,116]⟩,⟨#[111,110]⟩,⟨#[117,115,105,110,103]⟩]),
 (⟨#[83,99,111,112,101]⟩,[⟨#[115,111,117,114,99,101,115]⟩,⟨#[112,97,114,101,110,116]⟩,⟨#[97,108,105,97,115,101,115]⟩,⟨#[99,97,116,97,108,111,103]⟩,⟨#[99,111,117,110,116,101,114]⟩,⟨#[111,117,116,101,114]⟩]),
 (⟨#[82,101,115,111,108,118,101,100]⟩,[⟨#[98,111,100,121]⟩,⟨#[111,117,116,112,117,116,115]⟩,⟨#[111,117,116,101,114]⟩,⟨#[111,114,100,101,114]⟩,⟨#[108,105,109,105,116]⟩,⟨#[111,102,102,115,101,116]⟩])]
def kTab:List (Addr×List Str):=[
 (910,[⟨#[65,68,68]⟩,⟨#[65,76,76]⟩,⟨#[65,76,84,69,82]⟩,⟨#[65,78,68]⟩,⟨#[65,83]⟩,⟨#[65,85,84,79,73,78,67,82,69,77,69,78,84]⟩,⟨#[66,69,84,87,69,69,78]⟩,⟨#[67,65,83,69]⟩,⟨#[67,72,69,67,75]⟩,⟨#[67,79,76,76,65,84,69]⟩,⟨#[67,79,77,77,73,84]⟩,⟨#[67,79,78,83,84,82,65,73,78,84]⟩,⟨#[67,82,69,65,84,69]⟩,⟨#[68,69,70,65,85,76,84]⟩,⟨#[68,69,70,69,82,82,65,66,76,69]⟩,⟨#[68,69,76,69,84,69]⟩,⟨#[68,73,83,84,73,78,67,84]⟩,⟨#[68,82,79,80]⟩,⟨#[69,76,83,69]⟩,⟨#[69,83,67,65,80,69]⟩,⟨#[69,88,67,69,80,84]⟩,⟨#[69,88,73,83,84,83]⟩,⟨#[70,79,82,69,73,71,78]⟩,⟨#[70,82,79,77]⟩,⟨#[71,82,79,85,80]⟩,⟨#[72,65,86,73,78,71]⟩,⟨#[73,78]⟩,⟨#[73,78,68,69,88]⟩,⟨#[73,78,83,69,82,84]⟩,⟨#[73,78,84,69,82,83,69,67,84]⟩,⟨#[73,78,84,79]⟩,⟨#[73,83]⟩,⟨#[73,83,78,85,76,76]⟩,⟨#[74,79,73,78]⟩,⟨#[76,73,77,73,84]⟩,⟨#[78,79,84]⟩,⟨#[78,79,84,72,73,78,71]⟩,⟨#[78,79,84,78,85,76,76]⟩,⟨#[78,85,76,76]⟩,⟨#[79,78]⟩,⟨#[79,82]⟩,⟨#[79,82,68,69,82]⟩,⟨#[80,82,73,77,65,82,89]⟩,⟨#[82,69,70,69,82,69,78,67,69,83]⟩,⟨#[82,69,84,85,82,78,73,78,71]⟩,⟨#[83,69,76,69,67,84]⟩,⟨#[83,69,84]⟩,⟨#[84,65,66,76,69]⟩,⟨#[84,72,69,78]⟩,⟨#[84,79]⟩,⟨#[84,82,65,78,83,65,67,84,73,79,78]⟩,⟨#[85,78,73,79,78]⟩,⟨#[85,78,73,81,85,69]⟩,⟨#[85,80,68,65,84,69]⟩,⟨#[85,83,73,78,71]⟩,⟨#[86,65,76,85,69,83]⟩,⟨#[87,72,69,78]⟩,⟨#[87,72,69,82,69]⟩]),
 (911,[⟨#[67,82,79,83,83]⟩,⟨#[70,85,76,76]⟩,⟨#[73,78,68,69,88,69,68]⟩,⟨#[73,78,78,69,82]⟩,⟨#[76,69,70,84]⟩,⟨#[78,65,84,85,82,65,76]⟩,⟨#[79,85,84,69,82]⟩,⟨#[82,73,71,72,84]⟩]),
 (931,[⟨#[65,66,79,82,84]⟩,⟨#[65,83,67]⟩,⟨#[66,69,71,73,78]⟩,⟨#[66,89]⟩,⟨#[67,65,83,84]⟩,⟨#[68,69,70,69,82,82,69,68]⟩,⟨#[68,69,83,67]⟩,⟨#[69,78,68]⟩,⟨#[69,88,67,76,85,83,73,86,69]⟩,⟨#[69,88,80,76,65,73,78]⟩,⟨#[70,65,73,76]⟩,⟨#[71,76,79,66]⟩,⟨#[73,70]⟩,⟨#[73,71,78,79,82,69]⟩,⟨#[73,77,77,69,68,73,65,84,69]⟩,⟨#[75,69,89]⟩,⟨#[76,73,75,69]⟩,⟨#[79,70,70,83,69,84]⟩,⟨#[80,82,65,71,77,65]⟩,⟨#[82,69,76,69,65,83,69]⟩,⟨#[82,69,80,76,65,67,69]⟩,⟨#[82,79,76,76,66,65,67,75]⟩,⟨#[83,65,86,69,80,79,73,78,84]⟩,⟨#[84,79]⟩,⟨#[84,82,65,78,83,65,67,84,73,79,78]⟩,⟨#[86,65,67,85,85,77]⟩,⟨#[87,73,84,72,79,85,84]⟩]),
 (1101,[⟨#[114,111,119,105,100]⟩,⟨#[111,105,100]⟩,⟨#[95,114,111,119,105,100,95]⟩]),
 (1102,[⟨#[98,105,110,97,114,121]⟩,⟨#[110,111,99,97,115,101]⟩,⟨#[114,116,114,105,109]⟩])]
def txL:Tx:={ globs:=gTab++bTab.map fun p=>(p.1,CV.st p.2),meths:=mTab,mro:=rTab,clss:=I1,flds:=fTab,ktups:=kTab }
def bS(o:Obj):FuncData:=match o.data with|.func fd=>fd|_=>Classical.choice ⟨fnX "" "" ⟨[],[],none,[],[],none,[]⟩ [] default [] .none .none .none .none none .none .none⟩
def yq(fd:FuncData):List Stmt:=match fd.body with|.stmts b=>b|_=>[]
def fi(o:Obj)(ps:List Str)(df:List (Str×CV)):FnI:=⟨ps,df,yq (bS o),(bS o).scope⟩
structure Ok(D:Wd):Prop where
 K:D.K=KL D.w.params
 cls:D.cls=fun x=>lkA x cTab
def uu(K:Frag)(p:Str×CV):Bool:=match p.2 with
 |.st v=>nsIn K mainGlobals p.1 == some (some v)&&handedIn v && !(v == Value.none)
 |.int i=>match nsIn K mainGlobals p.1 with
  |some (some (.int j _))=>i == j
  |_=>false
 |.str s=>match nsIn K mainGlobals p.1 with
  |some (some (.str j _))=>s == j
  |_=>false
 |_=>false
def yu(K:Frag)(p:Str×Value):Bool:=nsIn K mainGlobals p.1 == some none&&bootBuiltins p.1 == some p.2 && !(p.1 == ("__name__" : Str))&&handedIn p.2 && !(p.2 == Value.none)&&cU K p.2
theorem I2(P:Params):gTab.all (uu (KL P))=true:=by kernel_rfl
theorem Ja(P:Params):bTab.all (yu (KL P))=true:=by kernel_rfl
theorem I8:((gTab++bTab.map fun p=>(p.1,CV.st p.2)).all fun p=>!(p.1 == ("__debug__" : Str)))=true:=by kernel_rfl
theorem I3(P:Params):(fTab.all fun p=>match lkA p.1 cTab with
 |some C=>p.2.all fun x=>qG (KL P) C x&&tX (KL P) C x
 |none=>false)=true:=by kernel_rfl
theorem GU(P:Params):(mTab.all fun p=>match lkA p.1 cTab with
 |some C=>p.2.all fun x=>o5 (KL P) C x.1 x.2&&cU (KL P) (.ref x.2)
 |none=>false)=true:=by kernel_rfl
theorem I0(P:Params):pd (KL P) txL=true:=by kernel_rfl
theorem IL:(rTab.all fun p=>lkA p.1 cTab == some p.2.1)=true:=by kernel_rfl
theorem IZ(P:Params):(kTab.all fun p=>match (KL P).lookup p.1 with
 |some ⟨c,none,.seq items _,sl⟩=>c == .type "tuple" && sl.isEmpty&&jt items.toList == some p.2
 |_=>false)=true:=by kernel_rfl
theorem Ad{α:Type}{x:Str}{a b:List (Str×α)}{v:α}(h:lkA x (a++b)=some v):(x,v)∈a∨lkA x b=some v:=by
 induction a with
 |nil=>exact .inr h
 |cons p r ih=>
  obtain⟨y,c⟩:=p
  rw[List.cons_append] at h
  unfold lkA at h
  by_cases q:y=x
  ·rw[sEq_iff.mpr q] at h;cases h;subst q;exact .inl (.head _)
  ·rw[sEq_false.mpr q] at h
   exact(ih h).imp (fun z=>.tail _ z) id
theorem ud{α:Type}{x:Nat}{v:α}:∀{l:List (Nat×α)},lkN x l=some v→(x,v)∈l
 |[],h=>by cases h
 |(y,c)::r,h=>by
  unfold lkN at h
  cases q:Nat.beq y x with
  |true=>rw[q] at h;cases h;have:=Nat.eq_of_beq_eq_true q;subst this;exact .head _
  |false=>rw[q] at h;exact .tail _ (ud h)
theorem sC{D:Wd}(h:Ok D):tL D 51 35∧Fb D 51:=by
 refine⟨⟨⟨by rw[h.cls];kernel_rfl,by rw[h.K];kernel_rfl,by rw[h.K];kernel_rfl⟩,⟨"SqlError","SqlError",50,[.ref 38],[.ref 38,.type "Exception",.type "BaseException",.type "object"],true,[],[],false,none,none,some (.ref 42),none,some (.str "SqlError" 225),some (.str "SqlError" 233),some (.bool true),by rw[h.K];kernel_rfl,by kernel_rfl,by kernel_rfl,by kernel_rfl⟩,
  by rw[h.K];kernel_rfl,by rw[h.K];kernel_rfl,by rw[h.K];kernel_rfl,by rw[h.K];kernel_rfl,by rw[h.K];kernel_rfl,by rw[h.K];kernel_rfl,?_⟩,⟨by rw[h.K];kernel_rfl,by rw[h.K];kernel_rfl,by rw[h.K];kernel_rfl,by rw[h.K];kernel_rfl,by rw[h.K];kernel_rfl⟩⟩
 exact⟨{ name:= "SqlError",bases:=[.ref 38],mro:=[.ref 51,.ref 38,.type "Exception",.type "BaseException",.type "object"],ns:=50,qualname:= "SqlError" },[.ref 51,.ref 38],by rw[h.K];kernel_rfl,rfl,rfl,fun v hv=>by
  rcases List.mem_cons.mp hv with rfl|hv
  ·exact⟨_,rfl⟩
  ·rw[List.mem_singleton.mp hv];exact⟨_,rfl⟩⟩
theorem Iq{D:Wd}(h:Ok D):rD D txL:=by
 refine⟨fun x c e=>?_,fun x c e=>?_,fun cn l x e hx=>?_,fun cn ms x fa e1 e2=>?_,?_,fun cn p e=>?_,fun a l e=>?_,⟨51,35,(sC h).1,(sC h).2,?_⟩⟩
 ·rw[h.K]
  rcases Ad e with e|e
  ·have:=List.all_eq_true.mp (I2 D.w.params) _ e
   unfold uu at this
   split at this
   ·simp only[Bool.and_eq_true,beq_iff_eq,Bool.not_eq_true'] at this
    rename_i v hv
    dsimp only at hv
    subst hv
    exact .inl ⟨v,this.1.1,.st v this.1.2 this.2⟩
   ·rename_i i hv
    dsimp only at hv
    subst hv
    split at this
    ·rename_i j t hn
     rw[beq_iff_eq] at this;subst this
     exact .inl ⟨_,hn,.int _ _⟩
    ·cases this
   ·rename_i i hv
    dsimp only at hv
    subst hv
    split at this
    ·rename_i j t hn
     rw[beq_iff_eq] at this;subst this
     exact .inl ⟨_,hn,.str _ _⟩
    ·cases this
   ·cases this
  ·have hm:=cJ e
   obtain⟨p,hp,hq⟩:=List.mem_map.mp hm
   cases hq
   have:=List.all_eq_true.mp (Ja D.w.params) _ hp
   unfold yu at this
   simp only[Bool.and_eq_true,beq_iff_eq,Bool.not_eq_true',beq_eq_false_iff_ne] at this
   exact .inr ⟨p.2,this.1.1.1.1.1,rfl,this.1.1.1.1.2,this.1.1.1.2,this.1.1.2,by simpa using this.1.2⟩
 ·have:=List.all_eq_true.mp I8 _ (cJ e)
  simpa using this
 ·intro C hC
  rw[h.cls] at hC
  have:=List.all_eq_true.mp (I3 D.w.params) _ (cJ e)
  simp only[hC] at this
  have:=List.all_eq_true.mp this x hx
  rw[h.K]
  exact⟨(Bool.and_eq_true_iff.mp this).1,(Bool.and_eq_true_iff.mp this).2⟩
 ·have hm:∀C,D.cls cn=some C→o5 (KL D.w.params) C x fa=true∧cU (KL D.w.params) (.ref fa)=true:=fun C hC=>by
   rw[h.cls] at hC
   have:=List.all_eq_true.mp (GU D.w.params) _ (cJ e1)
   simp only[hC] at this
   have:=List.all_eq_true.mp this _ (cJ e2)
   exact Bool.and_eq_true_iff.mp this
  have hs:∃C,D.cls cn=some C:=by
   rw[h.cls]
   have:=List.all_eq_true.mp (GU D.w.params) _ (cJ e1)
   dsimp only at this
   split at this
   ·rename_i C hC;exact⟨C,hC⟩
   ·cases this
  obtain⟨C,hC⟩:=hs
  exact⟨fun C' hC'=>h.K▸(hm C' hC').1,h.K▸(hm C hC).2⟩
 ·rw[h.K];exact I0 _
 ·rw[h.cls]
  have:=List.all_eq_true.mp IL _ (cJ e)
  simpa using this
 ·have:=List.all_eq_true.mp (IZ D.w.params) _ (ud e)
  rw[←h.K] at this
  dsimp only at this
  split at this
  ·rename_i c items n sl hl
   simp only[Bool.and_eq_true,beq_iff_eq] at this
   obtain⟨⟨rfl,q⟩,r⟩:=this
   have hs:sl = #[]:=Array.isEmpty_iff.mp q
   subst hs
   exact⟨items.toList,n,by rw[hl],r⟩
  ·cases this
 ·rw[h.K];kernel_rfl
theorem ky{α:Type}{l:List α}(h:l.length=1):∃a,l=[a]:=by
 match l,h with
 |[a],_=>exact⟨a,rfl⟩
theorem jb{α:Type}{l:List α}{n:Nat}(h:l.length=n+1):∃a r,l=a::r∧r.length=n:=by
 match l,h with
 |a::r,h=>exact⟨a,r,rfl,by simpa using h⟩
theorem pb{α:Type}{l:List α}(h:l.length=2):∃a b,l=[a,b]:=by
 obtain⟨a,r,rfl,h'⟩:=jb h;obtain⟨b,rfl⟩:=ky h';exact⟨a,b,rfl⟩
theorem xL{α:Type}{l:List α}(h:l.length=3):∃a b c,l=[a,b,c]:=by
 obtain⟨a,r,rfl,h'⟩:=jb h;obtain⟨b,c,rfl⟩:=pb h';exact⟨a,b,c,rfl⟩
theorem xK{α:Type}{l:List α}(h:l.length=4):∃a b c d,l=[a,b,c,d]:=by
 obtain⟨a,r,rfl,h'⟩:=jb h;obtain⟨b,c,d,rfl⟩:=xL h';exact⟨a,b,c,d,rfl⟩
theorem xJ{α:Type}{l:List α}(h:l.length=5):∃a b c d e,l=[a,b,c,d,e]:=by
 obtain⟨a,r,rfl,h'⟩:=jb h;obtain⟨b,c,d,e,rfl⟩:=xK h';exact⟨a,b,c,d,e,rfl⟩
theorem sg{α:Type}{l:List α}(h:l.length=6):∃a b c d e f,l=[a,b,c,d,e,f]:=by
 obtain⟨a,r,rfl,h'⟩:=jb h;obtain⟨b,c,d,e,f,rfl⟩:=xJ h';exact⟨a,b,c,d,e,f,rfl⟩
theorem pa{α:Type}{l:List α}(h:l.length=7):∃a b c d e f g,l=[a,b,c,d,e,f,g]:=by
 obtain⟨a,r,rfl,h'⟩:=jb h;obtain⟨b,c,d,e,f,g,rfl⟩:=sg h';exact⟨a,b,c,d,e,f,g,rfl⟩
theorem DM{α:Type}{l:List α}(h:l.length=8):∃a b c d e f g i,l=[a,b,c,d,e,f,g,i]:=by
 obtain⟨a,r,rfl,h'⟩:=jb h;obtain⟨b,c,d,e,f,g,i,rfl⟩:=pa h';exact⟨a,b,c,d,e,f,g,i,rfl⟩
def ue(sc:Scope)(l:List Str):Bool:=l.all fun x=>sc.names.lookup x == some .local||sc.names.lookup x == some .cell
theorem tO{α:Type}:∀{ps:List Str} {cs:List α},ps.length=cs.length→(ps.zip cs).map (·.1)=ps
 |[],[],_=>rfl
 |p::ps,c::cs,h=>by rw[List.zip_cons_cons,List.map_cons,tO (by simpa using h)]
theorem ft{D:Wd}{fa:Addr}{o:Obj}{ps:List Str}{df:List (Str×CV)}{dfv:List (Str×Value)}{n:Nat}
  (h1:D.K.lookup fa=some ⟨o.cls,o.dict,.func (bS o),o.slots⟩)
  (h2:bS o=fnX (bS o).name (bS o).qualname (bS o).params (yq (bS o)) (bS o).scope [] (bS o).defaults (bS o).kwdefaults (bS o).doc (bS o).pyModule (bS o).annotations (bS o).code (bS o).closureTuple)
  (h3:codeIn D.K (bS o).code (bS o).qualname=true) (h4:(!(bS o).scope.isCoroutine && !(bS o).scope.isGenerator&&(bS o).scope.kind == .function)=true) (h5:decide ((cellsFrom 0 (bS o).scope.names []).map (·.1)).Nodup=true)
  (hn:ps.length=n) (nd:fW (ps++df.map (·.1))=true) (kn:ue (bS o).scope (ps++df.map (·.1))=true) (keep:cU D.K (.ref fa)=true)
  (hd:∀cls fz,BdR cls fz df dfv) (hb:∀(s:Shared) (vs:List Value),D.K.In s.heap→vs.length=n→BindsTo s (bS o) ⟨vs,[]⟩ (ps.zip vs++dfv)):az D fa (fi o ps df) n []:=by
 simp only[Bool.and_eq_true,Bool.not_eq_true',beq_iff_eq] at h4
 refine⟨⟨_,_,bS o,⟨⟨_,_,_,_,_,_,_,_,_,_,_,h1,h2⟩,h3,h4.1.1,h4.1.2,h4.2,of_decide_eq_true h5⟩,fun cs=>ps.zip cs++df,fun fz s vs ks cs ck X r rk hl hk=>?_,fun as args cs r hl=>E5 r,fun cs hl=>?_⟩,keep⟩
 ·have:ck=[]:=List.length_eq_zero_iff.mp hk
  subst this
  cases rk
  refine⟨_,hb s vs X (by rw[←r.length];exact hl),?_⟩
  rw[List.append_nil]
  exact BdR.zip r (hd _ _)
 ·have e:(ps.zip cs++df).map (·.1)=ps++df.map (·.1):=by rw[List.map_append,tO (by rw[hn,hl];rfl)]
  rw[e]
  refine⟨allDif_iff.mp nd,?_⟩
  unfold ue at kn
  rw[←e,List.all_map] at kn
  exact kn
section
local macro_rules | `(tactic| walk_at "f")=>`(tactic| (
 refine ft (dfv:=[]) (by rw[h.K];kernel_rfl) (by kernel_rfl) (by rw[h.K];kernel_rfl) (by kernel_rfl) (by kernel_rfl) rfl (by kernel_rfl) (by kernel_rfl) (by rw[h.K];kernel_rfl) (fun cls fz=>.nil) (fun s vs X hl=>?_)
 first
  |obtain⟨v0,rfl⟩:=ky hl
  |obtain⟨v0,v1,rfl⟩:=pb hl
  |obtain⟨v0,v1,v2,rfl⟩:=xL hl
  |obtain⟨v0,v1,v2,v3,rfl⟩:=xK hl
  |obtain⟨v0,v1,v2,v3,v4,rfl⟩:=xJ hl
  |obtain⟨v0,v1,v2,v3,v4,v5,rfl⟩:=sg hl
  |obtain⟨v0,v1,v2,v3,v4,v5,v6,rfl⟩:=pa hl
  |obtain⟨v0,v1,v2,v3,v4,v5,v6,v7,rfl⟩:=DM hl
  |obtain rfl:=List.length_eq_zero_iff.mp hl
 exact kp_binds X (by intro S;rw[h.K];kernel_rfl)))
section
variable {D:Wd}
def zp(P:Params):FnI:=fi (tp.o_100 P) ["bounds","many"] []
theorem E9(h:Ok D):az D 96 (zp D.w.params) 2 []:=by walk_at "f"
def gR(P:Params):FnI:=fi (tp.o_108 P) ["name","many","star"] []
theorem nr(h:Ok D):az D 104 (gR D.w.params) 3 []:=by walk_at "f"
def j5(P:Params):FnI:=fi (tp.o_116 P) ["name","many","star"] []
theorem pB(h:Ok D):az D 112 (j5 D.w.params) 3 []:=by walk_at "f"
def zo(P:Params):FnI:=fi (tp.o_935 P) ["name"] []
theorem zr(h:Ok D):az D 822 (zo D.w.params) 1 []:=by walk_at "f"
def nk(P:Params):FnI:=fi (tp.o_945 P) ["expr"] []
theorem tJ(h:Ok D):az D 829 (nk D.w.params) 1 []:=by walk_at "f"
def kH(P:Params):FnI:=fi (tp.o_952 P) ["expr","parts"] []
theorem kK(h:Ok D):az D 836 (kH D.w.params) 2 []:=by walk_at "f"
def bG(P:Params):FnI:=fi (tp.o_966 P) ["expr"] []
theorem cB(h:Ok D):az D 850 (bG D.w.params) 1 []:=by walk_at "f"
def bz(P:Params):FnI:=fi (tp.o_973 P) ["expr"] []
theorem bA(h:Ok D):az D 857 (bz D.w.params) 1 []:=by walk_at "f"
def ch(P:Params):FnI:=fi (tp.o_1008 P) ["expr"] []
theorem dy(h:Ok D):az D 892 (ch D.w.params) 1 []:=by walk_at "f"
def d6(P:Params):FnI:=fi (tp.o_1015 P) ["expr"] []
theorem jo(h:Ok D):az D 899 (d6 D.w.params) 1 []:=by walk_at "f"
def rI(P:Params):FnI:=fi (tp.o_1039 P) ["text"] []
theorem zq(h:Ok D):az D 916 (rI D.w.params) 1 []:=by walk_at "f"
def iP(P:Params):FnI:=fi (tp.o_1046 P) ["sign"] []
theorem nO(h:Ok D):az D 923 (iP D.w.params) 1 []:=by walk_at "f"
def gS(P:Params):FnI:=fi (tp.o_1053 P) ["sign"] []
theorem nt(h:Ok D):az D 930 (gS D.w.params) 1 []:=by walk_at "f"
def oz(P:Params):FnI:=fi (tp.o_1066 P) ["name"] []
theorem wg(h:Ok D):az D 938 (oz D.w.params) 1 []:=by walk_at "f"
def jZ(P:Params):FnI:=fi (tp.o_1073 P) ["name"] []
theorem pA(h:Ok D):az D 945 (jZ D.w.params) 1 []:=by walk_at "f"
def iN(P:Params):FnI:=fi (tp.o_1085 P) ["value"] []
theorem nN(h:Ok D):az D 957 (iN D.w.params) 1 []:=by walk_at "f"
def nj(P:Params):FnI:=fi (tp.o_1099 P) ["node"] []
theorem tI(h:Ok D):az D 971 (nj D.w.params) 1 []:=by walk_at "f"
def bc(P:Params):FnI:=fi (tp.o_1242 P) ["node"] []
theorem cM(h:Ok D):az D 1100 (bc D.w.params) 1 []:=by walk_at "f"
def gO(P:Params):FnI:=fi (tp.o_1370 P) ["node"] []
theorem nq(h:Ok D):az D 1222 (gO D.w.params) 1 []:=by walk_at "f"
def dM(P:Params):FnI:=fi (tp.o_1377 P) ["node","source","place","depth"] []
theorem j7(h:Ok D):az D 1229 (dM D.w.params) 4 []:=by walk_at "f"
def gj(P:Params):FnI:=fi (tp.o_1393 P) ["resolved","alias","number","kind"] []
theorem gm(h:Ok D):az D 1242 (gj D.w.params) 4 []:=by walk_at "f"
def gQ(P:Params):FnI:=fi (tp.o_1400 P) ["node","scope"] []
theorem g7(h:Ok D):az D 1249 (gQ D.w.params) 2 []:=by walk_at "f"
def d5(P:Params):FnI:=fi (tp.o_1407 P) ["expr"] []
theorem g8(h:Ok D):az D 1256 (d5 D.w.params) 1 []:=by walk_at "f"
def kI(P:Params):FnI:=fi (tp.o_1414 P) ["expr"] []
theorem kL(h:Ok D):az D 1263 (kI D.w.params) 1 []:=by walk_at "f"
def ce(P:Params):FnI:=fi (tp.o_1419 P) ["expr","scope"] []
theorem bC(h:Ok D):az D 1268 (ce D.w.params) 2 []:=by walk_at "f"
def bo(P:Params):FnI:=fi (tp.o_1481 P) ["node","kind"] []
theorem aS(h:Ok D):az D 1324 (bo D.w.params) 2 []:=by walk_at "f"
def iO(P:Params):FnI:=fi (tp.o_1495 P) ["node","kind","scope"] []
theorem iS(h:Ok D):az D 1338 (iO D.w.params) 3 []:=by walk_at "f"
def b7(P:Params):FnI:=fi (tp.o_1507 P) ["column","source","scope"] []
theorem eN(h:Ok D):az D 1350 (b7 D.w.params) 3 []:=by walk_at "f"
def d4(P:Params):FnI:=fi (tp.o_1512 P) ["node","scope"] []
theorem cY(h:Ok D):az D 1355 (d4 D.w.params) 2 []:=by walk_at "f"
def gP(P:Params):FnI:=fi (tp.o_1519 P) ["column","scope"] []
theorem g6(h:Ok D):az D 1362 (gP D.w.params) 2 []:=by walk_at "f"
def bY(P:Params):FnI:=fi (tp.o_1526 P) ["column","expr","scope"] []
theorem cH(h:Ok D):az D 1369 (bY D.w.params) 3 []:=by walk_at "f"
def bt(P:Params):FnI:=fi (tp.o_1533 P) ["columns","scope"] []
theorem cZ(h:Ok D):az D 1376 (bt D.w.params) 2 []:=by walk_at "f"
def ow(P:Params):FnI:=fi (tp.o_1540 P) ["number"] []
theorem wf(h:Ok D):az D 1383 (ow D.w.params) 1 []:=by walk_at "f"
def bU(P:Params):FnI:=fi (tp.o_1547 P) ["expr","outputs","count","clause"] []
theorem f8(h:Ok D):az D 1390 (bU D.w.params) 4 []:=by walk_at "f"
def cF(P:Params):FnI:=fi (tp.o_1564 P) ["groups","outputs","scope"] []
theorem dg(h:Ok D):az D 1404 (cF D.w.params) 3 []:=by walk_at "f"
def cg(P:Params):FnI:=fi (tp.o_1569 P) ["core","catalog","parent","counter"] []
theorem cX(h:Ok D):az D 1409 (cg D.w.params) 4 []:=by walk_at "f"
def dZ(P:Params):FnI:=fi (tp.o_1581 P) ["body","catalog","parent","counter"] []
theorem ef(h:Ok D):az D 1421 (dZ D.w.params) 4 []:=by walk_at "f"
def fX(P:Params):FnI:=fi (tp.o_1588 P) ["body"] []
theorem f9(h:Ok D):az D 1428 (fX D.w.params) 1 []:=by walk_at "f"
def fY(P:Params):FnI:=fi (tp.o_1602 P) ["terms","core"] []
theorem gb(h:Ok D):az D 1442 (fY D.w.params) 2 []:=by walk_at "f"
def gU(P:Params):FnI:=fi (tp.o_1651 P) ["script","k"] []
theorem ln(h:Ok D):az D 1488 (gU D.w.params) 2 []:=by walk_at "f"
def li(P:Params):FnI:=fi (tp.o_1658 P) ["source","top"] []
theorem lm(h:Ok D):az D 1495 (li D.w.params) 2 []:=by walk_at "f"
def nn(P:Params):FnI:=fi (tp.o_1665 P) ["source","things"] []
theorem nv(h:Ok D):az D 1502 (nn D.w.params) 2 []:=by walk_at "f"
def gW(P:Params):FnI:=fi (tp.o_1672 P) ["source","name"] []
theorem hV(h:Ok D):az D 1509 (gW D.w.params) 2 []:=by walk_at "f"
def eX(P:Params):FnI:=fi (tp.o_1677 P) ["names"] []
theorem iT(h:Ok D):az D 1514 (eX D.w.params) 1 []:=by walk_at "f"
def ll(P:Params):FnI:=fi (tp.o_1682 P) ["source"] []
theorem lq(h:Ok D):az D 1519 (ll D.w.params) 1 []:=by walk_at "f"
def cr(P:Params):FnI:=fi (tp.o_1687 P) ["rows"] []
theorem fy(h:Ok D):az D 1524 (cr D.w.params) 1 []:=by walk_at "f"
def fq(P:Params):FnI:=fi (tp.o_1694 P) ["alias","table"] []
theorem fx(h:Ok D):az D 1531 (fq D.w.params) 2 []:=by walk_at "f"
def j6(P:Params):FnI:=fi (tp.o_1699 P) ["rows","table","column"] []
theorem j8(h:Ok D):az D 1536 (j6 D.w.params) 3 []:=by walk_at "f"
def fZ(P:Params):FnI:=fi (tp.o_1704 P) ["rows","aliases","table","column"] []
theorem gc(h:Ok D):az D 1541 (fZ D.w.params) 4 []:=by walk_at "f"
def lj(P:Params):FnI:=fi (tp.o_1711 P) ["source"] []
theorem lp(h:Ok D):az D 1548 (lj D.w.params) 1 []:=by walk_at "f"
def gT(P:Params):FnI:=fi (tp.o_1721 P) ["rows","table"] []
theorem hG(h:Ok D):az D 1555 (gT D.w.params) 2 []:=by walk_at "f"
def iR(P:Params):FnI:=fi (tp.o_1728 P) ["source","rows"] []
theorem iU(h:Ok D):az D 1562 (iR D.w.params) 2 []:=by walk_at "f"
def gV(P:Params):FnI:=fi (tp.o_1735 P) ["source","rows"] []
theorem hO(h:Ok D):az D 1569 (gV D.w.params) 2 []:=by walk_at "f"
def iQ(P:Params):FnI:=fi (tp.o_1742 P) ["source","rows","outputs","aliases"] []
theorem e9(h:Ok D):az D 1576 (iQ D.w.params) 4 []:=by walk_at "f"
def nl(P:Params):FnI:=fi (tp.o_1749 P) ["expr"] []
theorem nu(h:Ok D):az D 1583 (nl D.w.params) 1 []:=by walk_at "f"
def lh(P:Params):FnI:=fi (tp.o_1754 P) ["columns","node","groups"] []
theorem g9(h:Ok D):az D 1588 (lh D.w.params) 3 []:=by walk_at "f"
def bn(P:Params):FnI:=fi (tp.o_1761 P) [] []
theorem c8(h:Ok D):az D 1595 (bn D.w.params) 0 []:=by walk_at "f"
def rH(P:Params):FnI:=fi (tp.o_1766 P) ["script"] []
theorem F_law(h:Ok D):az D 1600 (rH D.w.params) 1 []:=by walk_at "f"
def bK(P:Params):FnI:=fi (tp.o_1116 P) ["self","selects"] []
theorem cR(h:Ok D):az D 985 (bK D.w.params) 2 []:=by walk_at "f"
def cQ(P:Params):FnI:=fi (tp.o_1136 P) ["self","node"] []
theorem fB(h:Ok D):az D 1005 (cQ D.w.params) 2 []:=by walk_at "f"
def cw(P:Params):FnI:=fi (tp.o_1194 P) ["self"] []
theorem dG(h:Ok D):az D 1055 (cw D.w.params) 1 []:=by walk_at "f"
def ee(P:Params):FnI:=fi (tp.o_1265 P) ["self"] []
theorem h9(h:Ok D):az D 1123 (ee D.w.params) 1 []:=by walk_at "f"
def eb(P:Params):FnI:=fi (tp.o_1272 P) ["self"] []
theorem ej(h:Ok D):az D 1130 (eb D.w.params) 1 []:=by walk_at "f"
def eY(P:Params):FnI:=fi (tp.o_1296 P) ["self","number","alias","table","columns","select","kind","hint"] []
theorem iV(h:Ok D):az D 1151 (eY D.w.params) 8 []:=by walk_at "f"
def eK(P:Params):FnI:=fi (tp.o_1303 P) ["self","name"] []
theorem eO(h:Ok D):az D 1158 (eK D.w.params) 2 []:=by walk_at "f"
def eL(P:Params):FnI:=fi (tp.o_1310 P) ["self","name"] []
theorem eP(h:Ok D):az D 1165 (eL D.w.params) 2 []:=by walk_at "f"
def f0(P:Params):FnI:=fi (tp.o_1335 P) ["self","sources","parent","aliases","catalog","counter"] []
theorem j9(h:Ok D):az D 1187 (f0 D.w.params) 6 []:=by walk_at "f"
def dF(P:Params):FnI:=fi (tp.o_1342 P) ["self","table","column"] []
theorem dI(h:Ok D):az D 1194 (dF D.w.params) 3 []:=by walk_at "f"
def d8(P:Params):FnI:=fi (tp.o_1349 P) ["self","name"] []
theorem ei(h:Ok D):az D 1201 (d8 D.w.params) 2 []:=by walk_at "f"
def dD(P:Params):FnI:=fi (tp.o_1450 P) ["self","body","outputs","outer"] []
theorem gp(h:Ok D):az D 1296 (dD D.w.params) 4 []:=by walk_at "f"
def d9(P:Params):FnI:=fi (tp.o_188 P) ["self","value"] []
theorem h8(h:Ok D):az D 171 (d9 D.w.params) 2 []:=by walk_at "f"
def gX(P:Params):FnI:=fi (tp.o_218 P) ["self","table","column"] []
theorem lr(h:Ok D):az D 197 (gX D.w.params) 3 []:=by walk_at "f"
def g5(P:Params):FnI:=fi (tp.o_516 P) ["self","name","arguments","distinct","star"] []
theorem lw(h:Ok D):az D 455 (g5 D.w.params) 5 []:=by walk_at "f"
def cA(P:Params):FnI:=fi (tp.o_666 P) ["self","value","alias","star_table"] []
theorem dJ(h:Ok D):az D 585 (cA D.w.params) 4 []:=by walk_at "f"
def cz(P:Params):FnI:=fi (tp.o_726 P) ["self","select","alias"] []
theorem dH(h:Ok D):az D 637 (cz D.w.params) 3 []:=by walk_at "f"
def gY(P:Params):FnI:=fi (tp.o_756 P) ["self","kind","left","right","on","using"] []
theorem ls(h:Ok D):az D 663 (gY D.w.params) 6 []:=by walk_at "f"
def eZ(P:Params):FnI:=fi (tp.o_904 P) ["self","body","order","limit","offset"] []
theorem iW(h:Ok D):az D 791 (eZ D.w.params) 5 []:=by walk_at "f"
def e7(P:Params):FnI:=fi (tp.o_308 P) ["self","op","left","right"] []
theorem iX(h:Ok D):az D 275 (e7 D.w.params) 4 []:=by walk_at "f"
def gZ(P:Params):FnI:=fi (tp.o_786 P) ["self","columns","distinct","source","where","groups","having"] []
theorem lu(h:Ok D):az D 689 (gZ D.w.params) 7 []:=by walk_at "f"
def dv(P:Params):FnI:=fi (tp.o_28 P) ["self","message"] []
theorem hZ(h:Ok D):az D 35 (dv D.w.params) 2 []:=by walk_at "f"
def bB(P:Params):FnI:=fi (tp.o_993 P) ["expr"] [("message",.none)]
theorem dw(h:Ok D):az D 877 (bB D.w.params) 1 []:=ft (o:=tp.o_993 D.w.params) (dfv:=[(⟨#[109,101,115,115,97,103,101]⟩,.none)]) (by rw[h.K];kernel_rfl) (by kernel_rfl) (by rw[h.K];kernel_rfl) (by kernel_rfl) (by kernel_rfl) rfl (by kernel_rfl) (by kernel_rfl) (by rw[h.K];kernel_rfl) (fun cls fz=>.cons .none (.nil)) (fun s vs X hl=>by obtain⟨v0,rfl⟩:=ky hl;exact kp_binds X (by intro S;rw[h.K];kernel_rfl))
def cu(P:Params):FnI:=fi (tp.o_993 P) ["expr","message"] []
theorem bH(h:Ok D):az D 877 (cu D.w.params) 2 []:=by walk_at "f"
def eW(P:Params):FnI:=fi (tp.o_1001 P) ["expr"] [("sources",.none)]
theorem e8(h:Ok D):az D 885 (eW D.w.params) 1 []:=ft (o:=tp.o_1001 D.w.params) (dfv:=[(⟨#[115,111,117,114,99,101,115]⟩,.none)]) (by rw[h.K];kernel_rfl) (by kernel_rfl) (by rw[h.K];kernel_rfl) (by kernel_rfl) (by kernel_rfl) rfl (by kernel_rfl) (by kernel_rfl) (by rw[h.K];kernel_rfl) (fun cls fz=>.cons .none (.nil)) (fun s vs X hl=>by obtain⟨v0,rfl⟩:=ky hl;exact kp_binds X (by intro S;rw[h.K];kernel_rfl))
def d7(P:Params):FnI:=fi (tp.o_1023 P) ["expr"] [("sources",.none)]
theorem eh(h:Ok D):az D 907 (d7 D.w.params) 1 []:=ft (o:=tp.o_1023 D.w.params) (dfv:=[(⟨#[115,111,117,114,99,101,115]⟩,.none)]) (by rw[h.K];kernel_rfl) (by kernel_rfl) (by rw[h.K];kernel_rfl) (by kernel_rfl) (by kernel_rfl) rfl (by kernel_rfl) (by kernel_rfl) (by rw[h.K];kernel_rfl) (fun cls fz=>.cons .none (.nil)) (fun s vs X hl=>by obtain⟨v0,rfl⟩:=ky hl;exact kp_binds X (by intro S;rw[h.K];kernel_rfl))
def cG(P:Params):FnI:=fi (tp.o_1124 P) ["self","node"] [("least",.int 1)]
theorem fb(h:Ok D):az D 993 (cG D.w.params) 2 []:=ft (o:=tp.o_1124 D.w.params) (dfv:=[(⟨#[108,101,97,115,116]⟩,.int 1 1484)]) (by rw[h.K];kernel_rfl) (by kernel_rfl) (by rw[h.K];kernel_rfl) (by kernel_rfl) (by kernel_rfl) rfl (by kernel_rfl) (by kernel_rfl) (by rw[h.K];kernel_rfl) (fun cls fz=>.cons (.int _ _) .nil) (fun s vs X hl=>by obtain⟨v0,v1,rfl⟩:=pb hl;exact kp_binds X (by intro S;rw[h.K];kernel_rfl))
def eJ(P:Params):FnI:=fi (tp.o_1644 P) ["select","catalog"] [("parent",.none),("counter",.none)]
theorem cW(h:Ok D):az D 1481 (eJ D.w.params) 2 []:=ft (o:=tp.o_1644 D.w.params) (dfv:=[(⟨#[112,97,114,101,110,116]⟩,.none),(⟨#[99,111,117,110,116,101,114]⟩,.none)]) (by rw[h.K];kernel_rfl) (by kernel_rfl) (by rw[h.K];kernel_rfl) (by kernel_rfl) (by kernel_rfl) rfl (by kernel_rfl) (by kernel_rfl) (by rw[h.K];kernel_rfl) (fun cls fz=>.cons .none (.cons .none (.nil))) (fun s vs X hl=>by obtain⟨v0,v1,rfl⟩:=pb hl;exact kp_binds X (by intro S;rw[h.K];kernel_rfl))
def fp(P:Params):FnI:=fi (tp.o_1644 P) ["select","catalog","parent","counter"] []
theorem fw(h:Ok D):az D 1481 (fp D.w.params) 4 []:=by walk_at "f"
end
end
def sF:List Str:=["distinct","columns","source","where","groups","having"]
def kJ(P:Params):FnI:=fi (tp.o_786 P) ["self","distinct","columns","source","where","groups","having"] []
def CL{α:Type}:List α→List (Str×α)
 |[s,d,c,o,w,g,h]=>[("self",s),("columns",c),("distinct",d),("source",o),("where",w),("groups",g),("having",h)]
 |_=>[]
theorem kM{D:Wd}(h:Ok D):az D 689 (kJ D.w.params) 1 sF:=by
 have h4:(!(bS (tp.o_786 D.w.params)).scope.isCoroutine && !(bS (tp.o_786 D.w.params)).scope.isGenerator&&(bS (tp.o_786 D.w.params)).scope.kind == .function)=true:=by kernel_rfl
 simp only[Bool.and_eq_true,Bool.not_eq_true',beq_iff_eq] at h4
 refine⟨⟨(bS (tp.o_786 D.w.params)).code,(bS (tp.o_786 D.w.params)).qualname,bS (tp.o_786 D.w.params),⟨⟨(tp.o_786 D.w.params).cls,(tp.o_786 D.w.params).dict,(tp.o_786 D.w.params).slots,(bS (tp.o_786 D.w.params)).name,(bS (tp.o_786 D.w.params)).params,(bS (tp.o_786 D.w.params)).defaults,(bS (tp.o_786 D.w.params)).kwdefaults,(bS (tp.o_786 D.w.params)).doc,(bS (tp.o_786 D.w.params)).pyModule,(bS (tp.o_786 D.w.params)).annotations,(bS (tp.o_786 D.w.params)).closureTuple,by rw[h.K];kernel_rfl,by kernel_rfl⟩,by rw[h.K];kernel_rfl,h4.1.1,h4.1.2,h4.2,by exact of_decide_eq_true (by kernel_rfl)⟩,CL,fun fz s vs ks cs ck X r rk hl hk=>?_,fun as args cs r hl=>?_,fun cs hl=>?_⟩,by rw[h.K];kernel_rfl⟩
 ·obtain⟨c1,rfl⟩:=ky hl
  obtain⟨v1,rfl,q⟩:=r.one
  obtain⟨a,b,c,d,e,f,rfl⟩:=sg hk
  cases rk with | @cons _ w1 _ _ r1 rk=>cases rk with | @cons _ w2 _ _ r2 rk=>cases rk with | @cons _ w3 _ _ r3 rk=>cases rk with | @cons _ w4 _ _ r4 rk=>cases rk with | @cons _ w5 _ _ r5 rk=>cases rk with | @cons _ w6 _ _ r6 rk=>
  cases rk
  refine⟨CL [v1,w1,w2,w3,w4,w5,w6],kp_binds X (by intro S;rw[h.K];kernel_rfl),?_⟩
  exact .cons q (.cons r2 (.cons r1 (.cons r3 (.cons r4 (.cons r5 (.cons r6 .nil))))))
 ·obtain⟨c1,c2,c3,c4,c5,c6,c7,rfl⟩:=pa hl
  cases r with|cons r1 r=>cases r with|cons r2 r=>cases r with|cons r3 r=>cases r with|cons r4 r=>cases r with|cons r5 r=>cases r with|cons r6 r=>cases r with|cons r7 r=>
  cases r
  intro x a e
  have e:=cJ e
  change (x,a)∈[_,_,_,_,_,_,_] at e
  simp only[List.mem_cons,Prod.mk.injEq,List.not_mem_nil,or_false] at e
  rcases e with ⟨rfl,rfl⟩|⟨rfl,rfl⟩|⟨rfl,rfl⟩|⟨rfl,rfl⟩|⟨rfl,rfl⟩|⟨rfl,rfl⟩|⟨rfl,rfl⟩
  ·exact⟨_,by kernel_rfl,r1⟩
  ·exact⟨_,by kernel_rfl,r2⟩
  ·exact⟨_,by kernel_rfl,r3⟩
  ·exact⟨_,by kernel_rfl,r4⟩
  ·exact⟨_,by kernel_rfl,r5⟩
  ·exact⟨_,by kernel_rfl,r6⟩
  ·exact⟨_,by kernel_rfl,r7⟩
 ·obtain⟨c1,c2,c3,c4,c5,c6,c7,rfl⟩:=pa hl
  exact⟨allDif_iff.mp (by kernel_rfl),by kernel_rfl⟩
def chC(c:Nat):CV:=.str ⟨#[c]⟩
def DR:eQ:=⟨[],fun items _ M k _=>M=[]∧∃l:List Nat,items=l.map chC∧k (l.map fun c=>chC (iB c)) []⟩
def DV:List (Nat×eQ):=[(297,DR)]
abbrev Col:=Str×CV×CV
def aJ(c:Col):CV:=.tup [.str c.1,c.2.1,c.2.2]
def aP:Option Str→CV
 |none=>.none
 |some s=>.str s
def ag(s:Str):CV:=.str s
structure SrcR where
 num:Int
 alias:Option Str
 cols:List Col
 sel:CV
 ons:CV
 us:List Str
def SrcR.c(s:SrcR):CV:=.inst "Source" [("number",.int s.num),("alias",aP s.alias),("table",.none),("columns",.lst (s.cols.map aJ)),("select",s.sel),("kind",.str "inner"),("hint",.none),("on",s.ons),("using",.lst (s.us.map ag))]
def cb(cols:List Col):Prop:=cols.length≤1000∧∀c∈cols,c.1.length≤1000
def aU(nm:Str):List Col→Nat→Option Nat
 |[],_=>none
 |c::r,i=>bif sEq (ae c.1) nm then some i else aU nm r (i+1)
def FT:Option Nat→CV
 |none=>.none
 |some i=>.int i
def oM(s:SrcR)(i j:Nat):AO:=.inst "Source" [("number",.v (.int s.num)),("alias",.v (aP s.alias)),("table",.v .none),("columns",.ref i),("select",.v s.sel),("kind",.v (.str "inner")),("hint",.v .none),("on",.v .none),("using",.ref j)]
def Ir(s:SrcR):AM:=[oM s 1 2,.lst (s.cols.map aJ),.lst (s.us.map ag)]
def Di(b:Bool)(s:SrcR):AV:=match b with
 |false=>.v s.c
 |true=>.ref 0
def zF(b:Bool)(s:SrcR):AM:=match b with
 |false=>[]
 |true=>Ir s
def zR:cP:=⟨["self","name"],fun items vals M k _=>∃(b:Bool) (s:SrcR) (nm:Str) (i:Nat),vals=[Di b s,.v (.str nm)]∧M=zF b s∧cb s.cols∧i≤s.cols.length∧items=(List.range' i (s.cols.length - i)).map (fun(j:Nat)=>CV.int ((0:Int)+j)) ∧
 match aU nm (s.cols.drop i) i with
 |none=>k .next vals M
 |some j=>k (.ret (.v (.int j))) [] M⟩
def dc(s:SrcR)(nm:Str):Bool:=match s.alias with
 |none=>false
 |some a=>sEq (ae a) nm
structure gi(s:SrcR):Prop where
 cols:cb s.cols
 alias:∀a,s.alias=some a→a.length≤1000
 us:s.us.length≤1000
def scM(b:Bool)(srcs:List SrcR)(als:List CV)(n:Int):AM:=match b with
 |true=>[.inst "Scope" [("sources",.ref 1),("parent",.v .none),("aliases",.ref 2),("catalog",.v .none),("counter",.ref 3),("outer",.v .dct)],.lst (srcs.map SrcR.c),.lst als,.inst "Counter" [("last",.v (.int n))]]
 |false=>[.inst "Scope" [("sources",.ref 1),("parent",.v .none),("aliases",.v (.lst als)),("catalog",.v .none),("counter",.ref 2),("outer",.v .dct)],.lst (srcs.map SrcR.c),.inst "Counter" [("last",.v (.int n))]]
def a7(tbl:Option Str)(s:SrcR):Bool:=match tbl with
 |none=>true
 |some t=>dc s t
def bJ(tbl:Option Str)(col:Str):List SrcR→List (SrcR×Nat)
 |[]=>[]
 |s::r=>bif tbl.isNone&&inC (.str col) (s.us.map ag) then bJ tbl col r else
  bif a7 tbl s then (match aU col s.cols 0 with
   |some j=>(s,j)::bJ tbl col r
   |none=>bJ tbl col r) else bJ tbl col r
def mK(p:SrcR×Nat):CV:=.tup [p.1.c,.int p.2]
def DS:cP:=⟨["self","table","column","found"],fun items vals M k _=>∃(b:Bool) (srcs:List SrcR) (als:List CV) (n:Int) (tbl:Option Str) (col:Str) (todo:List SrcR) (fs:List CV),
 vals=[.ref 0,.v (aP tbl),.v (.str col),.ref (bif b then 4 else 3)]∧M=scM b srcs als n++[.lst fs]∧items=todo.map SrcR.c∧(∀s∈todo,gi s)∧fs.length+todo.length≤900 ∧
 k .next vals (scM b srcs als n++[.lst (fs++(bJ tbl col todo).map mK)])⟩
abbrev Al:=Str×CV×Int
def alC(a:Al):CV:=.tup [.str a.1,a.2.1,.int a.2.2]
def fU(nm:Str):List Al→Option CV
 |[]=>none
 |a::r=>bif sEq (ae a.1) nm then some a.2.1 else fU nm r
def FU:Option CV→CV
 |none=>.none
 |some c=>c
def AJ:cP:=⟨["self","name"],fun items vals M k _=>∃(b:Bool) (srcs:List SrcR) (als:List CV) (n:Int) (nm:Str) (todo:List Al),
 vals=[.ref 0,.v (.str nm)]∧M=scM b srcs als n∧items=todo.map alC∧(∀a∈todo,a.1.length≤1000) ∧
 match fU nm todo with
 |some c=>k (.ret (.v c)) [] (scM b srcs als n)
 |none=>k .next vals (scM b srcs als n)⟩
def DC:List (Nat×cP):=[(636,zR),(655,DS),(669,AJ)]
def aD(T:Tb)(a:Addr)(S:aE):Tb:={ T with fns:=(a,S)::T.fns }
theorem TbOk.up{D:Wd}{d:Nat}{T:Tb}(h:TbOk D d T):TbOk D (d+1) T:=⟨h.tx,fun a S e=>⟨((h.fns a S e).1).up (Nat.le_succ _),(h.fns a S e).2⟩⟩
theorem TbOk.add{D:Wd}{d:Nat}{T:Tb}{a:Addr}{S:aE}(h:TbOk D d T)(k:SpecOk D (d+1) a S)(kp:cU D.K (.ref a)=true):TbOk D (d+1) (aD T a S):=⟨h.tx,fun b S' e=>by
 unfold aD lkN at e
 cases q:Nat.beq a b with
 |true=>rw[q] at e;cases e;have:=Nat.eq_of_beq_eq_true q;subst this;exact⟨k,kp⟩
 |false=>rw[q] at e;exact(h.up).fns b S' e⟩
def aF(T:Tb)(a:Addr)(I:FnI)(n:Nat):Tb:=aD T a (i8 T I n [])
theorem bh{D:Wd}{d:Nat}{T:Tb}{a:Addr}{I:FnI}{n:Nat}(F:az D a I n [])(h:TbOk D d T):TbOk D (d+1) (aF T a I n):=h.add (ah F h) F.keep
def aN(T:Tb)(a:Addr)(I:FnI)(n:Nat):Tb:=aD T a (em T I n [])
theorem eF{D:Wd}{d:Nat}{T:Tb}{a:Addr}{I:FnI}{n:Nat}(F:az D a I n [])(h:TbOk D d T):TbOk D (d+1) (aN T a I n):=h.add (a9 F h) F.keep
def orS(n:Nat)(S S':aE):aE:=fun args kws M k X=>bif Nat.beq args.length n then S args kws M k X else S' args kws M k X
theorem r9{D:Wd}{d:Nat}{a:Addr}{n:Nat}{S S':aE}(h:SpecOk D d a S)(h':SpecOk D d a S'):SpecOk D d a (orS n S S'):=fun as args kws Mh k X M cs ck r1 r2 r3 z=>by
 unfold orS at z
 cases q:Nat.beq args.length n with
 |true=>rw[q] at z;exact h as args kws Mh k X M cs ck r1 r2 r3 z
 |false=>rw[q] at z;exact h' as args kws Mh k X M cs ck r1 r2 r3 z
def wy:List Stmt→Option (Str×Str)
 |[.Assign [.Attribute (.Name sx _) a _] (.Name mx _) _]=>if a=("message" : Str) then some (sx,mx) else none
 |_=>none
theorem u6{b:List Stmt}{sx mx:Str}(h:wy b=some (sx,mx)):∃p1 p2 p3 pos,b=[.Assign [.Attribute (.Name sx p1) "message" p2] (.Name mx p3) pos]:=by
 unfold wy at h
 split at h
 ·split at h
  ·rename_i e;cases h;subst e;exact⟨_,_,_,_,rfl⟩
  ·cases h
 ·cases h
theorem G9{D:Wd}(h:Ok D):SpecOk D 2 51 As:=by
 obtain⟨p1,p2,p3,pos,hb⟩:=u6 (b:=(dv D.w.params).body) (sx:= "self") (mx:= "message") (by kernel_rfl)
 exact Ar (sC h).1 (hZ h) hb (fun _ _=>rfl) (fun _ _=>rfl) (by decide) (by decide)
def T_0(P:Params):Tb:=⟨txL,[],DC,DV⟩
theorem IK{D:Wd}(h:Ok D):TbOk D 0 (T_0 D.w.params):=⟨Iq h,fun a S e=>by cases e⟩
theorem wh{D:Wd}(h:Ok D):dK D ⟨#[76,105,116,101,114,97,108]⟩ 181 171:=⟨by rw[h.cls];kernel_rfl,by rw[h.K];kernel_rfl,by rw[h.K];kernel_rfl,by rw[h.K];kernel_rfl⟩
theorem Fe{D:Wd}(h:Ok D):dK D ⟨#[78,97,109,101]⟩ 207 197:=⟨by rw[h.cls];kernel_rfl,by rw[h.K];kernel_rfl,by rw[h.K];kernel_rfl,by rw[h.K];kernel_rfl⟩
theorem Fh{D:Wd}(h:Ok D):dK D ⟨#[67,97,108,108]⟩ 465 455:=⟨by rw[h.cls];kernel_rfl,by rw[h.K];kernel_rfl,by rw[h.K];kernel_rfl,by rw[h.K];kernel_rfl⟩
theorem nz{D:Wd}(h:Ok D):dK D ⟨#[82,101,115,117,108,116,67,111,108,117,109,110]⟩ 595 585:=⟨by rw[h.cls];kernel_rfl,by rw[h.K];kernel_rfl,by rw[h.K];kernel_rfl,by rw[h.K];kernel_rfl⟩
theorem ny{D:Wd}(h:Ok D):dK D ⟨#[83,101,108,101,99,116,83,111,117,114,99,101]⟩ 647 637:=⟨by rw[h.cls];kernel_rfl,by rw[h.K];kernel_rfl,by rw[h.K];kernel_rfl,by rw[h.K];kernel_rfl⟩
theorem Ff{D:Wd}(h:Ok D):dK D ⟨#[74,111,105,110]⟩ 673 663:=⟨by rw[h.cls];kernel_rfl,by rw[h.K];kernel_rfl,by rw[h.K];kernel_rfl,by rw[h.K];kernel_rfl⟩
theorem zx{D:Wd}(h:Ok D):dK D ⟨#[83,101,108,101,99,116]⟩ 801 791:=⟨by rw[h.cls];kernel_rfl,by rw[h.K];kernel_rfl,by rw[h.K];kernel_rfl,by rw[h.K];kernel_rfl⟩
theorem zy{D:Wd}(h:Ok D):dK D ⟨#[66,105,110,97,114,121]⟩ 285 275:=⟨by rw[h.cls];kernel_rfl,by rw[h.K];kernel_rfl,by rw[h.K];kernel_rfl,by rw[h.K];kernel_rfl⟩
theorem wi{D:Wd}(h:Ok D):dK D ⟨#[67,111,117,110,116,101,114]⟩ 1133 1123:=⟨by rw[h.cls];kernel_rfl,by rw[h.K];kernel_rfl,by rw[h.K];kernel_rfl,by rw[h.K];kernel_rfl⟩
theorem zw{D:Wd}(h:Ok D):dK D ⟨#[83,111,117,114,99,101]⟩ 1168 1151:=⟨by rw[h.cls];kernel_rfl,by rw[h.K];kernel_rfl,by rw[h.K];kernel_rfl,by rw[h.K];kernel_rfl⟩
theorem Bx{D:Wd}(h:Ok D):dK D ⟨#[83,99,111,112,101]⟩ 1211 1187:=⟨by rw[h.cls];kernel_rfl,by rw[h.K];kernel_rfl,by rw[h.K];kernel_rfl,by rw[h.K];kernel_rfl⟩
theorem tM{D:Wd}(h:Ok D):dK D ⟨#[82,101,115,111,108,118,101,100]⟩ 1313 1296:=⟨by rw[h.cls];kernel_rfl,by rw[h.K];kernel_rfl,by rw[h.K];kernel_rfl,by rw[h.K];kernel_rfl⟩
theorem jp{D:Wd}(h:Ok D):dK D ⟨#[69,120,112,114,101,115,115,105,111,110,87,114,105,116,101,114]⟩ 1029 985:=⟨by rw[h.cls];kernel_rfl,by rw[h.K];kernel_rfl,by rw[h.K];kernel_rfl,by rw[h.K];kernel_rfl⟩
theorem nw{D:Wd}(h:Ok D):dK D ⟨#[83,101,108,101,99,116,87,114,105,116,101,114]⟩ 1089 1055:=⟨by rw[h.cls];kernel_rfl,by rw[h.K];kernel_rfl,by rw[h.K];kernel_rfl,by rw[h.K];kernel_rfl⟩
theorem Fg{D:Wd}(h:Ok D):dK D ⟨#[67,111,114,101]⟩ 699 689:=⟨by rw[h.cls];kernel_rfl,by rw[h.K];kernel_rfl,by rw[h.K];kernel_rfl,by rw[h.K];kernel_rfl⟩
theorem GR{D:Wd}(h:Ok D):TbOk D 1 (T_0 D.w.params):=(IK h).up
def T_1(P:Params):Tb:=aD (T_0 P) 51 As
theorem IJ{D:Wd}(h:Ok D):TbOk D 2 (T_1 D.w.params):=(GR h).add (G9 h) (by rw[h.K];kernel_rfl)
def T_2(P:Params):Tb:=T_1 P
theorem GK{D:Wd}(h:Ok D):TbOk D 2 (T_2 D.w.params):=IJ h
def T_3(P:Params):Tb:=aN (T_2 P) 171 (d9 P) 2
theorem II{D:Wd}(h:Ok D):TbOk D 3 (T_3 D.w.params):=eF (h8 h) (GK h)
def T_4(P:Params):Tb:=aD (T_3 P) 181 (iC ⟨#[76,105,116,101,114,97,108]⟩ (em (T_2 P) (d9 P) 2 []))
theorem Gv{D:Wd}(h:Ok D):TbOk D 4 (T_4 D.w.params):=(II h).add (bT (wh h) (a9 (h8 h) (GK h))) (by rw[h.K];kernel_rfl)
def T_5(P:Params):Tb:=aN (T_4 P) 197 (gX P) 3
theorem IH{D:Wd}(h:Ok D):TbOk D 5 (T_5 D.w.params):=eF (lr h) (Gv h)
def T_6(P:Params):Tb:=aD (T_5 P) 207 (iC ⟨#[78,97,109,101]⟩ (em (T_4 P) (gX P) 3 []))
theorem Ga{D:Wd}(h:Ok D):TbOk D 6 (T_6 D.w.params):=(IH h).add (bT (Fe h) (a9 (lr h) (Gv h))) (by rw[h.K];kernel_rfl)
def T_7(P:Params):Tb:=aN (T_6 P) 455 (g5 P) 5
theorem IG{D:Wd}(h:Ok D):TbOk D 7 (T_7 D.w.params):=eF (lw h) (Ga h)
def T_8(P:Params):Tb:=aD (T_7 P) 465 (iC ⟨#[67,97,108,108]⟩ (em (T_6 P) (g5 P) 5 []))
theorem F5{D:Wd}(h:Ok D):TbOk D 8 (T_8 D.w.params):=(IG h).add (bT (Fh h) (a9 (lw h) (Ga h))) (by rw[h.K];kernel_rfl)
def T_9(P:Params):Tb:=aN (T_8 P) 585 (cA P) 4
theorem IF{D:Wd}(h:Ok D):TbOk D 9 (T_9 D.w.params):=eF (dJ h) (F5 h)
def E3(P:Params):Tb:=aD (T_9 P) 595 (iC ⟨#[82,101,115,117,108,116,67,111,108,117,109,110]⟩ (em (T_8 P) (cA P) 4 []))
theorem Cr{D:Wd}(h:Ok D):TbOk D 10 (E3 D.w.params):=(IF h).add (bT (nz h) (a9 (dJ h) (F5 h))) (by rw[h.K];kernel_rfl)
def Id(P:Params):Tb:=aN (E3 P) 637 (cz P) 3
theorem GQ{D:Wd}(h:Ok D):TbOk D 11 (Id D.w.params):=eF (dH h) (Cr h)
def E1(P:Params):Tb:=aD (Id P) 647 (iC ⟨#[83,101,108,101,99,116,83,111,117,114,99,101]⟩ (em (E3 P) (cz P) 3 []))
theorem Cq{D:Wd}(h:Ok D):TbOk D 12 (E1 D.w.params):=(GQ h).add (bT (ny h) (a9 (dH h) (Cr h))) (by rw[h.K];kernel_rfl)
def Ic(P:Params):Tb:=aN (E1 P) 663 (gY P) 6
theorem GP{D:Wd}(h:Ok D):TbOk D 13 (Ic D.w.params):=eF (ls h) (Cq h)
def E0(P:Params):Tb:=aD (Ic P) 673 (iC ⟨#[74,111,105,110]⟩ (em (E1 P) (gY P) 6 []))
theorem Cp{D:Wd}(h:Ok D):TbOk D 14 (E0 D.w.params):=(GP h).add (bT (Ff h) (a9 (ls h) (Cq h))) (by rw[h.K];kernel_rfl)
def Ib(P:Params):Tb:=aN (E0 P) 791 (eZ P) 5
theorem GO{D:Wd}(h:Ok D):TbOk D 15 (Ib D.w.params):=eF (iW h) (Cp h)
def EZ(P:Params):Tb:=aD (Ib P) 801 (iC ⟨#[83,101,108,101,99,116]⟩ (em (E0 P) (eZ P) 5 []))
theorem Co{D:Wd}(h:Ok D):TbOk D 16 (EZ D.w.params):=(GO h).add (bT (zx h) (a9 (iW h) (Cp h))) (by rw[h.K];kernel_rfl)
def Ia(P:Params):Tb:=aN (EZ P) 275 (e7 P) 4
theorem GN{D:Wd}(h:Ok D):TbOk D 17 (Ia D.w.params):=eF (iX h) (Co h)
def EY(P:Params):Tb:=aD (Ia P) 285 (iC ⟨#[66,105,110,97,114,121]⟩ (em (EZ P) (e7 P) 4 []))
theorem Cn{D:Wd}(h:Ok D):TbOk D 18 (EY D.w.params):=(GN h).add (bT (zy h) (a9 (iX h) (Co h))) (by rw[h.K];kernel_rfl)
def H9(P:Params):Tb:=aN (EY P) 1123 (ee P) 1
theorem GL{D:Wd}(h:Ok D):TbOk D 19 (H9 D.w.params):=eF (h9 h) (Cn h)
def EX(P:Params):Tb:=aD (H9 P) 1133 (iC ⟨#[67,111,117,110,116,101,114]⟩ (em (EY P) (ee P) 1 []))
theorem Ck{D:Wd}(h:Ok D):TbOk D 20 (EX D.w.params):=(GL h).add (bT (wi h) (a9 (h9 h) (Cn h))) (by rw[h.K];kernel_rfl)
def H8(P:Params):Tb:=aN (EX P) 1151 (eY P) 8
theorem GJ{D:Wd}(h:Ok D):TbOk D 21 (H8 D.w.params):=eF (iV h) (Ck h)
def EW(P:Params):Tb:=aD (H8 P) 1168 (iC ⟨#[83,111,117,114,99,101]⟩ (em (EX P) (eY P) 8 []))
theorem Cj{D:Wd}(h:Ok D):TbOk D 22 (EW D.w.params):=(GJ h).add (bT (zw h) (a9 (iV h) (Ck h))) (by rw[h.K];kernel_rfl)
def H7(P:Params):Tb:=aN (EW P) 1187 (f0 P) 6
theorem GI{D:Wd}(h:Ok D):TbOk D 23 (H7 D.w.params):=eF (j9 h) (Cj h)
def EV(P:Params):Tb:=aD (H7 P) 1211 (iC ⟨#[83,99,111,112,101]⟩ (em (EW P) (f0 P) 6 []))
theorem Ci{D:Wd}(h:Ok D):TbOk D 24 (EV D.w.params):=(GI h).add (bT (Bx h) (a9 (j9 h) (Cj h))) (by rw[h.K];kernel_rfl)
def H6(P:Params):Tb:=aN (EV P) 1296 (dD P) 4
theorem GH{D:Wd}(h:Ok D):TbOk D 25 (H6 D.w.params):=eF (gp h) (Ci h)
def EU(P:Params):Tb:=aD (H6 P) 1313 (iC ⟨#[82,101,115,111,108,118,101,100]⟩ (em (EV P) (dD P) 4 []))
theorem Ch{D:Wd}(h:Ok D):TbOk D 26 (EU D.w.params):=(GH h).add (bT (tM h) (a9 (gp h) (Ci h))) (by rw[h.K];kernel_rfl)
def H5(P:Params):Tb:=aN (EU P) 985 (bK P) 2
theorem GG{D:Wd}(h:Ok D):TbOk D 27 (H5 D.w.params):=eF (cR h) (Ch h)
def ET(P:Params):Tb:=aD (H5 P) 1029 (iC ⟨#[69,120,112,114,101,115,115,105,111,110,87,114,105,116,101,114]⟩ (em (EU P) (bK P) 2 []))
theorem Cg{D:Wd}(h:Ok D):TbOk D 28 (ET D.w.params):=(GG h).add (bT (jp h) (a9 (cR h) (Ch h))) (by rw[h.K];kernel_rfl)
def H4(P:Params):Tb:=aN (ET P) 1055 (cw P) 1
theorem GF{D:Wd}(h:Ok D):TbOk D 29 (H4 D.w.params):=eF (dG h) (Cg h)
def wd(P:Params):Tb:=aD (H4 P) 1089 (iC ⟨#[83,101,108,101,99,116,87,114,105,116,101,114]⟩ (em (ET P) (cw P) 1 []))
theorem qc{D:Wd}(h:Ok D):TbOk D 30 (wd D.w.params):=(GF h).add (bT (nw h) (a9 (dG h) (Cg h))) (by rw[h.K];kernel_rfl)
def H3(P:Params):Tb:=aD (wd P) 689 (orS 7 (em (wd P) (gZ P) 7 []) (em (wd P) (kJ P) 1 sF))
theorem GE{D:Wd}(h:Ok D):TbOk D 31 (H3 D.w.params):=(qc h).add (r9 (a9 (lu h) (qc h)) (a9 (kM h) (qc h))) (kM h).keep
def H0(P:Params):Tb:=aD (H3 P) 699 (iC ⟨#[67,111,114,101]⟩ (orS 7 (em (wd P) (gZ P) 7 []) (em (wd P) (kJ P) 1 sF)))
theorem GD{D:Wd}(h:Ok D):TbOk D 32 (H0 D.w.params):=(GE h).add (bT (Fg h) (r9 (a9 (lu h) (qc h)) (a9 (kM h) (qc h)))) (by rw[h.K];kernel_rfl)
def HZ(P:Params):Tb:=aF (H0 P) 96 (zp P) 2
theorem GC{D:Wd}(h:Ok D):TbOk D 33 (HZ D.w.params):=bh (E9 h) (GD h)
def HY(P:Params):Tb:=aF (HZ P) 104 (gR P) 3
theorem GB{D:Wd}(h:Ok D):TbOk D 34 (HY D.w.params):=bh (nr h) (GC h)
def HX(P:Params):Tb:=aF (HY P) 1222 (gO P) 1
theorem GA{D:Wd}(h:Ok D):TbOk D 35 (HX D.w.params):=bh (nq h) (GB h)
def HW(P:Params):Tb:=aF (HX P) 957 (iN P) 1
theorem Gz{D:Wd}(h:Ok D):TbOk D 36 (HW D.w.params):=bh (nN h) (GA h)
def HV(P:Params):Tb:=aF (HW P) 923 (iP P) 1
theorem Gy{D:Wd}(h:Ok D):TbOk D 37 (HV D.w.params):=bh (nO h) (Gz h)
def HU(P:Params):Tb:=aF (HV P) 930 (gS P) 1
theorem Gx{D:Wd}(h:Ok D):TbOk D 38 (HU D.w.params):=bh (nt h) (Gy h)
def HT(P:Params):Tb:=aF (HU P) 916 (rI P) 1
theorem Gw{D:Wd}(h:Ok D):TbOk D 39 (HT D.w.params):=bh (zq h) (Gx h)
def HS(P:Params):Tb:=aF (HT P) 938 (oz P) 1
theorem Gu{D:Wd}(h:Ok D):TbOk D 40 (HS D.w.params):=bh (wg h) (Gw h)
def HR(P:Params):Tb:=aF (HS P) 945 (jZ P) 1
theorem Gs{D:Wd}(h:Ok D):TbOk D 41 (HR D.w.params):=bh (pA h) (Gu h)
def HQ(P:Params):Tb:=aF (HR P) 971 (nj P) 1
theorem Gr{D:Wd}(h:Ok D):TbOk D 42 (HQ D.w.params):=bh (tI h) (Gs h)
def HP(P:Params):Tb:=aF (HQ P) 1005 (cQ P) 2
theorem Gq{D:Wd}(h:Ok D):TbOk D 43 (HP D.w.params):=bh (fB h) (Gr h)
def HO(P:Params):Tb:=aF (HP P) 993 (cG P) 2
theorem Gp{D:Wd}(h:Ok D):TbOk D 44 (HO D.w.params):=bh (fb h) (Gq h)
def HN(P:Params):Tb:=aF (HO P) 1100 (bc P) 1
theorem Go{D:Wd}(h:Ok D):TbOk D 45 (HN D.w.params):=bh (cM h) (Gp h)
def HM(P:Params):Tb:=aF (HN P) 1383 (ow P) 1
theorem Gn{D:Wd}(h:Ok D):TbOk D 46 (HM D.w.params):=bh (wf h) (Go h)
def HL(P:Params):Tb:=aF (HM P) 829 (nk P) 1
theorem Gm{D:Wd}(h:Ok D):TbOk D 47 (HL D.w.params):=bh (tJ h) (Gn h)
def HK(P:Params):Tb:=aF (HL P) 836 (kH P) 2
theorem Gl{D:Wd}(h:Ok D):TbOk D 48 (HK D.w.params):=bh (kK h) (Gm h)
def HJ(P:Params):Tb:=aF (HK P) 850 (bG P) 1
theorem Gk{D:Wd}(h:Ok D):TbOk D 49 (HJ D.w.params):=bh (cB h) (Gl h)
def HI(P:Params):Tb:=aF (HJ P) 857 (bz P) 1
theorem Gj{D:Wd}(h:Ok D):TbOk D 50 (HI D.w.params):=bh (bA h) (Gk h)
def Bp(P:Params):Tb:=aF (HI P) 857 (bz P) 1
theorem wY{D:Wd}(h:Ok D):TbOk D 51 (Bp D.w.params):=bh (bA h) (Gj h)
def HF(P:Params):Tb:=aD (Bp P) 877 (orS 1 (i8 (Bp P) (bB P) 1 []) (i8 (Bp P) (cu P) 2 []))
theorem Gi{D:Wd}(h:Ok D):TbOk D 52 (HF D.w.params):=(wY h).add (r9 (ah (dw h) (wY h)) (ah (bH h) (wY h))) (bH h).keep
def HE(P:Params):Tb:=aF (HF P) 892 (ch P) 1
theorem Gh{D:Wd}(h:Ok D):TbOk D 53 (HE D.w.params):=bh (dy h) (Gi h)
def HD(P:Params):Tb:=aF (HE P) 892 (ch P) 1
theorem Gg{D:Wd}(h:Ok D):TbOk D 54 (HD D.w.params):=bh (dy h) (Gh h)
def HC(P:Params):Tb:=aF (HD P) 899 (d6 P) 1
theorem Gf{D:Wd}(h:Ok D):TbOk D 55 (HC D.w.params):=bh (jo h) (Gg h)
def HA(P:Params):Tb:=aF (HC P) 907 (d7 P) 1
theorem Ge{D:Wd}(h:Ok D):TbOk D 56 (HA D.w.params):=bh (eh h) (Gf h)
def Hz(P:Params):Tb:=aF (HA P) 885 (eW P) 1
theorem Gd{D:Wd}(h:Ok D):TbOk D 57 (Hz D.w.params):=bh (e8 h) (Ge h)
def Hy(P:Params):Tb:=aF (Hz P) 112 (j5 P) 3
theorem Gc{D:Wd}(h:Ok D):TbOk D 58 (Hy D.w.params):=bh (pB h) (Gd h)
def Hx(P:Params):Tb:=aF (Hy P) 1256 (d5 P) 1
theorem Gb{D:Wd}(h:Ok D):TbOk D 59 (Hx D.w.params):=bh (g8 h) (Gc h)
def Hw(P:Params):Tb:=aF (Hx P) 1263 (kI P) 1
theorem F9{D:Wd}(h:Ok D):TbOk D 60 (Hw D.w.params):=bh (kL h) (Gb h)
def Hv(P:Params):Tb:=aF (Hw P) 1428 (fX P) 1
theorem F8{D:Wd}(h:Ok D):TbOk D 61 (Hv D.w.params):=bh (f9 h) (F9 h)
def ES(P:Params):Tb:=aF (Hv P) 1390 (bU P) 4
theorem Cf{D:Wd}(h:Ok D):TbOk D 62 (ES D.w.params):=bh (f8 h) (F8 h)
theorem aA{b:Bool}{p q:Prop}(h1:b=true→p)(h0:b=false→q):(bif b then p else q):=by cases b;exact h0 rfl;exact h1 rfl
theorem oJ(a b:Nat):strGe ⟨#[a]⟩ ⟨#[b]⟩=decide (b≤a):=by
 unfold strGe strGe.strLt
 show (!strGe.lt [a] [b])=_
 unfold strGe.lt
 by_cases h:a < b
 ·rw[Nat.blt_eq.mpr h];simp;omega
 ·have:Nat.blt a b=false:=by rw[←Bool.not_eq_true,Nat.blt_eq];exact h
  rw[this]
  by_cases h2:a=b
  ·subst h2;rw[Nat.beq_refl];simp[strGe.lt]
  ·have:Nat.beq a b=false:=by rw[←Bool.not_eq_true];exact fun q=>h2 (Nat.eq_of_beq_eq_true q)
   rw[this];simp;omega
theorem uc{n:Nat}(h1:65≤n)(h2:n≤90):iB n=n+32:=by rw[o6];unfold lo1;rw[if_pos ⟨h1,h2⟩]
theorem gI{n:Nat}(h:¬ (65≤n∧n≤90)):iB n=n:=by rw[o6];unfold lo1;rw[if_neg h]
theorem lV{f:Nat→Str}:∀(l:List Nat),dP (l.map fun c=>CV.str (f c))=some (l.map f)
 |[]=>rfl
 |a::l=>by rw[List.map_cons];simp only[dP];rw[lV l];rfl
theorem kQ:∀(l:List Nat),kc (l.map fun c=>(⟨#[iB c]⟩:Str))=l.length
 |[]=>rfl
 |a::l=>by rw[List.map_cons];unfold kc;rw[kQ l];show 1+_=_;simp;omega
theorem n5:∀(l:List Nat),Str.join ⟨#[]⟩ (l.map fun c=>(⟨#[iB c]⟩:Str))=⟨(l.map iB).toArray⟩
 |[]=>rfl
 |[a]=>rfl
 |a::b::l=>by
  have:=n5 (b::l)
  rw[List.map_cons] at this ⊢
  rw[List.map_cons] at this ⊢
  unfold Str.join
  rw[this]
  show Str.mk (#[iB a]++#[]++(List.map iB (b::l)).toArray)=_
  simp
theorem vD(P:Params)(x:Str)(k:K1)(X:KX)(hx:x.length≤1000)(h:k (.v (.str (ae x))) []):ap (ES P) (zo P) [.v (.str x)] [] k X:=by
 refine And.intro hx ?_
 refine And.intro ?_ ?_
 ·refine And.intro ?_ ?_
  ·intro vals M k X z
   obtain⟨rfl,l,e,z⟩:=z
   cases l with
   |nil=>exact z
   |cons c l=>cases e
  ·intro c cs vals M k X z
   obtain⟨rfl,l,e,z⟩:=z
   cases l with
   |nil=>cases e
   |cons n l=>
    cases e
    rw[List.map_cons] at z
    walk_at "a4"
    ·have g1:65≤n:=by have:=(oJ n 65).symm.trans h1;simpa using this
     refine aA (fun h2=>?_) (fun h2=>?_)
     ·have g2:n≤90:=by have:=(oJ 90 n).symm.trans h2;simpa using this
      refine And.intro ?_ ?_
      ·show (0:Int)≤n+32∧(n:Int)+32 < 128;omega
      ·rw[uc g1 g2] at z
       exact⟨rfl,l,rfl,z⟩
     ·have g2:¬ n≤90:=by have:=(oJ 90 n).symm.trans h2;simpa using this
      rw[gI (by omega)] at z
      exact⟨rfl,l,rfl,z⟩
    ·have g1:¬ 65≤n:=by have:=(oJ n 65).symm.trans h1;simpa using this
     rw[gI (by omega)] at z
     exact⟨rfl,l,rfl,z⟩
 ·have hl:x.cps.toList.length=x.length:=by simp[Str.length]
  refine⟨rfl,x.cps.toList,rfl,?_⟩
  refine af (v:=x.cps.toList.map fun c=>(⟨#[iB c]⟩:Str)) (lV (f:=fun c=>⟨#[iB c]⟩) _) ?_
  refine And.intro ⟨?_,?_⟩ ?_
  ·rw[List.length_map,hl];exact hx
  ·rw[kQ,List.length_map,hl];show x.length+x.length*0≤1000;omega
  ·have e:=n5 x.cps.toList
   show k (.v (.str (Str.join ⟨#[]⟩ _))) _
   rw[e];exact h
def yb:aE:=fun args kws M k X=>match args,kws,M with
 |[.v (.str x)],[],[]=>x.length≤1000∧k (.v (.str (ae x))) []
 |_,_,_=>False
theorem Am{D:Wd}(h:Ok D):SpecOk D 63 822 yb:=(ah (zr h) (Cf h)).less fun args kws M k X z=>by
 unfold yb at z
 split at z
 ·exact vD _ _ k X z.1 z.2
 ·exact z.elim
def ER(P:Params):Tb:=aD (ES P) 822 yb
theorem Ce{D:Wd}(h:Ok D):TbOk D 63 (ER D.w.params):=(Cf h).add (Am h) (zr h).keep
theorem t9{α:Type}{l:List α}{i:Nat}{c:α}(h:l[i]?=some c):bP l ((0:Int)+i)=some c:=by
 unfold bP
 rw[decide_eq_true (by omega),cond_true]
 have:((0:Int)+i).toNat=i:=by omega
 rw[this];exact h
theorem bl{i n:Nat}(h:i < n):List.range' i (n - i)=i::List.range' (i+1) (n - (i+1)):=by
 rw[show n - i=(n - (i+1))+1 by omega,List.range'_succ]
theorem ma(P:Params)(b:Bool)(s:SrcR)(nm:Str)(k:K1)(X:KX)(ok:cb s.cols)(h:k (.v (FT (aU nm s.cols 0))) (zF b s)):ap (ER P) (eK P) [Di b s,.v (.str nm)] (zF b s) k X:=by
 have hlen:(s.cols.map aJ).length≤1000:=by rw[List.length_map];exact ok.1
 cases b
 all_goals
  walk_at "aY"
  refine And.intro ⟨by omega,by show ((s.cols.map aJ).length:Int)≤1000;omega⟩ ?_
  refine And.intro ⟨by omega,by show ((s.cols.map aJ).length:Int)≤1000;omega,by show (0:Int)≤((s.cols.map aJ).length:Int);omega⟩ ?_
  refine And.intro ?_ ?_
  ·refine And.intro ?_ ?_
   ·intro vals M k X z
    obtain⟨b,s,nm,i,rfl,rfl,ok,hi,e,z⟩:=z
    have e2:s.cols.length - i=0:=by
     walk_at "aR"
     simpa using this.symm
    have e3:s.cols.drop i=[]:=List.drop_eq_nil_iff.mpr (by omega)
    rw[e3] at z
    exact z
   ·intro c cs vals M k X z
    obtain⟨b,s,nm,i,rfl,rfl,ok,hi,e,z⟩:=z
    have hlt:i < s.cols.length:=by
     walk_at "aR"
     simp at this;omega
    rw[bl hlt,List.map_cons] at e
    obtain⟨e1,e2⟩:=List.cons.inj e
    subst e1
    obtain⟨cl,hcl⟩:∃cl,s.cols[i]?=some cl:=⟨s.cols[i],List.getElem?_eq_getElem hlt⟩
    have hd:s.cols.drop i=cl::s.cols.drop (i+1):=by
     rw[List.drop_eq_getElem_cons hlt];congr 1
     rw[List.getElem?_eq_getElem hlt] at hcl;exact Option.some.inj hcl
    rw[hd] at z
    have hm:(s.cols.map aJ)[i]?=some (aJ cl):=by rw[List.getElem?_map,hcl];rfl
    cases b
    all_goals
     refine af (v:=.v (aJ cl)) ?_ ?_
     ·show (match bP (s.cols.map aJ) ((0:Int)+i) with|some c=>some (AV.v c)|none=>none)=_
      rw[t9 hm]
     refine And.intro (by show (s.cols.map aJ).length≤1000;rw[List.length_map];exact ok.1) ?_
     refine And.intro (by show (3:Nat)≤1000;omega) ?_
     refine And.intro (ok.2 _ (List.mem_of_getElem? hcl)) ?_
     walk_at "a4"
     ·unfold aU at z
      rw[h1] at z
      simp only[cond_true] at z
      rw[←Int.zero_add (i:Int)] at z
      exact z
     ·unfold aU at z
      rw[h1] at z
      first
       |exact⟨false,s,nm,i+1,rfl,rfl,ok,hlt,e2,z⟩
       |exact⟨true,s,nm,i+1,rfl,rfl,ok,hlt,e2,z⟩
  ·first
    |refine⟨false,s,nm,0,rfl,rfl,ok,Nat.zero_le _,?_,?_⟩
    |refine⟨true,s,nm,0,rfl,rfl,ok,Nat.zero_le _,?_,?_⟩
   ·show (List.range (((s.cols.map aJ).length:Int) - 0).toNat).map (fun(j:Nat)=>CV.int ((0:Int)+j))=_
    rw[List.length_map,show ((s.cols.length:Int) - 0).toNat=s.cols.length - 0 by omega,List.range_eq_range']
   ·rw[List.drop_zero]
    cases hp:aU nm s.cols 0 with
    |none=>rw[hp] at h;exact h
    |some j=>rw[hp] at h;exact h
def wT:aE:=fun args kws M k X=>kws=[]∧∃(b:Bool) (s:SrcR) (nm:Str),M=zF b s∧args=[Di b s,.v (.str nm)]∧cb s.cols∧k (.v (FT (aU nm s.cols 0))) M
theorem wS{D:Wd}(h:Ok D):SpecOk D 64 1158 wT:=(ah (eO h) (Ce h)).less fun args kws M k X z=>by
 obtain⟨rfl,b,s,nm,rfl,rfl,ok,z⟩:=z
 cases b
 ·exact ma _ false s nm k X ok z
 ·exact ma _ true s nm k X ok z
def EQ(P:Params):Tb:=aD (ER P) 1158 wT
theorem Cd{D:Wd}(h:Ok D):TbOk D 64 (EQ D.w.params):=(Ce h).add (wS h) (eO h).keep
theorem sb(P:Params)(s:SrcR)(nm:Str)(k:K1)(X:KX)(ok:∀a,s.alias=some a→a.length≤1000)(h:k (.v (.bool (dc s nm))) []):ap (EQ P) (eL P) [.v s.c,.v (.str nm)] [] k X:=by
 obtain⟨num,alias,cols,sel,ons,us⟩:=s
 cases alias with
 |none=>exact h
 |some a=>
  refine And.intro (ok a rfl) ?_
  exact h
def xy:aE:=fun args kws M k X=>kws=[]∧M=[]∧∃(s:SrcR) (nm:Str),args=[.v s.c,.v (.str nm)]∧(∀a,s.alias=some a→a.length≤1000)∧k (.v (.bool (dc s nm))) []
theorem xx{D:Wd}(h:Ok D):SpecOk D 65 1165 xy:=(ah (eP h) (Cd h)).less fun args kws M k X z=>by
 obtain⟨rfl,rfl,s,nm,rfl,ok,z⟩:=z
 exact sb _ s nm k X ok z
def EP(P:Params):Tb:=aD (EQ P) 1165 xy
theorem Cc{D:Wd}(h:Ok D):TbOk D 65 (EP D.w.params):=(Cd h).add (xx h) (eP h).keep
def oO:List Str:=["rowid","oid","_rowid_"]
theorem mI(tbl:Option Str)(col:Str):∀l:List SrcR,(bJ tbl col l).length≤l.length
 |[]=>Nat.le_refl _
 |s::r=>by
  have:=mI tbl col r
  unfold bJ
  cases (tbl.isNone&&inC (.str col) (s.us.map ag)) with
  |true=>rw[cond_true];exact Nat.le_succ_of_le this
  |false=>
   rw[cond_false]
   cases a7 tbl s with
   |false=>rw[cond_false];exact Nat.le_succ_of_le this
   |true=>
    rw[cond_true]
    split
    ·exact Nat.succ_le_succ this
    ·exact Nat.le_succ_of_le this
theorem mG{col:Str}{s:SrcR}{r:List SrcR}(h:inC (.str col) (s.us.map ag)=true):bJ none col (s::r)=bJ none col r:=by
 show (bif (true&&inC (.str col) (s.us.map ag)) then _ else _)=_
 rw[h];rfl
theorem n8{col:Str}{s:SrcR}{r:List SrcR}(h:inC (.str col) (s.us.map ag)=false):bJ none col (s::r)=match aU col s.cols 0 with|some j=>(s,j)::bJ none col r|none=>bJ none col r:=by
 show (bif (true&&inC (.str col) (s.us.map ag)) then _ else _)=_
 rw[h];rfl
theorem uq{t col:Str}{s:SrcR}{r:List SrcR}(h:dc s t=true):bJ (some t) col (s::r)=match aU col s.cols 0 with|some j=>(s,j)::bJ (some t) col r|none=>bJ (some t) col r:=by
 show (bif dc s t then _ else _)=_
 rw[h];rfl
theorem mH{t col:Str}{s:SrcR}{r:List SrcR}(h:dc s t=false):bJ (some t) col (s::r)=bJ (some t) col r:=by
 show (bif dc s t then _ else _)=_
 rw[h];rfl
theorem vE(P:Params)(b:Bool)(srcs:List SrcR)(als:List CV)(n:Int)(tbl:Option Str)(col:Str)(k:K1)(X:KX)(ok:∀s∈srcs,gi s)(hz:srcs.length≤900)(hr:sIn col oO=false)
  (h:k (.v (.lst ((bJ tbl col srcs).map mK))) (scM b srcs als n)):ap (EP P) (dF P) [.ref 0,.v (aP tbl),.v (.str col)] (scM b srcs als n) k X:=by
 have hz2:(srcs.map SrcR.c).length≤1000:=by rw[List.length_map];omega
 cases b
 all_goals
  refine And.intro (by show 0≤1000;omega) ?_
  refine And.intro hz2 ?_
  refine And.intro ?_ ?_
  ·refine And.intro ?_ ?_
   ·intro vals M k X z
    obtain⟨b,srcs,als,n,tbl,col,todo,fs,rfl,rfl,e,ok,hz,z⟩:=z
    cases todo with
    |nil=>rw[show fs++(bJ tbl col []).map mK=fs by simp[bJ]] at z;exact z
    |cons s r=>cases e
   ·intro c cs vals M k X z
    obtain⟨b,srcs,als,n,tbl,col,todo,fs,rfl,rfl,e,ok,hz,z⟩:=z
    cases todo with
    |nil=>cases e
    |cons s r=>
     cases e
     have o1:=ok s (.head _)
     have ok':∀x∈r,gi x:=fun x hx=>ok x (.tail _ hx)
     have hz':fs.length+r.length≤900:=by simp only[List.length_cons] at hz;omega
     have hf:fs.length≤999:=by omega
     have hu:(s.us.map ag).length≤1000∧∀c∈s.us.map ag,Cm 8 c (.str col):=⟨by rw[List.length_map];exact o1.us,fun c hc=>by
      obtain⟨y,_,rfl⟩:=List.mem_map.mp hc
      show kOk 3 3=true;rfl⟩
     have step:∀{l:List (SrcR×Nat)},bJ tbl col (s::r)=l++bJ tbl col r→k .next [.ref 0,.v (aP tbl),.v (.str col),.ref (bif b then 4 else 3)] (scM b srcs als n++[.lst ((fs++l.map mK)++(bJ tbl col r).map mK)]):=fun {l} e=>by
      rw[e,List.map_append,←List.append_assoc] at z;exact z
     cases b<;>cases tbl with
     |none=>
      refine And.intro hu ?_
      walk_at "a4"
      ·have z:=step (l:=[]) (mG h1)
       walk_at "df"
      ·have hh:=n8 (r:=r) h1
       refine⟨rfl,false,s,col,rfl,rfl,o1.cols,?_⟩
       cases hp:aU col s.cols 0 with
       |none=>
        rw[hp] at hh
        have z:=step (l:=[]) hh
        walk_at "df"
       |some j=>
        walk_at "dk"
        exact And.intro rfl ⟨_,srcs,als,n,none,col,r,fs++[mK (s,j)],rfl,rfl,rfl,ok',by rw[List.length_append];show fs.length+1+r.length≤900;simp only[List.length_cons] at hz;omega,z⟩
     |some t=>
      refine⟨rfl,rfl,s,t,rfl,o1.alias,?_⟩
      walk_at "a4"
      ·have hh:=uq (col:=col) (r:=r) h1
       refine⟨rfl,false,s,col,rfl,rfl,o1.cols,?_⟩
       cases hp:aU col s.cols 0 with
       |none=>
        rw[hp] at hh
        have z:=step (l:=[]) hh
        walk_at "dc"
       |some j=>
        walk_at "dk"
        exact And.intro rfl ⟨_,srcs,als,n,some t,col,r,fs++[mK (s,j)],rfl,rfl,rfl,ok',by rw[List.length_append];show fs.length+1+r.length≤900;simp only[List.length_cons] at hz;omega,z⟩
      ·have z:=step (l:=[]) (mH h1)
       walk_at "dc"
  ·first
    |refine⟨true,srcs,als,n,tbl,col,srcs,[],rfl,rfl,rfl,ok,by simp;omega,?_⟩
    |refine⟨false,srcs,als,n,tbl,col,srcs,[],rfl,rfl,rfl,ok,by simp;omega,?_⟩
   rw[List.nil_append]
   have hl:((bJ tbl col srcs).map mK).length≤1000:=by rw[List.length_map];have:=mI tbl col srcs;omega
   refine And.intro (by show 0≤1000;omega) ?_
   refine And.intro hl ?_
   walk_at "a4"
   ·refine aA (fun h2=>?_) (fun h2=>?_)
    ·exact absurd (hr.symm.trans h2) (by decide)
    ·exact h
   ·exact h
def CG:aE:=fun args kws M k X=>kws=[]∧∃(b:Bool) (srcs:List SrcR) (als:List CV) (n:Int) (tbl:Option Str) (col:Str),args=[.ref 0,.v (aP tbl),.v (.str col)]∧M=scM b srcs als n ∧
 (∀s∈srcs,gi s)∧srcs.length≤900∧sIn col oO=false∧k (.v (.lst ((bJ tbl col srcs).map mK))) (scM b srcs als n)
theorem An{D:Wd}(h:Ok D):SpecOk D 66 1194 CG:=(ah (dI h) (Cc h)).less fun args kws M k X z=>by
 obtain⟨rfl,b,srcs,als,n,tbl,col,rfl,rfl,z1,z2,z3,z⟩:=z
 exact vE _ b srcs als n tbl col k X z1 z2 z3 z
def EO(P:Params):Tb:=aD (EP P) 1194 CG
theorem Cb{D:Wd}(h:Ok D):TbOk D 66 (EO D.w.params):=(Cc h).add (An h) (dI h).keep
theorem sQ(P:Params)(b:Bool)(srcs:List SrcR)(al:List Al)(n:Int)(nm:Str)(k:K1)(X:KX)(ok:∀a∈al,a.1.length≤1000)(hz:al.length≤900)
  (h:k (.v (FU (fU nm al))) (scM b srcs (al.map alC) n)):ap (EO P) (d8 P) [.ref 0,.v (.str nm)] (scM b srcs (al.map alC) n) k X:=by
 have hz2:(al.map alC).length≤1000:=by rw[List.length_map];omega
 cases b
 all_goals
  refine And.intro hz2 ?_
  refine And.intro ?_ ?_
  ·refine And.intro ?_ ?_
   ·intro vals M k X z
    obtain⟨b,srcs,als,n,nm,todo,rfl,rfl,e,ok,z⟩:=z
    cases todo with
    |nil=>exact z
    |cons s r=>cases e
   ·intro c cs vals M k X z
    obtain⟨b,srcs,als,n,nm,todo,rfl,rfl,e,ok,z⟩:=z
    cases todo with
    |nil=>cases e
    |cons s r=>
     cases e
     have o1:=ok s (.head _)
     have ok':∀x∈r,x.1.length≤1000:=fun x hx=>ok x (.tail _ hx)
     cases b
     all_goals
      refine And.intro o1 ?_
      walk_at "a4"
      ·unfold fU at z
       rw[h1] at z
       exact z
      ·unfold fU at z
       rw[h1] at z
       first
        |exact And.intro rfl ⟨_,srcs,als,n,nm,r,rfl,rfl,rfl,ok',z⟩
        |exact⟨_,srcs,als,n,nm,r,rfl,rfl,rfl,ok',z⟩
  ·first
    |refine⟨true,srcs,al.map alC,n,nm,al,rfl,rfl,rfl,ok,?_⟩
    |refine⟨false,srcs,al.map alC,n,nm,al,rfl,rfl,rfl,ok,?_⟩
   cases hp:fU nm al with
   |none=>rw[hp] at h;exact h
   |some j=>rw[hp] at h;exact h
def yy:aE:=fun args kws M k X=>kws=[]∧∃(b:Bool) (srcs:List SrcR) (al:List Al) (n:Int) (nm:Str),args=[.ref 0,.v (.str nm)]∧M=scM b srcs (al.map alC) n ∧
 (∀a∈al,a.1.length≤1000)∧al.length≤900∧k (.v (FU (fU nm al))) (scM b srcs (al.map alC) n)
theorem yx{D:Wd}(h:Ok D):SpecOk D 67 1201 yy:=(ah (ei h) (Cb h)).less fun args kws M k X z=>by
 obtain⟨rfl,b,srcs,al,n,nm,rfl,rfl,z1,z2,z⟩:=z
 exact sQ _ b srcs al n nm k X z1 z2 z
def y0(P:Params):Tb:=aD (EO P) 1201 yy
theorem Ca{D:Wd}(h:Ok D):TbOk D 67 (y0 D.w.params):=(Cb h).add (yx h) (ei h).keep
def kT(tbl:Option Str)(col:Str):CV:=.inst "Name" [("table",aP tbl),("column",.str col),("source",.none),("place",.none),("depth",.int 0)]
theorem jB{α:Type}{l:List α}{i:Nat}{c:α}(h:l[i]?=some c):bP l (i:Int)=some c:=by
 have:=t9 h
 rwa [Int.zero_add] at this
theorem q7(P:Params)(tbl:Option Str)(col:Str)(s:SrcR)(j:Int)(c:Col)(k:K1)(X:KX)(hneg:decide (j < 0)=false)(hn:(match bP (s.cols.map aJ) j with|some c=>some (AV.v c)|none=>none)=some (AV.v (aJ c)))(hl:(s.cols.map aJ).length≤1000)
  (h:k (.v (.inst "Name" [("table",aP tbl),("column",.str col),("source",.int s.num),("place",.int j),("depth",.int 0),("affinity",c.2.1),("collation",c.2.2)])) []) :
  ap (y0 P) (dM P) [.v (kT tbl col),.v s.c,.v (.int j),.v (.int 0)] [] k X:=by
 refine And.intro rfl ?_
 walk_at "as"
 walk_at "as"
 exact h
inductive Ex where
 |lit (i:Int)
 |litS (s:Str)
 |cnt
 |nm (tbl:Option Str) (col:Str)
inductive RE where
 |lit (i:Int)
 |litS (s:Str)
 |cnt
 |nm (tbl:Option Str) (col:Str) (num:Int) (j:Int) (aff coll:CV)
def jS:CV:=.inst "Call" [("name",.str "count"),("arguments",.lst []),("distinct",.bool false),("star",.bool true)]
def Ex.c:Ex→CV
 |.lit i=>.inst "Literal" [("value",.int i)]
 |.litS s=>.inst "Literal" [("value",.str s)]
 |.cnt=>jS
 |.nm t c=>kT t c
def sO(tbl:Option Str)(col:Str)(num:Int)(j:Int)(aff coll:CV):CV:=.inst "Name" [("table",aP tbl),("column",.str col),("source",.int num),("place",.int j),("depth",.int 0),("affinity",aff),("collation",coll)]
def RE.c:RE→CV
 |.lit i=>.inst "Literal" [("value",.int i)]
 |.litS s=>.inst "Literal" [("value",.str s)]
 |.cnt=>jS
 |.nm t c n j a b=>sO t c n j a b
def nX(tbl:Option Str)(col:Str):AO:=.inst "Name" [("table",.v (aP tbl)),("column",.v (.str col)),("source",.v .none),("place",.v .none),("depth",.v (.int 0))]
theorem q6(P:Params)(tbl:Option Str)(col:Str)(s:SrcR)(j:Int)(c:Col)(k:K1)(X:KX)(hneg:decide (j < 0)=false)(hn:(match bP (s.cols.map aJ) j with|some c=>some (AV.v c)|none=>none)=some (AV.v (aJ c)))(hl:(s.cols.map aJ).length≤1000)
  (h:k (.v (sO tbl col s.num j c.2.1 c.2.2)) [nX tbl col]) :
  ap (y0 P) (dM P) [.ref 0,.v s.c,.v (.int j),.v (.int 0)] [nX tbl col] k X:=by
 refine And.intro rfl ?_
 walk_at "as"
 walk_at "as"
 exact h
theorem qZ(P:Params)(tbl:Option Str)(col:Str)(s:SrcR)(j:Int)(c:Col)(k:K1)(X:KX)(hneg:decide (j < 0)=false)(hn:(match bP (s.cols.map aJ) j with|some c=>some (AV.v c)|none=>none)=some (AV.v (aJ c)))(hl:(s.cols.map aJ).length≤1000)
  (h:k (.v (sO tbl col s.num j c.2.1 c.2.2)) [nX tbl col,oM s 2 3,.lst (s.cols.map aJ),.lst (s.us.map ag)]) :
  ap (y0 P) (dM P) [.ref 0,.ref 1,.v (.int j),.v (.int 0)] [nX tbl col,oM s 2 3,.lst (s.cols.map aJ),.lst (s.us.map ag)] k X:=by
 refine And.intro rfl ?_
 walk_at "as"
 walk_at "as"
 exact h
def yp:aE:=fun args kws M k X=>kws=[]∧∃(tbl:Option Str) (col:Str) (s:SrcR) (j:Nat) (c:Col),s.cols[j]?=some c∧s.cols.length≤1000 ∧
 ((args=[.v (kT tbl col),.v s.c,.v (.int j),.v (.int 0)]∧M=[])∨(args=[.ref 0,.v s.c,.v (.int j),.v (.int 0)]∧M=[nX tbl col]) ∨
 (args=[.ref 0,.ref 1,.v (.int j),.v (.int 0)]∧M=[nX tbl col,oM s 2 3,.lst (s.cols.map aJ),.lst (s.us.map ag)])) ∧
 k (.v (sO tbl col s.num j c.2.1 c.2.2)) M
theorem yo{D:Wd}(h:Ok D):SpecOk D 68 1229 yp:=(ah (j7 h) (Ca h)).less fun args kws M k X z=>by
 obtain⟨rfl,tbl,col,s,j,c,e,hl,z1,z⟩:=z
 have h1:decide ((j:Int) < 0)=false:=decide_eq_false (by omega)
 have h2:(s.cols.map aJ)[j]?=some (aJ c):=by rw[List.getElem?_map,e];rfl
 have h3:(match bP (s.cols.map aJ) (j:Int) with|some c=>some (AV.v c)|none=>none)=some (AV.v (aJ c)):=by rw[jB h2]
 have h4:(s.cols.map aJ).length≤1000:=by rw[List.length_map];exact hl
 rcases z1 with ⟨rfl,rfl⟩|⟨rfl,rfl⟩|⟨rfl,rfl⟩
 ·exact q7 _ tbl col s j c k X h1 h3 h4 z
 ·exact q6 _ tbl col s j c k X h1 h3 h4 z
 ·exact qZ _ tbl col s j c k X h1 h3 h4 z
def EN(P:Params):Tb:=aD (y0 P) 1229 yp
theorem B9{D:Wd}(h:Ok D):TbOk D 68 (EN D.w.params):=(Ca h).add (yo h) (j7 h).keep
theorem gA{nm:Str}:∀{l:List Col} {i j:Nat},aU nm l i=some j→i≤j∧∃c,l[j - i]?=some c
 |[],_,_,h=>by cases h
 |c::r,i,j,h=>by
  unfold aU at h
  cases q:sEq (ae c.1) nm with
  |true=>rw[q,cond_true] at h;cases h;exact⟨Nat.le_refl _,c,by simp⟩
  |false=>
   rw[q,cond_false] at h
   obtain⟨h1,c',h2⟩:=gA h
   exact⟨by omega,c',by rw[show j - i=(j - (i+1))+1 by omega];simpa using h2⟩
theorem iq{tbl:Option Str}{col:Str}:∀{l:List SrcR} {p:SrcR×Nat},p∈bJ tbl col l→p.1∈l∧∃c,p.1.cols[p.2]?=some c
 |[],p,h=>by cases h
 |s::r,p,h=>by
  have go:p∈bJ tbl col r→p.1∈s::r∧∃c,p.1.cols[p.2]?=some c:=fun h=>⟨.tail _ (iq h).1,(iq h).2⟩
  unfold bJ at h
  cases q:(tbl.isNone&&inC (.str col) (s.us.map ag)) with
  |true=>rw[q,cond_true] at h;exact go h
  |false=>
   rw[q,cond_false] at h
   cases q2:a7 tbl s with
   |false=>rw[q2,cond_false] at h;exact go h
   |true=>
    rw[q2,cond_true] at h
    cases q3:aU col s.cols 0 with
    |none=>rw[q3] at h;exact go h
    |some j=>
     rw[q3] at h
     cases h with
     |head=>exact⟨.head _,by simpa using (gA q3).2⟩
     |tail _ h=>exact go h
abbrev AlR:=Str×RE×Int
def AlR.al(a:AlR):Al:=(a.1,a.2.1.c,a.2.2)
def fT(nm:Str):List AlR→Option RE
 |[]=>none
 |a::r=>bif sEq (ae a.1) nm then some a.2.1 else fT nm r
theorem oh{nm:Str}:∀{l:List AlR},fU nm (l.map AlR.al)=(fT nm l).map RE.c
 |[]=>rfl
 |a::r=>by
  rw[List.map_cons]
  unfold fU fT
  show (bif sEq (ae a.1) nm then _ else _)=_
  cases sEq (ae a.1) nm with
  |true=>rfl
  |false=>exact oh
def bN(als:List AlR):List CV:=(als.map AlR.al).map alC
structure jn(srcs:List SrcR)(als:List AlR):Prop where
 src:∀s∈srcs,gi s
 len:srcs.length≤900
 nms:∀a∈als,a.1.length≤1000
 alen:als.length≤900
def nP(tbl:Option Str)(col:Str):Str:=match tbl with
 |none=>col
 |some t=>t ++ "." ++ col
def vS(tbl:Option Str)(col:Str)(p:SrcR×Nat):RE:=match p.1.cols[p.2]? with
 |some c=>.nm tbl col p.1.num p.2 c.2.1 c.2.2
 |none=>.cnt
inductive Res(α:Type) where
 |no (m:Str)
 |ok (a:α)
def eR(srcs:List SrcR)(als:List AlR)(tbl:Option Str)(col:Str):Res RE:=
 match bJ (tbl.map ae) (ae col) srcs with
 |[]=>(match tbl with
  |none=>(match fT (ae col) als with
   |some e=>.ok e
   |none=>.no ("no such column: " ++ nP none col))
  |some t=>.no ("no such column: " ++ nP (some t) col))
 |[p]=>.ok (vS tbl col p)
 |_=>.no ("ambiguous column name: " ++ nP tbl col)
structure zl(tbl:Option Str)(col:Str):Prop where
 clen:col.length≤300
 tlen:∀t,tbl=some t→t.length≤300
 row:sIn (ae col) oO=false
def b9{α:Type}(r:Res α)(X:Str→Prop)(k:α→Prop):Prop:=match r with
 |.no m=>X m
 |.ok a=>k a
theorem dR(a b:Str):(a++b).length=a.length+b.length:=Array.size_append
theorem leB{n m:Nat}(h:Nat.ble n m=true):n≤m:=Nat.le_of_ble_eq_true h
theorem pV(P:Params)(b:Bool)(srcs:List SrcR)(als:List AlR)(n:Int)(tbl:Option Str)(col:Str)(k:K1)(X:KX)(so:jn srcs als)(no:zl tbl col)
  (h:b9 (eR srcs als tbl col) (fun m=>X m (scM b srcs (bN als) n)) (fun e=>k (.v e.c) (scM b srcs (bN als) n))) :
  ap (EN P) (gQ P) [.v (kT tbl col),.ref 0] (scM b srcs (bN als) n) k X:=by
 have hc3:=no.clen
 have hc:col.length≤1000:=Nat.le_trans no.clen (by decide)
 have ha:∀a∈als.map AlR.al,a.1.length≤1000:=fun a h=>by
  obtain⟨x,hx,rfl⟩:=List.mem_map.mp h
  exact so.nms x hx
 have hal:(als.map AlR.al).length≤900:=by rw[List.length_map];exact so.alen
 have hh:=mI (tbl.map ae) (ae col) srcs
 have hm:∀p∈bJ (tbl.map ae) (ae col) srcs,p.1∈srcs∧∃c,p.1.cols[p.2]?=some c:=fun p hp=>iq hp
 have hl:=so.len
 have ht:=no.tlen
 have hsl:∀p∈bJ (tbl.map ae) (ae col) srcs,p.1.cols.length≤1000:=fun p hp=>(so.src _ (hm p hp).1).cols.1
 unfold eR at h
 generalize hq:bJ (tbl.map ae) (ae col) srcs=hs at h hh hm hsl
 have hlen:(hs.map mK).length≤1000:=by rw[List.length_map];omega
 have amb:(p q:SrcR×Nat)→(r:List (SrcR×Nat))→decide ((1:Int) < ((p::q::r).map mK).length)=true:=fun p q r=>decide_eq_true (by simp only[List.length_map,List.length_cons];omega)
 cases b<;>cases tbl with
 |none=>
  refine And.intro hc ?_
  walk_at "n_0"
  walk_at "n_0"
  first
   |refine⟨rfl,true,srcs,bN als,n,none,ae col,rfl,rfl,so.src,so.len,no.row,?_⟩
   |refine⟨rfl,false,srcs,bN als,n,none,ae col,rfl,rfl,so.src,so.len,no.row,?_⟩
  rw[show bJ none (ae col) srcs=hs from hq]
  walk_at "aY"
  rcases hs with _|⟨p,_|⟨q,r⟩⟩
  ·refine And.intro hlen ?_
   first
    |refine⟨rfl,true,srcs,als.map AlR.al,n,ae col,rfl,rfl,ha,hal,?_⟩
    |refine⟨rfl,false,srcs,als.map AlR.al,n,ae col,rfl,rfl,ha,hal,?_⟩
   rw[oh]
   cases hf:fT (ae col) als with
   |none=>
    rw[hf] at h
    refine And.intro (by show 0≤999;omega) ?_
    refine And.intro (by show _≤1000;have:("no such column: " : Str).length=16:=rfl;omega) ?_
    exact h
   |some e=>
    rw[hf] at h
    cases e<;>exact h
  ·obtain⟨h1,c,h2⟩:=hm p (.head _)
   repeat walk_at "n_0"
   refine⟨rfl,none,col,p.1,p.2,c,h2,hsl p (.head _),.inl ⟨rfl,rfl⟩,?_⟩
   unfold b9 vS at h
   simp only[h2] at h
   exact h
  ·refine aA (fun _=>?_) (fun h1=>absurd ((amb p q r).symm.trans h1) (by decide))
   refine And.intro (by show _≤1000;have:("ambiguous column name: " : Str).length=23:=rfl;omega) ?_
   exact h
 |some t=>
  have ht3:=ht t rfl
  have hd:("." : Str).length=1:=rfl
  have hcat:t.length+("." : Str).length≤1000:=by omega
  have hl1:(t ++ "." : Str).length=t.length+1:=dR _ _
  have hl2:(t ++ "." ++ col:Str).length=t.length+1+col.length:=by rw[dR,hl1]
  refine And.intro (Nat.le_trans ht3 (by decide)) ?_
  refine And.intro hc ?_
  walk_at "n_0"
  walk_at "n_0"
  first
   |refine⟨rfl,true,srcs,bN als,n,some (ae t),ae col,rfl,rfl,so.src,so.len,no.row,?_⟩
   |refine⟨rfl,false,srcs,bN als,n,some (ae t),ae col,rfl,rfl,so.src,so.len,no.row,?_⟩
  rw[show bJ (some (ae t)) (ae col) srcs=hs from hq]
  walk_at "aY"
  rcases hs with _|⟨p,_|⟨q,r⟩⟩
  ·refine And.intro hlen ?_
   refine And.intro (by show 0≤999;omega) ?_
   refine And.intro hcat ?_
   refine And.intro (by show (t ++ "." : Str).length+_≤1000;omega) ?_
   refine And.intro (by show _+(t ++ "." ++ col:Str).length≤1000;have:("no such column: " : Str).length=16:=rfl;omega) ?_
   exact h
  ·obtain⟨h1,c,h2⟩:=hm p (.head _)
   repeat walk_at "n_0"
   refine⟨rfl,some t,col,p.1,p.2,c,h2,hsl p (.head _),.inl ⟨rfl,rfl⟩,?_⟩
   unfold b9 vS at h
   simp only[h2] at h
   exact h
  ·refine aA (fun _=>?_) (fun h1=>absurd ((amb p q r).symm.trans h1) (by decide))
   refine And.intro hcat ?_
   refine And.intro (by show (t ++ "." : Str).length+_≤1000;omega) ?_
   refine And.intro (by show _+(t ++ "." ++ col:Str).length≤1000;have:("ambiguous column name: " : Str).length=23:=rfl;omega) ?_
   exact h
def t6:aE:=fun args kws M k X=>kws=[]∧∃(b:Bool) (srcs:List SrcR) (als:List AlR) (n:Int) (tbl:Option Str) (col:Str),args=[.v (kT tbl col),.ref 0]∧M=scM b srcs (bN als) n ∧
 jn srcs als∧zl tbl col∧b9 (eR srcs als tbl col) (fun m=>X m M) (fun e=>k (.v e.c) M)
theorem u8{D:Wd}(h:Ok D):SpecOk D 69 1249 t6:=(ah (g7 h) (B9 h)).less fun args kws M k X z=>by
 obtain⟨rfl,b,srcs,als,n,tbl,col,rfl,rfl,z1,z2,z⟩:=z
 exact pV _ b srcs als n tbl col k X z1 z2 z
def Bo(P:Params):Tb:=aD (EN P) 1249 t6
theorem B8{D:Wd}(h:Ok D):TbOk D 69 (Bo D.w.params):=(B9 h).add (u8 h) (g7 h).keep
theorem ai{b:Bool}{p q:Prop}(e:b=true)(h:p):(bif b then p else q):=by rw[e];exact h
theorem aj{b:Bool}{p q:Prop}(e:b=false)(h:q):(bif b then p else q):=by rw[e];exact h
def exE(srcs:List SrcR)(als:List AlR):Ex→Res RE
 |.lit i=>.ok (.lit i)
 |.litS s=>.ok (.litS s)
 |.cnt=>.ok .cnt
 |.nm t c=>eR srcs als t c
def fC:Ex→Prop
 |.lit i=>-1000000≤i∧i≤1000000
 |.litS _=>True
 |.cnt=>True
 |.nm t c=>zl t c
def RE.isC:RE→Bool
 |.cnt=>true
 |_=>false
theorem sk(P:Params)(e:RE)(k:K1)(X:KX)(h:k (.v (.bool e.isC)) []):ap (Bo P) (bG P) [.v e.c] [] k X:=by
 cases e with
 |cnt=>
  walk_at "bN"
 |_=>exact h
def lD(l r:RE):CV:=.inst "Binary" [("op",.str "="),("left",l.c),("right",r.c)]
theorem qv(P:Params)(l r:RE)(k:K1)(X:KX)(h:k (.v (.bool false)) []):ap (Bo P) (bG P) [.v (lD l r)] [] k X:=h
def xR:aE:=fun args kws M k X=>kws=[]∧M=[]∧((∃e:RE,args=[.v e.c]∧k (.v (.bool e.isC)) [])∨∃l r,args=[.v (lD l r)]∧k (.v (.bool false)) [])
theorem xQ{D:Wd}(h:Ok D):SpecOk D 70 850 xR:=(ah (cB h) (B8 h)).less fun args kws M k X z=>by
 obtain⟨rfl,rfl,z⟩:=z
 rcases z with ⟨e,rfl,z⟩|⟨l,r,rfl,z⟩
 ·exact sk _ e k X z
 ·exact qv _ l r k X z
def Bm(P:Params):Tb:=aD (Bo P) 850 xR
theorem B7{D:Wd}(h:Ok D):TbOk D 70 (Bm D.w.params):=(B8 h).add (xQ h) (cB h).keep
def RE.aggs(e:RE):List CV:=bif e.isC then [e.c] else []
theorem vT(P:Params)(e:RE)(k:K1)(X:KX)(h:k (.v (.lst e.aggs)) []):ap (Bm P) (bz P) [.v e.c] [] k X:=by
 cases e with
 |cnt=>
  refine⟨rfl,rfl,.inl ⟨.cnt,rfl,?_⟩⟩
  walk_at "bN"
 |lit i=>
  refine⟨rfl,rfl,.inl ⟨.lit i,rfl,?_⟩⟩
  walk_at "bN"
 |litS s=>
  refine⟨rfl,rfl,.inl ⟨.litS s,rfl,?_⟩⟩
  walk_at "bN"
 |nm t c n j a b=>
  refine⟨rfl,rfl,.inl ⟨.nm t c n j a b,rfl,?_⟩⟩
  walk_at "bN"
theorem sS(P:Params)(k:K1)(X:KX)(h:k (.v (.lst [])) []):ap (Bm P) (bz P) [.v .none] [] k X:=by
 walk_at "bN"
def yz:aE:=fun args kws M k X=>kws=[]∧M=[]∧((args=[.v .none]∧k (.v (.lst [])) [])∨∃e:RE,args=[.v e.c]∧k (.v (.lst e.aggs)) [])
theorem uH{D:Wd}(h:Ok D):SpecOk D 71 857 yz:=(ah (bA h) (B7 h)).less fun args kws M k X z=>by
 obtain⟨rfl,rfl,z⟩:=z
 rcases z with ⟨rfl,z⟩|⟨e,rfl,z⟩
 ·exact sS _ k X z
 ·exact vT _ e k X z
def EM(P:Params):Tb:=aD (Bm P) 857 yz
theorem B6{D:Wd}(h:Ok D):TbOk D 71 (EM D.w.params):=(B7 h).add (uH h) (bA h).keep
theorem oW{D:Wd}{d:Nat}{a:Addr}{S S':aE}(h:SpecOk D d a S)(h':SpecOk D d a S'):SpecOk D d a (fun args kws M k X=>S args kws M k X∨S' args kws M k X):=fun as args kws Mh k X M cs ck r1 r2 r3 z=>by
 rcases z with z|z
 ·exact h as args kws Mh k X M cs ck r1 r2 r3 z
 ·exact h' as args kws Mh k X M cs ck r1 r2 r3 z
theorem rh{e:RE}(h:e.isC=false):e.aggs=[]:=by unfold RE.aggs;rw[h];rfl
theorem sT(P:Params)(l r:RE)(k:K1)(X:KX)(hl:l.isC=false)(hr:r.isC=false)(h:k (.v (.lst [])) []):ap (EM P) (bz P) [.v (lD l r)] [] k X:=by
 refine⟨rfl,rfl,.inr ⟨l,r,rfl,?_⟩⟩
 repeat walk_at "n_1"
 refine⟨rfl,rfl,.inr ⟨l,rfl,?_⟩⟩
 rw[rh hl]
 repeat walk_at "n_1"
 refine⟨rfl,rfl,.inr ⟨r,rfl,?_⟩⟩
 rw[rh hr]
 repeat walk_at "n_1"
 exact h
def yB:aE:=fun args kws M k X=>kws=[]∧M=[]∧∃l r:RE,args=[.v (lD l r)]∧l.isC=false∧r.isC=false∧k (.v (.lst [])) []
def D0:aE:=fun args kws M k X=>yz args kws M k X∨yB args kws M k X
theorem yA{D:Wd}(h:Ok D):SpecOk D 72 857 yB:=(ah (bA h) (B6 h)).less fun args kws M k X z=>by
 obtain⟨rfl,rfl,l,r,rfl,hl,hr,z⟩:=z
 exact sT _ l r k X hl hr z
def rE(P:Params):Tb:=aD (EM P) 857 D0
theorem sa{D:Wd}(h:Ok D):TbOk D 72 (rE D.w.params):=(B6 h).add (oW ((uH h).up (Nat.le_succ _)) (yA h)) (bA h).keep
theorem pX(P:Params)(e:RE)(m:Str)(k:K1)(X:KX)(hm:m.length≤1000)(hz:decide ((m.length:Int)≠0)=true)(h:bif e.isC then X m [] else k (.v .none) []):ap (rE P) (cu P) [.v e.c,.v (.str m)] [] k X:=by
 cases e with
 |cnt=>
  refine .inl ⟨rfl,rfl,.inr ⟨.cnt,rfl,?_⟩⟩
  repeat walk_at "n_1"
  refine ai hz ?_
  repeat walk_at "n_1"
  exact h
 |lit i=>
  refine .inl ⟨rfl,rfl,.inr ⟨.lit i,rfl,?_⟩⟩
  walk_at "bN"
 |litS s=>
  refine .inl ⟨rfl,rfl,.inr ⟨.litS s,rfl,?_⟩⟩
  walk_at "bN"
 |nm t c n j a b=>
  refine .inl ⟨rfl,rfl,.inr ⟨.nm t c n j a b,rfl,?_⟩⟩
  walk_at "bN"
theorem oQ(P:Params)(k:K1)(X:KX)(h:k (.v .none) []):ap (rE P) (bB P) [.v .none] [] k X:=by
 walk_at "bq"
 repeat walk_at "n_1"
 exact h
theorem oR(P:Params)(l r:RE)(k:K1)(X:KX)(hl:l.isC=false)(hr:r.isC=false)(h:k (.v .none) []):ap (rE P) (bB P) [.v (lD l r)] [] k X:=by
 refine .inr ⟨rfl,rfl,l,r,rfl,hl,hr,?_⟩
 repeat walk_at "n_1"
 exact h
def pZ:aE:=fun args kws M k X=>kws=[]∧M=[]∧((args=[.v .none]∧k (.v .none) [])∨∃l r:RE,args=[.v (lD l r)]∧l.isC=false∧r.isC=false∧k (.v .none) [])
def pY:aE:=fun args kws M k X=>kws=[]∧M=[]∧∃(e:RE) (m:Str),args=[.v e.c,.v (.str m)]∧m.length≤1000∧decide ((m.length:Int)≠0)=true∧bif e.isC then X m [] else k (.v .none) []
def zN:aE:=fun args kws M k X=>pZ args kws M k X∨pY args kws M k X
theorem rW{D:Wd}(h:Ok D):SpecOk D 73 877 pZ:=(ah (dw h) (sa h)).less fun args kws M k X z=>by
 obtain⟨rfl,rfl,z⟩:=z
 rcases z with ⟨rfl,z⟩|⟨l,r,rfl,hl,hr,z⟩
 ·exact oQ _ k X z
 ·exact oR _ l r k X hl hr z
theorem rV{D:Wd}(h:Ok D):SpecOk D 73 877 pY:=(ah (bH h) (sa h)).less fun args kws M k X z=>by
 obtain⟨rfl,rfl,e,m,rfl,h1,h2,z⟩:=z
 exact pX _ e m k X h1 h2 z
def CR(P:Params):Tb:=aD (rE P) 877 zN
theorem Dp{D:Wd}(h:Ok D):TbOk D 73 (CR D.w.params):=(sa h).add (oW (rW h) (rV h)) (bH h).keep
def EL(P:Params):Tb:=aF (CR P) 1256 (d5 P) 1
theorem B5{D:Wd}(h:Ok D):TbOk D 74 (EL D.w.params):=bh (g8 h) (Dp h)
theorem vr(P:Params)(e:RE)(k:K1)(X:KX)(h:k (.v .none) []):ap (EL P) (kI P) [.v e.c] [] k X:=by
 cases e with
 |cnt=>
  repeat walk_at "c_2"
  refine⟨rfl,rfl,.inl ⟨.cnt,rfl,?_⟩⟩
  walk_at "bN"
 |_=>exact h
def Cw:aE:=fun args kws M k X=>kws=[]∧M=[]∧∃e:RE,args=[.v e.c]∧k (.v .none) []
theorem Ac{D:Wd}(h:Ok D):SpecOk D 75 1263 Cw:=(ah (kL h) (B5 h)).less fun args kws M k X z=>by
 obtain⟨rfl,rfl,e,rfl,z⟩:=z
 exact vr _ e k X z
def EK(P:Params):Tb:=aD (EL P) 1263 Cw
theorem B4{D:Wd}(h:Ok D):TbOk D 75 (EK D.w.params):=(B5 h).add (Ac h) (kL h).keep
def Bl(P:Params):Tb:=aD (EK P) 836 (lK (i8 (EK P) (kH P) 2 []))
theorem B3{D:Wd}(h:Ok D):TbOk D 76 (Bl D.w.params):=(B4 h).add (jh (ah (kK h) (B4 h))) (kK h).keep
theorem u9(P:Params)(b:Bool)(srcs:List SrcR)(als:List AlR)(n:Int)(e:Ex)(k:K1)(X:KX)(so:jn srcs als)(no:fC e)
  (h:b9 (exE srcs als e) (fun m=>X m (scM b srcs (bN als) n)) (fun e=>k (.v e.c) (scM b srcs (bN als) n))) :
  ap (Bl P) (ce P) [.v e.c,.ref 0] (scM b srcs (bN als) n) k X:=by
 cases b<;>cases e with
 |nm t c=>
  first
   |exact⟨rfl,true,srcs,als,n,t,c,rfl,rfl,so,no,h⟩
   |exact⟨rfl,false,srcs,als,n,t,c,rfl,rfl,so,no,h⟩
 |lit i=>
  repeat walk_at "n_1"
  refine⟨rfl,rfl,.lit i,rfl,?_⟩
  exact h
 |litS s=>
  repeat walk_at "n_1"
  refine⟨rfl,rfl,.litS s,rfl,?_⟩
  exact h
 |cnt=>
  repeat walk_at "n_1"
  refine⟨rfl,rfl,.cnt,rfl,?_⟩
  exact h
theorem pU(P:Params)(b:Bool)(srcs:List SrcR)(als:List AlR)(n:Int)(k:K1)(X:KX)(h:k (.v .none) (scM b srcs (bN als) n)) :
  ap (Bl P) (ce P) [.v .none,.ref 0] (scM b srcs (bN als) n) k X:=by
 cases b<;>exact h
def BF:aE:=fun args kws M k X=>kws=[]∧∃(b:Bool) (srcs:List SrcR) (als:List AlR) (n:Int),M=scM b srcs (bN als) n ∧
 ((args=[.v .none,.ref 0]∧k (.v .none) M)∨∃e:Ex,args=[.v e.c,.ref 0] ∧
  jn srcs als∧fC e∧b9 (exE srcs als e) (fun m=>X m M) (fun e=>k (.v e.c) M))
theorem oN{D:Wd}(h:Ok D):SpecOk D 77 1268 BF:=(ah (bC h) (B3 h)).less fun args kws M k X z=>by
 obtain⟨rfl,b,srcs,als,n,rfl,z⟩:=z
 rcases z with ⟨rfl,z⟩|⟨e,rfl,z1,z2,z⟩
 ·exact pU _ b srcs als n k X z
 ·exact u9 _ b srcs als n e k X z1 z2 z
def EJ(P:Params):Tb:=aD (Bl P) 1268 BF
theorem B2{D:Wd}(h:Ok D):TbOk D 77 (EJ D.w.params):=(B3 h).add (oN h) (bC h).keep
def CO(T:Tb):Tb:={ T with loops:=[],comps:=[] }
theorem AG{D:Wd}{d:Nat}{T:Tb}(h:TbOk D d T):TbOk D d (CO T):=⟨h.tx,h.fns⟩
def EC(P:Params):Tb:=CO (EJ P)
theorem Fx{D:Wd}(h:Ok D):TbOk D 77 (EC D.w.params):=AG (B2 h)
def EB(P:Params):Tb:=aD (EC P) 1324 (i8 (EC P) (bo P) 2 [])
theorem Fw{D:Wd}(h:Ok D):TbOk D 78 (EB D.w.params):=(Fx h).add (ah (aS h) (Fx h)) (aS h).keep
def EA(P:Params):Tb:=aD (EB P) 1130 (i8 (EB P) (eb P) 1 [])
theorem Fv{D:Wd}(h:Ok D):TbOk D 79 (EA D.w.params):=(Fw h).add (ah (ej h) (Fw h)) (ej h).keep
def Ez(P:Params):Tb:=aD (EA P) 1355 (i8 (EA P) (d4 P) 2 [])
theorem Fu{D:Wd}(h:Ok D):TbOk D 80 (Ez D.w.params):=(Fv h).add (ah (cY h) (Fv h)) (cY h).keep
def Bg(P:Params):Tb:=aD (Ez P) 1369 (i8 (Ez P) (bY P) 3 [])
theorem Ft{D:Wd}(h:Ok D):TbOk D 81 (Bg D.w.params):=(Fu h).add (ah (cH h) (Fu h)) (cH h).keep
theorem leD{a b:Int}(h:decide (a≤b)=true):a≤b:=of_decide_eq_true h
def gK(i:Int):CV:=.inst "Literal" [("value",.int i)]
def rcC(i:Int)(a:Str):CV:=.inst "ResultColumn" [("value",gK i),("alias",.str a),("star_table",.none)]
def p9:List Str→Int→List CV
 |[],_=>[]
 |a::r,i=>rcC i a::p9 r (i+1)
def jQ(cols:List CV)(src:CV)(groups:List CV):CV:=.inst "Core" [("columns",.lst cols),("distinct",.bool false),("source",src),("where",.none),("groups",.lst groups),("having",.none)]
def wC(c:CV):CV:=.inst "Select" [("body",c),("order",.lst []),("limit",.none),("offset",.none)]
def gd:List Str→Int→List CV
 |[],_=>[]
 |a::r,i=>.tup [.str a,gK i]::gd r (i+1)
def eV(n:Int):AO:=.inst "Counter" [("last",.v (.int n))]
def jw(body order:CV)(outs:List CV):CV:=.inst "Resolved" [("body",body),("outputs",.lst outs),("outer",.lst []),("order",order),("limit",.none),("offset",.none)]
def scX(srcs:List SrcR)(als:List CV)(n:Int):AM:=[.inst "Scope" [("sources",.ref 1),("parent",.v .none),("aliases",.v (.lst als)),("catalog",.v .none),("counter",.ref 3),("outer",.v .dct)],.lst (srcs.map SrcR.c),.lst [],.inst "Counter" [("last",.v (.int n))]]
theorem so0:jn [] []:=⟨fun _ h=>(nomatch h),Nat.zero_le _,fun _ h=>(nomatch h),Nat.zero_le _⟩
theorem DP(P:Params)(a:Str)(n:Int)(k:K1)(X:KX)
  (h:k (.v (.lst (gd [a] 70))) (scX [] [.tup [.str a,gK 70,.int 0]] n)) :
  ap (Bg P) (bt P) [.v (.lst (p9 [a] 70)),.ref 0] (scM true [] [] n) k X:=by
 walk_at "ag"
 refine⟨rfl,true,[],[],_,rfl,.inr ⟨.lit 70,rfl,so0,⟨by decide,by decide⟩,?_⟩⟩
 walk_at "ag"
 exact h
theorem DO(P:Params)(a b:Str)(n:Int)(k:K1)(X:KX)
  (h:k (.v (.lst (gd [a,b] 70))) (scX [] [.tup [.str a,gK 70,.int 0],.tup [.str b,gK 71,.int 1]] n)) :
  ap (Bg P) (bt P) [.v (.lst (p9 [a,b] 70)),.ref 0] (scM true [] [] n) k X:=by
 walk_at "ag"
 refine⟨rfl,true,[],[],_,rfl,.inr ⟨.lit 70,rfl,so0,⟨by decide,by decide⟩,?_⟩⟩
 walk_at "ag"
 refine⟨rfl,true,[],[],_,rfl,.inr ⟨.lit 71,rfl,so0,⟨by decide,by decide⟩,?_⟩⟩
 walk_at "ag"
 exact h
def Cy:List Str→Int→Int→List CV
 |[],_,_=>[]
 |a::r,i,j=>.tup [.str a,gK i,.int j]::Cy r (i+1) (j+1)
def xV:aE:=fun args kws M k X=>kws=[]∧∃(names:List Str) (n:Int),(∃a,names=[a]∨∃b,names=[a,b])∧args=[.v (.lst (p9 names 70)),.ref 0]∧M=scM true [] [] n∧k (.v (.lst (gd names 70))) (scX [] (Cy names 70 0) n)
theorem xU{D:Wd}(h:Ok D):SpecOk D 82 1376 xV:=(ah (cZ h) (Ft h)).less fun args kws M k X z=>by
 obtain⟨rfl,names,n,hn,rfl,rfl,z⟩:=z
 obtain⟨a,rfl|⟨b,rfl⟩⟩:=hn
 ·exact DP _ a n k X z
 ·exact DO _ a b n k X z
def Ey(P:Params):Tb:=aD (Bg P) 1376 xV
theorem Fq{D:Wd}(h:Ok D):TbOk D 82 (Ey D.w.params):=(Ft h).add (xU h) (cZ h).keep
def Bf(P:Params):Tb:=aD (Ey P) 1404 (i8 (Ey P) (cF P) 3 [])
theorem Fp{D:Wd}(h:Ok D):TbOk D 83 (Bf D.w.params):=(Fq h).add (ah (dg h) (Fq h)) (dg h).keep
def pg(names:List Str)(cols srcs als cnt:CV):CV:=.inst "Core" [("columns",cols),("distinct",.bool false),("source",.none),("where",.none),("groups",.lst []),("having",.none),("sources",srcs),("outputs",.lst (gd names 70)),
 ("scope",.inst "Scope" [("sources",srcs),("parent",.none),("aliases",als),("catalog",.none),("counter",cnt),("outer",.dct)]),("is_aggregate",.bool false)]
theorem Ah(P:Params)(a:Str)(n:Int)(k:K1)(X:KX)(h:∀cols srcs als cnt,k (.v (pg [a] cols srcs als cnt)) [eV n]) :
  ap (Bf P) (cg P) [.v (jQ (p9 [a] 70) .none []),.v .none,.v .none,.ref 0] [eV n] k X:=by
 walk_at "ag"
 refine⟨rfl,[a],n,⟨a,.inl rfl⟩,rfl,rfl,?_⟩
 walk_at "ag"
 refine⟨rfl,false,[],[(a,.lit 70,0)],n,rfl,.inl ⟨rfl,?_⟩⟩
 walk_at "bq"
 walk_at "ag"
 refine⟨rfl,false,[],[(a,.lit 70,0)],n,rfl,.inl ⟨rfl,?_⟩⟩
 walk_at "ag"
 walk_at "bq"
 walk_at "ag"
 refine .inl ⟨rfl,rfl,.inr ⟨.lit 70,rfl,?_⟩⟩
 walk_at "ag"
 exact h _ _ _ _
theorem Ag(P:Params)(a b:Str)(n:Int)(k:K1)(X:KX)(h:∀cols srcs als cnt,k (.v (pg [a,b] cols srcs als cnt)) [eV n]) :
  ap (Bf P) (cg P) [.v (jQ (p9 [a,b] 70) .none []),.v .none,.v .none,.ref 0] [eV n] k X:=by
 walk_at "ag"
 refine⟨rfl,[a,b],n,⟨a,.inr ⟨b,rfl⟩⟩,rfl,rfl,?_⟩
 walk_at "ag"
 refine⟨rfl,false,[],[(a,.lit 70,0),(b,.lit 71,1)],n,rfl,.inl ⟨rfl,?_⟩⟩
 walk_at "bq"
 walk_at "ag"
 refine⟨rfl,false,[],[(a,.lit 70,0),(b,.lit 71,1)],n,rfl,.inl ⟨rfl,?_⟩⟩
 walk_at "ag"
 walk_at "bq"
 walk_at "ag"
 refine .inl ⟨rfl,rfl,.inr ⟨.lit 70,rfl,?_⟩⟩
 walk_at "ag"
 refine .inl ⟨rfl,rfl,.inr ⟨.lit 71,rfl,?_⟩⟩
 walk_at "ag"
 exact h _ _ _ _
def bR(names:List Str):Prop:=∃a,names=[a]∨∃b,names=[a,b]
def uj:aE:=fun args kws M k X=>kws=[]∧∃(names:List Str) (n:Int),bR names∧args=[.v (jQ (p9 names 70) .none []),.v .none,.v .none,.ref 0]∧M=[eV n]∧∀cols srcs als cnt,k (.v (pg names cols srcs als cnt)) [eV n]
theorem vw{D:Wd}(h:Ok D):SpecOk D 84 1409 uj:=(ah (cX h) (Fp h)).less fun args kws M k X z=>by
 obtain⟨rfl,names,n,hn,rfl,rfl,z⟩:=z
 obtain⟨a,rfl|⟨b,rfl⟩⟩:=hn
 ·exact Ah _ a n k X z
 ·exact Ag _ a b n k X z
def Ew(P:Params):Tb:=aD (Bf P) 1409 uj
theorem Fo{D:Wd}(h:Ok D):TbOk D 84 (Ew D.w.params):=(Fp h).add (vw h) (cX h).keep
def Eu(P:Params):Tb:=aD (Ew P) 1421 (i8 (Ew P) (dZ P) 4 [])
theorem Fm{D:Wd}(h:Ok D):TbOk D 85 (Eu D.w.params):=(Fo h).add (ah (ef h) (Fo h)) (ef h).keep
def Et(P:Params):Tb:=aD (Eu P) 1428 (i8 (Eu P) (fX P) 1 [])
theorem Fl{D:Wd}(h:Ok D):TbOk D 86 (Et D.w.params):=(Fm h).add (ah (f9 h) (Fm h)) (f9 h).keep
def CQ(P:Params):Tb:=aD (Et P) 1442 (i8 (Et P) (fY P) 2 [])
theorem Fs{D:Wd}(h:Ok D):TbOk D 87 (CQ D.w.params):=(Fl h).add (ah (gb h) (Fl h)) (gb h).keep
theorem ar{T:Tb}{I:FnI}{n:Nat}{args:List AV}{M:AM}{k:K1}{X:KX}(h:Nat.beq args.length n=true)(z:ap T I args M k X):i8 T I n [] args [] M k X:=by
 unfold i8 Sp
 rw[h]
 show ap T I (args++[]) M k X
 rw[List.append_nil];exact z
theorem oZ{T:Tb}{I:FnI}{n:Nat}{args:List AV}{M:AM}{k:K1}{X:KX}(h:Nat.beq args.length n=true)(z:jV T I args M k X):em T I n [] args [] M k X:=by
 unfold em Sp
 rw[h]
 show jV T I (args++[]) M k X
 rw[List.append_nil];exact z
def kB(names:List Str):CV:=wC (jQ (p9 names 70) .none [])
theorem sm(P:Params)(names:List Str)(n:Int)(k:K1)(X:KX)(hn:bR names)(h:∀body,k (.v (jw body (.lst []) (gd names 70))) [eV n]) :
  ap (CQ P) (fp P) [.v (kB names),.v .none,.v .none,.ref 0] [eV n] k X:=by
 refine⟨rfl,names,n,hn,rfl,rfl,fun cols srcs als cnt=>?_⟩
 walk_at "ag"
 walk_at "cG"
 walk_at "cG"
 walk_at "n_3"
 walk_at "n_3"
 exact h (pg names cols srcs als cnt)
def xT:aE:=fun args kws M k X=>kws=[]∧∃(names:List Str) (n:Int),bR names∧args=[.v (kB names),.v .none,.v .none,.ref 0]∧M=[eV n]∧∀body,k (.v (jw body (.lst []) (gd names 70))) [eV n]
theorem xS{D:Wd}(h:Ok D):SpecOk D 88 1481 xT:=(ah (fw h) (Fs h)).less fun args kws M k X z=>by
 obtain⟨rfl,names,n,hn,rfl,rfl,z⟩:=z
 exact ar rfl (sm _ names n k X hn z)
theorem TbOk.le{D:Wd}{T:Tb}:∀{d:Nat} (n:Nat),TbOk D d T→TbOk D (d+n) T
 |_,0,h=>h
 |d,n+1,h=>(TbOk.le n h).up
def Hu(P:Params):Tb:=aD (EJ P) 1481 xT
theorem F7{D:Wd}(h:Ok D):TbOk D 88 (Hu D.w.params):=TbOk.add (d:=87) (TbOk.le 10 (B2 h)) (xS h) (fw h).keep
def Bk(P:Params):Tb:=aF (Hu P) 1130 (eb P) 1
theorem wX{D:Wd}(h:Ok D):TbOk D 89 (Bk D.w.params):=bh (ej h) (F7 h)
theorem yC(P:Params)(i:Int)(k:K1)(X:KX)(h:k (.v .none) []):ap (Bk P) (eW P) [.v (gK i)] [] k X:=h
theorem vN(P:Params)(i:Int)(k:K1)(X:KX)(h:k (.v (.str "binary")) []):ap (Bk P) (d7 P) [.v (gK i)] [] k X:=by
 walk_at "ag"
 exact h
def Hg:aE:=fun args kws M k X=>kws=[]∧M=[]∧∃i,args=[.v (gK i)]∧k (.v .none) []
def CM:aE:=fun args kws M k X=>kws=[]∧M=[]∧∃i,args=[.v (gK i)]∧k (.v (.str "binary")) []
theorem D1{D:Wd}(h:Ok D):SpecOk D 90 885 Hg:=(ah (e8 h) (wX h)).less fun args kws M k X z=>by
 obtain⟨rfl,rfl,i,rfl,z⟩:=z
 exact ar rfl (yC _ i k X z)
theorem Ay{D:Wd}(h:Ok D):SpecOk D 90 907 CM:=(ah (eh h) (wX h)).less fun args kws M k X z=>by
 obtain⟨rfl,rfl,i,rfl,z⟩:=z
 exact ar rfl (vN _ i k X z)
def Ht(P:Params):Tb:=aD (Bk P) 885 Hg
theorem F6{D:Wd}(h:Ok D):TbOk D 90 (Ht D.w.params):=(wX h).add (D1 h) (e8 h).keep
def EI(P:Params):Tb:=aD (Ht P) 907 CM
theorem B1{D:Wd}(h:Ok D):TbOk D 91 (EI D.w.params):=(F6 h).add ((Ay h).up (Nat.le_succ _)) (eh h).keep
def c9(a:Str):Col:=(a,.none,.str "binary")
theorem pS(P:Params)(names:List Str)(body:CV)(alias:Option Str)(n:Int)(k:K1)(X:KX)(hn:bR names)
  (h:k (.ref 1) [.lst ((names.map c9).map aJ),oM ⟨n,alias,names.map c9,jw body (.lst []) (gd names 70),.none,[]⟩ 0 2,.lst []]) :
  jV (EI P) (gj P) [.v (jw body (.lst []) (gd names 70)),.v (aP alias),.v (.int n),.v (.str "inner")] [] k X:=by
 obtain⟨a,rfl|⟨b,rfl⟩⟩:=hn
 ·repeat walk_at "n_3"
  refine⟨rfl,rfl,70,rfl,?_⟩
  refine⟨rfl,rfl,70,rfl,?_⟩
  walk_at "ag"
  exact h
 ·repeat walk_at "n_3"
  refine⟨rfl,rfl,70,rfl,?_⟩
  refine⟨rfl,rfl,70,rfl,?_⟩
  walk_at "ag"
  refine⟨rfl,rfl,71,rfl,?_⟩
  refine⟨rfl,rfl,71,rfl,?_⟩
  walk_at "ag"
  exact h
def tZ:aE:=fun args kws M k X=>kws=[]∧M=[]∧∃(names:List Str) (body:CV) (alias:Option Str) (n:Int),bR names∧args=[.v (jw body (.lst []) (gd names 70)),.v (aP alias),.v (.int n),.v (.str "inner")] ∧
 k (.ref 1) [.lst ((names.map c9).map aJ),oM ⟨n,alias,names.map c9,jw body (.lst []) (gd names 70),.none,[]⟩ 0 2,.lst []]
theorem u7{D:Wd}(h:Ok D):SpecOk D 92 1242 tZ:=(a9 (gm h) (B1 h)).less fun args kws M k X z=>by
 obtain⟨rfl,rfl,names,body,alias,n,hn,rfl,z⟩:=z
 exact oZ rfl (pS _ names body alias n k X hn z)
def EH(P:Params):Tb:=aD (EI P) 1242 tZ
theorem B0{D:Wd}(h:Ok D):TbOk D 92 (EH D.w.params):=(B1 h).add (u7 h) (gm h).keep
structure Row where
 alias:Option Str
 names:List Str
 us:List Str
def Row.node(r:Row):CV:=.inst "SelectSource" [("select",kB r.names),("alias",aP r.alias)]
theorem oS(P:Params)(srcs:List SrcR)(r:Row)(n:Int)(k:K1)(X:KX)(hn:bR r.names)
  (h:∀sel,k (.ref 5) (scM true srcs [] (n+1)++[.lst ((r.names.map c9).map aJ),oM ⟨n+1,r.alias,r.names.map c9,sel,.none,[]⟩ 4 6,.lst []])) :
  jV (EH P) (iO P) [.v r.node,.v (.str "inner"),.ref 0] (scM true srcs [] n) k X:=by
 refine⟨rfl,r.names,n,hn,rfl,rfl,fun body=>?_⟩
 walk_at "n_3"
 refine⟨rfl,rfl,r.names,body,r.alias,n+1,hn,rfl,?_⟩
 exact h (jw body (.lst []) (gd r.names 70))
def p0:aE:=fun args kws M k X=>kws=[]∧∃(srcs:List SrcR) (r:Row) (n:Int),bR r.names∧args=[.v r.node,.v (.str "inner"),.ref 0]∧M=scM true srcs [] n ∧
 ∀sel,k (.ref 5) (scM true srcs [] (n+1)++[.lst ((r.names.map c9).map aJ),oM ⟨n+1,r.alias,r.names.map c9,sel,.none,[]⟩ 4 6,.lst []])
theorem rX{D:Wd}(h:Ok D):SpecOk D 93 1338 p0:=(a9 (iS h) (B0 h)).less fun args kws M k X z=>by
 obtain⟨rfl,srcs,r,n,hn,rfl,rfl,z⟩:=z
 exact oZ rfl (oS _ srcs r n k X hn z)
def Bj(P:Params):Tb:=aD (EH P) 1338 p0
theorem BZ{D:Wd}(h:Ok D):TbOk D 93 (Bj D.w.params):=(B0 h).add (rX h) (iS h).keep
def Row.item(r:Row):CV:=.tup [r.node,.str "inner",.none,.lst (r.us.map ag)]
def iK(l:CV)(r:Row):CV:=.inst "Join" [("kind",.str "inner"),("left",l),("right",r.node),("on",.none),("using",.lst (r.us.map ag))]
def aZ:List Row→CV
 |[]=>.none
 |[r]=>r.node
 |[r,r2]=>iK r.node r2
 |r::r2::r3::_=>iK (iK r.node r2) r3
def vc(r:Row):CV:=.tup [r.node,.str "inner",.none,.lst []]
theorem G8(P:Params)(k:K1)(X:KX)(h:k (.v (.lst [])) []):ap (Bj P) (bo P) [.v .none,.v (.str "inner")] [] k X:=by
 walk_at "ag"
 exact h
theorem G7(P:Params)(r:Row)(k:K1)(X:KX)(h:k (.v (.lst [vc r])) []):ap (Bj P) (bo P) [.v r.node,.v (.str "inner")] [] k X:=by
 walk_at "ag"
 exact h
def sA:aE:=fun args kws M k X=>kws=[]∧M=[]∧((args=[.v .none,.v (.str "inner")]∧k (.v (.lst [])) [])∨∃r:Row,args=[.v r.node,.v (.str "inner")]∧k (.v (.lst [vc r])) [])
theorem qI{D:Wd}(h:Ok D):SpecOk D 94 1324 sA:=(ah (aS h) (BZ h)).less fun args kws M k X z=>by
 obtain⟨rfl,rfl,z⟩:=z
 rcases z with ⟨rfl,z⟩|⟨r,rfl,z⟩
 ·exact ar rfl (G8 _ k X z)
 ·exact ar rfl (G7 _ r k X z)
def EG(P:Params):Tb:=aD (Bj P) 1324 sA
theorem BY{D:Wd}(h:Ok D):TbOk D 94 (EG D.w.params):=(BZ h).add (qI h) (aS h).keep
theorem G6(P:Params)(r r2:Row)(k:K1)(X:KX)(h2:(r2.us.map ag).length≤1000)(h:k (.v (.lst [vc r,r2.item])) []):ap (EG P) (bo P) [.v (iK r.node r2),.v (.str "inner")] [] k X:=by
 refine⟨rfl,rfl,.inr ⟨r,rfl,?_⟩⟩
 walk_at "ag"
 exact h
def sz:aE:=fun args kws M k X=>kws=[]∧M=[]∧∃r r2:Row,args=[.v (iK r.node r2),.v (.str "inner")]∧(r2.us.map ag).length≤1000∧k (.v (.lst [vc r,r2.item])) []
theorem qH{D:Wd}(h:Ok D):SpecOk D 95 1324 sz:=(ah (aS h) (BY h)).less fun args kws M k X z=>by
 obtain⟨rfl,rfl,r,r2,rfl,h2,z⟩:=z
 exact ar rfl (G6 _ r r2 k X h2 z)
def EF(P:Params):Tb:=aD (EG P) 1324 sz
theorem BX{D:Wd}(h:Ok D):TbOk D 95 (EF D.w.params):=(BY h).add (qH h) (aS h).keep
theorem G5(P:Params)(r r2 r3:Row)(k:K1)(X:KX)(h2:(r2.us.map ag).length≤1000)(h3:(r3.us.map ag).length≤1000)(h:k (.v (.lst [vc r,r2.item,r3.item])) []):ap (EF P) (bo P) [.v (iK (iK r.node r2) r3),.v (.str "inner")] [] k X:=by
 refine⟨rfl,rfl,r,r2,rfl,h2,?_⟩
 walk_at "ag"
 exact h
def ye:aE:=fun args kws M k X=>kws=[]∧M=[]∧∃r r2 r3:Row,args=[.v (iK (iK r.node r2) r3),.v (.str "inner")]∧(r2.us.map ag).length≤1000∧(r3.us.map ag).length≤1000∧k (.v (.lst [vc r,r2.item,r3.item])) []
def CD:aE:=fun args kws M k X=>(sA args kws M k X∨sz args kws M k X)∨ye args kws M k X
theorem yd{D:Wd}(h:Ok D):SpecOk D 96 1324 ye:=(ah (aS h) (BX h)).less fun args kws M k X z=>by
 obtain⟨rfl,rfl,r,r2,r3,rfl,h2,h3,z⟩:=z
 exact ar rfl (G5 _ r r2 r3 k X h2 h3 z)
def yZ(P:Params):Tb:=aD (EF P) 1324 CD
theorem BW{D:Wd}(h:Ok D):TbOk D 96 (yZ D.w.params):=(BX h).add (oW (oW (((qI h).up (Nat.le_succ _)).up (Nat.le_succ _)) ((qH h).up (Nat.le_succ _))) (yd h)) (aS h).keep
def ucM(s:SrcR)(srcs:List SrcR)(n:Int):AM:=[oM s 2 3,.inst "Scope" [("sources",.ref 4),("parent",.v .none),("aliases",.ref 5),("catalog",.v .none),("counter",.ref 6),("outer",.v .dct)],.lst (s.cols.map aJ),.lst (s.us.map ag),.lst (srcs.map SrcR.c),.lst [],.inst "Counter" [("last",.v (.int n))]]
theorem fh{nm:Str}{cols:List Col}{j:Nat}(h:aU nm cols 0=some j):∃c,cols[j]?=some c:=by
 obtain⟨_,c,h2⟩:=gA h
 exact⟨c,by simpa using h2⟩
theorem uc1(P:Params)(s a:SrcR)(c:Str)(n:Int)(i j:Nat)(k:K1)(X:KX)(hc:c.length≤1000)(os:cb s.cols)(oa:cb a.cols)(hi:aU (ae c) s.cols 0=some i)(hj:aU (ae c) a.cols 0=some j)
  (h:∀l r:RE,l.isC=false→r.isC=false→k (.v (lD l r)) (ucM s [a] n)):ap (yZ P) (b7 P) [.v (.str c),.ref 0,.ref 1] (ucM s [a] n) k X:=by
 walk_at "aZ"
theorem Ip(P:Params)(s a b:SrcR)(c:Str)(n:Int)(i j:Nat)(k:K1)(X:KX)(hc:c.length≤1000)(os:cb s.cols)(oa:cb a.cols)(hi:aU (ae c) s.cols 0=some i)(hj:aU (ae c) a.cols 0=some j)
  (h:∀l r:RE,l.isC=false→r.isC=false→k (.v (lD l r)) (ucM s [a,b] n)):ap (yZ P) (b7 P) [.v (.str c),.ref 0,.ref 1] (ucM s [a,b] n) k X:=by
 walk_at "aZ"
theorem Io(P:Params)(s a b:SrcR)(c:Str)(n:Int)(i j:Nat)(k:K1)(X:KX)(hc:c.length≤1000)(os:cb s.cols)(oa:cb a.cols)(ob:cb b.cols)(hi:aU (ae c) s.cols 0=some i)(ha:aU (ae c) a.cols 0=none)(hj:aU (ae c) b.cols 0=some j)
  (h:∀l r:RE,l.isC=false→r.isC=false→k (.v (lD l r)) (ucM s [a,b] n)):ap (yZ P) (b7 P) [.v (.str c),.ref 0,.ref 1] (ucM s [a,b] n) k X:=by
 obtain⟨ci,hci⟩:=fh hi
 obtain⟨cj,hcj⟩:=fh hj
 walk_at "n_3"
 refine⟨rfl,true,s,ae c,rfl,rfl,os,?_⟩
 rw[hi]
 walk_at "n_3"
 refine⟨rfl,false,a,ae c,rfl,rfl,oa,?_⟩
 rw[ha]
 walk_at "aB"
 refine⟨rfl,false,b,ae c,rfl,rfl,ob,?_⟩
 rw[hj]
 walk_at "n_3"
 refine⟨rfl,b.alias,c,b,j,cj,hcj,ob.1,.inr (.inl ⟨rfl,rfl⟩),?_⟩
 walk_at "n_3"
 refine⟨rfl,s.alias,c,s,i,ci,hci,os.1,.inr (.inr ⟨rfl,rfl⟩),?_⟩
 walk_at "n_3"
 exact h (.nm b.alias c b.num j cj.2.1 cj.2.2) (.nm s.alias c s.num i ci.2.1 ci.2.2) rfl rfl
def ucS:aE:=fun args kws M k X=>kws=[]∧∃(s:SrcR) (srcs:List SrcR) (c:Str) (n:Int),args=[.v (.str c),.ref 0,.ref 1]∧M=ucM s srcs n∧c.length≤1000∧cb s.cols∧(∀a∈srcs,cb a.cols)∧srcs.length≤2 ∧
 (∃i,aU (ae c) s.cols 0=some i)∧(∃a∈srcs,∃j,aU (ae c) a.cols 0=some j)∧∀l r:RE,l.isC=false→r.isC=false→k (.v (lD l r)) M
theorem Fj{D:Wd}(h:Ok D):SpecOk D 97 1350 ucS:=(ah (eN h) (BW h)).less fun args kws M k X z=>by
 obtain⟨rfl,s,srcs,c,n,rfl,rfl,hc,os,oa,hl,⟨i,hi⟩,⟨a,ha,j,hj⟩,z⟩:=z
 refine ar rfl ?_
 match srcs,hl,ha,oa,z with
 |[],_,ha,_,_=>cases ha
 |[x],_,ha,oa,z=>
  cases List.mem_singleton.mp ha
  exact uc1 _ s a c n i j k X hc os (oa _ (.head _)) hi hj z
 |[x,y],_,ha,oa,z=>
  cases hx:aU (ae c) x.cols 0 with
  |some j'=>exact Ip _ s x y c n i j' k X hc os (oa _ (.head _)) hi hx z
  |none=>
   cases ha with
   |head=>rw[hx] at hj;cases hj
   |tail _ ha=>
    cases List.mem_singleton.mp ha
    exact Io _ s x a c n i j k X hc os (oa _ (.head _)) (oa _ (.tail _ (.head _))) hi hx hj z
 |_::_::_::_,hl,_,_,_=>simp only[List.length_cons] at hl;omega
def Hs(P:Params):Tb:=aD (yZ P) 1350 ucS
theorem BV{D:Wd}(h:Ok D):TbOk D 97 (Hs D.w.params):=(BW h).add (Fj h) (eN h).keep
def GT(r:Row)(n:Int)(sel ons:CV):SrcR:=⟨n,r.alias,r.names.map c9,sel,ons,r.us.map ae⟩
structure RowOk(r:Row)(srcs:List SrcR):Prop where
 names:bR r.names
 nlen:∀a∈r.names,a.length≤300
 alen:∀a,r.alias=some a→a.length≤300
 us:r.us=[]∨∃c,r.us=[c]∧c.length≤300∧(∃i,aU (ae c) (r.names.map c9) 0=some i)∧∃a∈srcs,∃j,aU (ae c) a.cols 0=some j
theorem RowOk.cols{r:Row}{srcs:List SrcR}(h:RowOk r srcs):cb (r.names.map c9):=by
 constructor
 ·rw[List.length_map]
  obtain⟨a,e|⟨b,e⟩⟩:=h.names<;>rw[e]<;>simp
 ·intro c hc
  obtain⟨a,ha,rfl⟩:=List.mem_map.mp hc
  exact Nat.le_trans (h.nlen a ha) (by decide)
def rdK(K:List SrcR→Int→Prop):List Row→List SrcR→Int→Prop
 |[],srcs,n=>K srcs n
 |r::todo,srcs,n=>(srcs.length≤2∧(∀a∈srcs,cb a.cols)∧RowOk r srcs)∧∀sel ons,rdK K todo (srcs++[GT r (n+1) sel ons]) (n+1)
def IC:cP:=⟨["scope"],fun items vals M k _=>∃(todo:List Row) (srcs:List SrcR) (n:Int),vals=[.ref 0]∧M=scM true srcs [] n∧items=todo.map Row.item ∧
 rdK (fun srcs n=>k .next [.ref 0] (scM true srcs [] n)) todo srcs n⟩
def lE(T:Tb)(line:Nat)(L:cP):Tb:={ T with loops:=(line,L)::T.loops }
theorem cV{D:Wd}{d:Nat}{T:Tb}{line:Nat}{L:cP}(h:TbOk D d T):TbOk D d (lE T line L):=⟨h.tx,h.fns⟩
def pu(T:Tb)(line:Nat)(L:eQ):Tb:={ T with comps:=(line,L)::T.comps }
theorem eE{D:Wd}{d:Nat}{T:Tb}{line:Nat}{L:eQ}(h:TbOk D d T):TbOk D d (pu T line L):=⟨h.tx,h.fns⟩
def bx:List Row→Prop
 |[]=>True
 |r::_=>r.us=[]
def CE:aE:=fun args kws M k X=>kws=[]∧M=[]∧∃rs:List Row,args=[.v (aZ rs),.v (.str "inner")]∧rs.length≤3∧bx rs∧(∀r∈rs,(r.us.map ag).length≤1000)∧k (.v (.lst (rs.map Row.item))) []
theorem yc{D:Wd}(h:Ok D):SpecOk D 97 1324 CE:=((BV h).fns 1324 CD rfl).1.less fun args kws M k X z=>by
 obtain⟨rfl,rfl,rs,rfl,hl,hf,hu,z⟩:=z
 match rs,hl,hf,hu,z with
 |[],_,_,_,z=>exact .inl (.inl ⟨rfl,rfl,.inl ⟨rfl,z⟩⟩)
 |[⟨a,b,_⟩],_,rfl,_,z=>exact .inl (.inl ⟨rfl,rfl,.inr ⟨⟨a,b,[]⟩,rfl,z⟩⟩)
 |[⟨a,b,_⟩,r2],_,rfl,hu,z=>exact .inl (.inr ⟨rfl,rfl,⟨a,b,[]⟩,r2,rfl,hu _ (.tail _ (.head _)),z⟩)
 |[⟨a,b,_⟩,r2,r3],_,rfl,hu,z=>exact .inr ⟨rfl,rfl,⟨a,b,[]⟩,r2,r3,rfl,hu _ (.tail _ (.head _)),hu _ (.tail _ (.tail _ (.head _))),z⟩
 |_::_::_::_::_,hl,_,_,_=>simp only[List.length_cons] at hl;omega
def EE(P:Params):Tb:=lE (aD (Hs P) 1324 CE) 831 IC
theorem BU{D:Wd}(h:Ok D):TbOk D 98 (EE D.w.params):=cV ((BV h).add ((yc h).up (Nat.le_succ _)) (aS h).keep)
theorem vd(P:Params)(rs:List Row)(n:Int)(k:K1)(X:KX)(hl:rs.length≤3)(hf:bx rs)(hu:∀r∈rs,(r.us.map ag).length≤1000)(h:rdK (fun srcs n=>k (.v .none) (scM true srcs [] n)) rs [] n) :
  ap (EE P) (d4 P) [.v (aZ rs),.ref 0] (scM true [] [] n) k X:=by
 refine⟨rfl,rfl,rs,rfl,hl,hf,hu,?_⟩
 have hl2:(rs.map Row.item).length≤1000:=by rw[List.length_map];omega
 walk_at "n_3"
 walk_at "aJ"
 ·intro vals M k X z
  obtain⟨todo,srcs,n,rfl,rfl,e,z⟩:=z
  cases todo with
  |nil=>exact z
  |cons s r=>cases e
 ·intro c cs vals M k X z
  obtain⟨todo,srcs,n,rfl,rfl,e,z⟩:=z
  cases todo with
  |nil=>cases e
  |cons r todo=>
   cases e
   obtain⟨⟨hl,hcol,ok⟩,z⟩:=z
   have okc:=ok.cols
   have hn:=ok.names
   obtain⟨alias,names,us⟩:=r
   rcases ok.us with e|⟨c,e,hc3,hi,ha⟩
   ·cases e
    match srcs,hl,z with
    |[],_,z=>
     refine⟨rfl,[],⟨alias,names,[]⟩,n,hn,rfl,rfl,fun sel=>?_⟩
     walk_at "ag"
     exact⟨todo,_,n+1,rfl,rfl,rfl,z sel .none⟩
    |[x],_,z=>
     refine⟨rfl,[x],⟨alias,names,[]⟩,n,hn,rfl,rfl,fun sel=>?_⟩
     walk_at "ag"
     exact⟨todo,_,n+1,rfl,rfl,rfl,z sel .none⟩
    |[x,y],_,z=>
     refine⟨rfl,[x,y],⟨alias,names,[]⟩,n,hn,rfl,rfl,fun sel=>?_⟩
     walk_at "ag"
     exact⟨todo,_,n+1,rfl,rfl,rfl,z sel .none⟩
    |_::_::_::_,hl,_=>simp only[List.length_cons] at hl;omega
   ·cases e
    have hc1:c.length≤1000:=Nat.le_trans hc3 (by decide)
    match srcs,hl,hcol,ha,z with
    |[],_,_,ha,z=>obtain⟨a,ha,_⟩:=ha;cases ha
    |[x],_,hcol,ha,z=>
     refine⟨rfl,[x],⟨alias,names,[c]⟩,n,hn,rfl,rfl,fun sel=>?_⟩
     walk_at "ag"
     refine⟨rfl,⟨n+1,alias,names.map c9,sel,.none,[]⟩,[x],c,n+1,rfl,rfl,hc1,okc,hcol,leB rfl,hi,ha,fun l r hl hr=>?_⟩
     walk_at "ag"
     walk_at "c9"
    |[x,y],_,hcol,ha,z=>
     refine⟨rfl,[x,y],⟨alias,names,[c]⟩,n,hn,rfl,rfl,fun sel=>?_⟩
     walk_at "ag"
     refine⟨rfl,⟨n+1,alias,names.map c9,sel,.none,[]⟩,[x,y],c,n+1,rfl,rfl,hc1,okc,hcol,leB rfl,hi,ha,fun l r hl hr=>?_⟩
     walk_at "ag"
     walk_at "c9"
    |_::_::_::_,hl,_,_,_=>simp only[List.length_cons] at hl;omega
 ·exact⟨rs,[],n,rfl,rfl,rfl,h⟩
def BH:aE:=fun args kws M k X=>kws=[]∧∃(rs:List Row) (n:Int),args=[.v (aZ rs),.ref 0]∧M=scM true [] [] n∧rs.length≤3∧bx rs∧(∀r∈rs,(r.us.map ag).length≤1000)∧rdK (fun srcs n=>k (.v .none) (scM true srcs [] n)) rs [] n
theorem zP{D:Wd}(h:Ok D):SpecOk D 99 1355 BH:=(ah (cY h) (BU h)).less fun args kws M k X z=>by
 obtain⟨rfl,rs,n,rfl,rfl,hl,hf,hu,z⟩:=z
 exact ar rfl (vd _ rs n k X hl hf hu z)
def Hr(P:Params):Tb:=aD (EE P) 1355 BH
theorem F4{D:Wd}(h:Ok D):TbOk D 99 (Hr D.w.params):=(BU h).add (zP h) (cY h).keep
abbrev Out:=Str×RE
def ax(o:Out):CV:=.tup [.str o.1,o.2.c]
def aO(w:Option Str)(s:SrcR):List Col→Nat→List Out
 |[],_=>[]
 |c::r,i=>bif w.isSome || !inC (.str (ae c.1)) (s.us.map ag) then (c.1,.nm s.alias c.1 s.num i c.2.1 c.2.2)::aO w s r (i+1) else aO w s r (i+1)
def bV(w:Option Str):List SrcR→List Out
 |[]=>[]
 |s::r=>bif a7 w s then aO w s s.cols 0++bV w r else bV w r
def iA(val:CV)(alias tbl:Option Str):CV:=.inst "ResultColumn" [("value",val),("alias",aP alias),("star_table",aP tbl)]
def starLp2:cP:=⟨["source","column","wanted","found","is_met"],fun items vals M k _=>∃(srcs:List SrcR) (n:Int) (s:SrcR) (colv:CV) (w:Option Str) (met:Bool) (i:Nat) (fs:List CV),
 vals=[.v s.c,.v colv,.v (aP w),.ref 5,.v (.bool met)]∧M=scM true srcs [] n++[.lst [],.lst fs]∧gi s∧i≤s.cols.length∧items=(List.range' i (s.cols.length - i)).map (fun(j:Nat)=>CV.int ((0:Int)+j)) ∧
 fs.length+(aO w s (s.cols.drop i) i).length≤900 ∧
 k .next vals (scM true srcs [] n++[.lst [],.lst (fs++(aO w s (s.cols.drop i) i).map ax)])⟩
def Dh:cP:=⟨["column","wanted","found","is_met"],fun items vals M k _=>∃(srcs:List SrcR) (n:Int) (colv:CV) (w:Option Str) (met:Bool) (todo:List SrcR) (fs:List CV),
 vals=[.v colv,.v (aP w),.ref 5,.v (.bool met)]∧M=scM true srcs [] n++[.lst [],.lst fs]∧items=todo.map SrcR.c∧(∀s∈todo,gi s) ∧
 fs.length+(bV w todo).length≤900 ∧
 k .next [.v colv,.v (aP w),.ref 5,.v (.bool (met||todo.any (a7 w)))] (scM true srcs [] n++[.lst [],.lst (fs++(bV w todo).map ax)])⟩
def ED(P:Params):Tb:=lE (lE (Hr P) 846 Dh) 849 starLp2
theorem BT{D:Wd}(h:Ok D):TbOk D 99 (ED D.w.params):=cV (cV (F4 h))
def en(srcs:List SrcR)(tbl:Option Str):Res (List Out):=match srcs with
 |[]=>.no "no tables specified"
 |_=>bif srcs.any (a7 (tbl.map ae)) then .ok (bV (tbl.map ae) srcs) else .no ("no such table: " ++ tbl.getD "")
theorem cC{w:Option Str}{s:SrcR}{c:Col}{r:List Col}{i:Nat}:aO w s (c::r) i=bif w.isSome || !inC (.str (ae c.1)) (s.us.map ag) then (c.1,.nm s.alias c.1 s.num i c.2.1 c.2.2)::aO w s r (i+1) else aO w s r (i+1):=rfl
theorem i4{w:Option Str}{s:SrcR}{r:List SrcR}:bV w (s::r)=bif a7 w s then aO w s s.cols 0++bV w r else bV w r:=rfl
theorem u5(P:Params)(srcs:List SrcR)(n:Int)(tbl:Option Str)(k:K1)(X:KX)(ok:∀s∈srcs,gi s)(hl:srcs.length≤900)(ht:∀t,tbl=some t→t.length≤300)(hz:(bV (tbl.map ae) srcs).length≤900)
  (h:b9 (en srcs tbl) (fun m=>X m (scM true srcs [] n)) (fun o=>k (.v (.lst (o.map ax))) (scM true srcs [] n))) :
  ap (ED P) (gP P) [.v (iA .none none tbl),.ref 0] (scM true srcs [] n) k X:=by
 have hl2:(srcs.map SrcR.c).length≤1000:=by rw[List.length_map];omega
 walk_at "ab"
 walk_at "bM"
 walk_at "a4"
 ·cases srcs with
  |nil=>exact h
  |cons s r=>cases h1
 ·have hne:srcs≠[]:=fun e=>by subst e;cases h1
  have hr:b9 (bif srcs.any (a7 (tbl.map ae)) then .ok (bV (tbl.map ae) srcs) else .no ("no such table: " ++ tbl.getD "")) (fun m=>X m (scM true srcs [] n)) (fun o=>k (.v (.lst (o.map ax))) (scM true srcs [] n)):=by
   cases srcs with
   |nil=>exact absurd rfl hne
   |cons s r=>exact h
  cases tbl with
  |none=>
   walk_at "ab"
   walk_at "ab"
   walk_at "bM"
   refine And.intro ?_ ?_
   ·refine And.intro ?_ ?_
    walk_at "bA"
    ·intro c cs vals M k X z
     obtain⟨srcs,n,colv,w,met,todo,fs,rfl,rfl,e,ok,hz,z⟩:=z
     cases todo with
     |nil=>cases e
     |cons s r=>
      walk_at "at"
      cases w with
      |none=>
       have hw:a7 none s=true:=rfl
       walk_at "aa"
       walk_at "be"
      |some t=>
       refine⟨rfl,rfl,s,t,rfl,o1.alias,?_⟩
       walk_at "a4"
       ·have hw:a7 (some t) s=true:=h1
        walk_at "aa"
        walk_at "a8"
       walk_at "cf"
   ·refine⟨srcs,n,iA .none none none,none,false,srcs,[],rfl,rfl,rfl,ok,by simpa using hz,?_⟩
    have hr:b9 (bif srcs.any (a7 none) then .ok (bV none srcs) else .no ("no such table: " ++ "")) (fun m=>X m (scM true srcs [] n)) (fun o=>k (.v (.lst (o.map ax))) (scM true srcs [] n)):=hr
    cases hb:(false||srcs.any (a7 none)) with
    |false=>
     cases srcs with
     |nil=>exact absurd rfl hne
     |cons s r=>cases hb
    |true=>
     rw[Bool.false_or] at hb
     rw[hb] at hr
     exact hr
  |some t=>
   have ht3:=ht t rfl
   have ht1:t.length≤1000:=Nat.le_trans ht3 (by decide)
   refine And.intro ht1 ?_
   walk_at "ab"
   walk_at "ab"
   walk_at "bM"
   refine And.intro ?_ ?_
   ·refine And.intro ?_ ?_
    walk_at "bA"
    ·intro c cs vals M k X z
     obtain⟨srcs,n,colv,w,met,todo,fs,rfl,rfl,e,ok,hz,z⟩:=z
     cases todo with
     |nil=>cases e
     |cons s r=>
      walk_at "at"
      cases w with
      |none=>
       have hw:a7 none s=true:=rfl
       walk_at "aa"
       walk_at "be"
      |some t=>
       refine⟨rfl,rfl,s,t,rfl,o1.alias,?_⟩
       walk_at "a4"
       ·have hw:a7 (some t) s=true:=h1
        walk_at "aa"
        walk_at "a8"
       walk_at "cf"
   ·refine⟨srcs,n,iA .none none (some t),some (ae t),false,srcs,[],rfl,rfl,rfl,ok,by simpa using hz,?_⟩
    have hr:b9 (bif srcs.any (a7 (some (ae t))) then .ok (bV (some (ae t)) srcs) else .no ("no such table: " ++ t)) (fun m=>X m (scM true srcs [] n)) (fun o=>k (.v (.lst (o.map ax))) (scM true srcs [] n)):=hr
    cases hb:(false||srcs.any (a7 (some (ae t)))) with
    |false=>
     rw[Bool.false_or] at hb
     rw[hb] at hr
     refine And.intro (by show _≤1000;have:("no such table: " : Str).length=15:=rfl;omega) ?_
     exact hr
    |true=>
     rw[Bool.false_or] at hb
     rw[hb] at hr
     exact hr
def BD:aE:=fun args kws M k X=>kws=[]∧∃(srcs:List SrcR) (n:Int) (tbl:Option Str),args=[.v (iA .none none tbl),.ref 0]∧M=scM true srcs [] n∧(∀s∈srcs,gi s)∧srcs.length≤900∧(∀t,tbl=some t→t.length≤300)∧(bV (tbl.map ae) srcs).length≤900 ∧
 b9 (en srcs tbl) (fun m=>X m M) (fun o=>k (.v (.lst (o.map ax))) M)
theorem zE{D:Wd}(h:Ok D):SpecOk D 100 1362 BD:=(ah (g6 h) (BT h)).less fun args kws M k X z=>by
 obtain⟨rfl,srcs,n,tbl,rfl,rfl,h1,h2,h3,h4,z⟩:=z
 exact ar rfl (u5 _ srcs n tbl k X h1 h2 h3 h4 z)
def wc(P:Params):Tb:=aD (ED P) 1362 BD
theorem BS{D:Wd}(h:Ok D):TbOk D 100 (wc D.w.params):=(BT h).add (zE h) (g6 h).keep
theorem wk(P:Params)(k:K1)(X:KX):(AV.v CV.none=AV.v CV.none∧AV.v CV.none=AV.v CV.none∧5≤1000∧(∀c:Str,(Sum.inr ("Call" : Str):Nat ⊕ Str)=Sum.inr c→(lkA c txL.mro).isSome=true)∧5≤1000∧5≤1000∧(5≤1000∧true=true)∧5≤1000∧5+1≤1000∧6+0≤1000∧6+1≤1000∧7+1≤1000∧5≤1000 ∧
  (∀c:Str,(Sum.inr ("Call" : Str):Nat ⊕ Str)=Sum.inr c→(lkA c txL.mro).isSome=true)∧k (.v (.str "count(*)")) [])=ap (wc P) (bc P) [.v jS] [] k X:=by kernel_rfl
theorem rK(P:Params)(k:K1)(X:KX)(h:k (.v (.str "count(*)")) []):ap (wc P) (bc P) [.v jS] [] k X:=by
 rw[←wk]
 have hc:∀c:Str,(Sum.inr ("Call" : Str):Nat ⊕ Str)=Sum.inr c→(lkA c txL.mro).isSome=true:=fun c e=>by cases e;kernel_rfl
 exact⟨rfl,rfl,by decide,hc,by decide,by decide,⟨by decide,rfl⟩,by decide,by decide,by decide,by decide,by decide,by decide,hc,h⟩
theorem wj(P:Params)(i:Int)(k:K1)(X:KX):(AV.v CV.none=AV.v CV.none∧AV.v CV.none=AV.v CV.none∧(-1000000≤i∧i≤1000000)∧5≤1000∧(∀c:Str,(Sum.inr ("Literal" : Str):Nat ⊕ Str)=Sum.inr c→(lkA c txL.mro).isSome=true) ∧
  bif decide (i < 0) then k (.v (.str (bv i))) [] else k (.v (.str (bv i))) [])=ap (wc P) (bc P) [.v (gK i)] [] k X:=by kernel_rfl
theorem rJ(P:Params)(i:Int)(k:K1)(X:KX)(hi:-1000000≤i∧i≤1000000)(h:k (.v (.str (bv i))) []):ap (wc P) (bc P) [.v (gK i)] [] k X:=by
 rw[←wj]
 refine⟨rfl,rfl,hi,by decide,fun c e=>by cases e;kernel_rfl,?_⟩
 cases decide (i < 0)<;>exact h
def weS:aE:=fun args kws M k X=>kws=[]∧M=[]∧((args=[.v jS]∧k (.v (.str "count(*)")) [])∨∃i:Int,args=[.v (gK i)]∧(-1000000≤i∧i≤1000000)∧k (.v (.str (bv i))) [])
theorem Fi{D:Wd}(h:Ok D):SpecOk D 101 1100 weS:=(ah (cM h) (BS h)).less fun args kws M k X z=>by
 obtain⟨rfl,rfl,z⟩:=z
 rcases z with ⟨rfl,z⟩|⟨i,rfl,hi,z⟩
 ·exact ar rfl (rK _ k X z)
 ·exact ar rfl (rJ _ i k X hi z)
def Hq(P:Params):Tb:=aD (wc P) 1100 weS
theorem F3{D:Wd}(h:Ok D):TbOk D 101 (Hq D.w.params):=(BS h).add (Fi h) (cM h).keep
def ge(num:Int)(j:Nat):List SrcR→Option Str
 |[]=>none
 |s::r=>bif decide (s.num=num) then (s.cols[j]?).map (·.1) else ge num j r
def FR:cP:=⟨["column","expr"],fun items vals M k _=>∃(srcs:List SrcR) (n:Int) (colv:CV) (t:Option Str) (c:Str) (num:Int) (j:Nat) (a b:CV) (todo:List SrcR) (nm:Str),
 vals=[.v colv,.v (sO t c num j a b)]∧M=scM true srcs [] n∧items=todo.map SrcR.c∧(∀s∈todo,s.cols.length≤1000)∧ge num j todo=some nm∧k (.ret (.v (.str nm))) [] M⟩
def wb(P:Params):Tb:=lE (Hq P) 860 FR
theorem BR{D:Wd}(h:Ok D):TbOk D 101 (wb D.w.params):=cV (F3 h)
theorem vj(P:Params)(srcs:List SrcR)(n:Int)(v e:CV)(a:Str)(k:K1)(X:KX)(h:k (.v (.str a)) (scM true srcs [] n)) :
  ap (wb P) (bY P) [.v (iA v (some a) none),.v e,.ref 0] (scM true srcs [] n) k X:=h
theorem vh(P:Params)(srcs:List SrcR)(n:Int)(i:Int)(k:K1)(X:KX)(hi:-1000000≤i∧i≤1000000)(h:k (.v (.str (bv i))) (scM true srcs [] n)) :
  ap (wb P) (bY P) [.v (iA (gK i) none none),.v (gK i),.ref 0] (scM true srcs [] n) k X:=⟨rfl,rfl,.inr ⟨i,rfl,hi,h⟩⟩
theorem vi(P:Params)(srcs:List SrcR)(n:Int)(k:K1)(X:KX)(h:k (.v (.str "count(*)")) (scM true srcs [] n)) :
  ap (wb P) (bY P) [.v (iA jS none none),.v jS,.ref 0] (scM true srcs [] n) k X:=⟨rfl,rfl,.inl ⟨rfl,h⟩⟩
theorem vg(P:Params)(srcs:List SrcR)(n:Int)(t0 t:Option Str)(c0 c nm:Str)(num:Int)(j:Nat)(a b:CV)(k:K1)(X:KX)(hl:srcs.length≤900)(hcl:∀s∈srcs,s.cols.length≤1000)(hn:ge num j srcs=some nm)(h:k (.v (.str nm)) (scM true srcs [] n)) :
  ap (wb P) (bY P) [.v (iA (kT t0 c0) none none),.v (sO t c num j a b),.ref 0] (scM true srcs [] n) k X:=by
 have hl2:(srcs.map SrcR.c).length≤1000:=by rw[List.length_map];omega
 walk_at "bM"
 walk_at "aJ"
 ·intro vals M k X z
  obtain⟨srcs,n,colv,t,c,num,j,a,b,todo,nm,rfl,rfl,e,hcl,hn,z⟩:=z
  cases todo with
  |nil=>cases hn
  |cons s r=>cases e
 ·intro ic cs vals M k X z
  obtain⟨srcs,n,colv,t,c,num,j,a,b,todo,nm,rfl,rfl,e,hcl,hn,z⟩:=z
  cases todo with
  |nil=>cases e
  |cons s r=>
   cases e
   have hlen:(s.cols.map aJ).length≤1000:=by rw[List.length_map];exact hcl _ (.head _)
   have hcl':∀x∈r,x.cols.length≤1000:=fun x hx=>hcl x (.tail _ hx)
   unfold ge at hn
   cases hb:decide (s.num=num) with
   |true=>
    rw[hb,cond_true,Option.map_eq_some_iff] at hn
    obtain⟨cl,hcl2,rfl⟩:=hn
    have hm:(s.cols.map aJ)[j]?=some (aJ cl):=by rw[List.getElem?_map,hcl2];rfl
    refine ai hb ?_
    refine af (v:=.v (aJ cl)) (by show (match bP (s.cols.map aJ) (j:Int) with|some c=>some (AV.v c)|none=>none)=_;rw[jB hm]) ?_
    walk_at "aY"
    walk_at "ab"
    exact z
   |false=>
    rw[hb,cond_false] at hn
    refine aj hb ?_
    exact And.intro rfl ⟨srcs,n,colv,t,c,num,j,a,b,r,nm,rfl,rfl,rfl,hcl',hn,z⟩
 ·exact⟨srcs,n,iA (kT t0 c0) none none,t,c,num,j,a,b,srcs,nm,rfl,rfl,rfl,hcl,hn,h⟩
def FV:aE:=fun args kws M k X=>kws=[]∧∃(srcs:List SrcR) (n:Int),M=scM true srcs [] n∧((∃v e a,args=[.v (iA v (some a) none),.v e,.ref 0]∧k (.v (.str a)) M) ∨
 (∃i:Int,args=[.v (iA (gK i) none none),.v (gK i),.ref 0]∧(-1000000≤i∧i≤1000000)∧k (.v (.str (bv i))) M) ∨
 (args=[.v (iA jS none none),.v jS,.ref 0]∧k (.v (.str "count(*)")) M) ∨
 (∃(t0 t:Option Str) (c0 c nm:Str) (num:Int) (j:Nat) (a b:CV),args=[.v (iA (kT t0 c0) none none),.v (sO t c num j a b),.ref 0]∧srcs.length≤900∧(∀s∈srcs,s.cols.length≤1000)∧ge num j srcs=some nm∧k (.v (.str nm)) M))
theorem wV{D:Wd}(h:Ok D):SpecOk D 102 1369 FV:=(ah (cH h) (BR h)).less fun args kws M k X z=>by
 obtain⟨rfl,srcs,n,rfl,z⟩:=z
 rcases z with ⟨v,e,a,rfl,z⟩|⟨i,rfl,hi,z⟩|⟨rfl,z⟩|⟨t0,t,c0,c,nm,num,j,a,b,rfl,h1,h2,h3,z⟩
 ·exact ar rfl (vj _ srcs n v e a k X z)
 ·exact ar rfl (vh _ srcs n i k X hi z)
 ·exact ar rfl (vi _ srcs n k X z)
 ·exact ar rfl (vg _ srcs n t0 t c0 c nm num j a b k X h1 h2 h3 z)
def Ho(P:Params):Tb:=aD (wb P) 1369 FV
theorem F0{D:Wd}(h:Ok D):TbOk D 102 (Ho D.w.params):=(BR h).add (wV h) (cH h).keep
def Ex.cls:Ex→Str
 |.lit _=> "Literal"
 |.litS _=> "Literal"
 |.cnt=> "Call"
 |.nm _ _=> "Name"
def Ex.fs:Ex→List (Str×CV)
 |.lit i=>[("value",.int i)]
 |.litS s=>[("value",.str s)]
 |.cnt=>[("name",.str "count"),("arguments",.lst []),("distinct",.bool false),("star",.bool true)]
 |.nm t c=>[("table",aP t),("column",.str c),("source",.none),("place",.none),("depth",.int 0)]
def Ex.d(e:Ex):CV:=.inst e.cls e.fs
theorem Ex.d_c(e:Ex):e.d=e.c:=by cases e<;>rfl
inductive ColE where
 |star (tbl:Option Str)
 |ex (e:Ex) (al:Option Str)
def ColE.c:ColE→CV
 |.star t=>iA .none none t
 |.ex e al=>iA e.d al none
def onm(srcs:List SrcR)(al:Option Str)(re:RE):Str:=match al with
 |some a=>a
 |none=>match re with
  |.lit i=>bv i
  |.cnt=> "count(*)"
  |.nm _ _ num j _ _=>(ge num j.toNat srcs).getD ""
  |.litS s=>s
def BK(srcs:List SrcR)(e:Ex)(al:Option Str)(re:RE):Prop:=(∃a,al=some a)∨(∃i,e=.lit i∧re=.lit i∧(-1000000≤i∧i≤1000000))∨(e=.cnt∧re=.cnt) ∨
 ∃t0 c0 t c num,∃(j:Nat),∃a b nm,e=.nm t0 c0∧re=.nm t c num j a b∧ge num j srcs=some nm
def BL:aE:=fun args kws M k X=>kws=[]∧∃(srcs:List SrcR) (n:Int) (e:Ex) (al:Option Str) (re:RE),M=scM true srcs [] n∧args=[.v (iA e.d al none),.v re.c,.ref 0]∧srcs.length≤900∧(∀s∈srcs,s.cols.length≤1000)∧BK srcs e al re∧k (.v (.str (onm srcs al re))) M
theorem zT{D:Wd}(h:Ok D):SpecOk D 102 1369 BL:=(wV h).less fun args kws M k X z=>by
 obtain⟨rfl,srcs,n,e,al,re,rfl,rfl,h1,h2,ho,z⟩:=z
 refine⟨rfl,srcs,n,rfl,?_⟩
 rw[Ex.d_c]
 cases al with
 |some a=>exact .inl ⟨e.c,re.c,a,rfl,z⟩
 |none=>
  rcases ho with ⟨a,ho⟩|⟨i,rfl,rfl,hi⟩|⟨rfl,rfl⟩|⟨t0,c0,t,c,num,j,a,b,nm,rfl,rfl,ho⟩
  ·cases ho
  ·exact .inr (.inl ⟨i,rfl,hi,z⟩)
  ·exact .inr (.inr (.inl ⟨rfl,z⟩))
  ·refine .inr (.inr (.inr ⟨t0,t,c0,c,nm,num,j,a,b,rfl,h1,h2,ho,?_⟩))
   have:onm srcs none (.nm t c num j a b)=nm:=by
    show (ge num (j:Int).toNat srcs).getD "" = nm
    rw[Int.toNat_natCast,ho];rfl
   rw[this] at z
   exact z
def Hn(P:Params):Tb:=aD (Ho P) 1369 BL
theorem FZ{D:Wd}(h:Ok D):TbOk D 103 (Hn D.w.params):=(F0 h).add ((zT h).up (Nat.le_succ _)) (cH h).keep
abbrev AlN:=Str×RE
def pj(a:AlR):AlN:=(a.1,a.2.1)
def CP(a:List AlN)(al:Option Str)(re:RE):List AlN:=match al with
 |some x=>a++[(x,re)]
 |none=>a
def dh(srcs:List SrcR):List ColE→List Out→List AlN→Res (List Out×List AlN)
 |[],o,a=>.ok (o,a)
 |.star t::r,o,a=>(match en srcs t with
  |.no m=>.no m
  |.ok l=>dh srcs r (o++l) a)
 |.ex e al::r,o,a=>(match exE srcs [] e with
  |.no m=>.no m
  |.ok re=>dh srcs r (o++[(onm srcs al re,re)]) (CP a al re))
def DX(srcs:List SrcR):ColE→Nat
 |.star t=>(bV (t.map ae) srcs).length
 |.ex _ _=>1
def jR(srcs:List SrcR):List ColE→Nat
 |[]=>0
 |c::r=>DX srcs c+jR srcs r
def bZ:List ColE→Nat
 |[]=>0
 |.star _::r=>1+bZ r
 |.ex _ _::r=>bZ r
def ka(srcs:List SrcR):ColE→Prop
 |.star t=>∀x,t=some x→x.length≤300
 |.ex e al=>fC e∧∀re,exE srcs [] e=.ok re→BK srcs e al re
def roM(srcs:List SrcR)(n:Int)(p:Nat)(g1 g2 g3 found als:List CV):AM:=match p with
 |0=>scM true srcs [] n++[.lst found,.lst als]
 |1=>scM true srcs [] n++[.lst g1,.lst als,.lst found]
 |2=>scM true srcs [] n++[.lst g1,.lst als,.lst g2,.lst found]
 |_=>scM true srcs [] n++[.lst g1,.lst als,.lst g2,.lst g3,.lst found]
def roF(p:Nat):AV:=match p with
 |0=>.ref 4
 |1=>.ref 6
 |2=>.ref 7
 |_=>.ref 8
def roV(p t:Nat)(colv:CV)(a b:CV):Vs:=match t with
 |0=>[("columns",.v colv),("scope",.ref 0),("found",roF p),("aliases",.ref 5)]
 |1=>[("columns",.v colv),("scope",.ref 0),("found",roF p),("aliases",.ref 5),("column",.v a)]
 |_=>[("columns",.v colv),("scope",.ref 0),("found",roF p),("aliases",.ref 5),("column",.v a),("expr",.v b)]
def ya:List Stmt→Option (PySem.Expr×List Stmt)
 |[]=>none
 |.For t _ b _ _::_=>some (t,b)
 |_::r=>ya r
def IA(P:Params):PySem.Expr:=((ya (bt P).body).map (·.1)).getD (.Constant .none 0 ⟨0,0,0,0⟩)
def IB(P:Params):List Stmt:=((ya (bt P).body).map (·.2)).getD []
def wG:aE:=fun args kws M k X=>kws=[]∧∃(srcs:List SrcR) (n:Int) (e:Ex),M=scM true srcs [] n∧args=[.v e.d,.ref 0]∧jn srcs []∧fC e∧b9 (exE srcs [] e) (fun m=>X m M) (fun e=>k (.v e.c) M)
theorem wF{D:Wd}(h:Ok D):SpecOk D 103 1268 wG:=(((oN h).up (by decide:77≤103))).less fun args kws M k X z=>by
 obtain⟨rfl,srcs,n,e,rfl,rfl,h1,h2,z⟩:=z
 rw[Ex.d_c]
 exact⟨rfl,true,srcs,[],n,rfl,.inr ⟨e,rfl,h1,h2,z⟩⟩
def Bi(P:Params):Tb:=aD (Hn P) 1268 wG
theorem BQ{D:Wd}(h:Ok D):TbOk D 104 (Bi D.w.params):=(FZ h).add ((wF h).up (Nat.le_succ _)) (bC h).keep
theorem cN(als:List AlR)(x:AlR):bN (als++[x])=bN als++[alC x.al]:=by
 unfold bN
 rw[List.map_append,List.map_append];rfl
def rch(p t:Nat):Prop:=(p=0∧t=0)∨t=2∨(t=1∧1≤p)
theorem oP(P:Params)(srcs:List SrcR)(n:Int)(so:jn srcs [])(colv:CV)(k:KS)(X:KX)(E:Str→Prop)(K:List Out→List AlN→Prop)
  (hX:∀m p g1 g2 g3 f a,p≤3→E m→X m (roM srcs n p g1 g2 g3 f a))
  (hfin:∀p t g1 g2 g3 a b outs als,p≤3→rch p t→K outs (als.map pj)→k .next (roV p t colv a b) (roM srcs n p g1 g2 g3 (outs.map ax) (bN als))) :
  ∀(cols:List ColE) (p t:Nat) (g1 g2 g3:List CV) (a b:CV) (outs:List Out) (als:List AlR),p≤3→rch p t→p+bZ cols≤3→(∀c∈cols,ka srcs c)→outs.length+jR srcs cols≤900→als.length≤outs.length →
   b9 (dh srcs cols outs (als.map pj)) E (fun r=>K r.1 r.2)→mU (ev 39) ⟨Bi P,(bt P).scope,false⟩ none (IA P) (IB P) (cols.map ColE.c) (roV p t colv a b) (roM srcs n p g1 g2 g3 (outs.map ax) (bN als)) k X
 |[],p,t,g1,g2,g3,a,b,outs,als,hp,ht,_,_,_,_,h=>hfin p t g1 g2 g3 a b outs als hp ht h
 |.star tb::r,p,t,g1,g2,g3,a,b,outs,als,hp,ht,hs,hc,hz,ha,h=>by
  have ih:=oP P srcs n so colv k X E K hX hfin r
  have h1:ka srcs (.star tb):=hc _ (.head _)
  have hc':∀c∈r,ka srcs c:=fun c hx=>hc c (.tail _ hx)
  have hs':p+(1+bZ r)≤3:=hs
  have hz':outs.length+((bV (tb.map ae) srcs).length+jR srcs r)≤900:=hz
  have hsz:(bV (tb.map ae) srcs).length≤900:=by omega
  have hol:∀l,en srcs tb=.ok l→l.length=(bV (tb.map ae) srcs).length:=fun l e=>by
   unfold en at e
   split at e
   ·cases e
   ·cases hb:srcs.any (a7 (tb.map ae)) with
    |true=>rw[hb] at e;cases e;rfl
    |false=>rw[hb] at e;cases e
  unfold dh at h
  have pq:(p=0∧t=0)∨(p=0∧t=2)∨(p=1∧t=1)∨(p=1∧t=2)∨(p=2∧t=1)∨(p=2∧t=2):=by
   rcases ht with ⟨h1,h2⟩|h2|⟨h2,h3⟩<;>omega
  rcases pq with ⟨rfl,rfl⟩|⟨rfl,rfl⟩|⟨rfl,rfl⟩|⟨rfl,rfl⟩|⟨rfl,rfl⟩|⟨rfl,rfl⟩
  ·refine⟨rfl,srcs,n,tb,rfl,rfl,so.src,so.len,h1,hsz,?_⟩
   cases hr:en srcs tb with
   |no m=>rw[hr] at h;exact hX m 0 g1 g2 g3 _ _ hp h
   |ok l=>
    walk_at "cH"
    have fin:=ih 1 1 (outs.map ax) g2 g3 (ColE.star tb).c b (outs++l) als (by omega) (.inr (.inr ⟨rfl,by omega⟩)) (by omega) hc' (by rw[List.length_append];omega) (by rw[List.length_append];omega) h
    walk_at "aN"
  ·refine⟨rfl,srcs,n,tb,rfl,rfl,so.src,so.len,h1,hsz,?_⟩
   cases hr:en srcs tb with
   |no m=>rw[hr] at h;exact hX m 0 g1 g2 g3 _ _ hp h
   |ok l=>
    walk_at "cH"
    have fin:=ih 1 2 (outs.map ax) g2 g3 (ColE.star tb).c b (outs++l) als (by omega) (.inr (.inl rfl)) (by omega) hc' (by rw[List.length_append];omega) (by rw[List.length_append];omega) h
    walk_at "aN"
  ·refine⟨rfl,srcs,n,tb,rfl,rfl,so.src,so.len,h1,hsz,?_⟩
   cases hr:en srcs tb with
   |no m=>rw[hr] at h;exact hX m 1 g1 g2 g3 _ _ hp h
   |ok l=>
    walk_at "cH"
    have fin:=ih 2 1 g1 (outs.map ax) g3 (ColE.star tb).c b (outs++l) als (by omega) (.inr (.inr ⟨rfl,by omega⟩)) (by omega) hc' (by rw[List.length_append];omega) (by rw[List.length_append];omega) h
    walk_at "aN"
  ·refine⟨rfl,srcs,n,tb,rfl,rfl,so.src,so.len,h1,hsz,?_⟩
   cases hr:en srcs tb with
   |no m=>rw[hr] at h;exact hX m 1 g1 g2 g3 _ _ hp h
   |ok l=>
    walk_at "cH"
    have fin:=ih 2 2 g1 (outs.map ax) g3 (ColE.star tb).c b (outs++l) als (by omega) (.inr (.inl rfl)) (by omega) hc' (by rw[List.length_append];omega) (by rw[List.length_append];omega) h
    walk_at "aN"
  ·refine⟨rfl,srcs,n,tb,rfl,rfl,so.src,so.len,h1,hsz,?_⟩
   cases hr:en srcs tb with
   |no m=>rw[hr] at h;exact hX m 2 g1 g2 g3 _ _ hp h
   |ok l=>
    walk_at "cH"
    have fin:=ih 3 1 g1 g2 (outs.map ax) (ColE.star tb).c b (outs++l) als (by omega) (.inr (.inr ⟨rfl,by omega⟩)) (by omega) hc' (by rw[List.length_append];omega) (by rw[List.length_append];omega) h
    walk_at "aN"
  ·refine⟨rfl,srcs,n,tb,rfl,rfl,so.src,so.len,h1,hsz,?_⟩
   cases hr:en srcs tb with
   |no m=>rw[hr] at h;exact hX m 2 g1 g2 g3 _ _ hp h
   |ok l=>
    walk_at "cH"
    have fin:=ih 3 2 g1 g2 (outs.map ax) (ColE.star tb).c b (outs++l) als (by omega) (.inr (.inl rfl)) (by omega) hc' (by rw[List.length_append];omega) (by rw[List.length_append];omega) h
    walk_at "aN"
 |.ex e al::r,p,t,g1,g2,g3,a,b,outs,als,hp,ht,hs,hc,hz,ha,h=>by
  have ih:=oP P srcs n so colv k X E K hX hfin r
  have h1:ka srcs (.ex e al):=hc _ (.head _)
  have hc':∀c∈r,ka srcs c:=fun c hx=>hc c (.tail _ hx)
  have hs':p+bZ r≤3:=hs
  have hz':outs.length+(1+jR srcs r)≤900:=hz
  have hcl:∀s∈srcs,s.cols.length≤1000:=fun s hx=>(so.src s hx).cols.1
  have hl1:(outs.map ax).length≤999:=by rw[List.length_map];omega
  have hl3:(bN als).length≤999:=by unfold bN;rw[List.length_map,List.length_map];omega
  unfold dh at h
  walk_at "cp"
  rcases pq with ⟨rfl,rfl⟩|⟨rfl,rfl⟩|⟨rfl,rfl⟩|⟨rfl,rfl⟩|⟨rfl,rfl⟩|⟨rfl,rfl⟩|⟨rfl,rfl⟩|⟨rfl,rfl⟩
  ·refine⟨rfl,srcs,n,e,rfl,rfl,so,h1.1,?_⟩
   cases hr:exE srcs [] e with
   |no m=>rw[hr] at h;exact hX m 0 g1 g2 g3 _ _ hp h
   |ok re=>
    walk_at "aL"
    walk_at "ab"
    refine And.intro hl1 ?_
    cases al with
    |none=>
     walk_at "bF"
    |some x=>
     walk_at "a9"
     walk_at "ah"
     walk_at "ab"
     walk_at "bW"
  ·refine⟨rfl,srcs,n,e,rfl,rfl,so,h1.1,?_⟩
   cases hr:exE srcs [] e with
   |no m=>rw[hr] at h;exact hX m 0 g1 g2 g3 _ _ hp h
   |ok re=>
    walk_at "aL"
    walk_at "ab"
    refine And.intro hl1 ?_
    cases al with
    |none=>
     walk_at "bF"
    |some x=>
     walk_at "a9"
     walk_at "ah"
     walk_at "ab"
     walk_at "bW"
  ·refine⟨rfl,srcs,n,e,rfl,rfl,so,h1.1,?_⟩
   cases hr:exE srcs [] e with
   |no m=>rw[hr] at h;exact hX m 1 g1 g2 g3 _ _ hp h
   |ok re=>
    walk_at "aL"
    walk_at "ab"
    refine And.intro hl1 ?_
    cases al with
    |none=>
     walk_at "bG"
    |some x=>
     walk_at "ba"
     walk_at "ah"
     walk_at "ab"
     walk_at "bW"
  ·refine⟨rfl,srcs,n,e,rfl,rfl,so,h1.1,?_⟩
   cases hr:exE srcs [] e with
   |no m=>rw[hr] at h;exact hX m 1 g1 g2 g3 _ _ hp h
   |ok re=>
    walk_at "aL"
    walk_at "ab"
    refine And.intro hl1 ?_
    cases al with
    |none=>
     walk_at "bG"
    |some x=>
     walk_at "ba"
     walk_at "ah"
     walk_at "ab"
     walk_at "bW"
  ·refine⟨rfl,srcs,n,e,rfl,rfl,so,h1.1,?_⟩
   cases hr:exE srcs [] e with
   |no m=>rw[hr] at h;exact hX m 2 g1 g2 g3 _ _ hp h
   |ok re=>
    walk_at "aL"
    walk_at "ab"
    refine And.intro hl1 ?_
    cases al with
    |none=>
     walk_at "bH"
    |some x=>
     walk_at "bb"
     walk_at "ah"
     walk_at "ab"
     walk_at "bW"
  ·refine⟨rfl,srcs,n,e,rfl,rfl,so,h1.1,?_⟩
   cases hr:exE srcs [] e with
   |no m=>rw[hr] at h;exact hX m 2 g1 g2 g3 _ _ hp h
   |ok re=>
    walk_at "aL"
    walk_at "ab"
    refine And.intro hl1 ?_
    cases al with
    |none=>
     walk_at "bH"
    |some x=>
     walk_at "bb"
     walk_at "ah"
     walk_at "ab"
     walk_at "bW"
  ·refine⟨rfl,srcs,n,e,rfl,rfl,so,h1.1,?_⟩
   cases hr:exE srcs [] e with
   |no m=>rw[hr] at h;exact hX m 3 g1 g2 g3 _ _ hp h
   |ok re=>
    walk_at "aL"
    walk_at "ab"
    refine And.intro hl1 ?_
    cases al with
    |none=>
     walk_at "bI"
    |some x=>
     walk_at "bc"
     walk_at "ah"
     walk_at "ab"
     walk_at "bW"
  ·refine⟨rfl,srcs,n,e,rfl,rfl,so,h1.1,?_⟩
   cases hr:exE srcs [] e with
   |no m=>rw[hr] at h;exact hX m 3 g1 g2 g3 _ _ hp h
   |ok re=>
    walk_at "aL"
    walk_at "ab"
    refine And.intro hl1 ?_
    cases al with
    |none=>
     walk_at "bI"
    |some x=>
     walk_at "bc"
     walk_at "ah"
     walk_at "ab"
     walk_at "bW"
theorem oT(P:Params)(srcs:List SrcR)(n:Int)(cols:List ColE)(k:K1)(X:KX)(so:jn srcs [])(hs:bZ cols≤3)(hc:∀c∈cols,ka srcs c)(hz:jR srcs cols≤900)(hcl:cols.length≤900)
  (h:b9 (dh srcs cols [] []) (fun m=>X m (scM true srcs [] n)) (fun r=>∀als:List AlR,als.map pj=r.2→k (.v (.lst (r.1.map ax))) (scX srcs (bN als) n))) :
  ap (Bi P) (bt P) [.v (.lst (cols.map ColE.c)),.ref 0] (scM true srcs [] n) k X:=by
 have hl:(cols.map ColE.c).length≤1000:=by rw[List.length_map];omega
 walk_at "ab"
 walk_at "ab"
 walk_at "ab"
 refine And.intro hl ?_
 refine oP P srcs n so (.lst (cols.map ColE.c)) _ _ (fun m=>X m (scM true srcs [] n)) (fun o a=>∀als:List AlR,als.map pj=a→k (.v (.lst (o.map ax))) (scX srcs (bN als) n)) ?_ ?_ cols 0 0 [] [] [] .none .none [] [] (by omega) (.inl ⟨rfl,rfl⟩) (by omega) hc (by simpa using hz) (Nat.le_refl _) h
 ·intro m p g1 g2 g3 f a hp z
  have pq:p=0∨p=1∨p=2∨p=3:=by omega
  rcases pq with rfl|rfl|rfl|rfl<;>exact z
 ·intro p t g1 g2 g3 a b outs als hp ht z
  have z:=z als rfl
  walk_at "cp"
  rcases pq with ⟨rfl,rfl⟩|⟨rfl,rfl⟩|⟨rfl,rfl⟩|⟨rfl,rfl⟩|⟨rfl,rfl⟩|⟨rfl,rfl⟩|⟨rfl,rfl⟩|⟨rfl,rfl⟩<;>exact z
def p8:aE:=fun args kws M k X=>kws=[]∧∃(srcs:List SrcR) (n:Int) (cols:List ColE),args=[.v (.lst (cols.map ColE.c)),.ref 0]∧M=scM true srcs [] n∧jn srcs []∧bZ cols≤3∧(∀c∈cols,ka srcs c)∧jR srcs cols≤900∧cols.length≤900 ∧
 b9 (dh srcs cols [] []) (fun m=>X m (scM true srcs [] n)) (fun r=>∀als:List AlR,als.map pj=r.2→k (.v (.lst (r.1.map ax))) (scX srcs (bN als) n))
theorem rY{D:Wd}(h:Ok D):SpecOk D 105 1376 p8:=(ah (cZ h) (BQ h)).less fun args kws M k X z=>by
 obtain⟨rfl,srcs,n,cols,rfl,rfl,h1,h2,h3,h4,h5,z⟩:=z
 exact ar rfl (oT _ srcs n cols k X h1 h2 h3 h4 h5 z)
def Hm(P:Params):Tb:=aD (Bi P) 1376 p8
theorem FY{D:Wd}(h:Ok D):TbOk D 105 (Hm D.w.params):=(BQ h).add (rY h) (cZ h).keep
def wE:aE:=fun args kws M k X=>kws=[]∧∃(b:Bool) (srcs:List SrcR) (als:List AlR) (n:Int),M=scM b srcs (bN als) n ∧
 ((args=[.v .none,.ref 0]∧k (.v .none) M)∨∃e:Ex,args=[.v e.d,.ref 0]∧jn srcs als∧fC e∧b9 (exE srcs als e) (fun m=>X m M) (fun e=>k (.v e.c) M))
theorem wD{D:Wd}(h:Ok D):SpecOk D 106 1268 wE:=(((oN h).up (by decide:77≤106))).less fun args kws M k X z=>by
 obtain⟨rfl,b,srcs,als,n,rfl,z⟩:=z
 rcases z with ⟨rfl,z⟩|⟨e,rfl,h1,h2,z⟩
 ·exact⟨rfl,b,srcs,als,n,rfl,.inl ⟨rfl,z⟩⟩
 ·rw[Ex.d_c]
  exact⟨rfl,b,srcs,als,n,rfl,.inr ⟨e,rfl,h1,h2,z⟩⟩
def tG(P:Params):Tb:=aD (Hm P) 1268 wE
theorem BO{D:Wd}(h:Ok D):TbOk D 106 (tG D.w.params):=(FY h).add (wD h) (bC h).keep
def FS(two:Bool):Str:=match two with
 |false=> "1st"
 |true=> "2nd"
def oV(two:Bool):Int:=match two with
 |false=>1
 |true=>2
def kO(two:Bool)(len:Nat):Str:=FS two ++ " " ++ "GROUP" ++ " BY term out of range - should be between 1 and " ++ bv len
theorem rL:∀n:Fin 51,(bv (n.val:Int)).length≤20:=by decide +kernel
theorem kR{n:Nat}(h:n≤50):(bv (n:Int)).length≤20:=rL ⟨n,by omega⟩
def ca(i:Int)(len:Nat):Bool:=decide (1≤i)&&decide (i≤len)
theorem lQ(P:Params)(two:Bool)(e:Ex)(outs:CV)(k:K1)(X:KX)(he:∀i,e≠.lit i)(h:k (.v .none) []):ap (tG P) (bU P) [.v e.d,.v outs,.v (.int (oV two)),.v (.str "GROUP")] [] k X:=by
 cases e with
 |lit i=>exact absurd rfl (he i)
 |_=>exact h
def lG(two:Bool)(o:List CV)(X:KX):Prop:=(-(2 ^ 63:Int) < 10∧(10:Int) < 2 ^ 63)∧3≤1000∧(3≤1000∧∀c∈[CV.int 1,CV.int 2,CV.int 3],Cm 8 c (.int (Int.fmod (oV two) 10)))∧3≤1000∧3≤1000∧((-1000000:Int)≤oV two∧oV two≤1000000)∧1+2≤1000∧3+1≤1000∧4+5≤1000∧9+48≤1000∧o.length≤1000∧((-1000000:Int)≤o.length∧(o.length:Int)≤1000000)∧57+(bv o.length).length≤1000∧X (kO two o.length) []
def oG(two:Bool)(i:Int)(o:List CV)(k:K1)(X:KX):Prop:=bif decide (1≤i) then (o.length≤1000∧bif !decide (i≤o.length) then lG two o X else k (.v (.int (i - 1))) []) else lG two o X
theorem De(P:Params)(i:Int)(o:List CV)(k:K1)(X:KX):oG false i o k X=ap (tG P) (bU P) [.v (Ex.lit i).d,.v (.lst o),.v (.int (oV false)),.v (.str "GROUP")] [] k X:=by kernel_rfl
theorem Dd(P:Params)(i:Int)(o:List CV)(k:K1)(X:KX):oG true i o k X=ap (tG P) (bU P) [.v (Ex.lit i).d,.v (.lst o),.v (.int (oV true)),.v (.str "GROUP")] [] k X:=by kernel_rfl
theorem wm(P:Params)(two:Bool)(i:Int)(outs:List Out)(k:K1)(X:KX)(hl:outs.length≤50)(h:bif ca i outs.length then k (.v (.int (i - 1))) [] else X (kO two outs.length) []) :
  ap (tG P) (bU P) [.v (Ex.lit i).d,.v (.lst (outs.map ax)),.v (.int (oV two)),.v (.str "GROUP")] [] k X:=by
 have e:oG two i (outs.map ax) k X=ap (tG P) (bU P) [.v (Ex.lit i).d,.v (.lst (outs.map ax)),.v (.int (oV two)),.v (.str "GROUP")] [] k X:=by
  cases two
  ·exact De P i _ k X
  ·exact Dd P i _ k X
 rw[←e]
 have hs:=kR hl
 have hr:X (kO two outs.length) []→lG two (outs.map ax) X:=fun z=>by
  unfold lG
  rw[List.length_map]
  refine⟨⟨by decide,by decide⟩,by decide,⟨by decide,fun c hc=>?_⟩,by decide,by decide,by cases two<;>decide,by decide,by decide,by decide,by decide,by omega,⟨by omega,by omega⟩,by omega,z⟩
  simp only[List.mem_cons,List.not_mem_nil,or_false] at hc
  rcases hc with rfl|rfl|rfl<;>rfl
 unfold oG
 unfold ca at h
 rw[List.length_map]
 cases h1:decide ((1:Int)≤i) with
 |false=>rw[h1,Bool.false_and] at h;exact hr h
 |true=>
  rw[h1,Bool.true_and] at h
  refine⟨by omega,?_⟩
  cases h2:decide (i≤(outs.length:Int)) with
  |false=>rw[h2] at h;exact hr h
  |true=>rw[h2] at h;exact h
def iJ:Ex→Option Int
 |.lit i=>some i
 |_=>none
def tpS:aE:=fun args kws M k X=>kws=[]∧M=[]∧∃(two:Bool) (e:Ex) (outs:List Out),args=[.v e.d,.v (.lst (outs.map ax)),.v (.int (oV two)),.v (.str "GROUP")]∧outs.length≤50 ∧
 match iJ e with
 |some i=>bif ca i outs.length then k (.v (.int (i - 1))) [] else X (kO two outs.length) []
 |none=>k (.v .none) []
theorem Fk{D:Wd}(h:Ok D):SpecOk D 107 1390 tpS:=(ah (f8 h) (BO h)).less fun args kws M k X z=>by
 obtain⟨rfl,rfl,two,e,outs,rfl,hl,z⟩:=z
 refine ar rfl ?_
 cases e with
 |lit i=>exact wm _ two i outs k X hl z
 |litS s=>exact lQ _ two (.litS s) _ k X (fun i e=>by cases e) z
 |cnt=>exact lQ _ two .cnt _ k X (fun i e=>by cases e) z
 |nm t c=>exact lQ _ two (.nm t c) _ k X (fun i e=>by cases e) z
def yY(P:Params):Tb:=aD (tG P) 1390 tpS
theorem BN{D:Wd}(h:Ok D):TbOk D 107 (yY D.w.params):=(BO h).add (Fk h) (f8 h).keep
def dB:Str:= "aggregate functions are not allowed in the GROUP BY clause"
def iI(re:RE):Res RE:=bif re.isC then .no dB else .ok re
def fR(srcs:List SrcR)(als:List AlR)(outs:List Out)(two:Bool)(e:Ex):Res RE:=match iJ e with
 |some i=>bif ca i outs.length then (match outs[(i - 1).toNat]? with
   |some o=>iI o.2
   |none=>.no "") else .no (kO two outs.length)
 |none=>(match exE srcs als e with
  |.no m=>.no m
  |.ok re=>iI re)
def b6(srcs:List SrcR)(als:List AlR)(outs:List Out):Bool→List Ex→List RE→Res (List RE)
 |_,[],acc=>.ok acc
 |two,e::r,acc=>(match fR srcs als outs two e with
  |.no m=>.no m
  |.ok re=>b6 srcs als outs true r (acc++[re]))
theorem gM{i:Int}{outs:List Out}(h:ca i outs.length=true):∃o,outs[(i - 1).toNat]?=some o∧(match bP (outs.map ax) (i - 1) with|some c=>some (AV.v c)|none=>none)=some (AV.v (ax o)):=by
 walk_at "bt"
def rgM(srcs:List SrcR)(als:List CV)(n:Int):AM:=[.lst [],.inst "Scope" [("sources",.ref 2),("parent",.v .none),("aliases",.v (.lst als)),("catalog",.v .none),("counter",.ref 3),("outer",.v .dct)],.lst (srcs.map SrcR.c),.inst "Counter" [("last",.v (.int n))]]
theorem wO(P:Params)(srcs:List SrcR)(als:List CV)(n:Int)(o:CV)(k:K1)(X:KX)(h:k (.v (.lst [])) (rgM srcs als n)):ap (yY P) (cF P) [.ref 0,.v o,.ref 1] (rgM srcs als n) k X:=by
 walk_at "ag"
 exact h
section
variable {srcs:List SrcR}{als:List AlR}{outs:List Out}{two:Bool}{e:Ex}{i:Int}{o:Out}{re:RE}{m:Str}
theorem jI(h1:iJ e=some i)(h2:ca i outs.length=true)(h3:outs[(i - 1).toNat]?=some o):fR srcs als outs two e=iI o.2:=by
 unfold fR;rw[h1];simp only;rw[h2,cond_true,h3]
theorem jJ(h1:iJ e=some i)(h2:ca i outs.length=false):fR srcs als outs two e=.no (kO two outs.length):=by
 unfold fR;rw[h1];simp only;rw[h2,cond_false]
theorem mM(h1:iJ e=none)(h2:exE srcs als e=.no m):fR srcs als outs two e=.no m:=by
 unfold fR;rw[h1];simp only;rw[h2]
theorem je(h1:iJ e=none)(h2:exE srcs als e=.ok re):fR srcs als outs two e=iI re:=by
 unfold fR;rw[h1];simp only;rw[h2]
theorem dl(h:re.isC=true):iI re=.no dB:=by unfold iI;rw[h];rfl
theorem dk(h:re.isC=false):iI re=.ok re:=by unfold iI;rw[h];rfl
end
theorem wN(P:Params)(srcs:List SrcR)(als:List AlR)(n:Int)(outs:List Out)(e1:Ex)(k:K1)(X:KX)(so:jn srcs als)(eo_e1:fC e1)(hl:outs.length≤50)
  (h:b9 (b6 srcs als outs false [e1] []) (fun m=>X m (scM false srcs (bN als) n)) (fun l=>k (.v (.lst (l.map RE.c))) (scM false srcs (bN als) n))) :
  ap (yY P) (cF P) [.v (.lst [e1.d]),.v (.lst (outs.map ax)),.ref 0] (scM false srcs (bN als) n) k X:=by
 have hl2:(outs.map ax).length≤1000:=by rw[List.length_map];omega
 unfold b6 at h
 walk_at "ag"
 refine⟨rfl,rfl,false,e1,outs,rfl,hl,?_⟩
 cases hlit:iJ e1 with
 |some i=>
  cases hr:ca i outs.length with
  |false=>rw[jJ hlit hr] at h;exact aj hr h
  |true=>
   walk_at "du"
   walk_at "bM"
   walk_at "ab"
   walk_at "b1"
   cases hc:o.2.isC with
   |true=>rw[dl hc] at h;exact h
   |false=>
    rw[dk hc] at h
    walk_at "ab"
    exact h
 |none=>
  walk_at "ab"
  refine⟨rfl,false,srcs,als,n,rfl,.inr ⟨e1,rfl,so,eo_e1,?_⟩⟩
  cases hr:exE srcs als e1 with
  |no m=>rw[mM hlit hr] at h;exact h
  |ok re=>
   rw[je hlit hr] at h
   walk_at "b2"
   cases hc:re.isC with
   |true=>rw[dl hc] at h;exact h
   |false=>
    rw[dk hc] at h
    walk_at "ab"
    exact h
theorem wM(P:Params)(srcs:List SrcR)(als:List AlR)(n:Int)(outs:List Out)(e1 e2:Ex)(k:K1)(X:KX)(so:jn srcs als)(eo_e1:fC e1)(eo_e2:fC e2)(hl:outs.length≤50)
  (h:b9 (b6 srcs als outs false [e1,e2] []) (fun m=>X m (scM false srcs (bN als) n)) (fun l=>k (.v (.lst (l.map RE.c))) (scM false srcs (bN als) n))) :
  ap (yY P) (cF P) [.v (.lst [e1.d,e2.d]),.v (.lst (outs.map ax)),.ref 0] (scM false srcs (bN als) n) k X:=by
 have hl2:(outs.map ax).length≤1000:=by rw[List.length_map];omega
 unfold b6 at h
 walk_at "ag"
 refine⟨rfl,rfl,false,e1,outs,rfl,hl,?_⟩
 cases hlit:iJ e1 with
 |some i=>
  cases hr:ca i outs.length with
  |false=>rw[jJ hlit hr] at h;exact aj hr h
  |true=>
   walk_at "du"
   walk_at "bM"
   walk_at "ab"
   walk_at "b1"
   cases hc:o.2.isC with
   |true=>rw[dl hc] at h;exact h
   |false=>
    rw[dk hc] at h
    walk_at "ab"
    simp only at h
    unfold b6 at h
    walk_at "ab"
    refine⟨rfl,rfl,true,e2,outs,rfl,hl,?_⟩
    cases hlit2:iJ e2 with
    |some i=>
     cases hr2:ca i outs.length with
     |false=>rw[jJ hlit2 hr2] at h;exact aj hr2 h
     |true=>
      walk_at "ds"
      walk_at "bM"
      walk_at "ab"
      walk_at "b1"
      cases hc2:o.2.isC with
      |true=>rw[dl hc2] at h;exact h
      |false=>
       rw[dk hc2] at h
       walk_at "ab"
       exact h
    |none=>
     walk_at "ab"
     refine⟨rfl,false,srcs,als,n,rfl,.inr ⟨e2,rfl,so,eo_e2,?_⟩⟩
     cases hr2:exE srcs als e2 with
     |no m=>rw[mM hlit2 hr2] at h;exact h
     |ok re=>
      rw[je hlit2 hr2] at h
      walk_at "b2"
      cases hc2:re.isC with
      |true=>rw[dl hc2] at h;exact h
      |false=>
       rw[dk hc2] at h
       walk_at "ab"
       exact h
 |none=>
  walk_at "ab"
  refine⟨rfl,false,srcs,als,n,rfl,.inr ⟨e1,rfl,so,eo_e1,?_⟩⟩
  cases hr:exE srcs als e1 with
  |no m=>rw[mM hlit hr] at h;exact h
  |ok re=>
   rw[je hlit hr] at h
   walk_at "b2"
   cases hc:re.isC with
   |true=>rw[dl hc] at h;exact h
   |false=>
    rw[dk hc] at h
    walk_at "ab"
    simp only at h
    unfold b6 at h
    walk_at "ab"
    refine⟨rfl,rfl,true,e2,outs,rfl,hl,?_⟩
    cases hlit2:iJ e2 with
    |some i=>
     cases hr2:ca i outs.length with
     |false=>rw[jJ hlit2 hr2] at h;exact aj hr2 h
     |true=>
      walk_at "ds"
      walk_at "bM"
      walk_at "ab"
      walk_at "b1"
      cases hc2:o.2.isC with
      |true=>rw[dl hc2] at h;exact h
      |false=>
       rw[dk hc2] at h
       walk_at "ab"
       exact h
    |none=>
     walk_at "ab"
     refine⟨rfl,false,srcs,als,n,rfl,.inr ⟨e2,rfl,so,eo_e2,?_⟩⟩
     cases hr2:exE srcs als e2 with
     |no m=>rw[mM hlit2 hr2] at h;exact h
     |ok re=>
      rw[je hlit2 hr2] at h
      walk_at "b2"
      cases hc2:re.isC with
      |true=>rw[dl hc2] at h;exact h
      |false=>
       rw[dk hc2] at h
       walk_at "ab"
       exact h
def rgS:aE:=fun args kws M k X=>kws=[]∧((∃srcs als n o,args=[.ref 0,.v o,.ref 1]∧M=rgM srcs als n∧k (.v (.lst [])) M) ∨
 ∃(srcs:List SrcR) (als:List AlR) (n:Int) (outs:List Out) (gs:List Ex),(∃e1,gs=[e1]∨∃e2,gs=[e1,e2])∧args=[.v (.lst (gs.map Ex.d)),.v (.lst (outs.map ax)),.ref 0]∧M=scM false srcs (bN als) n∧jn srcs als∧(∀e∈gs,fC e)∧outs.length≤50 ∧
  b9 (b6 srcs als outs false gs []) (fun m=>X m M) (fun l=>k (.v (.lst (l.map RE.c))) M))
theorem FO{D:Wd}(h:Ok D):SpecOk D 108 1404 rgS:=(ah (dg h) (BN h)).less fun args kws M k X z=>by
 obtain⟨rfl,z⟩:=z
 rcases z with ⟨srcs,als,n,o,rfl,rfl,z⟩|⟨srcs,als,n,outs,gs,hg,rfl,rfl,so,eo,hl,z⟩
 ·exact ar rfl (wO _ srcs als n o k X z)
 ·obtain⟨e1,rfl|⟨e2,rfl⟩⟩:=hg
  ·exact ar rfl (wN _ srcs als n outs e1 k X so (eo _ (.head _)) hl z)
  ·exact ar rfl (wM _ srcs als n outs e1 e2 k X so (eo _ (.head _)) (eo _ (.tail _ (.head _))) hl z)
def Hl(P:Params):Tb:=aD (yY P) 1404 rgS
theorem FX{D:Wd}(h:Ok D):TbOk D 108 (Hl D.w.params):=(BN h).add (FO h) (dg h).keep
theorem fg{K K2:List SrcR→Int→Prop}(hk:∀srcs n,K srcs n→K2 srcs n):∀{rs:List Row} {srcs:List SrcR} {n:Int},rdK K rs srcs n→rdK K2 rs srcs n
 |[],srcs,n,h=>hk srcs n h
 |r::rs,srcs,n,h=>⟨h.1,fun sel ons=>fg hk (h.2 sel ons)⟩
def rcO(o:Out):CV:=.inst "ResultColumn" [("value",o.2.c),("alias",.str o.1),("star_table",.none)]
def coM(g:Bool)(srcs:List SrcR)(als:List CV)(n:Int):AM:=match g with
 |false=>[eV n,.lst (srcs.map SrcR.c),.inst "Scope" [("sources",.ref 1),("parent",.v .none),("aliases",.v (.lst als)),("catalog",.v .none),("counter",.ref 0),("outer",.v .dct)],.lst []]
 |true=>[eV n,.lst (srcs.map SrcR.c),.inst "Scope" [("sources",.ref 1),("parent",.v .none),("aliases",.v (.lst als)),("catalog",.v .none),("counter",.ref 0),("outer",.v .dct)],.lst [],.lst []]
def ID:eQ:=⟨[],fun items _ M k _=>∃(g:Bool) (srcs:List SrcR) (als:List CV) (n:Int) (outs:List Out),M=coM g srcs als n∧items=outs.map ax∧k (outs.map rcO) M⟩
def coO(g:Bool)(src:CV)(gl outs:List CV):AO:=.inst "Core" [("columns",.ref (bif g then 5 else 4)),("distinct",.v (.bool false)),("source",.v src),("where",.v .none),("groups",.v (.lst gl)),("having",.v .none),("sources",.ref 1),("outputs",.v (.lst outs)),("scope",.ref 2)]
def coF(g:Bool):AV:=match g with
 |true=>.ref 6
 |false=>.ref 5
def dC:List Out→List CV
 |[]=>[]
 |o::r=>o.2.aggs++dC r
theorem jm:∀l:List Out,(dC l).length≤l.length
 |[]=>Nat.le_refl _
 |o::r=>by
  have:=jm r
  have h1:o.2.aggs.length≤1:=by unfold RE.aggs;cases o.2.isC<;>simp
  simp only[dC,List.length_append,List.length_cons];omega
def Hf:cP:=⟨["found","groups","having","called"],fun items vals M k _=>∃(g:Bool) (srcs:List SrcR) (als:List CV) (n:Int) (cols:List CV) (src:CV) (gl outs cs:List CV) (todo:List Out),
 vals=[coF g,.v (.lst gl),.v .none,.v (.lst cs)]∧M=coM g srcs als n++[.lst cols,coO g src gl outs]∧items=todo.map ax∧cs.length+todo.length≤900∧k .next [coF g,.v (.lst gl),.v .none,.v (.lst (cs++dC todo))] M⟩
def Bh(P:Params):Tb:=lE (pu (Hl P) 911 ID) 917 Hf
theorem BM{D:Wd}(h:Ok D):TbOk D 108 (Bh D.w.params):=cV (eE (FX h))
def iL(cols:List ColE)(gs:List Ex)(E:Str→Prop)(K:List Out→List RE→Prop)(srcs:List SrcR)(n:Int):Prop:=
 jn srcs []∧(∀c∈cols,ka srcs c)∧jR srcs cols≤50∧b9 (dh srcs cols [] []) E (fun r=>r.1.length≤50∧∀als:List AlR,als.map pj=r.2→jn srcs als∧b9 (b6 srcs als r.1 false gs []) E (fun l=>l.length≤900∧K r.1 l))
def jA(src:CV)(outs:List Out)(l:List RE)(cols srcs als cnt:CV):CV:=.inst "Core" [("columns",cols),("distinct",.bool false),("source",src),("where",.none),("groups",.lst (l.map RE.c)),("having",.none),("sources",srcs),("outputs",.lst (outs.map ax)),
 ("scope",.inst "Scope" [("sources",srcs),("parent",.none),("aliases",als),("catalog",.none),("counter",cnt),("outer",.dct)]),("is_aggregate",.bool (!l.isEmpty || !(dC outs).isEmpty))]
theorem sG(P:Params)(rs:List Row)(cols:List ColE)(n:Int)(k:K1)(X:KX)(hl:rs.length≤3)(hf:bx rs)(hu:∀r∈rs,(r.us.map ag).length≤1000)(hs:bZ cols≤3)(hcl:cols.length≤900)
  (h:rdK (iL cols [] (fun m=>∀n,X m [eV n]) (fun o l=>∀cols srcs als cnt n,k (.v (jA (aZ rs) o l cols srcs als cnt)) [eV n])) rs [] n) :
  ap (Bh P) (cg P) [.v (jQ (cols.map ColE.c) (aZ rs) []),.v .none,.v .none,.ref 0] [eV n] k X:=by
 walk_at "ag"
 walk_at "cF"
 cases hr:dh srcs cols [] [] with
 |no m=>rw[hr] at z;exact z n'
 |ok r=>
  walk_at "cT"
  walk_at "bq"
  walk_at "ag"
  refine⟨rfl,.inl ⟨srcs,bN als,n',.lst (r.1.map ax),rfl,rfl,?_⟩⟩
  walk_at "aI"
  ·refine⟨true,srcs,bN als,n',r.1,rfl,rfl,?_⟩
   walk_at "an"
   ·refine⟨true,srcs,bN als,n',r.1.map rcO,aZ rs,[],r.1.map ax,[],r.1,rfl,rfl,rfl,by simp only[List.length_nil];omega,?_⟩
    have hag:([]++dC r.1).length≤1000:=by rw[List.nil_append];have:=jm r.1;omega
    walk_at "ab"
    walk_at "ab"
    walk_at "ab"
    refine And.intro hag ?_
    walk_at "cw"
theorem m8(P:Params)(rs:List Row)(cols:List ColE)(gs:List Ex)(n:Int)(k:K1)(X:KX)(hl:rs.length≤3)(hf:bx rs)(hu:∀r∈rs,(r.us.map ag).length≤1000)(hs:bZ cols≤3)(hcl:cols.length≤900)
  (hg:∃e1,gs=[e1]∨∃e2,gs=[e1,e2]) (eo:∀e∈gs,fC e)
  (h:rdK (iL cols gs (fun m=>∀n,X m [eV n]) (fun o l=>∀cols srcs als cnt n,k (.v (jA (aZ rs) o l cols srcs als cnt)) [eV n])) rs [] n) :
  ap (Bh P) (cg P) [.v (jQ (cols.map ColE.c) (aZ rs) (gs.map Ex.d)),.v .none,.v .none,.ref 0] [eV n] k X:=by
 walk_at "ag"
 walk_at "cF"
 cases hr:dh srcs cols [] [] with
 |no m=>rw[hr] at z;exact z n'
 |ok r=>
  walk_at "cT"
  walk_at "bq"
  have hgl:(gs.map Ex.d).length≤1000:=by obtain⟨e1,rfl|⟨e2,rfl⟩⟩:=hg<;>exact leB rfl
  have hgt:(!(gs.map Ex.d).isEmpty)=true:=by obtain⟨e1,rfl|⟨e2,rfl⟩⟩:=hg<;>rfl
  refine And.intro hgl ?_
  refine ai hgt ?_
  refine⟨rfl,.inr ⟨srcs,als,n',r.1,gs,hg,rfl,rfl,so2,eo,hro,?_⟩⟩
  cases hgr:b6 srcs als r.1 false gs [] with
  |no m=>rw[hgr] at z;exact z n'
  |ok l=>
   rw[hgr] at z
   walk_at "aI"
   ·refine⟨false,srcs,bN als,n',r.1,rfl,rfl,?_⟩
    walk_at "an"
    ·refine⟨false,srcs,bN als,n',r.1.map rcO,aZ rs,(l.map RE.c),r.1.map ax,[],r.1,rfl,rfl,rfl,by simp only[List.length_nil];omega,?_⟩
     have hag:([]++dC r.1).length≤1000:=by rw[List.nil_append];have:=jm r.1;omega
     cases l with
     |nil=>
      walk_at "ab"
      walk_at "ab"
      walk_at "ab"
      refine And.intro hag ?_
      walk_at "cw"
     |cons x l=>
      have hgl:((x::l).map RE.c).length≤1000:=by rw[List.length_map];have:=z.1;omega
      walk_at "ab"
      refine And.intro hgl ?_
      walk_at "cw"
def CK:aE:=fun args kws M k X=>kws=[]∧∃(rs:List Row) (cols:List ColE) (gs:List Ex) (n:Int),args=[.v (jQ (cols.map ColE.c) (aZ rs) (gs.map Ex.d)),.v .none,.v .none,.ref 0]∧M=[eV n]∧rs.length≤3∧bx rs∧(∀r∈rs,(r.us.map ag).length≤1000)∧bZ cols≤3∧cols.length≤900∧gs.length≤2∧(∀e∈gs,fC e) ∧
 rdK (iL cols gs (fun m=>∀n,X m [eV n]) (fun o l=>∀cols srcs als cnt n,k (.v (jA (aZ rs) o l cols srcs als cnt)) [eV n])) rs [] n
theorem Ax{D:Wd}(h:Ok D):SpecOk D 109 1409 CK:=(ah (cX h) (BM h)).less fun args kws M k X z=>by
 obtain⟨rfl,rs,cols,gs,n,rfl,rfl,h1,h2,h3,h4,h5,h6,h7,z⟩:=z
 refine ar rfl ?_
 match gs,h6,h7,z with
 |[],_,_,z=>exact sG _ rs cols n k X h1 h2 h3 h4 h5 z
 |[e1],_,eo,z=>exact m8 _ rs cols [e1] n k X h1 h2 h3 h4 h5 ⟨e1,.inl rfl⟩ eo z
 |[e1,e2],_,eo,z=>exact m8 _ rs cols [e1,e2] n k X h1 h2 h3 h4 h5 ⟨e1,.inr ⟨e2,rfl⟩⟩ eo z
 |_::_::_::_,h,_,_=>simp only[List.length_cons] at h;omega
def C4(P:Params):Tb:=aD (Bh P) 1409 CK
theorem DA{D:Wd}(h:Ok D):TbOk D 109 (C4 D.w.params):=(BM h).add (Ax h) (cX h).keep
theorem me{α:Type}{r:Res α}{X X2:Str→Prop}{k k2:α→Prop}(h:b9 r X k)(hX:∀m,X m→X2 m)(hk:∀a,k a→k2 a):b9 r X2 k2:=by
 cases r with
 |no m=>exact hX m h
 |ok a=>exact hk a h
theorem ji{cols:List ColE}{gs:List Ex}{E E2:Str→Prop}{K K2:List Out→List RE→Prop}(hE:∀m,E m→E2 m)(hK:∀o l,K o l→K2 o l){srcs:List SrcR}{n:Int}(h:iL cols gs E K srcs n):iL cols gs E2 K2 srcs n:=
 ⟨h.1,h.2.1,h.2.2.1,me h.2.2.2 hE fun r z=>⟨z.1,fun als ha=>⟨(z.2 als ha).1,me (z.2 als ha).2 hE fun l y=>⟨y.1,hK _ _ y.2⟩⟩⟩⟩
def C3(P:Params):Tb:=aF (C4 P) 1421 (dZ P) 4
theorem Dz{D:Wd}(h:Ok D):TbOk D 110 (C3 D.w.params):=bh (ef h) (DA h)
def C1(P:Params):Tb:=aF (C3 P) 1428 (fX P) 1
theorem Dy{D:Wd}(h:Ok D):TbOk D 111 (C1 D.w.params):=bh (f9 h) (Dz h)
def zi(P:Params):Tb:=aF (C1 P) 1442 (fY P) 2
theorem xq{D:Wd}(h:Ok D):TbOk D 112 (zi D.w.params):=bh (gb h) (Dy h)
theorem wB(P:Params)(rs:List Row)(cols:List ColE)(gs:List Ex)(k:K1)(X:KX)(h1:rs.length≤3)(h2:bx rs)(h3:∀r∈rs,(r.us.map ag).length≤1000)(h4:bZ cols≤3)(h5:cols.length≤900)(h6:gs.length≤2)(h7:∀e∈gs,fC e)
  (h:rdK (iL cols gs (fun m=>X m []) (fun o l=>∀cols srcs als cnt,k (.v (jw (jA (aZ rs) o l cols srcs als cnt) (.lst []) (o.map ax))) [])) rs [] (-1)) :
  ap (zi P) (eJ P) [.v (wC (jQ (cols.map ColE.c) (aZ rs) (gs.map Ex.d))),.v .none] [] k X:=by
 walk_at "aB"
 refine⟨rfl,rs,cols,gs,-1,rfl,rfl,h1,h2,h3,h4,h5,h6,h7,?_⟩
 refine fg (fun srcs n z=>ji (fun m z n=>z) (fun o l z cols srcs als cnt n=>?_) z) h
 walk_at "ag"
 walk_at "cG"
 walk_at "cG"
 walk_at "n_3"
 walk_at "n_3"
 exact z cols srcs als cnt
def Dj:aE:=fun args kws M k X=>kws=[]∧M=[]∧∃(rs:List Row) (cols:List ColE) (gs:List Ex),args=[.v (wC (jQ (cols.map ColE.c) (aZ rs) (gs.map Ex.d))),.v .none]∧rs.length≤3∧bx rs∧(∀r∈rs,(r.us.map ag).length≤1000)∧bZ cols≤3∧cols.length≤900∧gs.length≤2∧(∀e∈gs,fC e) ∧
 rdK (iL cols gs (fun m=>X m []) (fun o l=>∀cols srcs als cnt,k (.v (jw (jA (aZ rs) o l cols srcs als cnt) (.lst []) (o.map ax))) [])) rs [] (-1)
theorem wA{D:Wd}(h:Ok D):SpecOk D 113 1481 Dj:=(ah (cW h) (xq h)).less fun args kws M k X z=>by
 obtain⟨rfl,rfl,rs,cols,gs,rfl,h1,h2,h3,h4,h5,h6,h7,z⟩:=z
 exact ar rfl (wB _ rs cols gs k X h1 h2 h3 h4 h5 h6 h7 z)
def zh(P:Params):Tb:=aD (zi P) 1481 Dj
theorem xp{D:Wd}(h:Ok D):TbOk D 113 (zh D.w.params):=(xq h).add (wA h) (cW h).keep
def ak(p:Int×Int):AO:=.lst [.int p.1,.int p.2]
def au(p:Int×Int):Prop:=0≤p.1∧0≤p.2∧p.2 < 2147483647
def pI(a b top:Int)(k:K1):Prop:=2≤1000∧bif decide (0 < a) then
   (2≤1000∧bif decide (top=0) then False else (2≤1000∧bif decide (top=0) then False else ((-(2 ^ 63:Int) < top∧top < 2 ^ 63)∧2≤1000∧k (.v (.int (a.fmod top))) [.lst [.int (a.fdiv top),.int b]])))
  else (2≤1000∧(-(2 ^ 63:Int) < 39373∧(39373:Int) < 2 ^ 63)∧2≤1000∧2≤1000∧2≤1000∧(-(2 ^ 63:Int) < (b*39373+7).fmod 2147483647∧(b*39373+7).fmod 2147483647 < 2 ^ 63)∧(-(2 ^ 63:Int) < 32∧(32:Int) < 2 ^ 63)∧bif decide (top=0) then False else
   k (.v (.int ((((((b*39373+7).fmod 2147483647*(b*39373+7).fmod 2147483647).fmod 2147483629).fdiv 32).fmod top)))) [.lst [.int a,.int ((b*39373+7).fmod 2147483647)]])
theorem zB(P:Params)(a b top:Int)(k:K1)(X:KX):pI a b top k=ap (zh P) (li P) [.ref 0,.v (.int top)] [.lst [.int a,.int b]] k X:=by kernel_rfl
def BB:aE:=fun args kws M k X=>kws=[]∧∃(p:Int×Int) (top:Int),args=[.ref 0,.v (.int top)]∧M=[ak p]∧au p∧1≤top∧top≤1000∧∀(d:Int) (q:Int×Int),au q→0≤d→d < top→k (.v (.int d)) [ak q]
theorem zA{D:Wd}(h:Ok D):SpecOk D 114 1495 BB:=(ah (lm h) (xp h)).less fun args kws M k X z=>by
 obtain⟨rfl,⟨a,b⟩,top,rfl,rfl,⟨p1,p2,p3⟩,t1,t2,z⟩:=z
 refine ar rfl ?_
 show ap _ _ _ [.lst [.int a,.int b]] k X
 rw[←zB]
 unfold pI
 have h0:decide (top=0)=false:=decide_eq_false (by omega)
 simp only at p1 p2 p3
 have hm1:=Int.fmod_nonneg_of_pos (b*39373+7) (show (0:Int) < 2147483647 by decide)
 have hm2:=Int.fmod_lt_of_pos (b*39373+7) (show (0:Int) < 2147483647 by decide)
 refine⟨by decide,?_⟩
 cases hd:decide (0 < a) with
 |true=>
  refine⟨by decide,?_⟩
  rw[h0]
  refine⟨by decide,⟨by omega,by omega⟩,by decide,?_⟩
  exact z _ (a.fdiv top,b) ⟨by
   show 0≤a.fdiv top
   rw[Int.fdiv_eq_ediv_of_nonneg a (by omega)]
   exact Int.ediv_nonneg p1 (by omega),p2,p3⟩ (Int.fmod_nonneg_of_pos a (by omega)) (Int.fmod_lt_of_pos a (by omega))
 |false=>
  refine⟨by decide,⟨by decide,by decide⟩,by decide,by decide,by decide,⟨by omega,by omega⟩,⟨by decide,by decide⟩,?_⟩
  rw[h0]
  exact z _ (a,(b*39373+7).fmod 2147483647) ⟨p1,hm1,hm2⟩ (Int.fmod_nonneg_of_pos _ (by omega)) (Int.fmod_lt_of_pos _ (by omega))
def zg(P:Params):Tb:=aD (zh P) 1495 BB
theorem xn{D:Wd}(h:Ok D):TbOk D 114 (zg D.w.params):=(xp h).add (zA h) (lm h).keep
theorem wW(P:Params)(p:Int×Int)(vs:List CV)(k:K1)(X:KX)(hp:au p)(h1:1≤vs.length)(h2:vs.length≤1000)(h:∀c∈vs,∀q,au q→k (.v c) [ak q,.lst vs]) :
  ap (zg P) (nn P) [.ref 0,.ref 1] [ak p,.lst vs] k X:=by
 refine And.intro h2 ?_
 refine⟨rfl,p,(vs.length:Int),rfl,rfl,hp,by omega,by omega,fun d q hq d0 d1=>?_⟩
 have hlt:d.toNat < vs.length:=by omega
 have hn:(match bP vs d with|some c=>some (AV.v c)|none=>none)=some (AV.v vs[d.toNat]):=by
  unfold bP
  rw[decide_eq_true d0,cond_true,List.getElem?_eq_getElem hlt]
 refine af hn ?_
 refine And.intro h2 ?_
 exact h _ (List.getElem_mem hlt) q hq
def FW:aE:=fun args kws M k X=>kws=[]∧∃(p:Int×Int) (vs:List CV),args=[.ref 0,.ref 1]∧M=[ak p,.lst vs]∧au p∧1≤vs.length∧vs.length≤1000∧∀c∈vs,∀q,au q→k (.v c) [ak q,.lst vs]
theorem Do{D:Wd}(h:Ok D):SpecOk D 115 1502 FW:=(ah (nv h) (xn h)).less fun args kws M k X z=>by
 obtain⟨rfl,p,vs,rfl,rfl,hp,h1,h2,z⟩:=z
 exact ar rfl (wW _ p vs k X hp h1 h2 z)
def zf(P:Params):Tb:=aD (zg P) 1502 FW
theorem xm{D:Wd}(h:Ok D):TbOk D 115 (zf D.w.params):=(xn h).add (Do h) (nv h).keep
theorem o9(P:Params)(p:Int×Int)(s:Str)(k:K1)(X:KX)(hp:au p)(hs:s.length≤1000)(ha:iD s=true)(h1:∀q,au q→k (.v (.str s)) [ak q])(h2:∀q,au q→k (.v (.str (upS s))) [ak q]) :
  ap (zf P) (gW P) [.ref 0,.v (.str s)] [ak p] k X:=by
 walk_at "cN"
 cases hd:decide (0 < d) with
 |true=>
  refine ai hd ?_
  exact h1 q hq
 |false=>
  refine aj hd ?_
  refine And.intro ⟨hs,ha⟩ ?_
  exact h2 q hq
def qm:aE:=fun args kws M k X=>kws=[]∧∃(p:Int×Int) (s:Str),args=[.ref 0,.v (.str s)]∧M=[ak p]∧au p∧s.length≤1000∧iD s=true∧(∀q,au q→k (.v (.str s)) [ak q])∧(∀q,au q→k (.v (.str (upS s))) [ak q])
theorem sf{D:Wd}(h:Ok D):SpecOk D 116 1509 qm:=(ah (hV h) (xm h)).less fun args kws M k X z=>by
 obtain⟨rfl,p,s,rfl,rfl,hp,hs,ha,h1,h2⟩:=z
 exact ar rfl (o9 _ p s k X hp hs ha h1 h2)
def uQ(P:Params):Tb:=aD (zf P) 1509 qm
theorem xl{D:Wd}(h:Ok D):TbOk D 116 (uQ D.w.params):=(xm h).add (sf h) (hV h).keep
theorem G3(P:Params)(a:Str)(k:K1)(X:KX)(h:k (.v (kB [a])) [.lst [.str a]]):ap (uQ P) (eX P) [.ref 0] [.lst [.str a]] k X:=by
 walk_at "ag"
 exact h
theorem G2(P:Params)(a b:Str)(k:K1)(X:KX)(h:k (.v (kB [a,b])) [.lst [.str a,.str b]]):ap (uQ P) (eX P) [.ref 0] [.lst [.str a,.str b]] k X:=by
 walk_at "ag"
 exact h
def Cv:aE:=fun args kws M k X=>kws=[]∧∃names:List Str,args=[.ref 0]∧M=[.lst (names.map ag)]∧bR names∧k (.v (kB names)) M
theorem Aa{D:Wd}(h:Ok D):SpecOk D 117 1514 Cv:=(ah (iT h) (xl h)).less fun args kws M k X z=>by
 obtain⟨rfl,names,rfl,rfl,hn,z⟩:=z
 refine ar rfl ?_
 obtain⟨a,rfl|⟨b,rfl⟩⟩:=hn
 ·exact G3 _ a k X z
 ·exact G2 _ a b k X z
def rF(P:Params):Tb:=aD (uQ P) 1514 Cv
theorem xk{D:Wd}(h:Ok D):TbOk D 117 (rF D.w.params):=(xl h).add (Aa h) (iT h).keep
def Row.cv(r:Row):CV:=.tup [aP r.alias,.lst (r.names.map ag),.lst (r.us.map ag)]
def aB:List Row→List Str
 |[]=>[]
 |r::rs=>r.names.map ae++aB rs
def Sh(s:Str):Prop:=s.length≤300∧iD s=true
structure C2 where
 t1:PySem.Expr
 i2:PySem.Expr
 t2:PySem.Expr
 elt:PySem.Expr
 sc:PySem.Scope
def I9:List Stmt→Option C2
 |[.Return (some (.ListComp elt [⟨t1,_,_,_⟩,⟨t2,i2,_,_⟩] sc _)) _]=>some ⟨t1,i2,t2,elt,sc⟩
 |_=>none
def anC(P:Params):C2:=(I9 (cr P).body).getD ⟨.Constant .none 0 ⟨0,0,0,0⟩,.Constant .none 0 ⟨0,0,0,0⟩,.Constant .none 0 ⟨0,0,0,0⟩,.Constant .none 0 ⟨0,0,0,0⟩,(cr P).scope⟩
theorem rg(P:Params)(M:AM)(X:KX):∀(names:List Str) (acc:List CV) (k:List CV→Prop),acc.length+names.length≤900→(∀s∈names,Sh s)→k (acc++names.map fun s=>ag (ae s)) →
  qK (ev 38) ⟨rF P,(anC P).sc,false⟩ (anC P).t2 (anC P).elt [] M X (names.map ag) acc k
 |[],acc,k,hz,hs,h=>by rw[List.map_nil,List.append_nil] at h;exact h
 |s::r,acc,k,hz,hs,h=>by
  have h1:=hs s (.head _)
  have ih:=rg P M X r (acc++[ag (ae s)]) k (by simp only[List.length_append,List.length_cons,List.length_nil] at hz ⊢;omega) (fun x hx=>hs x (.tail _ hx)) (by rw[List.append_assoc];exact h)
  have hz1:acc.length≤999:=by simp only[List.length_cons] at hz;omega
  refine And.intro ⟨Nat.le_trans h1.1 (by decide),h1.2⟩ ?_
  exact⟨hz1,rfl,ih⟩
theorem rd(P:Params)(M:AM)(X:KX):∀(rows:List Row) (acc:List CV) (k:List CV→Prop),acc.length+(aB rows).length≤900→(∀r∈rows,∀s∈r.names,Sh s)→k (acc++(aB rows).map ag) →
  sD (ev 38) ⟨rF P,(anC P).sc,false⟩ (anC P).t1 (anC P).i2 (anC P).t2 (anC P).elt [] M X (rows.map Row.cv) acc k
 |[],acc,k,hz,hs,h=>by
  have h:k (acc++[]):=h
  rw[List.append_nil] at h;exact h
 |r::rs,acc,k,hz,hs,h=>by
  have hz:acc.length+(r.names.map ae++aB rs).length≤900:=hz
  rw[List.length_append,List.length_map] at hz
  have hl:(r.names.map ag).length≤1000:=by rw[List.length_map];omega
  refine⟨rfl,hl,?_⟩
  refine rg P M X r.names acc _ (by omega) (hs r (.head _)) ?_
  refine rd P M X rs _ k (by rw[List.length_append,List.length_map];omega) (fun x hx=>hs x (.tail _ hx)) ?_
  have h:k (acc++(r.names.map ae++aB rs).map ag):=h
  rw[List.map_append,List.map_map] at h
  rw[List.append_assoc];exact h
theorem AI(P:Params)(rows:List Row)(k:K1)(X:KX)(hl:rows.length≤900)(hz:(aB rows).length≤900)(hs:∀r∈rows,∀s∈r.names,Sh s)(h:k (.v (.lst ((aB rows).map ag))) [.lst (rows.map Row.cv)]) :
  ap (rF P) (cr P) [.ref 0] [.lst (rows.map Row.cv)] k X:=by
 have hl2:(rows.map Row.cv).length≤1000:=by rw[List.length_map];omega
 walk_at "bM"
 refine rd P _ _ rows [] _ (by simpa using hz) hs ?_
 rw[List.nil_append]
 exact h
def anS:aE:=fun args kws M k X=>kws=[]∧∃rows:List Row,args=[.ref 0]∧M=[.lst (rows.map Row.cv)]∧rows.length≤900∧(aB rows).length≤900∧(∀r∈rows,∀s∈r.names,Sh s)∧k (.v (.lst ((aB rows).map ag))) M
theorem He{D:Wd}(h:Ok D):SpecOk D 118 1524 anS:=(ah (fy h) (xk h)).less fun args kws M k X z=>by
 obtain⟨rfl,rows,rfl,rfl,h1,h2,h3,z⟩:=z
 exact ar rfl (AI _ rows k X h1 h2 h3 z)
def ze(P:Params):Tb:=aD (rF P) 1524 anS
theorem xj{D:Wd}(h:Ok D):TbOk D 118 (ze D.w.params):=(xk h).add (He h) (fy h).keep
def cE(a:Option Str)(t:Str):Bool:=match a with
 |none=>false
 |some x=>sEq (ae x) (ae t)
theorem qW(P:Params)(a:Option Str)(t:Str)(k:K1)(X:KX)(ha:∀x,a=some x→Sh x)(ht:Sh t)(h:k (.v (.bool (cE a t))) []):ap (ze P) (fq P) [.v (aP a),.v (.str t)] [] k X:=by
 cases a with
 |none=>exact h
 |some x=>
  have hx:=ha x rfl
  refine And.intro ⟨Nat.le_trans hx.1 (by decide),hx.2⟩ ?_
  refine And.intro ⟨Nat.le_trans ht.1 (by decide),ht.2⟩ ?_
  exact h
def uE:aE:=fun args kws M k X=>kws=[]∧M=[]∧∃(a:Option Str) (t:Str),args=[.v (aP a),.v (.str t)]∧(∀x,a=some x→Sh x)∧Sh t∧k (.v (.bool (cE a t))) []
theorem vQ{D:Wd}(h:Ok D):SpecOk D 119 1531 uE:=(ah (fx h) (xj h)).less fun args kws M k X z=>by
 obtain⟨rfl,rfl,a,t,rfl,h1,h2,z⟩:=z
 exact ar rfl (qW _ a t k X h1 h2 z)
def zd(P:Params):Tb:=aD (ze P) 1531 uE
theorem xi{D:Wd}(h:Ok D):TbOk D 119 (zd D.w.params):=(xj h).add (vQ h) (fx h).keep
def tblL:List (Option Str):=[none,none,none,some "X",some "y",some "w"]
def colL:List Str:=["a","b","c","d"]
theorem uD:∀s∈colL,Sh s:=by
 intro s hs
 walk_at "c3"
 rcases hs with rfl|rfl|rfl|rfl<;>exact⟨leB (by kernel_rfl),by kernel_rfl⟩
def CaseOf(l:List Str)(c:Str):Prop:=∃s∈l,c=s∨c=upS s
theorem vl(P:Params)(p:Int×Int)(k:K1)(X:KX)(hp:au p)(h:∀t c q,t∈tblL→CaseOf colL c→au q→k (.v (.tup [aP t,.str c])) [ak q]) :
  ap (zd P) (lj P) [.ref 0] [ak p] k X:=by
 walk_at "ab"
 refine⟨rfl,p,tblL.map aP,rfl,rfl,hp,by decide,by decide,fun c hc q hq=>?_⟩
 obtain⟨t,ht,rfl⟩:=List.mem_map.mp hc
 walk_at "ab"
 refine⟨rfl,q,colL.map ag,rfl,rfl,hq,by decide,by decide,fun c hc q2 hq2=>?_⟩
 obtain⟨s,hs,rfl⟩:=List.mem_map.mp hc
 have hsh:=uD s hs
 refine⟨rfl,q2,s,rfl,rfl,hq2,Nat.le_trans hsh.1 (by decide),hsh.2,fun q3 hq3=>?_,fun q3 hq3=>?_⟩
 ·refine And.intro (leB rfl) ?_
  exact h t s q3 ht ⟨s,hs,.inl rfl⟩ hq3
 ·refine And.intro (leB rfl) ?_
  exact h t (upS s) q3 ht ⟨s,hs,.inr rfl⟩ hq3
def Cs:aE:=fun args kws M k X=>kws=[]∧∃p:Int×Int,args=[.ref 0]∧M=[ak p]∧au p∧∀t c q,t∈tblL→CaseOf colL c→au q→k (.v (.tup [aP t,.str c])) [ak q]
theorem z0{D:Wd}(h:Ok D):SpecOk D 120 1548 Cs:=(ah (lp h) (xi h)).less fun args kws M k X z=>by
 obtain⟨rfl,p,rfl,rfl,hp,z⟩:=z
 exact ar rfl (vl _ p k X hp z)
def C0(P:Params):Tb:=aD (zd P) 1548 Cs
theorem Dx{D:Wd}(h:Ok D):TbOk D 120 (C0 D.w.params):=(xi h).add (z0 h) (lp h).keep
def aliL:List (Option Str):=[some "x",some "Y",some "z",none]
def abc:List Str:=["a","b","c"]
theorem sU:∀s∈abc,Sh s:=fun s hs=>uD s (by
 simp only[abc,List.mem_cons,List.not_mem_nil,or_false] at hs
 rcases hs with rfl|rfl|rfl<;>simp[colL])
structure RowG(r:Row)(before:List Row):Prop where
 alias:r.alias∈aliL
 names:bR r.names
 each:∀s∈r.names,CaseOf abc s
 us:r.us=[]∨∃s∈r.names,r.us=[ae s]∧inC (.str (ae s)) ((aB before).map ag)=true
def RowsG:List Row→List Row→Prop
 |_,[]=>True
 |before,r::rs=>RowG r before∧RowsG (before++[r]) rs
theorem CaseOf.sh{c:Str}(h:CaseOf abc c):Sh c:=by
 obtain⟨s,hs,e⟩:=h
 simp only[abc,List.mem_cons,List.not_mem_nil,or_false] at hs
 rcases hs with rfl|rfl|rfl<;>rcases e with rfl|rfl<;>exact⟨leB (by kernel_rfl),by kernel_rfl⟩
def aK(rows:List Row):List Str→List Str
 |[]=>[]
 |s::r=>bif inC (.str (ae s)) ((aB rows).map ag) then ae s::aK rows r else aK rows r
def zZ:eQ:=⟨["source"],fun items vals M k _=>∃(p:Int×Int) (rc th:List CV),vals=[.ref 0]∧M=[ak p,.lst rc,.lst th]∧au p∧∀(names:List Str) (q:Int×Int),names.length=items.length→(∀s∈names,CaseOf abc s)→au q→k (names.map ag) [ak q,.lst rc,.lst th]⟩
def wx:eQ:=⟨["rows"],fun items vals M k _=>∃(p:Int×Int) (rows:List Row) (th:List CV) (names todo:List Str),vals=[.ref 1]∧M=[ak p,.lst (rows.map Row.cv),.lst th,.lst (names.map ag)]∧items=todo.map ag ∧
 rows.length≤900∧(aB rows).length≤900∧(∀r∈rows,∀s∈r.names,Sh s)∧(∀s∈todo,Sh s)∧k ((aK rows todo).map ag) M⟩
def fromLp:cP:=⟨["source","node","rows"],fun items vals M k _=>∃(p:Int×Int) (rs:List Row),vals=[.ref 0,.v (aZ rs),.ref 1]∧M=[ak p,.lst (rs.map Row.cv)]∧au p∧RowsG [] rs∧items.length+rs.length≤3 ∧
 ∀(rs':List Row) (q:Int×Int),au q→RowsG [] rs'→rs'.length≤3→k .next [.ref 0,.v (aZ rs'),.ref 1] [ak q,.lst (rs'.map Row.cv)]⟩
def zc(P:Params):Tb:=lE (pu (pu (C0 P) 1056 zZ) 1057 wx) 1054 fromLp
theorem xh{D:Wd}(h:Ok D):TbOk D 120 (zc D.w.params):=cV (eE (eE (Dx h)))
theorem RowsG.snoc:∀{b rs:List Row} {r:Row},RowsG b rs→RowG r (b++rs)→RowsG b (rs++[r])
 |b,[],r,h,k=>⟨by rw[List.append_nil] at k;exact k,trivial⟩
 |b,x::rs,r,h,k=>⟨h.1,RowsG.snoc h.2 (by rw[List.append_assoc];exact k)⟩
theorem RowsG.all:∀{b rs:List Row},RowsG b rs→∀r∈rs,∃b',RowG r b'
 |b,x::rs,h,r,hr=>by
  cases hr with
  |head=>exact⟨b,h.1⟩
  |tail _ hr=>exact RowsG.all h.2 r hr
theorem RowsG.sh{b rs:List Row}(h:RowsG b rs):∀r∈rs,∀s∈r.names,Sh s:=fun r hr s hs=>by
 obtain⟨b',g⟩:=h.all r hr
 exact(g.each s hs).sh
theorem RowG.nlen{r:Row}{b:List Row}(h:RowG r b):r.names.length≤2:=by
 obtain⟨a,e|⟨c,e⟩⟩:=h.names<;>rw[e]<;>simp
theorem RowsG.len:∀{b rs:List Row},RowsG b rs→(aB rs).length≤2*rs.length
 |b,[],h=>Nat.zero_le _
 |b,x::rs,h=>by
  have:=RowsG.len h.2
  have:=h.1.nlen
  show (x.names.map ae++aB rs).length≤_
  simp only[List.length_append,List.length_map,List.length_cons];omega
theorem rP(l:List Str):dQ (l.map ag) none (some 1)=(l.take 1).map ag:=by
 cases l with
 |nil=>rfl
 |cons a r=>simp[dQ]
theorem gx{rows:List Row}:∀{l:List Str} {x:Str},x∈aK rows l→∃s∈l,x=ae s∧inC (.str (ae s)) ((aB rows).map ag)=true
 |s::r,x,h=>by
  unfold aK at h
  cases hb:inC (.str (ae s)) ((aB rows).map ag) with
  |true=>
   rw[hb,cond_true] at h
   cases h with
   |head=>exact⟨s,.head _,rfl,hb⟩
   |tail _ h=>
    obtain⟨y,h1,h2⟩:=gx h
    exact⟨y,.tail _ h1,h2⟩
  |false=>
   rw[hb,cond_false] at h
   obtain⟨y,h1,h2⟩:=gx h
   exact⟨y,.tail _ h1,h2⟩
theorem oB{rows:List Row}{names:List Str}:(aK rows names).take 1=[]∨∃s∈names,(aK rows names).take 1=[ae s]∧inC (.str (ae s)) ((aB rows).map ag)=true:=by
 cases h:aK rows names with
 |nil=>exact .inl rfl
 |cons x r=>
  obtain⟨s,h1,h2,h3⟩:=gx (rows:=rows) (l:=names) (x:=x) (by rw[h];exact .head _)
  exact .inr ⟨s,h1,by rw[h2];rfl,h3⟩
theorem i9{names:List Str}(h:names.length=1∨names.length=2):bR names:=by
 match names,h with
 |[a],_=>exact⟨a,.inl rfl⟩
 |[a,b],_=>exact⟨a,.inr ⟨b,rfl⟩⟩
 |[],h=>simp at h
 |_::_::_::_,h=>simp only[List.length_cons] at h;omega
theorem er(rows:List Row):∀l:List Str,(aK rows l).length≤l.length
 |[]=>Nat.le_refl _
 |s::r=>by
  have:=er rows r
  unfold aK
  cases inC (.str (ae s)) ((aB rows).map ag) with
  |true=>rw[cond_true];simp only[List.length_cons];omega
  |false=>rw[cond_false];simp only[List.length_cons];omega
theorem vA(P:Params)(p:Int×Int)(k:K1)(X:KX)(hp:au p)(h:∀(rs:List Row) (q:Int×Int),au q→RowsG [] rs→rs.length≤3→k (.v (.tup [aZ rs,.lst (rs.map Row.cv)])) [ak q]) :
  ap (zc P) (ll P) [.ref 0] [ak p] k X:=by
 walk_at "ab"
 walk_at "ab"
 refine⟨rfl,p,4,rfl,rfl,hp,by decide,by decide,fun d q hq d0 d1=>?_⟩
 walk_at "aQ"
 walk_at "aJ"
 ·intro vals M k X z
  obtain⟨p,rs,rfl,rfl,hp,hg,hz,z⟩:=z
  exact z rs p hp hg (by simp only[List.length_nil] at hz;omega)
 ·intro c cs vals M k X z
  obtain⟨p,rs,rfl,rfl,hp,hg,hz,z⟩:=z
  match rs,hg,hz,z with
  |[],hg,hz,z=>
   walk_at "ab"
   walk_at "aF"
   ·refine And.intro ?_ ?_
    walk_at "b7"
    ·intro c cs vals M k X z
     obtain⟨p,rc,th,rfl,rfl,hp,z⟩:=z
     walk_at "ab"
     walk_at "aj"
   ·refine⟨q2,_,_,rfl,rfl,hq2,fun names q3 hlen hall hq3=>?_⟩
    walk_at "ad"
    ·refine⟨q3,[],_,names,names,rfl,rfl,rfl,leB rfl,by have:=hg.len;exact Nat.le_trans this (leB rfl),hg.sh,hnsh,?_⟩
     walk_at "cy"
     have hsl:((aK [] names).map ag).length≤1000:=by
      have h5:=er [] names
      rw[List.length_map] at hnl ⊢;omega
     cases hd2:decide (d2=0) with
     |true=>
      refine ai hd2 ?_
      refine And.intro hsl ?_
      walk_at "cd"
      walk_at "aB"
      walk_at "ab"
      walk_at "ab"
      have fin:fromLp.spec cs [.ref 0,.v (aZ ([]++[(⟨al,names,((aK [] names).take 1)⟩:Row)])),.ref 1] [ak q4,.lst (([]++[(⟨al,names,((aK [] names).take 1)⟩:Row)]).map Row.cv)] k X:=
       ⟨q4,[]++[(⟨al,names,((aK [] names).take 1)⟩:Row)],rfl,rfl,hq4,RowsG.snoc (b:=[]) (rs:=[]) (r:=(⟨al,names,((aK [] names).take 1)⟩:Row)) hg ⟨hal,hn12,hall,oB⟩,by simp only[List.length_append,List.length_cons,List.length_nil] at hz ⊢;omega,z⟩
      have fin2:∀L:List CV,L=((aK [] names).take 1).map ag→fromLp.spec cs [.ref 0,.v ((⟨al,names,[]⟩:Row).node),.ref 1] [ak q4,.lst [.tup [aP al,.lst (names.map ag),.lst L]]] k X:=fun L e=>by
       subst e;exact fin
      exact fin2 _ (rP _)
     |false=>
      refine aj hd2 ?_
      walk_at "ab"
      walk_at "cd"
      walk_at "aB"
      walk_at "ab"
      walk_at "ab"
      have fin:fromLp.spec cs [.ref 0,.v (aZ ([]++[(⟨al,names,[]⟩:Row)])),.ref 1] [ak q4,.lst (([]++[(⟨al,names,[]⟩:Row)]).map Row.cv)] k X:=
       ⟨q4,[]++[(⟨al,names,[]⟩:Row)],rfl,rfl,hq4,RowsG.snoc (b:=[]) (rs:=[]) (r:=(⟨al,names,[]⟩:Row)) hg ⟨hal,hn12,hall,.inl rfl⟩,by simp only[List.length_append,List.length_cons,List.length_nil] at hz ⊢;omega,z⟩
      exact fin
  |[a],hg,hz,z=>
   walk_at "ab"
   walk_at "aF"
   ·refine And.intro ?_ ?_
    walk_at "b7"
    ·intro c cs vals M k X z
     obtain⟨p,rc,th,rfl,rfl,hp,z⟩:=z
     walk_at "ab"
     walk_at "aj"
   ·refine⟨q2,_,_,rfl,rfl,hq2,fun names q3 hlen hall hq3=>?_⟩
    walk_at "ad"
    ·refine⟨q3,[a],_,names,names,rfl,rfl,rfl,leB rfl,by have:=hg.len;exact Nat.le_trans this (leB rfl),hg.sh,hnsh,?_⟩
     walk_at "cy"
     have hsl:((aK [a] names).map ag).length≤1000:=by
      have h5:=er [a] names
      rw[List.length_map] at hnl ⊢;omega
     cases hd2:decide (d2=0) with
     |true=>
      refine ai hd2 ?_
      refine And.intro hsl ?_
      walk_at "cd"
      walk_at "aB"
      walk_at "aB"
      walk_at "ab"
      walk_at "ab"
      have fin:fromLp.spec cs [.ref 0,.v (aZ ([a]++[(⟨al,names,((aK [a] names).take 1)⟩:Row)])),.ref 1] [ak q4,.lst (([a]++[(⟨al,names,((aK [a] names).take 1)⟩:Row)]).map Row.cv)] k X:=
       ⟨q4,[a]++[(⟨al,names,((aK [a] names).take 1)⟩:Row)],rfl,rfl,hq4,RowsG.snoc (b:=[]) (rs:=[a]) (r:=(⟨al,names,((aK [a] names).take 1)⟩:Row)) hg ⟨hal,hn12,hall,oB⟩,by simp only[List.length_append,List.length_cons,List.length_nil] at hz ⊢;omega,z⟩
      have fin2:∀L:List CV,L=((aK [a] names).take 1).map ag→fromLp.spec cs [.ref 0,.v (.inst "Join" [("kind",.str "inner"),("left",a.node),("right",(⟨al,names,[]⟩:Row).node),("on",.none),("using",.lst L)]),.ref 1] [ak q4,.lst [a.cv,.tup [aP al,.lst (names.map ag),.lst L]]] k X:=fun L e=>by
       subst e;exact fin
      exact fin2 _ (rP _)
     |false=>
      refine aj hd2 ?_
      walk_at "ab"
      walk_at "cd"
      walk_at "aB"
      walk_at "aB"
      walk_at "ab"
      walk_at "ab"
      have fin:fromLp.spec cs [.ref 0,.v (aZ ([a]++[(⟨al,names,[]⟩:Row)])),.ref 1] [ak q4,.lst (([a]++[(⟨al,names,[]⟩:Row)]).map Row.cv)] k X:=
       ⟨q4,[a]++[(⟨al,names,[]⟩:Row)],rfl,rfl,hq4,RowsG.snoc (b:=[]) (rs:=[a]) (r:=(⟨al,names,[]⟩:Row)) hg ⟨hal,hn12,hall,.inl rfl⟩,by simp only[List.length_append,List.length_cons,List.length_nil] at hz ⊢;omega,z⟩
      exact fin
  |[a,b],hg,hz,z=>
   walk_at "ab"
   walk_at "aF"
   ·refine And.intro ?_ ?_
    walk_at "b7"
    ·intro c cs vals M k X z
     obtain⟨p,rc,th,rfl,rfl,hp,z⟩:=z
     walk_at "ab"
     walk_at "aj"
   ·refine⟨q2,_,_,rfl,rfl,hq2,fun names q3 hlen hall hq3=>?_⟩
    walk_at "ad"
    ·refine⟨q3,[a,b],_,names,names,rfl,rfl,rfl,leB rfl,by have:=hg.len;exact Nat.le_trans this (leB rfl),hg.sh,hnsh,?_⟩
     walk_at "cy"
     have hsl:((aK [a,b] names).map ag).length≤1000:=by
      have h5:=er [a,b] names
      rw[List.length_map] at hnl ⊢;omega
     cases hd2:decide (d2=0) with
     |true=>
      refine ai hd2 ?_
      refine And.intro hsl ?_
      walk_at "cd"
      walk_at "aB"
      walk_at "aB"
      walk_at "ab"
      walk_at "ab"
      have fin:fromLp.spec cs [.ref 0,.v (aZ ([a,b]++[(⟨al,names,((aK [a,b] names).take 1)⟩:Row)])),.ref 1] [ak q4,.lst (([a,b]++[(⟨al,names,((aK [a,b] names).take 1)⟩:Row)]).map Row.cv)] k X:=
       ⟨q4,[a,b]++[(⟨al,names,((aK [a,b] names).take 1)⟩:Row)],rfl,rfl,hq4,RowsG.snoc (b:=[]) (rs:=[a,b]) (r:=(⟨al,names,((aK [a,b] names).take 1)⟩:Row)) hg ⟨hal,hn12,hall,oB⟩,by simp only[List.length_append,List.length_cons,List.length_nil] at hz ⊢;omega,z⟩
      have fin2:∀L:List CV,L=((aK [a,b] names).take 1).map ag→fromLp.spec cs [.ref 0,.v (.inst "Join" [("kind",.str "inner"),("left",iK a.node b),("right",(⟨al,names,[]⟩:Row).node),("on",.none),("using",.lst L)]),.ref 1] [ak q4,.lst [a.cv,b.cv,.tup [aP al,.lst (names.map ag),.lst L]]] k X:=fun L e=>by
       subst e;exact fin
      exact fin2 _ (rP _)
     |false=>
      refine aj hd2 ?_
      walk_at "ab"
      walk_at "cd"
      walk_at "aB"
      walk_at "aB"
      walk_at "ab"
      walk_at "ab"
      have fin:fromLp.spec cs [.ref 0,.v (aZ ([a,b]++[(⟨al,names,[]⟩:Row)])),.ref 1] [ak q4,.lst (([a,b]++[(⟨al,names,[]⟩:Row)]).map Row.cv)] k X:=
       ⟨q4,[a,b]++[(⟨al,names,[]⟩:Row)],rfl,rfl,hq4,RowsG.snoc (b:=[]) (rs:=[a,b]) (r:=(⟨al,names,[]⟩:Row)) hg ⟨hal,hn12,hall,.inl rfl⟩,by simp only[List.length_append,List.length_cons,List.length_nil] at hz ⊢;omega,z⟩
      exact fin
  |_::_::_::_,hg,hz,z=>simp only[List.length_cons] at hz;omega
 ·refine⟨q,[],rfl,rfl,hq,trivial,by rw[List.length_map,List.length_range];simp only[List.length_nil];omega,fun rs' q' hq' hg' hl'=>?_⟩
  walk_at "ab"
  exact h rs' q' hq' hg' hl'
def CC:aE:=fun args kws M k X=>kws=[]∧∃p:Int×Int,args=[.ref 0]∧M=[ak p]∧au p∧∀(rs:List Row) (q:Int×Int),au q→RowsG [] rs→rs.length≤3→k (.v (.tup [aZ rs,.lst (rs.map Row.cv)])) [ak q]
theorem Ak{D:Wd}(h:Ok D):SpecOk D 121 1519 CC:=(ah (lq h) (xh h)).less fun args kws M k X z=>by
 obtain⟨rfl,p,rfl,rfl,hp,z⟩:=z
 exact ar rfl (vA _ p k X hp z)
structure cO(r:Row):Prop where
 nlen:r.names.length≤900
 ulen:r.us.length≤900
 alias:∀a,r.alias=some a→Sh a
 names:∀s∈r.names,Sh s
def here(tbl:Option Str)(col:Str)(r:Row):Bool:=match tbl with
 |none=>!inC (.str (ae col)) (r.us.map ag)
 |some t=>cE r.alias t
def aL(tbl:Option Str)(col:Str):List Row→Nat→List (Nat×Nat)
 |[],_=>[]
 |r::rs,i=>bif here tbl col r then (match bI (ae col) (r.names.map ae) 0 with
  |some j=>(i,j)::aL tbl col rs (i+1)
  |none=>aL tbl col rs (i+1)) else aL tbl col rs (i+1)
def jz(p:Nat×Nat):CV:=.tup [.int p.1,.int p.2]
theorem iY:∀(l:List Str),dP (l.map ag)=some l
 |[]=>rfl
 |a::l=>by
  show (match dP (l.map ag) with|some l=>some (a::l)|none=>none)=_
  rw[iY l]
theorem ip{x:Str}:∀{l:List Str} {i:Nat},inC (.str x) (l.map ag)=(bI x l i).isSome
 |[],_=>rfl
 |a::l,i=>by
  show (bif sEq a x then true else inC (.str x) (l.map ag))=_
  unfold bI
  cases sEq a x with
  |true=>rfl
  |false=>rw[cond_false,cond_false];exact ip
theorem fP{tbl:Option Str}{col:Str}:∀{rs:List Row} {i:Nat},(aL tbl col rs i).length≤rs.length
 |[],_=>Nat.le_refl _
 |r::rs,i=>by
  have ih:=fP (tbl:=tbl) (col:=col) (rs:=rs) (i:=i+1)
  unfold aL
  cases here tbl col r with
  |false=>rw[cond_false];simp only[List.length_cons];omega
  |true=>
   rw[cond_true]
   split
   ·simp only[List.length_cons];omega
   ·simp only[List.length_cons];omega
def zH:eQ:=⟨[],fun items _ M k _=>∃(fs:List CV) (todo:List Str),M=[.lst fs]∧items=todo.map ag∧(∀s∈todo,Sh s)∧k ((todo.map ae).map ag) M⟩
def foundLp:cP:=⟨["rows","table","column","found"],fun items vals M k _=>∃(rs:List Row) (tbl:Option Str) (col:Str) (i:Nat) (fs:List CV),vals=[.v (.lst (rs.map Row.cv)),.v (aP tbl),.v (.str col),.ref 0]∧M=[.lst fs] ∧
 rs.length≤900∧(∀r∈rs,cO r)∧(∀t,tbl=some t→Sh t)∧Sh col∧i≤rs.length∧items=(List.range' i (rs.length - i)).map (fun(j:Nat)=>CV.int ((0:Int)+j))∧fs.length+(rs.length - i)≤900 ∧
 k .next vals [.lst (fs++(aL tbl col (rs.drop i) i).map jz)]⟩
def CZ(P:Params):Tb:=aD (zc P) 1519 CC
theorem Dw{D:Wd}(h:Ok D):TbOk D 121 (CZ D.w.params):=(xh h).add (Ak h) (lq h).keep
def zb(P:Params):Tb:=lE (pu (CZ P) 1071 zH) 1069 foundLp
theorem xg{D:Wd}(h:Ok D):TbOk D 121 (zb D.w.params):=cV (eE (Dw h))
theorem sw(P:Params)(rs:List Row)(tbl:Option Str)(col:Str)(k:K1)(X:KX)(hl:rs.length≤900)(hr:∀r∈rs,cO r)(ht:∀t,tbl=some t→Sh t)(hc:Sh col)
  (h:k (.v (.lst ((aL tbl col rs 0).map jz))) []):ap (zb P) (j6 P) [.v (.lst (rs.map Row.cv)),.v (aP tbl),.v (.str col)] [] k X:=by
 have hl2:(rs.map Row.cv).length≤1000:=by rw[List.length_map];omega
 walk_at "ab"
 walk_at "bM"
 refine And.intro ⟨by omega,by show ((rs.map Row.cv).length:Int)≤1000;omega⟩ ?_
 refine And.intro ⟨by omega,by show ((rs.map Row.cv).length:Int)≤1000;omega,by show (0:Int)≤((rs.map Row.cv).length:Int);omega⟩ ?_
 walk_at "aJ"
 ·intro vals M k X z
  obtain⟨rs,tbl,col,i,fs,rfl,rfl,hl,hr,ht,hc,hi,e,hz,z⟩:=z
  have e2:rs.length - i=0:=by
   walk_at "aR"
   simpa using this.symm
  have e3:rs.drop i=[]:=List.drop_eq_nil_iff.mpr (by omega)
  rw[e3] at z
  have z:k .next [.v (.lst (rs.map Row.cv)),.v (aP tbl),.v (.str col),.ref 0] [.lst (fs++[])]:=z
  rw[List.append_nil] at z
  exact z
 ·intro c cs vals M k X z
  obtain⟨rs,tbl,col,i,fs,rfl,rfl,hl,hr,ht,hc,hi,e,hz,z⟩:=z
  have hlt:i < rs.length:=by
   walk_at "aR"
   simp at this;omega
  walk_at "aD"
  walk_at "bY"
  rw[hd] at z
  walk_at "bz"
  have hnl:(r.names.map ag).length≤1000:=by rw[List.length_map];have:=sh.nlen;omega
  have hc1:col.length≤1000∧iD col=true:=⟨Nat.le_trans hc.1 (by decide),hc.2⟩
  have cm:∀l:List Str,∀c∈l.map ag,Cm 8 c (.str (ae col)):=fun l c hc=>by
   obtain⟨y,_,rfl⟩:=List.mem_map.mp hc
   show kOk 3 3=true;rfl
  have hu:(r.us.map ag).length≤1000∧∀c∈r.us.map ag,Cm 8 c (.str (ae col)):=⟨by rw[List.length_map];have:=sh.ulen;omega,cm _⟩
  have hs:((r.names.map ae).map ag).length≤1000∧∀c∈(r.names.map ae).map ag,Cm 8 c (.str (ae col)):=⟨by rw[List.length_map,List.length_map];have:=sh.nlen;omega,cm _⟩
  have hf:fs.length≤999:=by omega
  have step:∀{l:List (Nat×Nat)},l.length≤1→aL tbl col (r::rs.drop (i+1)) i=l++aL tbl col (rs.drop (i+1)) (i+1)→foundLp.spec cs [.v (.lst (rs.map Row.cv)),.v (aP tbl),.v (.str col),.ref 0] [.lst (fs++l.map jz)] k X:=fun {l} h1 h2=>by
   rw[h2,List.map_append,←List.append_assoc] at z
   exact⟨rs,tbl,col,i+1,fs++l.map jz,rfl,rfl,hl,hr,ht,hc,hlt,e2,by rw[List.length_append,List.length_map];omega,z⟩
  refine af hn ?_
  walk_at "aY"
  refine And.intro hnl ?_
  walk_at "aJ"
  ·intro vals M k X z
   obtain⟨fs,todo,rfl,e,h1,z⟩:=z
   cases todo with
   |nil=>exact z
   |cons s r=>cases e
  ·intro c cs vals M k X z
   obtain⟨fs,todo,rfl,e,h1,z⟩:=z
   cases todo with
   |nil=>cases e
   |cons s r=>
    cases e
    have hs:=h1 s (.head _)
    refine And.intro ⟨Nat.le_trans hs.1 (by decide),hs.2⟩ ?_
    exact⟨fs,r,rfl,rfl,fun x hx=>h1 x (.tail _ hx),z⟩
  ·refine⟨fs,r.names,rfl,rfl,sh.names,?_⟩
   have hh:∀b,here tbl col r=b→aL tbl col (r::rs.drop (i+1)) i=bif b then (match bI (ae col) (r.names.map ae) 0 with
     |some j=>(i,j)::aL tbl col (rs.drop (i+1)) (i+1)
     |none=>aL tbl col (rs.drop (i+1)) (i+1)) else aL tbl col (rs.drop (i+1)) (i+1):=fun b hb=>by subst hb;rfl
   cases tbl with
   |none=>
    refine And.intro hc1 ?_
    refine And.intro hu ?_
    cases hb:(!inC (.str (ae col)) (r.us.map ag)) with
    |false=>
     have hh:=hh false hb
     first|refine aj hb ?_|refine aj rfl ?_|skip
     walk_at "bK"
    |true=>
     walk_at "cv"
     cases hx:bI (ae col) (r.names.map ae) 0 with
     |none=>
      rw[hx] at hi hh
      first|refine aj hi ?_|refine aj rfl ?_|skip
      walk_at "bK"
     |some j=>
      walk_at "cM"
      walk_at "ab"
      refine And.intro hf ?_
      exact step (l:=[(i,j)]) (leB rfl) hh
   |some t=>
    refine⟨rfl,rfl,r.alias,t,rfl,sh.alias,ht t rfl,?_⟩
    cases hb:cE r.alias t with
    |false=>
     have hh:=hh false hb
     first|refine aj hb ?_|refine aj rfl ?_|skip
     walk_at "bK"
    |true=>
     walk_at "cv"
     cases hx:bI (ae col) (r.names.map ae) 0 with
     |none=>
      rw[hx] at hi hh
      first|refine aj hi ?_|refine aj rfl ?_|skip
      walk_at "bK"
     |some j=>
      walk_at "cM"
      walk_at "ab"
      refine And.intro hf ?_
      exact step (l:=[(i,j)]) (leB rfl) hh
 ·refine⟨rs,tbl,col,0,[],rfl,rfl,hl,hr,ht,hc,Nat.zero_le _,?_,by simp only[List.length_nil];omega,?_⟩
  ·show (List.range (((rs.map Row.cv).length:Int) - 0).toNat).map (fun(j:Nat)=>CV.int ((0:Int)+j))=_
   rw[List.length_map,show ((rs.length:Int) - 0).toNat=rs.length - 0 by omega,List.range_eq_range']
  ·exact h
def x8:aE:=fun args kws M k X=>kws=[]∧M=[]∧∃(rs:List Row) (tbl:Option Str) (col:Str),args=[.v (.lst (rs.map Row.cv)),.v (aP tbl),.v (.str col)]∧rs.length≤900∧(∀r∈rs,cO r)∧(∀t,tbl=some t→Sh t)∧Sh col∧k (.v (.lst ((aL tbl col rs 0).map jz))) []
theorem x7{D:Wd}(h:Ok D):SpecOk D 122 1536 x8:=(ah (j8 h) (xg h)).less fun args kws M k X z=>by
 obtain⟨rfl,rfl,rs,tbl,col,rfl,h1,h2,h3,h4,z⟩:=z
 exact ar rfl (sw _ rs tbl col k X h1 h2 h3 h4 z)
def CY(P:Params):Tb:=aD (zb P) 1536 x8
theorem Dv{D:Wd}(h:Ok D):TbOk D 122 (CY D.w.params):=(xg h).add (x7 h) (j8 h).keep
inductive Tag where
 |col (i j:Nat)
 |valI (i:Int)
 |valS (s:Str)
 |count
def Tag.c:Tag→CV
 |.col i j=>.tup [.str "column",.int i,.int j]
 |.valI i=>.tup [.str "value",.int i]
 |.valS s=>.tup [.str "value",.str s]
 |.count=>.tup [.str "count"]
def noC(m:Str):CV:=.tup [.str "refused",.str m]
abbrev AlT:=Str×Tag
def alT(a:AlT):CV:=.tup [.str a.1,a.2.c]
def dY(tbl:Option Str)(col:Str):List AlT→List Tag
 |[]=>[]
 |a::r=>bif tbl.isNone&&sEq (ae a.1) (ae col) then a.2::dY tbl col r else dY tbl col r
def ac(rows:List Row)(als:List AlT)(tbl:Option Str)(col:Str):Res Tag:=
 match aL tbl col rows 0 with
 |[]=>(match dY tbl col als with
  |t::_=>.ok t
  |[]=>.no ("no such column: " ++ nP tbl col))
 |[p]=>.ok (.col p.1 p.2)
 |_=>.no ("ambiguous column name: " ++ nP tbl col)
def zM:Res Tag→CV
 |.no m=>noC m
 |.ok t=>t.c
def z9:eQ:=⟨["table","column"],fun items vals M k _=>∃(b:Bool) (tbl:Option Str) (col:Str) (todo:List AlT),vals=[.v (aP tbl),.v (.str col)]∧M=(bif b then [.lst []] else [])∧items=todo.map alT∧(∀a∈todo,Sh a.1)∧Sh col∧k ((dY tbl col todo).map Tag.c) M⟩
def uP(P:Params):Tb:=pu (CY P) 1083 z9
theorem xf{D:Wd}(h:Ok D):TbOk D 122 (uP D.w.params):=eE (Dv h)
theorem nh{tbl:Option Str}{col:Str}:∀l:List AlT,(dY tbl col l).length≤l.length
 |[]=>Nat.le_refl _
 |a::r=>by
  have:=nh (tbl:=tbl) (col:=col) r
  unfold dY
  cases (tbl.isNone&&sEq (ae a.1) (ae col)) with
  |true=>rw[cond_true];simp only[List.length_cons];omega
  |false=>rw[cond_false];simp only[List.length_cons];omega
theorem sd(P:Params)(rs:List Row)(als:List AlT)(tbl:Option Str)(col:Str)(k:K1)(X:KX)(hl:rs.length≤900)(hr:∀r∈rs,cO r)(ht:∀t,tbl=some t→Sh t)(hc:Sh col)(hal:als.length≤900)(hash:∀a∈als,Sh a.1)
  (h:k (.v (zM (ac rs als tbl col))) []):ap (uP P) (fZ P) [.v (.lst (rs.map Row.cv)),.v (.lst (als.map alT)),.v (aP tbl),.v (.str col)] [] k X:=by
 walk_at "cj"
 have hal2:(als.map alT).length≤1000:=by rw[List.length_map];omega
 have htl:((dY tbl col als).map Tag.c).length≤1000:=by rw[List.length_map];have:=nh (tbl:=tbl) (col:=col) als;omega
 walk_at "bd"
 cases tbl with
 |none=>
  refine And.intro hfl ?_
  rcases fs with _|⟨p,_|⟨q,r⟩⟩
  ·refine And.intro hfl ?_
   walk_at "am"
   ·refine⟨false,none,col,als,rfl,rfl,rfl,hash,hc,?_⟩
    walk_at "ab"
    refine And.intro htl ?_
    generalize dY _ col als=ts at h htl ⊢
    cases ts with
    |nil=>
     walk_at "ck"
     walk_at "ab"
     exact h
    |cons t0 ts=>
     refine And.intro htl ?_
     exact h
  ·refine And.intro hfl ?_
   walk_at "ab"
   refine And.intro hfl ?_
   walk_at "ab"
   exact h
  ·refine ai (amb p q r) ?_
   walk_at "ck"
   walk_at "ab"
   exact h
 |some t=>
  walk_at "bg"
  ·refine And.intro hfl ?_
   walk_at "am"
   ·refine⟨false,some t,col,als,rfl,rfl,rfl,hash,hc,?_⟩
    walk_at "ab"
    refine And.intro htl ?_
    generalize dY _ col als=ts at h htl ⊢
    cases ts with
    |nil=>
     walk_at "b0"
     walk_at "ab"
     exact h
    |cons t0 ts=>
     refine And.intro htl ?_
     exact h
  ·refine And.intro hfl ?_
   walk_at "ab"
   refine And.intro hfl ?_
   walk_at "ab"
   exact h
  ·refine ai (amb p q r) ?_
   walk_at "b0"
   walk_at "ab"
   exact h
theorem qj(P:Params)(rs:List Row)(tbl:Option Str)(col:Str)(k:K1)(X:KX)(hl:rs.length≤900)(hr:∀r∈rs,cO r)(ht:∀t,tbl=some t→Sh t)(hc:Sh col)
  (h:k (.v (zM (ac rs [] tbl col))) [.lst []]):ap (uP P) (fZ P) [.v (.lst (rs.map Row.cv)),.ref 0,.v (aP tbl),.v (.str col)] [.lst []] k X:=by
 walk_at "cj"
 have hal2:([]:List CV).length≤1000:=by decide
 have hash:∀a∈([]:List AlT),Sh a.1:=fun a h=>(nomatch h)
 have htl:((dY tbl col []).map Tag.c).length≤1000:=by rw[List.length_map];have:=nh (tbl:=tbl) (col:=col) [];omega
 walk_at "bd"
 cases tbl with
 |none=>
  refine And.intro hfl ?_
  rcases fs with _|⟨p,_|⟨q,r⟩⟩
  ·refine And.intro hfl ?_
   walk_at "ai"
   ·refine⟨true,none,col,[],rfl,rfl,rfl,hash,hc,?_⟩
    walk_at "ab"
    refine And.intro htl ?_
    generalize dY _ col []=ts at h htl ⊢
    cases ts with
    |nil=>
     walk_at "ck"
     walk_at "ab"
     exact h
    |cons t0 ts=>
     refine And.intro htl ?_
     exact h
  ·refine And.intro hfl ?_
   walk_at "ab"
   refine And.intro hfl ?_
   walk_at "ab"
   exact h
  ·refine ai (amb p q r) ?_
   walk_at "ck"
   walk_at "ab"
   exact h
 |some t=>
  walk_at "bg"
  ·refine And.intro hfl ?_
   walk_at "ai"
   ·refine⟨true,some t,col,[],rfl,rfl,rfl,hash,hc,?_⟩
    walk_at "ab"
    refine And.intro htl ?_
    generalize dY _ col []=ts at h htl ⊢
    cases ts with
    |nil=>
     walk_at "b0"
     walk_at "ab"
     exact h
    |cons t0 ts=>
     refine And.intro htl ?_
     exact h
  ·refine And.intro hfl ?_
   walk_at "ab"
   refine And.intro hfl ?_
   walk_at "ab"
   exact h
  ·refine ai (amb p q r) ?_
   walk_at "b0"
   walk_at "ab"
   exact h
def xC:aE:=fun args kws M k X=>kws=[]∧∃(rs:List Row) (als:List AlT) (tbl:Option Str) (col:Str),rs.length≤900∧(∀r∈rs,cO r)∧(∀t,tbl=some t→Sh t)∧Sh col∧als.length≤900∧(∀a∈als,Sh a.1) ∧
 ((args=[.v (.lst (rs.map Row.cv)),.v (.lst (als.map alT)),.v (aP tbl),.v (.str col)]∧M=[])∨(als=[]∧args=[.v (.lst (rs.map Row.cv)),.ref 0,.v (aP tbl),.v (.str col)]∧M=[.lst []]))∧k (.v (zM (ac rs als tbl col))) M
theorem qi{D:Wd}(h:Ok D):SpecOk D 123 1541 xC:=(ah (gc h) (xf h)).less fun args kws M k X z=>by
 obtain⟨rfl,rs,als,tbl,col,h1,h2,h3,h4,h5,h6,hs,z⟩:=z
 rcases hs with ⟨rfl,rfl⟩|⟨rfl,rfl,rfl⟩
 ·exact ar rfl (sd _ rs als tbl col k X h1 h2 h3 h4 h5 h6 z)
 ·exact ar rfl (qj _ rs tbl col k X h1 h2 h3 h4 z)
def CX(P:Params):Tb:=aD (uP P) 1541 xC
theorem Du{D:Wd}(h:Ok D):TbOk D 123 (CX D.w.params):=(xf h).add (qi h) (gc h).keep
abbrev br:=Str×Tag
def bf(o:br):CV:=.tup [.str o.1,o.2.c]
def b0(tbl:Option Str)(us:List Str)(i:Nat):List Str→Nat→List br
 |[],_=>[]
 |s::r,j=>bif tbl.isSome || !inC (.str (ae s)) (us.map ag) then (s,.col i j)::b0 tbl us i r (j+1) else b0 tbl us i r (j+1)
theorem ew{tbl:Option Str}{us:List Str}{i j:Nat}{s:Str}{r:List Str}:b0 tbl us i (s::r) j=bif tbl.isSome || !inC (.str (ae s)) (us.map ag) then (s,.col i j)::b0 tbl us i r (j+1) else b0 tbl us i r (j+1):=rfl
theorem mv{tbl:Option Str}{us:List Str}{i:Nat}:∀{l:List Str} {j:Nat},(b0 tbl us i l j).length≤l.length
 |[],_=>Nat.le_refl _
 |s::r,j=>by
  have:=mv (tbl:=tbl) (us:=us) (i:=i) (l:=r) (j:=j+1)
  rw[ew]
  cases (tbl.isSome || !inC (.str (ae s)) (us.map ag)) with
  |true=>rw[cond_true];simp only[List.length_cons];omega
  |false=>rw[cond_false];simp only[List.length_cons];omega
def eT(tbl:Option Str)(r:Row):Bool:=match tbl with
 |none=>true
 |some t=>cE r.alias t
def bi(tbl:Option Str):List Row→Nat→List br
 |[],_=>[]
 |r::rs,i=>bif eT tbl r then b0 tbl r.us i r.names 0++bi tbl rs (i+1) else bi tbl rs (i+1)
theorem gH{tbl:Option Str}{r:Row}{rs:List Row}{i:Nat}:bi tbl (r::rs) i=bif eT tbl r then b0 tbl r.us i r.names 0++bi tbl rs (i+1) else bi tbl rs (i+1):=rfl
def dL(rows:List Row)(tbl:Option Str):Res (List br):=match rows with
 |[]=>.no "no tables specified"
 |_=>bif rows.any (eT tbl) then .ok (bi tbl rows 0) else .no ("no such table: " ++ tbl.getD "")
def l7:Res (List br)→CV
 |.no m=>noC m
 |.ok l=>.lst (l.map bf)
def lsLp2:cP:=⟨["rows","table","found","is_met","at","names","using"],fun items vals M k _=>∃(rc:CV) (tbl:Option Str) (met:Bool) (i:Nat) (names us:List Str) (j:Nat) (fs:List CV),
 vals=[.v rc,.v (aP tbl),.ref 0,.v (.bool met),.v (.int i),.v (.lst (names.map ag)),.v (.lst (us.map ag))]∧M=[.lst fs,.lst []]∧names.length≤900∧us.length≤900∧(∀s∈names,Sh s)∧j≤names.length∧items=(List.range' j (names.length - j)).map (fun(j:Nat)=>CV.int ((0:Int)+j)) ∧
 fs.length+(b0 tbl us i (names.drop j) j).length≤900∧k .next vals [.lst (fs++(b0 tbl us i (names.drop j) j).map bf),.lst []]⟩
def IY:cP:=⟨["rows","table","found","is_met"],fun items vals M k _=>∃(rs:List Row) (tbl:Option Str) (met:Bool) (i:Nat) (fs:List CV),
 vals=[.v (.lst (rs.map Row.cv)),.v (aP tbl),.ref 0,.v (.bool met)]∧M=[.lst fs,.lst []]∧rs.length≤900∧(∀r∈rs,cO r)∧(∀t,tbl=some t→Sh t)∧i≤rs.length∧items=(List.range' i (rs.length - i)).map (fun(j:Nat)=>CV.int ((0:Int)+j)) ∧
 fs.length+(bi tbl (rs.drop i) i).length≤900∧k .next [.v (.lst (rs.map Row.cv)),.v (aP tbl),.ref 0,.v (.bool (met||(rs.drop i).any (eT tbl)))] [.lst (fs++(bi tbl (rs.drop i) i).map bf),.lst []]⟩
def za(P:Params):Tb:=lE (lE (CX P) 1092 IY) 1096 lsLp2
theorem xe{D:Wd}(h:Ok D):TbOk D 123 (za D.w.params):=cV (cV (Du h))
theorem oK(P:Params)(rs:List Row)(tbl:Option Str)(k:K1)(X:KX)(hl:rs.length≤900)(hr:∀r∈rs,cO r)(ht:∀t,tbl=some t→Sh t)(hz:(bi tbl rs 0).length≤900)(h:k (.v (l7 (dL rs tbl))) []) :
  ap (za P) (gT P) [.v (.lst (rs.map Row.cv)),.v (aP tbl)] [] k X:=by
 have hl2:(rs.map Row.cv).length≤1000:=by rw[List.length_map];omega
 have hlF:((bi tbl rs 0).map bf).length≤1000:=by rw[List.length_map];omega
 have hL:("no such table: " : Str).length=15:=by kernel_rfl
 walk_at "ab"
 walk_at "ab"
 walk_at "ab"
 walk_at "bM"
 have hx1:(0:Int)≤((rs.map Row.cv).length:Int)∧((rs.map Row.cv).length:Int)≤1000:=⟨by omega,by omega⟩
 have hx2:(0:Int)≤0∧((rs.map Row.cv).length:Int)≤1000∧(0:Int)≤((rs.map Row.cv).length:Int):=⟨by omega,by omega,by omega⟩
 have hit:(List.range (((rs.map Row.cv).length:Int) - 0).toNat).map (fun(j:Nat)=>CV.int ((0:Int)+j))=(List.range' 0 (rs.length - 0)).map (fun(j:Nat)=>CV.int ((0:Int)+j)):=by
  rw[List.length_map,show ((rs.length:Int) - 0).toNat=rs.length - 0 by omega,List.range_eq_range']
 cases hE:(rs.map Row.cv).isEmpty with
 |true=>
  cases rs with
  |cons r rs=>cases hE
  |nil=>
   first|refine ai hE ?_|refine ai rfl ?_|skip
   walk_at "ab"
   exact h
 |false=>
  have hne:rs≠[]:=fun e=>by subst e;cases hE
  have h:k (.v (l7 (bif rs.any (eT tbl) then .ok (bi tbl rs 0) else .no ("no such table: " ++ tbl.getD "")))) []:=by
   cases rs with
   |nil=>exact absurd rfl hne
   |cons r rs=>exact h
  first|refine aj hE ?_|refine aj rfl ?_|skip
  walk_at "bM"
  walk_at "a3"
  ·refine And.intro ?_ ?_
   ·intro vals M k X z
    obtain⟨rs,tbl,met,i,fs,rfl,rfl,hl,hr,ht,hi,e,hz,z⟩:=z
    have e2:rs.length - i=0:=by
     walk_at "aR"
     simpa using this.symm
    have e3:rs.drop i=[]:=List.drop_eq_nil_iff.mpr (by omega)
    rw[e3] at z
    have z:k .next [.v (.lst (rs.map Row.cv)),.v (aP tbl),.ref 0,.v (.bool (met||false))] [.lst (fs++[]),.lst []]:=z
    rw[List.append_nil,Bool.or_false] at z
    exact z
   ·intro c cs vals M k X z
    obtain⟨rs,tbl,met,i,fs,rfl,rfl,hl,hr,ht,hi,e,hz,z⟩:=z
    have hlt:i < rs.length:=by
     walk_at "aR"
     simp at this;omega
    walk_at "aD"
    walk_at "bY"
    rw[hd,gH] at z hz
    have z:k .next [.v (.lst (rs.map Row.cv)),.v (aP tbl),.ref 0,.v (.bool (met||(eT tbl r||(rs.drop (i+1)).any (eT tbl))))] [.lst (fs++(bif eT tbl r then b0 tbl r.us i r.names 0++bi tbl (rs.drop (i+1)) (i+1) else bi tbl (rs.drop (i+1)) (i+1)).map bf),.lst []]:=z
    walk_at "bz"
    have hlen2:(r.names.map ag).length≤1000:=by rw[List.length_map];have:=sh.nlen;omega
    have hx1:(0:Int)≤((r.names.map ag).length:Int)∧((r.names.map ag).length:Int)≤1000:=⟨by omega,by omega⟩
    have hx2:(0:Int)≤0∧((r.names.map ag).length:Int)≤1000∧(0:Int)≤((r.names.map ag).length:Int):=⟨by omega,by omega,by omega⟩
    have hit:(List.range (((r.names.map ag).length:Int) - 0).toNat).map (fun(j:Nat)=>CV.int ((0:Int)+j))=(List.range' 0 (r.names.length - 0)).map (fun(j:Nat)=>CV.int ((0:Int)+j)):=by
     rw[List.length_map,show ((r.names.length:Int) - 0).toNat=r.names.length - 0 by omega,List.range_eq_range']
    refine af hn ?_
    walk_at "aY"
    cases tbl with
    |none=>
     have hw:eT none r=true:=rfl
     walk_at "dp"
     walk_at "a3"
     ·refine And.intro ?_ ?_
      ·intro vals M k X z
       walk_at "b5"
       have e2:names.length - j=0:=by
        walk_at "aR"
        simpa using this.symm
       walk_at "cI"
      ·intro c cs vals M k X z
       walk_at "b5"
       walk_at "af"
       cases tbl with
       |some t=>
        walk_at "aK"
        refine af hn ?_
        walk_at "aY"
        walk_at "ab"
        walk_at "ab"
        walk_at "ci"
       |none=>
        refine af hn ?_
        walk_at "aY"
        refine And.intro ⟨Nat.le_trans hsh.1 (by decide),hsh.2⟩ ?_
        refine And.intro hu ?_
        cases hb:(!inC (.str (ae nm)) (us.map ag)) with
        |true=>
         have h2:(Option.isSome (none:Option Str) || !inC (.str (ae nm)) (us.map ag))=true:=hb
         walk_at "aX"
         first|refine ai hb ?_|refine ai rfl ?_|skip
         refine af hn ?_
         walk_at "aY"
         walk_at "ab"
         walk_at "ab"
         walk_at "ci"
        |false=>
         walk_at "cL"
         walk_at "bh"
     ·refine⟨.lst (rs.map Row.cv),none,true,i,r.names,r.us,0,fs,rfl,rfl,sh.nlen,sh.ulen,sh.names,Nat.zero_le _,hit,by rw[List.drop_zero];simp only[List.length_append] at hz;omega,?_⟩
      exact⟨rs,none,true,i+1,fs++(b0 none r.us i r.names 0).map bf,rfl,rfl,hl,hr,ht,hlt,e2,by simp only[List.length_append,List.length_map] at hz ⊢;omega,by
       rw[List.map_append,←List.append_assoc] at z;rw[Bool.true_or];exact z⟩
    |some t=>
     refine⟨rfl,rfl,r.alias,t,rfl,sh.alias,ht t rfl,?_⟩
     cases hb:cE r.alias t with
     |true=>
      have hw:eT (some t) r=true:=hb
      walk_at "dp"
      walk_at "a3"
      ·refine And.intro ?_ ?_
       ·intro vals M k X z
        walk_at "b5"
        have e2:names.length - j=0:=by
         walk_at "aR"
         simpa using this.symm
        walk_at "cI"
       ·intro c cs vals M k X z
        walk_at "b5"
        walk_at "af"
        cases tbl with
        |some t=>
         walk_at "aK"
         refine af hn ?_
         walk_at "aY"
         walk_at "ab"
         walk_at "ab"
         walk_at "ci"
        |none=>
         refine af hn ?_
         walk_at "aY"
         refine And.intro ⟨Nat.le_trans hsh.1 (by decide),hsh.2⟩ ?_
         refine And.intro hu ?_
         cases hb:(!inC (.str (ae nm)) (us.map ag)) with
         |true=>
          have h2:(Option.isSome (none:Option Str) || !inC (.str (ae nm)) (us.map ag))=true:=hb
          walk_at "aX"
          first|refine ai hb ?_|refine ai rfl ?_|skip
          refine af hn ?_
          walk_at "aY"
          walk_at "ab"
          walk_at "ab"
          walk_at "ci"
         |false=>
          walk_at "cL"
          walk_at "bh"
      ·refine⟨.lst (rs.map Row.cv),(some t),true,i,r.names,r.us,0,fs,rfl,rfl,sh.nlen,sh.ulen,sh.names,Nat.zero_le _,hit,by rw[List.drop_zero];simp only[List.length_append] at hz;omega,?_⟩
       exact⟨rs,(some t),true,i+1,fs++(b0 (some t) r.us i r.names 0).map bf,rfl,rfl,hl,hr,ht,hlt,e2,by simp only[List.length_append,List.length_map] at hz ⊢;omega,by
        rw[List.map_append,←List.append_assoc] at z;rw[Bool.true_or];exact z⟩
     |false=>
      have hw:eT (some t) r=false:=hb
      rw[hw,Bool.false_or] at z
      rw[hw] at hz
      simp only[cond_false] at z hz
      exact⟨rs,some t,met,i+1,fs,rfl,rfl,hl,hr,ht,hlt,e2,hz,z⟩
  ·refine⟨rs,tbl,false,0,[],rfl,rfl,hl,hr,ht,Nat.zero_le _,hit,by rw[List.drop_zero];simpa using hz,?_⟩
   cases hb:(false||(rs.drop 0).any (eT tbl)) with
   |true=>
    have hb2:rs.any (eT tbl)=true:=hb
    rw[hb2] at h
    exact h
   |false=>
    have hb2:rs.any (eT tbl)=false:=hb
    rw[hb2] at h
    cases tbl with
    |none=>
     cases rs with
     |nil=>exact absurd rfl hne
     |cons r rs=>cases hb2
    |some t=>
     have ht3:=(ht t rfl).1
     walk_at "ck"
     walk_at "ab"
     exact h
def pM:aE:=fun args kws M k X=>kws=[]∧M=[]∧∃(rs:List Row) (tbl:Option Str),args=[.v (.lst (rs.map Row.cv)),.v (aP tbl)]∧rs.length≤900∧(∀r∈rs,cO r)∧(∀t,tbl=some t→Sh t)∧(bi tbl rs 0).length≤900∧k (.v (l7 (dL rs tbl))) []
theorem rN{D:Wd}(h:Ok D):SpecOk D 124 1555 pM:=(ah (hG h) (xe h)).less fun args kws M k X z=>by
 obtain⟨rfl,rfl,rs,tbl,rfl,h1,h2,h3,h4,z⟩:=z
 exact ar rfl (oK _ rs tbl k X h1 h2 h3 h4 z)
def y9(P:Params):Tb:=aD (za P) 1555 pM
theorem xd{D:Wd}(h:Ok D):TbOk D 124 (y9 D.w.params):=(xe h).add (rN h) (hG h).keep
def fL(rows:List Row):Tag→Str
 |.col i j=>((rows[i]?).bind (fun r=>r.names[j]?)).getD ""
 |_=> ""
def aX(rows:List Row):ColE→Res (List br)
 |.star t=>dL rows t
 |.ex (.lit i) al=>.ok [(al.getD (bv i),.valI i)]
 |.ex (.litS s) al=>.ok [(al.getD "",.valS s)]
 |.ex .cnt al=>.ok [(al.getD "count(*)",.count)]
 |.ex (.nm t c) al=>(match ac rows [] t c with
  |.no m=>.no m
  |.ok tag=>.ok [(al.getD (fL rows tag),tag)])
def bO(rows:List Row):ColE→Option Str
 |.star _=>none
 |.ex e al=>(match aX rows (.ex e al) with
  |.no _=>none
  |.ok _=>al)
def calL:List (Option Str):=[none,none,some "a",some "K"]
def starL:List Str:=["x","Y","w"]
def ColCh:ColE→Prop
 |.star t=>t=none∨∃s∈starL,t=some s
 |.ex e al=>al∈calL∧(e=.lit 5∨e=.cnt∨∃t c,e=.nm t c∧t∈tblL∧CaseOf colL c)
theorem CaseOf.sh2{c:Str}(h:CaseOf colL c):Sh c:=by
 obtain⟨s,hs,e⟩:=h
 walk_at "c3"
 rcases hs with rfl|rfl|rfl|rfl<;>rcases e with rfl|rfl<;>exact⟨leB (by kernel_rfl),by kernel_rfl⟩
theorem fE{t:Option Str}(h:t∈tblL):∀x,t=some x→Sh x:=by
 intro x e
 simp only[tblL,List.mem_cons,List.not_mem_nil,or_false] at h
 rcases h with rfl|rfl|rfl|rfl|rfl|rfl<;>cases e<;>exact⟨leB (by kernel_rfl),by kernel_rfl⟩
theorem pN:∀s∈starL,Sh s:=by
 intro s hs
 simp only[starL,List.mem_cons,List.not_mem_nil,or_false] at hs
 rcases hs with rfl|rfl|rfl<;>exact⟨leB (by kernel_rfl),by kernel_rfl⟩
theorem kX{x:Str}:∀{l:List Str} {i j:Nat},bI x l i=some j→i≤j∧∃c,l[j - i]?=some c
 |[],_,_,h=>by cases h
 |c::r,i,j,h=>by
  unfold bI at h
  cases q:sEq c x with
  |true=>rw[q,cond_true] at h;cases h;exact⟨Nat.le_refl _,c,by simp⟩
  |false=>
   rw[q,cond_false] at h
   obtain⟨h1,c',h2⟩:=kX h
   exact⟨by omega,c',by rw[show j - i=(j - (i+1))+1 by omega];simpa using h2⟩
theorem kU{tbl:Option Str}{col:Str}:∀{rs:List Row} {i:Nat} {p:Nat×Nat},p∈aL tbl col rs i→i≤p.1∧∃r,rs[p.1 - i]?=some r∧∃s,r.names[p.2]?=some s
 |r::rs,i,p,h=>by
  have go:p∈aL tbl col rs (i+1)→i≤p.1∧∃r',(r::rs)[p.1 - i]?=some r'∧∃s,r'.names[p.2]?=some s:=fun h=>by
   obtain⟨h1,r',h2,h3⟩:=kU h
   exact⟨by omega,r',by rw[show p.1 - i=(p.1 - (i+1))+1 by omega];simpa using h2,h3⟩
  unfold aL at h
  cases hb:here tbl col r with
  |false=>rw[hb,cond_false] at h;exact go h
  |true=>
   rw[hb,cond_true] at h
   cases hx:bI (ae col) (r.names.map ae) 0 with
   |none=>rw[hx] at h;exact go h
   |some j=>
    rw[hx] at h
    cases h with
    |head=>
     obtain⟨_,c,h2⟩:=kX hx
     rw[Nat.sub_zero,List.getElem?_map,Option.map_eq_some_iff] at h2
     obtain⟨s,h2,_⟩:=h2
     exact⟨Nat.le_refl _,r,by simp,s,h2⟩
    |tail _ h=>exact go h
theorem il{rows:List Row}{t:Option Str}{c:Str}{tag:Tag}(h:ac rows [] t c=.ok tag):∃i j r s,tag=.col i j∧rows[i]?=some r∧r.names[j]?=some s:=by
 unfold ac at h
 split at h
 ·have h:Res.no ("no such column: " ++ nP t c)=Res.ok tag:=h
  cases h
 ·rename_i p e
  cases h
  obtain⟨_,r,h2,s,h3⟩:=kU (i:=0) (p:=p) (by rw[e];exact .head _)
  exact⟨p.1,p.2,r,s,rfl,by simpa using h2,h3⟩
 ·cases h
theorem qT(P:Params)(p:Int×Int)(rs:List Row)(k:K1)(X:KX)(hp:au p)(hl:rs.length≤3)(hr:∀r∈rs,cO r)(hz:∀t,(bi t rs 0).length≤900)
  (h:∀c q,ColCh c→au q→k (.v (.tup [c.c,l7 (aX rs c),aP (bO rs c)])) [ak q]) :
  ap (y9 P) (iR P) [.ref 0,.v (.lst (rs.map Row.cv))] [ak p] k X:=by
 have hl9:rs.length≤900:=by omega
 have hlr:(rs.map Row.cv).length≤1000:=by rw[List.length_map];omega
 refine⟨rfl,p,6,rfl,rfl,hp,by decide,by decide,fun d q hq d0 d1=>?_⟩
 walk_at "ab"
 refine⟨rfl,q,calL.map aP,rfl,rfl,hq,by decide,by decide,fun c hc q2 hq2=>?_⟩
 obtain⟨al,hal,rfl⟩:=List.mem_map.mp hc
 walk_at "ab"
 have e:d=0∨d=1∨d=2∨d=3∨d=4∨d=5:=by omega
 rcases e with rfl|rfl|rfl|rfl|rfl|rfl
 ·refine⟨rfl,?_⟩
  refine⟨rfl,rfl,rs,none,rfl,hl9,hr,(fun t e=>by cases e),hz none,?_⟩
  walk_at "ab"
  exact h (.star none) q2 (.inl rfl) hq2
 ·refine And.intro (leB rfl) ?_
  refine⟨rfl,q2,starL.map ag,rfl,rfl,hq2,by decide,by decide,fun c hc q3 hq3=>?_⟩
  obtain⟨t,hst,rfl⟩:=List.mem_map.mp hc
  walk_at "aB"
  refine⟨rfl,rfl,rs,some t,rfl,hl9,hr,(fun x e=>by cases e;exact pN t hst),hz (some t),?_⟩
  walk_at "ab"
  exact h (.star (some t)) q3 (.inr ⟨t,hst,rfl⟩) hq3
 ·have hh:=h (.ex (.lit 5) al) q2 ⟨hal,.inl rfl⟩ hq2
  have e5:aX rs (.ex (.lit 5) al)=.ok [(al.getD "5",.valI 5)]:=by
   show Res.ok [(al.getD (bv 5),_)]=_
   rw[show bv 5 = "5" by kernel_rfl]
  have e6:bO rs (.ex (.lit 5) al)=al:=rfl
  rw[e5,e6] at hh
  cases al with
  |none=>
   walk_at "ag"
   exact hh
  |some a=>
   walk_at "ag"
   exact hh
 ·have hh:=h (.ex .cnt al) q2 ⟨hal,.inr (.inl rfl)⟩ hq2
  cases al with
  |none=>
   walk_at "ag"
   exact hh
  |some a=>
   walk_at "ag"
   exact hh
 ·refine⟨rfl,q2,rfl,rfl,hq2,fun t c q3 ht hc hq3=>?_⟩
  have hh:=h (.ex (.nm t c) al) q3 ⟨hal,.inr (.inr ⟨t,c,rfl,ht,hc⟩)⟩ hq3
  walk_at "aB"
  walk_at "ab"
  refine⟨rfl,rs,[],t,c,hl9,hr,fE ht,hc.sh2,by decide,fun a h=>(nomatch h),.inr ⟨rfl,rfl,rfl⟩,?_⟩
  walk_at "ab"
  cases hm:ac rs [] t c with
  |no m=>
   walk_at "bX"
   walk_at "ag"
   exact hh
  |ok tag=>
   walk_at "au"
   walk_at "ab"
   walk_at "ab"
   refine af hnr ?_
   refine And.intro hlr ?_
   walk_at "ab"
   walk_at "ab"
   refine af hns ?_
   refine And.intro hnl ?_
   cases al with
   |none=>
    walk_at "ag"
    exact hh
   |some a=>
    walk_at "ag"
    exact hh
 ·refine⟨rfl,q2,rfl,rfl,hq2,fun t c q3 ht hc hq3=>?_⟩
  have hh:=h (.ex (.nm t c) al) q3 ⟨hal,.inr (.inr ⟨t,c,rfl,ht,hc⟩)⟩ hq3
  walk_at "aB"
  walk_at "ab"
  refine⟨rfl,rs,[],t,c,hl9,hr,fE ht,hc.sh2,by decide,fun a h=>(nomatch h),.inr ⟨rfl,rfl,rfl⟩,?_⟩
  walk_at "ab"
  cases hm:ac rs [] t c with
  |no m=>
   walk_at "bX"
   walk_at "ag"
   exact hh
  |ok tag=>
   walk_at "au"
   walk_at "ab"
   walk_at "ab"
   refine af hnr ?_
   refine And.intro hlr ?_
   walk_at "ab"
   walk_at "ab"
   refine af hns ?_
   refine And.intro hnl ?_
   cases al with
   |none=>
    walk_at "ag"
    exact hh
   |some a=>
    walk_at "ag"
    exact hh
def uC:aE:=fun args kws M k X=>kws=[]∧∃(p:Int×Int) (rs:List Row),args=[.ref 0,.v (.lst (rs.map Row.cv))]∧M=[ak p]∧au p∧rs.length≤3∧(∀r∈rs,cO r)∧(∀t,(bi t rs 0).length≤900)∧∀c q,ColCh c→au q→k (.v (.tup [c.c,l7 (aX rs c),aP (bO rs c)])) [ak q]
theorem vM{D:Wd}(h:Ok D):SpecOk D 125 1562 uC:=(ah (iU h) (xd h)).less fun args kws M k X z=>by
 obtain⟨rfl,p,rs,rfl,rfl,hp,h1,h2,h3,z⟩:=z
 exact ar rfl (qT _ p rs k X hp h1 h2 h3 z)
def CW(P:Params):Tb:=aD (y9 P) 1562 uC
theorem Dt{D:Wd}(h:Ok D):TbOk D 125 (CW D.w.params):=(xd h).add (vM h) (iU h).keep
structure OutsT where
 due:Res (List br)
 als:List AlT
def ri(al:Option Str)(l2:List br)(als:List AlT):List AlT:=match al,l2 with
 |some a,o::_=>als++[(a,o.2)]
 |_,_=>als
def aV(rows:List Row)(D:OutsT)(c:ColE):OutsT:=match D.due with
 |.no m=>D
 |.ok l=>match aX rows c with
  |.no m=>⟨.no m,D.als⟩
  |.ok l2=>⟨.ok (l++l2),ri (bO rows c) l2 D.als⟩
def aw(rows:List Row)(cols:List ColE):OutsT:=cols.foldl (aV rows) ⟨.ok [],[]⟩
theorem io{rows:List Row}{c:ColE}{a:Str}(h:bO rows c=some a):∃o,aX rows c=.ok [o]:=by
 cases c with
 |star t=>cases h
 |ex e al=>
  cases e with
  |lit i=>exact⟨_,rfl⟩
  |litS s=>exact⟨_,rfl⟩
  |cnt=>exact⟨_,rfl⟩
  |nm t c=>
   cases hm:ac rows [] t c with
   |no m=>
    have e1:aX rows (.ex (.nm t c) al)=.no m:=by show (match ac rows [] t c with|.no m=>_|.ok tag=>_)=_;rw[hm]
    have e2:bO rows (.ex (.nm t c) al)=none:=by show (match aX rows (.ex (.nm t c) al) with|.no _=>_|.ok _=>_)=_;rw[e1]
    rw[e2] at h;cases h
   |ok tag=>exact⟨_,by show (match ac rows [] t c with|.no m=>_|.ok tag=>_)=_;rw[hm]⟩
def I5(first:Bool)(D:Res (List br)):AV:=match first with
 |true=>.ref 2
 |false=>.v (l7 D)
def outsLp:cP:=⟨["source","rows","columns","due","aliases"],fun items vals M k _=>∃(p:Int×Int) (rs:List Row) (cols:List ColE) (first:Bool),au p∧rs.length≤3∧(∀r∈rs,cO r)∧(∀t,(bi t rs 0).length≤12)∧(∀c∈cols,ColCh c)∧cols.length+items.length≤3∧(first=true→cols=[]) ∧
 (first=true→items≠[])∧vals=[.ref 0,.v (.lst (rs.map Row.cv)),.ref 1,I5 first (aw rs cols).due,.ref 3]∧M=[ak p,.lst (cols.map ColE.c),.lst [],.lst ((aw rs cols).als.map alT)] ∧
 ∀(cols':List ColE) (q:Int×Int),cols'.length=cols.length+items.length→(∀c∈cols',ColCh c)→au q→k .next [.ref 0,.v (.lst (rs.map Row.cv)),.ref 1,.v (l7 (aw rs cols').due),.ref 3] [ak q,.lst (cols'.map ColE.c),.lst [],.lst ((aw rs cols').als.map alT)]⟩
def y8(P:Params):Tb:=lE (CW P) 1120 outsLp
theorem xc{D:Wd}(h:Ok D):TbOk D 125 (y8 D.w.params):=cV (Dt h)
theorem pc{rs:List Row}{cols:List ColE}{c:ColE}:aw rs (cols++[c])=aV rs (aw rs cols) c:=by
 unfold aw
 rw[List.foldl_append];rfl
theorem jc{rs:List Row}{c:ColE}{l:List br}(hz:∀t,(bi t rs 0).length≤12)(h:aX rs c=.ok l):l.length≤12:=by
 cases c with
 |star t=>
  have h:dL rs t=.ok l:=h
  unfold dL at h
  split at h
  ·cases h
  ·cases hb:rs.any (eT t) with
   |true=>rw[hb] at h;cases h;exact hz t
   |false=>rw[hb] at h;cases h
 |ex e al=>
  cases e with
  |lit i=>cases h;exact leB rfl
  |litS s=>cases h;exact leB rfl
  |cnt=>cases h;exact leB rfl
  |nm t c=>
   have h:(match ac rs [] t c with|.no m=>Res.no m|.ok tag=>.ok [(al.getD (fL rs tag),tag)])=.ok l:=h
   cases hm:ac rs [] t c with
   |no m=>rw[hm] at h;cases h
   |ok tag=>rw[hm] at h;cases h;exact leB rfl
theorem dp{rs:List Row}(hz:∀t,(bi t rs 0).length≤12):∀{cols:List ColE} {D:OutsT} {m:Nat},(∀l,D.due=.ok l→l.length≤12*m)→D.als.length≤m→(∀l,(cols.foldl (aV rs) D).due=.ok l→l.length≤12*(m+cols.length))∧(cols.foldl (aV rs) D).als.length≤m+cols.length
 |[],D,m,h1,h2=>⟨h1,h2⟩
 |c::cols,D,m,h1,h2=>by
  have key:(∀l,(aV rs D c).due=.ok l→l.length≤12*(m+1))∧(aV rs D c).als.length≤m+1:=by
   unfold aV
   cases hd:D.due with
   |no m'=>exact⟨(fun l e=>by rw[hd] at e;cases e),by show D.als.length≤m+1;omega⟩
   |ok l0=>
    cases hc:aX rs c with
    |no m'=>exact⟨(fun l e=>by cases e),by show D.als.length≤m+1;omega⟩
    |ok l2=>
     refine⟨fun l e=>?_,?_⟩
     ·cases e
      have:=jc hz hc
      have:=h1 l0 hd
      rw[List.length_append];omega
     ·show (ri (bO rs c) l2 D.als).length≤_
      unfold ri
      split
      ·rw[List.length_append];simp only[List.length_cons,List.length_nil];omega
      ·omega
  have:=dp hz (cols:=cols) (D:=aV rs D c) (m:=m+1) key.1 key.2
  rw[show m+(c::cols).length=m+1+cols.length by simp only[List.length_cons];omega]
  exact this
theorem oU(P:Params)(p:Int×Int)(rs:List Row)(k:K1)(X:KX)(hp:au p)(hl:rs.length≤3)(hr:∀r∈rs,cO r)(hz:∀t,(bi t rs 0).length≤12)
  (h:∀(cols:List ColE) (q:Int×Int),1≤cols.length→cols.length≤3→(∀c∈cols,ColCh c)→au q→k (.v (.tup [.lst (cols.map ColE.c),l7 (aw rs cols).due,.lst ((aw rs cols).als.map alT)])) [ak q]) :
  ap (y8 P) (gV P) [.ref 0,.v (.lst (rs.map Row.cv))] [ak p] k X:=by
 walk_at "ab"
 walk_at "ab"
 walk_at "ab"
 walk_at "ab"
 walk_at "cN"
 walk_at "aQ"
 walk_at "aJ"
 ·intro vals M k X z
  obtain⟨p,rs,cols,first,hp,hl,hr,hz,hc,hn,hf,hf2,rfl,rfl,z⟩:=z
  cases first with
  |true=>exact absurd rfl (hf2 rfl)
  |false=>exact z cols p rfl hc hp
 ·intro ic cs vals M k X z
  obtain⟨p,rs,cols,first,hp,hl,hr,hz,hc,hn,hf,hf2,rfl,rfl,z⟩:=z
  have hn':cols.length+(cs.length+1)≤3:=hn
  have hcl:(cols.map ColE.c).length≤999:=by rw[List.length_map];omega
  refine⟨rfl,p,rs,rfl,rfl,hp,hl,hr,fun t=>Nat.le_trans (hz t) (by decide),fun c q hcc hq=>?_⟩
  have hlen:=dp (rs:=rs) hz (cols:=cols) (D:=⟨.ok [],[]⟩) (m:=0) (fun l e=>by cases e;decide) (by decide)
  have go:outsLp.spec cs [.ref 0,.v (.lst (rs.map Row.cv)),.ref 1,.v (l7 (aw rs (cols++[c])).due),.ref 3] [ak q,.lst ((cols++[c]).map ColE.c),.lst [],.lst ((aw rs (cols++[c])).als.map alT)] k X:=
   ⟨q,rs,cols++[c],false,hq,hl,hr,hz,fun x hx=>by
    rcases List.mem_append.mp hx with hx|hx
    ·exact hc x hx
    ·cases List.mem_singleton.mp hx;exact hcc,by simp only[List.length_append,List.length_cons,List.length_nil];omega,(fun e=>by cases e),(fun e=>by cases e),rfl,rfl,fun cols' q' h1 h2 h3=>z cols' q' (by rw[h1];simp only[List.length_append,List.length_cons,List.length_nil];omega) h2 h3⟩
  rw[List.map_append,pc] at go
  have hlen2:(aw rs cols).als.length≤0+cols.length:=hlen.2
  have hal9:((aw rs cols).als.map alT).length≤999:=by rw[List.length_map];omega
  cases first with
  |true=>
   have hcn:=hf rfl
   subst hcn
   refine And.intro hcl ?_
   cases hcol:aX rs c with
   |no m=>
    have e1:aV rs (aw rs []) c=⟨.no m,[]⟩:=by show (match aX rs c with|.no m=>OutsT.mk (.no m) []|.ok l2=>_)=_;rw[hcol]
    walk_at "cK"
   |ok l2=>
    have e1:aV rs (aw rs []) c=⟨.ok ([]++l2),ri (bO rs c) l2 []⟩:=by show (match aX rs c with|.no m=>OutsT.mk (.no m) []|.ok l2=>OutsT.mk (.ok ([]++l2)) (ri (bO rs c) l2 []))=_;rw[hcol]
    have h12:=jc hz hcol
    rw[e1] at go
    refine And.intro (by show 0+(l2.map bf).length≤1000;rw[List.length_map];omega) ?_
    cases hA:bO rs c with
    |none=>
     rw[hA] at go
     exact go
    |some a=>
     obtain⟨o,ho⟩:=io hA
     rw[hcol] at ho
     cases ho
     rw[hA] at go
     walk_at "ag"
     exact go
  |false=>
   refine And.intro hcl ?_
   cases hdue:(aw rs cols).due with
   |no m=>
    have e1:aV rs (aw rs cols) c=aw rs cols:=by unfold aV;rw[hdue]
    rw[e1,hdue] at go
    exact go
   |ok l=>
    have hll:l.length≤12*(0+cols.length):=hlen.1 l hdue
    cases hcol:aX rs c with
    |no m=>
     have e1:aV rs (aw rs cols) c=⟨.no m,(aw rs cols).als⟩:=by unfold aV;rw[hdue];simp only;rw[hcol]
     walk_at "cK"
    |ok l2=>
     have e1:aV rs (aw rs cols) c=⟨.ok (l++l2),ri (bO rs c) l2 (aw rs cols).als⟩:=by unfold aV;rw[hdue];simp only;rw[hcol]
     have h12:=jc hz hcol
     rw[e1] at go
     refine And.intro (by show (l.map bf).length+(l2.map bf).length≤1000;rw[List.length_map,List.length_map];omega) ?_
     cases hA:bO rs c with
     |none=>
      rw[hA] at go
      have go:outsLp.spec cs [.ref 0,.v (.lst (rs.map Row.cv)),.ref 1,.v (.lst ((l++l2).map bf)),.ref 3] [ak q,.lst (cols.map ColE.c++[c].map ColE.c),.lst [],.lst ((aw rs cols).als.map alT)] k X:=go
      rw[List.map_append] at go
      exact go
     |some a=>
      obtain⟨o,ho⟩:=io hA
      rw[hcol] at ho
      cases ho
      rw[hA] at go
      have go:outsLp.spec cs [.ref 0,.v (.lst (rs.map Row.cv)),.ref 1,.v (.lst ((l++[o]).map bf)),.ref 3] [ak q,.lst (cols.map ColE.c++[c].map ColE.c),.lst [],.lst (((aw rs cols).als++[(a,o.2)]).map alT)] k X:=go
      rw[List.map_append,List.map_append] at go
      walk_at "ag"
      exact go
 ·refine⟨q,rs,[],true,hq,hl,hr,hz,fun c h=>(nomatch h),?_,fun _=>rfl,fun _ e=>?_,rfl,rfl,fun cols' q' h1 h2 h3=>?_⟩
  ·rw[List.length_map,List.length_range];simp only[List.length_nil];omega
  ·have:=congrArg List.length e
   rw[List.length_map,List.length_range] at this
   simp only[List.length_nil] at this;omega
  ·rw[List.length_map,List.length_range] at h1
   walk_at "ab"
   exact h cols' q' (by simp only[List.length_nil] at h1;omega) (by simp only[List.length_nil] at h1;omega) h2 h3
def qb:aE:=fun args kws M k X=>kws=[]∧∃(p:Int×Int) (rs:List Row),args=[.ref 0,.v (.lst (rs.map Row.cv))]∧M=[ak p]∧au p∧rs.length≤3∧(∀r∈rs,cO r)∧(∀t,(bi t rs 0).length≤12) ∧
 ∀(cols:List ColE) (q:Int×Int),1≤cols.length→cols.length≤3→(∀c∈cols,ColCh c)→au q→k (.v (.tup [.lst (cols.map ColE.c),l7 (aw rs cols).due,.lst ((aw rs cols).als.map alT)])) [ak q]
theorem rZ{D:Wd}(h:Ok D):SpecOk D 126 1569 qb:=(ah (hO h) (xc h)).less fun args kws M k X z=>by
 obtain⟨rfl,p,rs,rfl,rfl,hp,h1,h2,h3,z⟩:=z
 exact ar rfl (oU _ p rs k X hp h1 h2 h3 z)
def y7(P:Params):Tb:=aD (y8 P) 1569 qb
theorem xb{D:Wd}(h:Ok D):TbOk D 126 (y7 D.w.params):=(xc h).add (rZ h) (hO h).keep
def bL:RE→CV
 |.lit i=>.tup [.str "value",.int i]
 |.litS s=>.tup [.str "value",.str s]
 |.cnt=>.tup [.str "count"]
 |.nm _ _ n j _ _=>.tup [.str "column",.int n,.int j]
theorem wt(P:Params)(e:RE)(k:K1)(X:KX)(h:k (.v (bL e)) []):ap (y7 P) (nl P) [.v e.c] [] k X:=by
 cases e with
 |lit i=>exact And.intro (leB rfl) h
 |litS s=>exact And.intro (leB rfl) h
 |cnt=>exact And.intro (leB rfl) h
 |nm t c n j a b=>exact And.intro (leB rfl) h
def Fy:aE:=fun args kws M k X=>kws=[]∧M=[]∧∃e:RE,args=[.v e.c]∧k (.v (bL e)) []
theorem Df{D:Wd}(h:Ok D):SpecOk D 127 1583 Fy:=(ah (nu h) (xb h)).less fun args kws M k X z=>by
 obtain⟨rfl,rfl,e,rfl,z⟩:=z
 exact ar rfl (wt _ e k X z)
def tR(o:Out):CV:=.tup [.str o.1,bL o.2]
def CA(b:Bool):AM:=match b with
 |true=>[.gone,.gone,.gone,.gone]
 |false=>[.gone,.gone,.gone]
def FA:eQ:=⟨[],fun items _ M k _=>∃(b:Bool) (outs:List Out),M=CA b∧items=outs.map ax∧k (outs.map tR) M⟩
def Dg:eQ:=⟨[],fun items _ M k _=>∃(b:Bool) (os:List CV) (l:List RE),M=CA b++[.lst os]∧items=l.map RE.c∧k (l.map bL) M⟩
def y6(P:Params):Tb:=pu (pu (aD (aD (y7 P) 1583 Fy) 1481 (lK Dj)) 1159 FA) 1160 Dg
theorem xa{D:Wd}(h:Ok D):TbOk D 128 (y6 D.w.params):=eE (eE (((xb h).add (Df h) (nu h).keep).add ((jh (wA h)).up (by decide)) (cW h).keep))
def pD(o:List Out)(l:List RE):CV:=.tup [.lst (o.map tR),.lst (l.map bL),.bool (!l.isEmpty || !(dC o).isEmpty)]
def BA(b:Bool)(gs:List Ex):AV:=match b with
 |true=>.ref 0
 |false=>.v (.lst (gs.map Ex.d))
def Bz(b:Bool):AM:=match b with
 |true=>[.lst []]
 |false=>[]
def oH(b:Bool):AM:=match b with
 |true=>[.gone]
 |false=>[]
theorem uU(P:Params)(b:Bool)(rs:List Row)(cols:List ColE)(gs:List Ex)(k:K1)(X:KX)(hb:b=true→gs=[])(h1:rs.length≤3)(h2:bx rs)(h3:∀r∈rs,(r.us.map ag).length≤1000)(h4:bZ cols≤3)(h5:cols.length≤900)(h6:gs.length≤2)(h7:∀e∈gs,fC e)
  (h:rdK (iL cols gs (fun m=>k (.v (noC m)) (oH b)) (fun o l=>o.length≤900∧l.length≤900∧k (.v (pD o l)) (oH b))) rs [] (-1)) :
  ap (y6 P) (lh P) [.v (.lst (cols.map ColE.c)),.v (aZ rs),BA b gs] (Bz b) k X:=by
 cases b with
 |true=>
  have hg:=hb rfl
  subst hg
  walk_at "aB"
  walk_at "ab"
  walk_at "aB"
  refine⟨rfl,rfl,rs,cols,[],rfl,h1,h2,h3,h4,h5,h6,h7,?_⟩
  walk_at "c5"
  ·obtain⟨z1,z2,z⟩:=z
   walk_at "cA"
   walk_at "aJ"
   walk_at "dq"
   ·intro c cs vals M k X z
    obtain⟨b,outs,rfl,e,z⟩:=z
    cases outs with
    |nil=>cases e
    |cons s r=>
     cases e
     cases b
     ·refine⟨rfl,rfl,s.2,rfl,?_⟩
      walk_at "ab"
      exact⟨false,r,rfl,rfl,z⟩
     ·refine⟨rfl,rfl,s.2,rfl,?_⟩
      walk_at "ab"
      exact⟨true,r,rfl,rfl,z⟩
   ·refine⟨true,o,rfl,rfl,?_⟩
    refine And.intro hz2 ?_
    walk_at "aJ"
    walk_at "bn"
    ·refine⟨true,_,l,rfl,rfl,?_⟩
     walk_at "ab"
     exact z
 |false=>
  walk_at "aB"
  walk_at "ab"
  walk_at "aB"
  refine⟨rfl,rfl,rs,cols,gs,rfl,h1,h2,h3,h4,h5,h6,h7,?_⟩
  walk_at "c5"
  ·obtain⟨z1,z2,z⟩:=z
   walk_at "cA"
   walk_at "aJ"
   walk_at "dq"
   ·intro c cs vals M k X z
    obtain⟨b,outs,rfl,e,z⟩:=z
    cases outs with
    |nil=>cases e
    |cons s r=>
     cases e
     cases b
     ·refine⟨rfl,rfl,s.2,rfl,?_⟩
      walk_at "ab"
      exact⟨false,r,rfl,rfl,z⟩
     ·refine⟨rfl,rfl,s.2,rfl,?_⟩
      walk_at "ab"
      exact⟨true,r,rfl,rfl,z⟩
   ·refine⟨false,o,rfl,rfl,?_⟩
    refine And.intro hz2 ?_
    walk_at "aJ"
    walk_at "bn"
    ·refine⟨false,_,l,rfl,rfl,?_⟩
     walk_at "ab"
     exact z
def By:aE:=fun args kws M k X=>kws=[]∧∃(b:Bool) (rs:List Row) (cols:List ColE) (gs:List Ex),args=[.v (.lst (cols.map ColE.c)),.v (aZ rs),BA b gs]∧M=Bz b∧(b=true→gs=[])∧rs.length≤3∧bx rs∧(∀r∈rs,(r.us.map ag).length≤1000)∧bZ cols≤3∧cols.length≤900∧gs.length≤2∧(∀e∈gs,fC e) ∧
 rdK (iL cols gs (fun m=>k (.v (noC m)) (oH b)) (fun o l=>o.length≤900∧l.length≤900∧k (.v (pD o l)) (oH b))) rs [] (-1)
theorem tQ{D:Wd}(h:Ok D):SpecOk D 129 1588 By:=(ah (g9 h) (xa h)).less fun args kws M k X z=>by
 obtain⟨rfl,b,rs,cols,gs,rfl,rfl,h0,h1,h2,h3,h4,h5,h6,h7,z⟩:=z
 exact ar rfl (uU _ b rs cols gs k X h0 h1 h2 h3 h4 h5 h6 h7 z)
def CU(P:Params):Tb:=aD (y6 P) 1588 By
theorem Ds{D:Wd}(h:Ok D):TbOk D 129 (CU D.w.params):=(xa h).add (tQ h) (g9 h).keep
def Tag.l:Tag→List CV
 |.col i j=>[.str "column",.int i,.int j]
 |.valI i=>[.str "value",.int i]
 |.valS s=>[.str "value",.str s]
 |.count=>[.str "count"]
def bu:Res Tag→List CV
 |.no m=>[.str "refused",.str m]
 |.ok t=>t.l
def Res.isNo{α:Type}:Res α→Bool
 |.no _=>true
 |.ok _=>false
def bF:Res Tag→Bool
 |.ok .count=>true
 |_=>false
theorem Tag.c_l(t:Tag):t.c=.tup t.l:=by cases t<;>rfl
theorem Dm(r:Res Tag):zM r=.tup (bu r):=by
 cases r with
 |no m=>rfl
 |ok t=>exact t.c_l
theorem ba(r:Res Tag):CmL (Cm 8) (bu r) [.str "count"]:=by
 cases r with
 |no m=>exact⟨rfl,trivial⟩
 |ok t=>cases t<;>exact⟨rfl,trivial⟩
theorem aI(r:Res Tag):dA (bu r) [.str "count"]=bF r:=by
 cases r with
 |no m=>kernel_rfl
 |ok t=>cases t<;>kernel_rfl
theorem bw(r:Res Tag):(bu r).length≤1000:=by
 cases r with
 |no m=>exact leB rfl
 |ok t=>cases t<;>exact leB rfl
def BG:Res Tag→Str
 |.no _=> "refused"
 |.ok (.col _ _)=> "column"
 |.ok (.valI _)=> "value"
 |.ok (.valS _)=> "value"
 |.ok .count=> "count"
theorem cI(r:Res Tag):(match bP (bu r) 0 with|some c=>some (AV.v c)|none=>none)=some (AV.v (.str (BG r))):=by
 cases r with
 |no m=>rfl
 |ok t=>cases t<;>rfl
theorem bj(r:Res Tag):sEq (BG r) "refused" = r.isNo:=by
 cases r with
 |no m=>kernel_rfl
 |ok t=>cases t<;>kernel_rfl
def ub:aE:=fun args kws M k X=>kws=[]∧M=[]∧∃(rs:List Row) (als:List AlT) (tbl:Option Str) (col:Str),rs.length≤900∧(∀r∈rs,cO r)∧(∀t,tbl=some t→Sh t)∧Sh col∧als.length≤900∧(∀a∈als,Sh a.1) ∧
 args=[.v (.lst (rs.map Row.cv)),.v (.lst (als.map alT)),.v (aP tbl),.v (.str col)]∧k (.v (.tup (bu (ac rs als tbl col)))) []
theorem vm{D:Wd}(h:Ok D):SpecOk D 129 1541 ub:=((qi h).up (by decide:123≤129)).less fun args kws M k X z=>by
 obtain⟨rfl,rfl,rs,als,tbl,col,h1,h2,h3,h4,h5,h6,rfl,z⟩:=z
 refine⟨rfl,rs,als,tbl,col,h1,h2,h3,h4,h5,h6,.inl ⟨rfl,rfl⟩,?_⟩
 rw[Dm];exact z
def am(o:br):CV:=.tup [.str o.1,.tup o.2.l]
theorem wU(o:br):am o=bf o:=by unfold am bf;rw[Tag.c_l]
def aH(two:Bool)(len:Nat):Str:=FS two++(" GROUP BY term out of range - should be between 1 and " ++ bv len)
def aq(rows:List Row)(outs:List br)(als:List AlT)(two:Bool):Ex→Res Tag
 |.lit n=>bif ca n outs.length then (match outs[(n - 1).toNat]? with
   |some o=>.ok o.2
   |none=>.no "") else .no (aH two outs.length)
 |.litS s=>.ok (.valS s)
 |.nm t c=>ac rows als t c
 |.cnt=>.ok .count
def di(r:Res Tag):Res Tag:=bif bF r then .no dB else r
def aQ(rows:List Row)(outs:List br)(als:List AlT)(two:Bool)(D:Res (List Tag))(e:Ex):Res (List Tag):=match D with
 |.no m=>.no m
 |.ok l=>match di (aq rows outs als two e) with
  |.no m=>.no m
  |.ok t=>.ok (l++[t])
def aW(rows:List Row)(outs:List br)(als:List AlT):List Ex→Res (List Tag)
 |[]=>.ok []
 |[a]=>aQ rows outs als false (.ok []) a
 |a::b::_=>aQ rows outs als true (aQ rows outs als false (.ok []) a) b
def GrpCh(e:Ex):Prop:=(∃n,e=.lit n∧0≤n∧n < 5)∨e=.litS "q" ∨ ∃t c,e=.nm t c∧t∈tblL∧(CaseOf colL c∨c = "k")
def vK:Res (List Tag)→CV
 |.no m=>noC m
 |.ok l=>.lst (l.map Tag.c)
def CJ(first:Bool)(D:Res (List Tag)):AV:=match first with
 |true=>.ref 2
 |false=>.v (vK D)
def grpLp:cP:=⟨["source","rows","outputs","aliases","terms","due"],fun items vals M k _=>∃(p:Int×Int) (rs:List Row) (outs:List br) (als:List AlT) (gs:List Ex) (first:Bool),au p∧rs.length≤900∧(∀r∈rs,cO r)∧outs.length≤50∧als.length≤900∧(∀a∈als,Sh a.1) ∧
 (∀e∈gs,GrpCh e)∧gs.length+items.length≤2∧items=(List.range' gs.length items.length).map (fun(j:Nat)=>CV.int ((0:Int)+j))∧(first=true↔gs=[]) ∧
 vals=[.ref 0,.v (.lst (rs.map Row.cv)),.v (.lst (outs.map am)),.v (.lst (als.map alT)),.ref 1,CJ first (aW rs outs als gs)]∧M=[ak p,.lst (gs.map Ex.d),.lst []] ∧
 ∀(gs':List Ex) (q:Int×Int),gs'.length=gs.length+items.length→(∀e∈gs',GrpCh e)→au q→k .next [.ref 0,.v (.lst (rs.map Row.cv)),.v (.lst (outs.map am)),.v (.lst (als.map alT)),.ref 1,CJ gs'.isEmpty (aW rs outs als gs')] [ak q,.lst (gs'.map Ex.d),.lst []]⟩
def y5(P:Params):Tb:=lE (aD (CU P) 1541 ub) 1130 grpLp
theorem w9{D:Wd}(h:Ok D):TbOk D 130 (y5 D.w.params):=cV ((Ds h).add ((vm h).up (Nat.le_succ _)) (gc h).keep)
theorem xN{c:Str}(h:CaseOf colL c∨c = "k"):Sh c:=by
 rcases h with h|rfl
 ·exact h.sh2
 ·exact⟨leB (by kernel_rfl),by kernel_rfl⟩
section
variable {rs:List Row}{outs:List br}{als:List AlT}{two:Bool}{e:Ex}{l:List Tag}{m:Str}{t:Tag}{rT:Res Tag}
theorem kD(h:aq rs outs als two e=rT)(hc:bF rT=true):aQ rs outs als two (.ok l) e=.no dB:=by
 unfold aQ di;simp only;rw[h,hc];rfl
theorem kZ(h:aq rs outs als two e=.no m):aQ rs outs als two (.ok l) e=.no m:=by
 unfold aQ di;simp only;rw[h];rfl
theorem kY(h:aq rs outs als two e=.ok t)(hc:bF (.ok t)=false):aQ rs outs als two (.ok l) e=.ok (l++[t]):=by
 unfold aQ di;simp only;rw[h,hc];rfl
theorem mw{n:Int}{o:br}(h:ca n outs.length=true)(ho:outs[(n - 1).toNat]?=some o):aq rs outs als two (.lit n)=.ok o.2:=by
 show (bif ca n outs.length then _ else _)=_
 rw[h,cond_true,ho]
theorem jF{n:Int}(h:ca n outs.length=false):aq rs outs als two (.lit n)=.no (aH two outs.length):=by
 show (bif ca n outs.length then _ else _)=_
 rw[h,cond_false]
theorem kC{i:Int}(h:ca i outs.length=true):∃o,outs[(i - 1).toNat]?=some o∧(match bP (outs.map am) (i - 1) with|some c=>some (AV.v c)|none=>none)=some (AV.v (am o)):=by
 walk_at "bt"
theorem sR{c:Str}(h:c∈(["a","k"]:List Str)):CaseOf colL c∨c = "k":=by
 cases h with
 |head=>exact .inl ⟨"a",.head _,.inl rfl⟩
 |tail _ h=>
  cases h with
  |head=>exact .inr rfl
  |tail _ h=>cases h
theorem eA{r:Res Tag}(h:r.isNo=true):∃m,r=.no m:=by
 cases r with
 |no m=>exact⟨m,rfl⟩
 |ok t=>cases h
theorem ez{r:Res Tag}(h:r.isNo=false):∃t,r=.ok t:=by
 cases r with
 |no m=>cases h
 |ok t=>exact⟨t,rfl⟩
end
theorem qx(P:Params)(p:Int×Int)(rs:List Row)(outs:List br)(als:List AlT)(k:K1)(X:KX)(hp:au p)(hl:rs.length≤900)(hr:∀r∈rs,cO r)(ho:outs.length≤50)(hal:als.length≤900)(hash:∀a∈als,Sh a.1)
  (h:∀(gs:List Ex) (q:Int×Int),gs.length≤2→(∀e∈gs,GrpCh e)→au q→k (.v (.tup [.lst (gs.map Ex.d),vK (aW rs outs als gs)])) [ak q]) :
  ap (y5 P) (iQ P) [.ref 0,.v (.lst (rs.map Row.cv)),.v (.lst (outs.map am)),.v (.lst (als.map alT))] [ak p] k X:=by
 walk_at "ab"
 walk_at "ab"
 walk_at "ab"
 walk_at "cN"
 walk_at "aQ"
 walk_at "aJ"
 ·intro vals M k X z
  obtain⟨p,rs,outs,als,gs,first,hp,hl,hr,ho,hal,hash,hg,hn,he,hf,rfl,rfl,z⟩:=z
  have z:=z gs p rfl hg hp
  cases gs with
  |nil=>rw[hf.mpr rfl];exact z
  |cons g gs=>
   cases first with
   |true=>cases hf.mp rfl
   |false=>exact z
 ·intro ic cs vals M k X z
  obtain⟨p,rs,outs,als,gs,first,hp,hl,hr,ho,hal,hash,hg,hn,he,hf,rfl,rfl,z⟩:=z
  have hn':gs.length+(cs.length+1)≤2:=hn
  have he:ic::cs=(List.range' gs.length (cs.length+1)).map (fun(j:Nat)=>CV.int ((0:Int)+j)):=he
  rw[List.range'_succ,List.map_cons] at he
  obtain⟨e1,e2⟩:=List.cons.inj he
  subst e1
  have hol:(outs.map am).length≤1000:=by rw[List.length_map];omega
  have hlo:((outs.map am).length:Int)=(outs.length:Int):=by rw[List.length_map]
  have hoi:(-1000000:Int)≤((outs.map am).length:Int)∧((outs.map am).length:Int)≤1000000:=⟨by omega,by omega⟩
  have hsl:(bv ((outs.map am).length:Int)).length≤20:=by rw[List.length_map];exact kR ho
  have hwl:(" GROUP BY term out of range - should be between 1 and " : Str).length=54:=by kernel_rfl
  have hcat:(" GROUP BY term out of range - should be between 1 and " : Str).length+(bv ((outs.map am).length:Int)).length≤1000:=by omega
  have h1s:("1st" : Str).length=3:=by kernel_rfl
  have h2s:("2nd" : Str).length=3:=by kernel_rfl
  have hwl2:(" GROUP BY term out of range - should be between 1 and " ++ bv ((outs.map am).length:Int):Str).length≤80:=by rw[dR];omega
  have mk:∀(e:Ex),GrpCh e→∀q,au q→grpLp.spec cs [.ref 0,.v (.lst (rs.map Row.cv)),.v (.lst (outs.map am)),.v (.lst (als.map alT)),.ref 1,.v (vK (aW rs outs als (gs++[e])))] [ak q,.lst ((gs++[e]).map Ex.d),.lst []] k X:=fun e hch q hq=>
   ⟨q,rs,outs,als,gs++[e],false,hq,hl,hr,ho,hal,hash,fun x hx=>by
    rcases List.mem_append.mp hx with hx|hx
    ·exact hg x hx
    ·cases List.mem_singleton.mp hx;exact hch,by simp only[List.length_append,List.length_cons,List.length_nil];omega,by rw[List.length_append];exact e2,⟨(fun e=>by cases e),(fun e=>by simp at e)⟩,rfl,rfl,fun gs' q' h1 h2 h3=>z gs' q' (by rw[h1];simp only[List.length_append,List.length_cons,List.length_nil];omega) h2 h3⟩
  match gs,first,hf,hn',hg,mk with
  |_::_::_,_,_,hn',_,_=>simp only[List.length_cons] at hn';omega
  |[],false,hf,_,_,_=>cases hf.mpr rfl
  |[g],true,hf,_,_,_=>cases hf.mp rfl
  |[],true,hf,_,hg,mk=>
   have hcat2:("1st" : Str).length+(" GROUP BY term out of range - should be between 1 and " ++ bv ((outs.map am).length:Int):Str).length≤1000:=by omega
   have hstep:∀e,aW rs outs als ([]++[e])=aQ rs outs als false (.ok []) e:=fun e=>rfl
   walk_at "bE"
   ·refine⟨rfl,q,5,rfl,rfl,hq,by decide,by decide,fun n q2 hq2 n0 n1=>?_⟩
    walk_at "bR"
    walk_at "aB"
    walk_at "ab"
    walk_at "ab"
    refine And.intro hcat2 ?_
    walk_at "ab"
    walk_at "ab"
    cases hr:ca n outs.length with
    |true=>
     walk_at "aM"
     walk_at "ab"
     walk_at "ab"
     refine And.intro (ba (Res.ok o.2)) ?_
     cases hcn:bF (Res.ok o.2) with
     |true=>
      first|refine ai ((aI (Res.ok o.2)).trans hcn) ?_|skip
      walk_at "ab"
      walk_at "ab"
      walk_at "bl"
      rw[hstep (Ex.lit n),kD ((show aq rs outs als false (Ex.lit n)=Res.ok o.2 from mw hr ho)) hcn] at go
      walk_at "ag"
      exact go
     |false=>
      first|refine aj ((aI (Res.ok o.2)).trans hcn) ?_|skip
      walk_at "ab"
      first|refine af (cI (Res.ok o.2)) ?_|skip
      refine And.intro (bw (Res.ok o.2)) ?_
      cases hno:Res.isNo (Res.ok o.2) with
      |true=>cases hno
      |false=>
       first|refine aj ((bj (Res.ok o.2)).trans hno) ?_|skip
       obtain⟨t0,hm⟩:=ez hno
       walk_at "bl"
       rw[hstep (Ex.lit n),kY (((show aq rs outs als false (Ex.lit n)=Res.ok o.2 from mw hr ho)).trans hm) (by rw[←hm];exact hcn)] at go
       have go2:∀L:List CV,L=t0.l→grpLp.spec cs [.ref 0,.v (.lst (rs.map Row.cv)),.v (.lst (outs.map am)),.v (.lst (als.map alT)),.ref 1,.v (.lst (([]).map Tag.c++[.tup L]))] [ak q2,.lst (([]++[(Ex.lit n)]).map Ex.d),.lst []] k X:=fun L hL=>by
        subst hL
        have go:grpLp.spec cs [.ref 0,.v (.lst (rs.map Row.cv)),.v (.lst (outs.map am)),.v (.lst (als.map alT)),.ref 1,.v (.lst (([]++[t0]).map Tag.c))] [ak q2,.lst (([]++[(Ex.lit n)]).map Ex.d),.lst []] k X:=go
        walk_at "br"
       walk_at "ab"
       walk_at "ab"
       walk_at "a5"
    |false=>
     have fin:∀(b:Bool),True:=fun _=>trivial
     cases hr1:decide (1≤n) with
     |false=>
      refine aj hr1 ?_
      walk_at "ab"
      refine And.intro (ba (Res.no (aH false (outs.map am).length))) ?_
      cases hcn:bF (Res.no (aH false (outs.map am).length)) with
      |true=>
       cases hcn
      |false=>
       first|refine aj ((aI (Res.no (aH false (outs.map am).length))).trans hcn) ?_|skip
       walk_at "ab"
       walk_at "aw"
     |true=>
      walk_at "aV"
      walk_at "ab"
      refine And.intro (ba (Res.no (aH false (outs.map am).length))) ?_
      cases hcn:bF (Res.no (aH false (outs.map am).length)) with
      |true=>
       cases hcn
      |false=>
       first|refine aj ((aI (Res.no (aH false (outs.map am).length))).trans hcn) ?_|skip
       walk_at "ab"
       walk_at "aw"
   ·have hch:GrpCh (.litS "q"):=.inr (.inl rfl)
    walk_at "ag"
    walk_at "ch"
    cases hcn:bF (Res.ok (Tag.valS "q")) with
    |true=>
     cases hcn
    |false=>
     walk_at "cV"
     walk_at "ab"
     walk_at "dr"
     cases hno:Res.isNo (Res.ok (Tag.valS "q")) with
     |true=>cases hno
     |false=>
      walk_at "cX"
      rw[hstep (Ex.litS "q"),kY (((show aq rs outs als false (Ex.litS "q")=Res.ok (Tag.valS "q") from rfl)).trans hm) (by rw[←hm];exact hcn)] at go
      have go2:∀L:List CV,L=t0.l→grpLp.spec cs [.ref 0,.v (.lst (rs.map Row.cv)),.v (.lst (outs.map am)),.v (.lst (als.map alT)),.ref 1,.v (.lst (([]).map Tag.c++[.tup L]))] [ak q,.lst (([]++[(Ex.litS "q")]).map Ex.d),.lst []] k X:=fun L hL=>by
       subst hL
       have go:grpLp.spec cs [.ref 0,.v (.lst (rs.map Row.cv)),.v (.lst (outs.map am)),.v (.lst (als.map alT)),.ref 1,.v (.lst (([]++[t0]).map Tag.c))] [ak q,.lst (([]++[(Ex.litS "q")]).map Ex.d),.lst []] k X:=go
       walk_at "br"
      walk_at "ab"
      walk_at "ab"
      walk_at "a5"
   ·refine⟨rfl,q,rfl,rfl,hq,fun t c q2 ht hc hq2=>?_⟩
    walk_at "c0"
    walk_at "aB"
    walk_at "cS"
    walk_at "ab"
    walk_at "ab"
    refine And.intro (ba (ac rs als t c)) ?_
    cases hcn:bF (ac rs als t c) with
    |true=>
     first|refine ai ((aI (ac rs als t c)).trans hcn) ?_|skip
     walk_at "ab"
     walk_at "ab"
     walk_at "bT"
     rw[hstep (Ex.nm t c),kD ((show aq rs outs als false (Ex.nm t c)=ac rs als t c from rfl)) hcn] at go
     walk_at "ag"
     exact go
    |false=>
     first|refine aj ((aI (ac rs als t c)).trans hcn) ?_|skip
     walk_at "ab"
     first|refine af (cI (ac rs als t c)) ?_|skip
     refine And.intro (bw (ac rs als t c)) ?_
     cases hno:Res.isNo (ac rs als t c) with
     |true=>
      first|refine ai ((bj (ac rs als t c)).trans hno) ?_|skip
      obtain⟨m,hm⟩:=eA hno
      walk_at "bT"
      rw[hstep (Ex.nm t c),kZ (((show aq rs outs als false (Ex.nm t c)=ac rs als t c from rfl)).trans hm)] at go
      have go2:∀L:List CV,L=bu (.no m)→grpLp.spec cs [.ref 0,.v (.lst (rs.map Row.cv)),.v (.lst (outs.map am)),.v (.lst (als.map alT)),.ref 1,.v (.tup L)] [ak q2,.lst (([]++[(Ex.nm t c)]).map Ex.d),.lst []] k X:=fun L hL=>by
       subst hL;exact go
      walk_at "a5"
     |false=>
      first|refine aj ((bj (ac rs als t c)).trans hno) ?_|skip
      obtain⟨t0,hm⟩:=ez hno
      walk_at "bT"
      rw[hstep (Ex.nm t c),kY (((show aq rs outs als false (Ex.nm t c)=ac rs als t c from rfl)).trans hm) (by rw[←hm];exact hcn)] at go
      have go2:∀L:List CV,L=t0.l→grpLp.spec cs [.ref 0,.v (.lst (rs.map Row.cv)),.v (.lst (outs.map am)),.v (.lst (als.map alT)),.ref 1,.v (.lst (([]).map Tag.c++[.tup L]))] [ak q2,.lst (([]++[(Ex.nm t c)]).map Ex.d),.lst []] k X:=fun L hL=>by
       subst hL
       have go:grpLp.spec cs [.ref 0,.v (.lst (rs.map Row.cv)),.v (.lst (outs.map am)),.v (.lst (als.map alT)),.ref 1,.v (.lst (([]++[t0]).map Tag.c))] [ak q2,.lst (([]++[(Ex.nm t c)]).map Ex.d),.lst []] k X:=go
       walk_at "br"
      walk_at "ab"
      walk_at "ab"
      walk_at "a5"
   ·refine And.intro (leB rfl) ?_
    walk_at "aW"
    walk_at "ab"
    walk_at "aB"
    walk_at "cq"
    walk_at "ab"
    walk_at "ab"
    refine And.intro (ba (ac rs als none c)) ?_
    cases hcn:bF (ac rs als none c) with
    |true=>
     first|refine ai ((aI (ac rs als none c)).trans hcn) ?_|skip
     walk_at "ab"
     walk_at "ab"
     walk_at "bL"
     rw[hstep (Ex.nm none c),kD ((show aq rs outs als false (Ex.nm none c)=ac rs als none c from rfl)) hcn] at go
     walk_at "ag"
     exact go
    |false=>
     first|refine aj ((aI (ac rs als none c)).trans hcn) ?_|skip
     walk_at "ab"
     first|refine af (cI (ac rs als none c)) ?_|skip
     refine And.intro (bw (ac rs als none c)) ?_
     cases hno:Res.isNo (ac rs als none c) with
     |true=>
      first|refine ai ((bj (ac rs als none c)).trans hno) ?_|skip
      obtain⟨m,hm⟩:=eA hno
      walk_at "bL"
      rw[hstep (Ex.nm none c),kZ (((show aq rs outs als false (Ex.nm none c)=ac rs als none c from rfl)).trans hm)] at go
      have go2:∀L:List CV,L=bu (.no m)→grpLp.spec cs [.ref 0,.v (.lst (rs.map Row.cv)),.v (.lst (outs.map am)),.v (.lst (als.map alT)),.ref 1,.v (.tup L)] [ak q2,.lst (([]++[(Ex.nm none c)]).map Ex.d),.lst []] k X:=fun L hL=>by
       subst hL;exact go
      walk_at "a5"
     |false=>
      first|refine aj ((bj (ac rs als none c)).trans hno) ?_|skip
      obtain⟨t0,hm⟩:=ez hno
      walk_at "bL"
      rw[hstep (Ex.nm none c),kY (((show aq rs outs als false (Ex.nm none c)=ac rs als none c from rfl)).trans hm) (by rw[←hm];exact hcn)] at go
      have go2:∀L:List CV,L=t0.l→grpLp.spec cs [.ref 0,.v (.lst (rs.map Row.cv)),.v (.lst (outs.map am)),.v (.lst (als.map alT)),.ref 1,.v (.lst (([]).map Tag.c++[.tup L]))] [ak q2,.lst (([]++[(Ex.nm none c)]).map Ex.d),.lst []] k X:=fun L hL=>by
       subst hL
       have go:grpLp.spec cs [.ref 0,.v (.lst (rs.map Row.cv)),.v (.lst (outs.map am)),.v (.lst (als.map alT)),.ref 1,.v (.lst (([]++[t0]).map Tag.c))] [ak q2,.lst (([]++[(Ex.nm none c)]).map Ex.d),.lst []] k X:=go
       walk_at "br"
      walk_at "ab"
      walk_at "ab"
      walk_at "a5"
  |[g],false,hf,_,hg,mk=>
   have hcat2:("2nd" : Str).length+(" GROUP BY term out of range - should be between 1 and " ++ bv ((outs.map am).length:Int):Str).length≤1000:=by omega
   cases hD:aW rs outs als [g] with
   |no m=>
    have hstay:∀{e},aW rs outs als ([g]++[e])=.no m:=fun {e}=>by
     show aQ rs outs als true (aQ rs outs als false (.ok []) g) e=_
     rw[show aQ rs outs als false (.ok []) g=.no m from hD];rfl
    walk_at "bE"
    ·refine⟨rfl,q,5,rfl,rfl,hq,by decide,by decide,fun n q2 hq2 n0 n1=>?_⟩
     walk_at "bR"
     walk_at "aB"
     walk_at "ab"
     walk_at "ab"
     refine And.intro hcat2 ?_
     walk_at "ab"
     walk_at "ab"
     cases hr:ca n outs.length with
     |true=>
      walk_at "aM"
      walk_at "ab"
      walk_at "ab"
      refine And.intro (ba (Res.ok o.2)) ?_
      cases hcn:bF (Res.ok o.2) with
      |true=>
       first|refine ai ((aI (Res.ok o.2)).trans hcn) ?_|skip
       walk_at "ab"
       walk_at "ab"
       walk_at "bl"
       walk_at "cb"
      |false=>
       first|refine aj ((aI (Res.ok o.2)).trans hcn) ?_|skip
       walk_at "ab"
       walk_at "bl"
       walk_at "cb"
     |false=>
      have fin:∀(b:Bool),True:=fun _=>trivial
      cases hr1:decide (1≤n) with
      |false=>
       refine aj hr1 ?_
       walk_at "ab"
       walk_at "ca"
       cases hcn:bF (Res.no (aH true (outs.map am).length)) with
       |true=>
        cases hcn
       |false=>
        walk_at "bS"
        walk_at "ab"
        walk_at "bl"
        walk_at "cb"
      |true=>
       walk_at "aV"
       walk_at "ab"
       walk_at "ca"
       cases hcn:bF (Res.no (aH true (outs.map am).length)) with
       |true=>
        cases hcn
       |false=>
        walk_at "bS"
        walk_at "ab"
        walk_at "bl"
        walk_at "cb"
    ·have hch:GrpCh (.litS "q"):=.inr (.inl rfl)
     walk_at "ag"
     walk_at "ch"
     cases hcn:bF (Res.ok (Tag.valS "q")) with
     |true=>
      cases hcn
     |false=>
      walk_at "cV"
      walk_at "ab"
      have go:=mk (Ex.litS "q") hch q hq
      walk_at "cb"
    ·refine⟨rfl,q,rfl,rfl,hq,fun t c q2 ht hc hq2=>?_⟩
     walk_at "c0"
     walk_at "aB"
     walk_at "cS"
     walk_at "ab"
     walk_at "ab"
     refine And.intro (ba (ac rs als t c)) ?_
     cases hcn:bF (ac rs als t c) with
     |true=>
      first|refine ai ((aI (ac rs als t c)).trans hcn) ?_|skip
      walk_at "ab"
      walk_at "ab"
      walk_at "bT"
      walk_at "cb"
     |false=>
      first|refine aj ((aI (ac rs als t c)).trans hcn) ?_|skip
      walk_at "ab"
      walk_at "bT"
      walk_at "cb"
    ·refine And.intro (leB rfl) ?_
     walk_at "aW"
     walk_at "ab"
     walk_at "aB"
     walk_at "cq"
     walk_at "ab"
     walk_at "ab"
     refine And.intro (ba (ac rs als none c)) ?_
     cases hcn:bF (ac rs als none c) with
     |true=>
      first|refine ai ((aI (ac rs als none c)).trans hcn) ?_|skip
      walk_at "ab"
      walk_at "ab"
      walk_at "bL"
      walk_at "cb"
     |false=>
      first|refine aj ((aI (ac rs als none c)).trans hcn) ?_|skip
      walk_at "ab"
      walk_at "bL"
      walk_at "cb"
   |ok l=>
    have hll:l.length≤1:=by
     have hD:aQ rs outs als false (.ok []) g=.ok l:=hD
     unfold aQ at hD
     simp only at hD
     split at hD
     ·cases hD
     ·cases hD;exact leB rfl
    have hstep:∀e,aW rs outs als ([g]++[e])=aQ rs outs als true (.ok l) e:=fun e=>by
     show aQ rs outs als true (aQ rs outs als false (.ok []) g) e=_
     rw[show aQ rs outs als false (.ok []) g=.ok l from hD]
    walk_at "bE"
    ·refine⟨rfl,q,5,rfl,rfl,hq,by decide,by decide,fun n q2 hq2 n0 n1=>?_⟩
     walk_at "bR"
     walk_at "aB"
     walk_at "ab"
     walk_at "ab"
     refine And.intro hcat2 ?_
     walk_at "ab"
     walk_at "ab"
     cases hr:ca n outs.length with
     |true=>
      walk_at "aM"
      walk_at "ab"
      walk_at "ab"
      refine And.intro (ba (Res.ok o.2)) ?_
      cases hcn:bF (Res.ok o.2) with
      |true=>
       first|refine ai ((aI (Res.ok o.2)).trans hcn) ?_|skip
       walk_at "ab"
       walk_at "ab"
       walk_at "bl"
       rw[hstep (Ex.lit n),kD ((show aq rs outs als true (Ex.lit n)=Res.ok o.2 from mw hr ho)) hcn] at go
       walk_at "ag"
       exact go
      |false=>
       first|refine aj ((aI (Res.ok o.2)).trans hcn) ?_|skip
       walk_at "ab"
       first|refine af (cI (Res.ok o.2)) ?_|skip
       refine And.intro (bw (Res.ok o.2)) ?_
       cases hno:Res.isNo (Res.ok o.2) with
       |true=>cases hno
       |false=>
        first|refine aj ((bj (Res.ok o.2)).trans hno) ?_|skip
        obtain⟨t0,hm⟩:=ez hno
        walk_at "bl"
        rw[hstep (Ex.lit n),kY (((show aq rs outs als true (Ex.lit n)=Res.ok o.2 from mw hr ho)).trans hm) (by rw[←hm];exact hcn)] at go
        have go2:∀L:List CV,L=t0.l→grpLp.spec cs [.ref 0,.v (.lst (rs.map Row.cv)),.v (.lst (outs.map am)),.v (.lst (als.map alT)),.ref 1,.v (.lst ((l).map Tag.c++[.tup L]))] [ak q2,.lst (([g]++[(Ex.lit n)]).map Ex.d),.lst []] k X:=fun L hL=>by
         subst hL
         have go:grpLp.spec cs [.ref 0,.v (.lst (rs.map Row.cv)),.v (.lst (outs.map am)),.v (.lst (als.map alT)),.ref 1,.v (.lst ((l++[t0]).map Tag.c))] [ak q2,.lst (([g]++[(Ex.lit n)]).map Ex.d),.lst []] k X:=go
         walk_at "br"
        walk_at "ab"
        walk_at "bC"
        walk_at "a5"
     |false=>
      have fin:∀(b:Bool),True:=fun _=>trivial
      cases hr1:decide (1≤n) with
      |false=>
       refine aj hr1 ?_
       walk_at "ab"
       walk_at "ca"
       cases hcn:bF (Res.no (aH true (outs.map am).length)) with
       |true=>
        cases hcn
       |false=>
        walk_at "bS"
        walk_at "ab"
        walk_at "ax"
      |true=>
       walk_at "aV"
       walk_at "ab"
       walk_at "ca"
       cases hcn:bF (Res.no (aH true (outs.map am).length)) with
       |true=>
        cases hcn
       |false=>
        walk_at "bS"
        walk_at "ab"
        walk_at "ax"
    ·have hch:GrpCh (.litS "q"):=.inr (.inl rfl)
     walk_at "ag"
     walk_at "ch"
     cases hcn:bF (Res.ok (Tag.valS "q")) with
     |true=>
      cases hcn
     |false=>
      walk_at "cV"
      walk_at "ab"
      walk_at "dr"
      cases hno:Res.isNo (Res.ok (Tag.valS "q")) with
      |true=>cases hno
      |false=>
       walk_at "cX"
       rw[hstep (Ex.litS "q"),kY (((show aq rs outs als true (Ex.litS "q")=Res.ok (Tag.valS "q") from rfl)).trans hm) (by rw[←hm];exact hcn)] at go
       have go2:∀L:List CV,L=t0.l→grpLp.spec cs [.ref 0,.v (.lst (rs.map Row.cv)),.v (.lst (outs.map am)),.v (.lst (als.map alT)),.ref 1,.v (.lst ((l).map Tag.c++[.tup L]))] [ak q,.lst (([g]++[(Ex.litS "q")]).map Ex.d),.lst []] k X:=fun L hL=>by
        subst hL
        have go:grpLp.spec cs [.ref 0,.v (.lst (rs.map Row.cv)),.v (.lst (outs.map am)),.v (.lst (als.map alT)),.ref 1,.v (.lst ((l++[t0]).map Tag.c))] [ak q,.lst (([g]++[(Ex.litS "q")]).map Ex.d),.lst []] k X:=go
        walk_at "br"
       walk_at "ab"
       walk_at "bC"
       walk_at "a5"
    ·refine⟨rfl,q,rfl,rfl,hq,fun t c q2 ht hc hq2=>?_⟩
     walk_at "c0"
     walk_at "aB"
     walk_at "cS"
     walk_at "ab"
     walk_at "ab"
     refine And.intro (ba (ac rs als t c)) ?_
     cases hcn:bF (ac rs als t c) with
     |true=>
      first|refine ai ((aI (ac rs als t c)).trans hcn) ?_|skip
      walk_at "ab"
      walk_at "ab"
      walk_at "bT"
      rw[hstep (Ex.nm t c),kD ((show aq rs outs als true (Ex.nm t c)=ac rs als t c from rfl)) hcn] at go
      walk_at "ag"
      exact go
     |false=>
      first|refine aj ((aI (ac rs als t c)).trans hcn) ?_|skip
      walk_at "ab"
      first|refine af (cI (ac rs als t c)) ?_|skip
      refine And.intro (bw (ac rs als t c)) ?_
      cases hno:Res.isNo (ac rs als t c) with
      |true=>
       first|refine ai ((bj (ac rs als t c)).trans hno) ?_|skip
       obtain⟨m,hm⟩:=eA hno
       walk_at "bT"
       rw[hstep (Ex.nm t c),kZ (((show aq rs outs als true (Ex.nm t c)=ac rs als t c from rfl)).trans hm)] at go
       have go2:∀L:List CV,L=bu (.no m)→grpLp.spec cs [.ref 0,.v (.lst (rs.map Row.cv)),.v (.lst (outs.map am)),.v (.lst (als.map alT)),.ref 1,.v (.tup L)] [ak q2,.lst (([g]++[(Ex.nm t c)]).map Ex.d),.lst []] k X:=fun L hL=>by
        subst hL;exact go
       walk_at "a5"
      |false=>
       first|refine aj ((bj (ac rs als t c)).trans hno) ?_|skip
       obtain⟨t0,hm⟩:=ez hno
       walk_at "bT"
       rw[hstep (Ex.nm t c),kY (((show aq rs outs als true (Ex.nm t c)=ac rs als t c from rfl)).trans hm) (by rw[←hm];exact hcn)] at go
       have go2:∀L:List CV,L=t0.l→grpLp.spec cs [.ref 0,.v (.lst (rs.map Row.cv)),.v (.lst (outs.map am)),.v (.lst (als.map alT)),.ref 1,.v (.lst ((l).map Tag.c++[.tup L]))] [ak q2,.lst (([g]++[(Ex.nm t c)]).map Ex.d),.lst []] k X:=fun L hL=>by
        subst hL
        have go:grpLp.spec cs [.ref 0,.v (.lst (rs.map Row.cv)),.v (.lst (outs.map am)),.v (.lst (als.map alT)),.ref 1,.v (.lst ((l++[t0]).map Tag.c))] [ak q2,.lst (([g]++[(Ex.nm t c)]).map Ex.d),.lst []] k X:=go
        walk_at "br"
       walk_at "ab"
       walk_at "bC"
       walk_at "a5"
    ·refine And.intro (leB rfl) ?_
     walk_at "aW"
     walk_at "ab"
     walk_at "aB"
     walk_at "cq"
     walk_at "ab"
     walk_at "ab"
     refine And.intro (ba (ac rs als none c)) ?_
     cases hcn:bF (ac rs als none c) with
     |true=>
      first|refine ai ((aI (ac rs als none c)).trans hcn) ?_|skip
      walk_at "ab"
      walk_at "ab"
      walk_at "bL"
      rw[hstep (Ex.nm none c),kD ((show aq rs outs als true (Ex.nm none c)=ac rs als none c from rfl)) hcn] at go
      walk_at "ag"
      exact go
     |false=>
      first|refine aj ((aI (ac rs als none c)).trans hcn) ?_|skip
      walk_at "ab"
      first|refine af (cI (ac rs als none c)) ?_|skip
      refine And.intro (bw (ac rs als none c)) ?_
      cases hno:Res.isNo (ac rs als none c) with
      |true=>
       first|refine ai ((bj (ac rs als none c)).trans hno) ?_|skip
       obtain⟨m,hm⟩:=eA hno
       walk_at "bL"
       rw[hstep (Ex.nm none c),kZ (((show aq rs outs als true (Ex.nm none c)=ac rs als none c from rfl)).trans hm)] at go
       have go2:∀L:List CV,L=bu (.no m)→grpLp.spec cs [.ref 0,.v (.lst (rs.map Row.cv)),.v (.lst (outs.map am)),.v (.lst (als.map alT)),.ref 1,.v (.tup L)] [ak q2,.lst (([g]++[(Ex.nm none c)]).map Ex.d),.lst []] k X:=fun L hL=>by
        subst hL;exact go
       walk_at "a5"
      |false=>
       first|refine aj ((bj (ac rs als none c)).trans hno) ?_|skip
       obtain⟨t0,hm⟩:=ez hno
       walk_at "bL"
       rw[hstep (Ex.nm none c),kY (((show aq rs outs als true (Ex.nm none c)=ac rs als none c from rfl)).trans hm) (by rw[←hm];exact hcn)] at go
       have go2:∀L:List CV,L=t0.l→grpLp.spec cs [.ref 0,.v (.lst (rs.map Row.cv)),.v (.lst (outs.map am)),.v (.lst (als.map alT)),.ref 1,.v (.lst ((l).map Tag.c++[.tup L]))] [ak q2,.lst (([g]++[(Ex.nm none c)]).map Ex.d),.lst []] k X:=fun L hL=>by
        subst hL
        have go:grpLp.spec cs [.ref 0,.v (.lst (rs.map Row.cv)),.v (.lst (outs.map am)),.v (.lst (als.map alT)),.ref 1,.v (.lst ((l++[t0]).map Tag.c))] [ak q2,.lst (([g]++[(Ex.nm none c)]).map Ex.d),.lst []] k X:=go
        walk_at "br"
       walk_at "ab"
       walk_at "bC"
       walk_at "a5"
 ·refine⟨q,rs,outs,als,[],true,hq,hl,hr,ho,hal,hash,fun e h=>(nomatch h),?_,?_,⟨fun _=>rfl,fun _=>rfl⟩,rfl,rfl,fun gs' q' h1 h2 h3=>?_⟩
  ·rw[List.length_map,List.length_range];simp only[List.length_nil];omega
  ·rw[List.length_map,List.length_range,List.range_eq_range']
   rfl
  ·rw[List.length_map,List.length_range] at h1
   have hh:=h gs' q' (by simp only[List.length_nil] at h1;omega) h2 h3
   cases gs' with
   |nil=>
    walk_at "ab"
    exact hh
   |cons g gs'=>
    walk_at "ab"
    exact hh
def ut:aE:=fun args kws M k X=>kws=[]∧∃(p:Int×Int) (rs:List Row) (outs:List br) (als:List AlT),args=[.ref 0,.v (.lst (rs.map Row.cv)),.v (.lst (outs.map am)),.v (.lst (als.map alT))]∧M=[ak p]∧au p∧rs.length≤900∧(∀r∈rs,cO r)∧outs.length≤50∧als.length≤900∧(∀a∈als,Sh a.1) ∧
 ∀(gs:List Ex) (q:Int×Int),gs.length≤2→(∀e∈gs,GrpCh e)→au q→k (.v (.tup [.lst (gs.map Ex.d),vK (aW rs outs als gs)])) [ak q]
theorem n9{D:Wd}(h:Ok D):SpecOk D 131 1576 ut:=(ah (e9 h) (w9 h)).less fun args kws M k X z=>by
 obtain⟨rfl,p,rs,outs,als,rfl,rfl,hp,h1,h2,h3,h4,h5,z⟩:=z
 exact ar rfl (qx _ p rs outs als k X hp h1 h2 h3 h4 h5 z)
def uO(P:Params):Tb:=aD (y5 P) 1576 ut
theorem w0{D:Wd}(h:Ok D):TbOk D 131 (uO D.w.params):=(w9 h).add (n9 h) (e9 h).keep
theorem vq(n:Nat):iB (iB n)=iB n:=by
 by_cases h:65≤n∧n≤90
 ·rw[uc h.1 h.2];exact gI (by omega)
 ·rw[gI h];exact gI h
theorem kx(s:Str):ae (ae s)=ae s:=by
 unfold ae
 congr 2
 simp only[List.map_map]
 exact List.map_congr_left fun n _=>vq n
structure ni(r:Row)(s:SrcR)(i:Nat):Prop where
 num:s.num=i
 alias:s.alias=r.alias
 cols:s.cols=r.names.map c9
 us:s.us=r.us
def SrcsR:List Row→List SrcR→Nat→Prop
 |[],[],_=>True
 |r::rs,s::ss,i=>ni r s i∧SrcsR rs ss (i+1)
 |_,_,_=>False
theorem eu{nm:Str}:∀{l:List Str} {i:Nat},aU nm (l.map c9) i=bI nm (l.map ae) i
 |[],_=>rfl
 |a::l,i=>by
  show (bif sEq (ae a) nm then some i else aU nm (l.map c9) (i+1))=(bif sEq (ae a) nm then some i else bI nm (l.map ae) (i+1))
  rw[eu]
theorem fK{r:Row}{s:SrcR}{i:Nat}(h:ni r s i)(t:Str):dc s (ae t)=cE r.alias t:=by
 unfold dc cE
 rw[h.alias]
 all_goals (cases r.alias<;>rfl)
theorem mJ{tbl:Option Str}{col:Str}:∀{rs:List Row} {ss:List SrcR} {i:Nat},SrcsR rs ss i →
  (bJ (tbl.map ae) (ae col) ss).map (fun p=>(p.1.num,(p.2:Int)))=(aL tbl col rs i).map (fun q=>((q.1:Int),(q.2:Int)))
 |[],[],_,_=>rfl
 |r::rs,s::ss,i,h=>by
  have ih:=mJ (tbl:=tbl) (col:=col) h.2
  have h1:=h.1
  have hp:aU (ae col) s.cols 0=bI (ae col) (r.names.map ae) 0:=by rw[h1.cols];exact eu
  unfold aL
  cases tbl with
  |none=>
   show (bJ none (ae col) (s::ss)).map _=_
   have ih:(bJ none (ae col) ss).map (fun p=>(p.1.num,(p.2:Int)))=_:=ih
   cases hb:inC (.str (ae col)) (s.us.map ag) with
   |true=>
    rw[mG hb,show here none col r=false by show (!inC (.str (ae col)) (r.us.map ag))=false;rw[←h1.us,hb];rfl,cond_false]
    exact ih
   |false=>
    rw[n8 hb,show here none col r=true by show (!inC (.str (ae col)) (r.us.map ag))=true;rw[←h1.us,hb];rfl,cond_true,hp]
    walk_at "c7"
  |some t=>
   show (bJ (some (ae t)) (ae col) (s::ss)).map _=_
   have ih:(bJ (some (ae t)) (ae col) ss).map (fun p=>(p.1.num,(p.2:Int)))=_:=ih
   cases hb:dc s (ae t) with
   |false=>
    rw[mH hb,show here (some t) col r=false by show cE r.alias t=false;rw[←fK h1,hb],cond_false]
    exact ih
   |true=>
    rw[uq hb,show here (some t) col r=true by show cE r.alias t=true;rw[←fK h1,hb],cond_true,hp]
    walk_at "c7"
theorem wu{tbl:Option Str}{col:Str}{p:SrcR×Nat}(h:∃c,p.1.cols[p.2]?=some c):bL (vS tbl col p)=.tup [.str "column",.int p.1.num,.int p.2]:=by
 obtain⟨c,h⟩:=h
 unfold vS
 rw[h];rfl
def same(a:Res RE)(b:Res Tag):Prop:=match a,b with
 |.no m,.no m'=>m=m'
 |.ok re,.ok t=>bL re=t.c
 |_,_=>False
def tN:List AlR→List AlT→Prop
 |[],[]=>True
 |a::r,b::s=>(a.1=b.1∧bL a.2.1=b.2.c)∧tN r s
 |_,_=>False
theorem og{col:Str}:∀{als:List AlR} {alt:List AlT},tN als alt→match fT (ae col) als,dY none col alt with
  |none,[]=>True
  |some re,t::_=>bL re=t.c
  |_,_=>False
 |[],[],_=>trivial
 |a::als,b::alt,h=>by
  have ih:=og (col:=col) h.2
  obtain⟨e1,e2⟩:=h.1
  unfold fT dY
  rw[e1]
  show match (bif sEq (ae b.1) (ae col) then some a.2.1 else fT (ae col) als),(bif sEq (ae b.1) (ae col) then b.2::dY none col alt else dY none col alt) with
   |none,[]=>True
   |some re,t::_=>bL re=t.c
   |_,_=>False
  cases sEq (ae b.1) (ae col) with
  |true=>exact e2
  |false=>exact ih
theorem ou{t:Str}{col:Str}:∀alt:List AlT,dY (some t) col alt=[]
 |[]=>rfl
 |a::r=>ou r
theorem kv{rs:List Row}{ss:List SrcR}{als:List AlR}{alt:List AlT}{tbl:Option Str}{col:Str}(h:SrcsR rs ss 0)(ha:tN als alt):same (eR ss als tbl col) (ac rs alt tbl col):=by
 have hf:=mJ (tbl:=tbl) (col:=col) h
 have hm:∀p∈bJ (tbl.map ae) (ae col) ss,∃c,p.1.cols[p.2]?=some c:=fun p hp=>(iq hp).2
 unfold eR ac
 generalize bJ (tbl.map ae) (ae col) ss=hs at hf hm ⊢
 generalize aL tbl col rs 0=fs at hf ⊢
 match hs,fs,hf,hm with
 |[],[],_,_=>
  cases tbl with
  |some t=>simp only[ou];exact rfl
  |none=>
   have hh:=og (col:=col) ha
   simp only
   cases h1:fT (ae col) als with
   |none=>
    rw[h1] at hh
    cases h2:dY none col alt with
    |nil=>exact rfl
    |cons t r=>rw[h2] at hh;exact hh.elim
   |some re=>
    rw[h1] at hh
    cases h2:dY none col alt with
    |nil=>rw[h2] at hh;exact hh.elim
    |cons t r=>rw[h2] at hh;exact hh
 |[p],[q],hf,hm=>
  simp only[List.map_cons,List.map_nil,List.cons.injEq,Prod.mk.injEq,and_true] at hf
  show bL (vS tbl col p)=(Tag.col q.1 q.2).c
  rw[wu (hm p (.head _)),hf.1,hf.2];rfl
 |p::p2::r,q::q2::r2,_,_=>exact rfl
 |[],_::_,hf,_=>cases hf
 |_::_,[],hf,_=>cases hf
 |[_],_::_::_,hf,_=>simp at hf
 |_::_::_,[_],hf,_=>simp at hf
def OutsR:List Out→List br→Prop
 |[],[]=>True
 |a::r,b::s=>(a.1=b.1∧bL a.2=b.2.c)∧OutsR r s
 |_,_=>False
theorem OutsR.app:∀{a:List Out} {b:List br} {c:List Out} {d:List br},OutsR a b→OutsR c d→OutsR (a++c) (b++d)
 |[],[],_,_,_,h=>h
 |_::_,_::_,_,_,h,k=>⟨h.1,h.2.app k⟩
theorem OutsR.told:∀{a:List Out} {b:List br},OutsR a b→a.map tR=b.map bf
 |[],[],_=>rfl
 |a::r,b::s,h=>by
  rw[List.map_cons,List.map_cons,h.2.told]
  unfold tR bf
  rw[h.1.1,h.1.2]
theorem OutsR.len:∀{a:List Out} {b:List br},OutsR a b→a.length=b.length
 |[],[],_=>rfl
 |a::r,b::s,h=>by rw[List.length_cons,List.length_cons,h.2.len]
theorem iH{r:Row}{s:SrcR}{i:Nat}{tbl:Option Str}(h:ni r s i):∀{l:List Str} {j:Nat},OutsR (aO (tbl.map ae) s (l.map c9) j) (b0 tbl r.us i l j)
 |[],_=>trivial
 |a::l,j=>by
  have ih:=iH (tbl:=tbl) h (l:=l) (j:=j+1)
  rw[List.map_cons,cC,ew]
  have e:((tbl.map ae).isSome || !inC (.str (ae (c9 a).1)) (s.us.map ag))=(tbl.isSome || !inC (.str (ae a)) (r.us.map ag)):=by
   rw[h.us];cases tbl<;>rfl
  rw[e]
  cases (tbl.isSome || !inC (.str (ae a)) (r.us.map ag)) with
  |true=>exact⟨⟨rfl,by show CV.tup [.str "column",.int s.num,.int j]=_;rw[h.num];rfl⟩,ih⟩
  |false=>exact ih
theorem pC{r:Row}{s:SrcR}{i:Nat}{tbl:Option Str}(h:ni r s i):a7 (tbl.map ae) s=eT tbl r:=by
 cases tbl with
 |none=>rfl
 |some t=>exact fK h t
theorem i3{tbl:Option Str}:∀{rs:List Row} {ss:List SrcR} {i:Nat},SrcsR rs ss i→OutsR (bV (tbl.map ae) ss) (bi tbl rs i)
 |[],[],_,_=>trivial
 |r::rs,s::ss,i,h=>by
  have ih:=i3 (tbl:=tbl) h.2
  rw[i4,gH,pC h.1]
  cases eT tbl r with
  |true=>
   rw[cond_true,cond_true,h.1.cols]
   exact(iH h.1).app ih
  |false=>exact ih
theorem q9{tbl:Option Str}:∀{rs:List Row} {ss:List SrcR} {i:Nat},SrcsR rs ss i→ss.any (a7 (tbl.map ae))=rs.any (eT tbl)
 |[],[],_,_=>rfl
 |r::rs,s::ss,i,h=>by rw[List.any_cons,List.any_cons,pC h.1,q9 h.2]
def BE(a:Res (List Out))(b:Res (List br)):Prop:=match a,b with
 |.no m,.no m'=>m=m'
 |.ok o,.ok l=>OutsR o l
 |_,_=>False
theorem u4{rs:List Row}{ss:List SrcR}{tbl:Option Str}(h:SrcsR rs ss 0):BE (en ss tbl) (dL rs tbl):=by
 match rs,ss,h with
 |[],[],_=>exact rfl
 |r::rs,s::ss,h=>
  show BE (bif (s::ss).any (a7 (tbl.map ae)) then .ok (bV (tbl.map ae) (s::ss)) else .no ("no such table: " ++ tbl.getD "")) (bif (r::rs).any (eT tbl) then .ok (bi tbl (r::rs) 0) else .no ("no such table: " ++ tbl.getD ""))
  rw[q9 h]
  cases (r::rs).any (eT tbl) with
  |true=>exact i3 h
  |false=>exact rfl
theorem md:∀{rs:List Row} {ss:List SrcR} {i n j:Nat} {r:Row} {nm:Str},SrcsR rs ss i→i≤n→rs[n - i]?=some r→r.names[j]?=some nm→ge n j ss=some nm
 |[],_,i,n,j,r,nm,h,hi,hr,hn=>by cases hr
 |r0::rs,s::ss,i,n,j,r,nm,h,hi,hr,hn=>by
  unfold ge
  by_cases e:i=n
  ·subst e
   rw[Nat.sub_self] at hr
   cases hr
   rw[decide_eq_true (by rw[h.1.num]),cond_true,h.1.cols,List.getElem?_map,hn]
   rfl
  ·rw[decide_eq_false (by rw[h.1.num];omega),cond_false]
   refine md h.2 (by omega) ?_ hn
   rw[show n - i=(n - (i+1))+1 by omega] at hr
   simpa using hr
def AlnR:List AlN→List AlT→Prop
 |[],[]=>True
 |a::r,b::s=>(a.1=b.1∧bL a.2=b.2.c)∧AlnR r s
 |_,_=>False
theorem AlnR.snoc:∀{a:List AlN} {b:List AlT} {x:AlN} {y:AlT},AlnR a b→x.1=y.1→bL x.2=y.2.c→AlnR (a++[x]) (b++[y])
 |[],[],_,_,_,e1,e2=>⟨⟨e1,e2⟩,trivial⟩
 |_::_,_::_,_,_,h,e1,e2=>⟨h.1,h.2.snoc e1 e2⟩
theorem AlnR.als:∀{als:List AlR} {alt:List AlT},AlnR (als.map pj) alt→tN als alt
 |[],[],_=>trivial
 |a::r,b::s,h=>⟨h.1,AlnR.als (als:=r) h.2⟩
def ExQ:Ex→Prop
 |.litS _=>False
 |_=>True
def Il:ColE→Prop
 |.star _=>True
 |.ex e _=>ExQ e
theorem At{rs:List Row}{ss:List SrcR}{e:Ex}{al:Option Str}(h:SrcsR rs ss 0)(q:ExQ e):match exE ss [] e,aX rs (.ex e al) with
  |.no m,.no m'=>m=m'
  |.ok re,.ok [o]=>onm ss al re=o.1∧bL re=o.2.c∧bO rs (.ex e al)=al
  |_,_=>False:=by
 cases e with
 |lit i=>exact⟨by cases al<;>rfl,rfl,rfl⟩
 |litS s=>exact q.elim
 |cnt=>exact⟨by cases al<;>rfl,rfl,rfl⟩
 |nm t c=>
  have hs:=kv (als:=[]) (alt:=[]) (tbl:=t) (col:=c) h trivial
  have e1:exE ss [] (.nm t c)=eR ss [] t c:=rfl
  have e2:aX rs (.ex (.nm t c) al)=match ac rs [] t c with|.no m=>.no m|.ok tag=>.ok [(al.getD (fL rs tag),tag)]:=rfl
  have e3:bO rs (.ex (.nm t c) al)=match aX rs (.ex (.nm t c) al) with|.no _=>none|.ok _=>al:=rfl
  rw[e3,e1,e2]
  cases h1:eR ss [] t c with
  |no m=>
   rw[h1] at hs
   cases h2:ac rs [] t c with
   |no m'=>rw[h2] at hs;exact hs
   |ok tag=>rw[h2] at hs;exact hs.elim
  |ok re=>
   rw[h1] at hs
   cases h2:ac rs [] t c with
   |no m'=>rw[h2] at hs;exact hs.elim
   |ok tag=>
    rw[h2] at hs
    have hs:bL re=tag.c:=hs
    obtain⟨i,j,r,s,rfl,hr,hn⟩:=il h2
    refine⟨?_,hs,rfl⟩
    cases al with
    |some a=>rfl
    |none=>
     show onm ss none re=fL rs (.col i j)
     have e4:fL rs (.col i j)=s:=by show ((rs[i]?).bind (fun r=>r.names[j]?)).getD "" = s;rw[hr];show (r.names[j]?).getD "" = s;rw[hn];rfl
     rw[e4]
     cases re with
     |lit i=>simp[bL,Tag.c] at hs
     |litS s=>simp[bL,Tag.c] at hs
     |cnt=>simp[bL,Tag.c] at hs
     |nm t' c' n j' a b=>
      walk_at "dm"
      show (ge n j'.toNat ss).getD "" = s
      rw[e5,e6,Int.toNat_natCast,md h (Nat.zero_le _) hr hn];rfl
theorem ph{rs:List Row}{m:Str}{als:List AlT}:∀cols:List ColE,cols.foldl (aV rs) ⟨.no m,als⟩=⟨.no m,als⟩
 |[]=>rfl
 |c::cols=>by
  rw[List.foldl_cons]
  exact ph cols
theorem kl{rs:List Row}{ss:List SrcR}(h:SrcsR rs ss 0):∀{cols:List ColE} {o:List Out} {a:List AlN} {l:List br} {als:List AlT},(∀c∈cols,Il c)→OutsR o l→AlnR a als →
  match dh ss cols o a,cols.foldl (aV rs) ⟨.ok l,als⟩ with
  |.no m,⟨.no m',_⟩=>m=m'
  |.ok r,⟨.ok l',als'⟩=>OutsR r.1 l'∧AlnR r.2 als'
  |_,_=>False
 |[],o,a,l,als,_,ho,ha=>⟨ho,ha⟩
 |.star t::cols,o,a,l,als,hq,ho,ha=>by
  have hs:=u4 (tbl:=t) h
  rw[List.foldl_cons]
  unfold dh
  have e:aV rs ⟨.ok l,als⟩ (.star t)=match dL rs t with
    |.no m=>⟨.no m,als⟩
    |.ok l2=>⟨.ok (l++l2),als⟩:=rfl
  rw[e]
  cases h1:en ss t with
  |no m=>
   rw[h1] at hs
   cases h2:dL rs t with
   |no m'=>rw[h2] at hs;simp only;rw[ph];exact hs
   |ok l2=>rw[h2] at hs;exact hs.elim
  |ok o2=>
   rw[h1] at hs
   cases h2:dL rs t with
   |no m'=>rw[h2] at hs;exact hs.elim
   |ok l2=>rw[h2] at hs;exact kl h (fun c hc=>hq c (.tail _ hc)) (ho.app hs) ha
 |.ex e al::cols,o,a,l,als,hq,ho,ha=>by
  have hs:=At (al:=al) h (hq _ (.head _))
  rw[List.foldl_cons]
  unfold dh
  have he:aV rs ⟨.ok l,als⟩ (.ex e al)=match aX rs (.ex e al) with
    |.no m=>⟨.no m,als⟩
    |.ok l2=>⟨.ok (l++l2),ri (bO rs (.ex e al)) l2 als⟩:=rfl
  rw[he]
  cases h1:exE ss [] e with
  |no m=>
   rw[h1] at hs
   cases h2:aX rs (.ex e al) with
   |no m'=>rw[h2] at hs;simp only;rw[ph];exact hs
   |ok l2=>rw[h2] at hs;exact hs.elim
  |ok re=>
   rw[h1] at hs
   cases h2:aX rs (.ex e al) with
   |no m'=>rw[h2] at hs;exact hs.elim
   |ok l2=>
    rw[h2] at hs
    match l2,hs with
    |[o1],hs=>
     obtain⟨e1,e2,e3⟩:=hs
     rw[e3]
     refine kl h (fun c hc=>hq c (.tail _ hc)) (ho.app (c:=[(onm ss al re,re)]) (d:=[o1]) ⟨⟨e1,e2⟩,trivial⟩) ?_
     cases al with
     |none=>exact ha
     |some x=>exact ha.snoc rfl e2
    |[],hs=>exact hs.elim
    |_::_::_,hs=>exact hs.elim
theorem ui{re:RE}{t:Tag}(h:bL re=t.c):re.isC=bF (.ok t):=by
 cases re<;>cases t<;>first|rfl|(simp[bL,Tag.c] at h)
theorem rQ(a b c:Str):a++b++c=a++(b++c):=by
 show Str.mk (a.cps++b.cps++c.cps)=Str.mk (a.cps++(b.cps++c.cps))
 rw[Array.append_assoc]
theorem Dc(two:Bool)(len:Nat):kO two len=aH two len:=by
 have e0:(" GROUP BY term out of range - should be between 1 and " : Str) = " " ++ ("GROUP" ++ " BY term out of range - should be between 1 and "):=by kernel_rfl
 unfold kO aH
 rw[e0]
 simp only[rQ]
theorem fJ{re:RE}{t:Tag}(h:bL re=t.c):same (iI re) (di (.ok t)):=by
 unfold iI di
 rw[ui h]
 cases bF (.ok t) with
 |true=>exact rfl
 |false=>exact h
theorem OutsR.at:∀{o:List Out} {l:List br} {i:Nat} {x:Out},OutsR o l→o[i]?=some x→∃y,l[i]?=some y∧bL x.2=y.2.c
 |a::r,b::s,0,x,h,e=>by cases e;exact⟨b,rfl,h.1.2⟩
 |a::r,b::s,i+1,x,h,e=>OutsR.at h.2 (by simpa using e) |>.imp fun y hy=>⟨by simpa using hy.1,hy.2⟩
theorem mL{rs:List Row}{ss:List SrcR}{als:List AlR}{alt:List AlT}{o:List Out}{l:List br}{two:Bool}{e:Ex}(h:SrcsR rs ss 0)(ha:tN als alt)(ho:OutsR o l):same (fR ss als o two e) (di (aq rs l alt two e)):=by
 cases e with
 |lit n=>
  cases hr:ca n o.length with
  |false=>
   rw[jJ rfl hr,jF (by rw[←ho.len];exact hr),Dc,ho.len]
   exact rfl
  |true=>
   obtain⟨x,hx,_⟩:=gM hr
   obtain⟨y,hy,e⟩:=ho.at hx
   rw[jI rfl hr hx,mw (by rw[←ho.len];exact hr) hy]
   exact fJ e
 |litS s=>
  rw[je (e:=.litS s) rfl rfl]
  exact fJ rfl
 |cnt=>
  rw[je (e:=.cnt) rfl rfl]
  exact fJ rfl
 |nm t c=>
  have hs:=kv (tbl:=t) (col:=c) h ha
  show same (fR ss als o two (.nm t c)) (di (ac rs alt t c))
  cases h1:eR ss als t c with
  |no m=>
   rw[mM (e:=.nm t c) rfl h1]
   rw[h1] at hs
   cases h2:ac rs alt t c with
   |no m'=>rw[h2] at hs;exact hs
   |ok tag=>rw[h2] at hs;exact hs.elim
  |ok re=>
   rw[je (e:=.nm t c) rfl h1]
   rw[h1] at hs
   cases h2:ac rs alt t c with
   |no m'=>rw[h2] at hs;exact hs.elim
   |ok tag=>rw[h2] at hs;exact fJ hs
def t4(a:Res (List RE))(b:Res (List Tag)):Prop:=match a,b with
 |.no m,.no m'=>m=m'
 |.ok l,.ok t=>l.map bL=t.map Tag.c
 |_,_=>False
theorem vx{rs:List Row}{ss:List SrcR}{als:List AlR}{alt:List AlT}{o:List Out}{l:List br}{gs:List Ex}(h:SrcsR rs ss 0)(ha:tN als alt)(ho:OutsR o l)(hl:gs.length≤2) :
  t4 (b6 ss als o false gs []) (aW rs l alt gs):=by
 match gs,hl with
 |[],_=>exact rfl
 |[a],_=>
  have hs:=mL (two:=false) (e:=a) h ha ho
  show t4 (match fR ss als o false a with|.no m=>.no m|.ok re=>.ok ([]++[re])) (match di (aq rs l alt false a) with|.no m=>.no m|.ok t=>.ok ([]++[t]))
  cases h1:fR ss als o false a with
  |no m=>
   walk_at "da"
  |ok re=>
   rw[h1] at hs
   cases h2:di (aq rs l alt false a) with
   |no m'=>rw[h2] at hs;exact hs.elim
   |ok t=>
    rw[h2] at hs
    show [bL re]=[t.c]
    rw[show bL re=t.c from hs]
 |[a,b],_=>
  have hs:=mL (two:=false) (e:=a) h ha ho
  have hs2:=mL (two:=true) (e:=b) h ha ho
  show t4 (match fR ss als o false a with|.no m=>.no m|.ok re=>(match fR ss als o true b with|.no m=>.no m|.ok re2=>.ok (([]++[re])++[re2]))) (aQ rs l alt true (match di (aq rs l alt false a) with|.no m=>.no m|.ok t=>.ok ([]++[t])) b)
  cases h1:fR ss als o false a with
  |no m=>
   walk_at "da"
  |ok re=>
   rw[h1] at hs
   cases h2:di (aq rs l alt false a) with
   |no m'=>rw[h2] at hs;exact hs.elim
   |ok t=>
    rw[h2] at hs
    show t4 (match fR ss als o true b with|.no m=>.no m|.ok re2=>.ok (([]++[re])++[re2])) (match di (aq rs l alt true b) with|.no m=>.no m|.ok t2=>.ok (([]++[t])++[t2]))
    cases h3:fR ss als o true b with
    |no m=>
     rw[h3] at hs2
     cases h4:di (aq rs l alt true b) with
     |no m'=>rw[h4] at hs2;exact hs2
     |ok t2=>rw[h4] at hs2;exact hs2.elim
    |ok re2=>
     rw[h3] at hs2
     cases h4:di (aq rs l alt true b) with
     |no m'=>rw[h4] at hs2;exact hs2.elim
     |ok t2=>
      rw[h4] at hs2
      show [bL re,bL re2]=[t.c,t2.c]
      rw[show bL re=t.c from hs,show bL re2=t2.c from hs2]
 |_::_::_::_,hl=>simp only[List.length_cons] at hl;omega
theorem k8{ss:List SrcR}{als:List AlR}{o:List Out}:∀{gs:List Ex} {two:Bool} {acc l:List RE},b6 ss als o two gs acc=.ok l→l.length=acc.length+gs.length
 |[],two,acc,l,h=>by cases h;rfl
 |e::gs,two,acc,l,h=>by
  unfold b6 at h
  cases h1:fR ss als o two e with
  |no m=>rw[h1] at h;cases h
  |ok re=>
   rw[h1] at h
   rw[k8 h]
   simp only[List.length_append,List.length_cons,List.length_nil];omega
def dz(l:List br):Bool:=l.any fun o=>bF (.ok o.2)
theorem uI:∀{o:List Out} {l:List br},OutsR o l→(dC o).isEmpty = !dz l
 |[],[],_=>rfl
 |a::r,b::s,h=>by
  have ih:=uI h.2
  have hc:=ui h.1.2
  show (a.2.aggs++dC r).isEmpty = !(bF (.ok b.2)||dz s)
  unfold RE.aggs
  rw[hc]
  cases bF (.ok b.2) with
  |true=>rfl
  |false=>exact ih
structure RowQ(r:Row)(before:List Row):Prop where
 alias:∀a,r.alias=some a→Sh a
 names:bR r.names
 each:∀s∈r.names,Sh s
 us:r.us=[]∨∃s∈r.names,r.us=[ae s]∧inC (.str (ae s)) ((aB before).map ag)=true
def RowsQ:List Row→List Row→Prop
 |_,[]=>True
 |before,r::rs=>RowQ r before∧RowsQ (before++[r]) rs
theorem SrcsR.len:∀{rs:List Row} {ss:List SrcR} {i:Nat},SrcsR rs ss i→rs.length=ss.length
 |[],[],_,_=>rfl
 |_::_,_::_,_,h=>by rw[List.length_cons,List.length_cons,h.2.len]
theorem SrcsR.snoc:∀{rs:List Row} {ss:List SrcR} {i:Nat} {r:Row} {s:SrcR},SrcsR rs ss i→ni r s (i+rs.length)→SrcsR (rs++[r]) (ss++[s]) i
 |[],[],i,r,s,_,h=>⟨h,trivial⟩
 |_::rs,_::ss,i,r,s,h,k=>⟨h.1,h.2.snoc (by rw[show i+1+rs.length=i+(rs.length+1) by omega];exact k)⟩
theorem SrcsR.mem:∀{rs:List Row} {ss:List SrcR} {i:Nat} {s:SrcR},SrcsR rs ss i→s∈ss→∃r∈rs,∃j,ni r s j
 |[],[],_,_,_,hm=>(nomatch hm)
 |r::rs,x::ss,i,s,h,hm=>by
  cases hm with
  |head=>exact⟨r,.head _,i,h.1⟩
  |tail _ hm=>
   obtain⟨r',h1,h2⟩:=h.2.mem hm
   exact⟨r',.tail _ h1,h2⟩
theorem SrcsR.mem':∀{rs:List Row} {ss:List SrcR} {i:Nat} {r:Row},SrcsR rs ss i→r∈rs→∃s∈ss,∃j,ni r s j
 |[],[],_,_,_,hm=>(nomatch hm)
 |x::rs,s::ss,i,r,h,hm=>by
  cases hm with
  |head=>exact⟨s,.head _,i,h.1⟩
  |tail _ hm=>
   obtain⟨s',h1,h2⟩:=h.2.mem' hm
   exact⟨s',.tail _ h1,h2⟩
theorem xF(s:Str):(ae s).length=s.length:=by
 unfold ae Str.length
 simp
theorem qw{x:Str}{l:List Str}(h:x∈l):∃j,bI x l 0=some j:=by
 have h1:inC (.str x) (l.map ag)=true:=by
  induction l with
  |nil=>cases h
  |cons a r ih=>
   show (bif sEq a x then true else inC (.str x) (r.map ag))=true
   cases hb:sEq a x with
   |true=>rfl
   |false=>
    rw[cond_false]
    cases h with
    |head=>rw[b8] at hb;cases hb
    |tail _ h=>exact ih h
 rw[ip (i:=0)] at h1
 exact Option.isSome_iff_exists.mp h1
theorem uk{x:Str}:∀{l:List Str},inC (.str x) (l.map ag)=true→x∈l
 |a::r,h=>by
  have h:(bif sEq a x then true else inC (.str x) (r.map ag))=true:=h
  cases hb:sEq a x with
  |true=>rw[sEq_iff.mp hb];exact .head _
  |false=>rw[hb,cond_false] at h;exact .tail _ (uk h)
theorem jX{x:Str}:∀{rs:List Row},x∈aB rs→∃r∈rs,x∈r.names.map ae
 |r::rs,h=>by
  rcases List.mem_append.mp (show x∈r.names.map ae++aB rs from h) with h|h
  ·exact⟨r,.head _,h⟩
  ·obtain⟨r',h1,h2⟩:=jX h
   exact⟨r',.tail _ h1,h2⟩
theorem nU{K:List SrcR→Int→Prop}:∀{rest before:List Row} {ss:List SrcR} {n:Int},SrcsR before ss 0→n+1=before.length→(∀s∈ss,cb s.cols)→RowsQ before rest→(before++rest).length≤3 →
  (∀ss' n',SrcsR (before++rest) ss' 0→(∀s∈ss',cb s.cols)→K ss' n')→rdK K rest ss n
 |[],before,ss,n,h,hn,hc,hq,hl,hk=>by
  rw[List.append_nil] at hk
  exact hk ss n h hc
 |r::rest,before,ss,n,h,hn,hc,hq,hl,hk=>by
  have hq1:=hq.1
  have hlen:=h.len
  simp only[List.length_append,List.length_cons] at hl
  have ok:RowOk r ss:=⟨hq1.names,fun a ha=>(hq1.each a ha).1,fun a ha=>(hq1.alias a ha).1,by
   rcases hq1.us with e|⟨s,hs,e,hi⟩
   ·exact .inl e
   ·refine .inr ⟨ae s,e,by rw[xF];exact(hq1.each s hs).1,?_,?_⟩
    ·rw[kx,eu]
     exact qw (List.mem_map_of_mem hs)
    ·obtain⟨r',hr',hx⟩:=jX (uk hi)
     obtain⟨s',hs',j,h1⟩:=h.mem' hr'
     refine⟨s',hs',?_⟩
     rw[kx,h1.cols,eu]
     exact qw hx⟩
  refine⟨⟨by omega,hc,ok⟩,fun sel ons=>?_⟩
  refine nU (before:=before++[r]) (h.snoc ⟨?_,rfl,rfl,?_⟩) (by rw[List.length_append];simp only[List.length_cons,List.length_nil];omega) (fun s hs=>?_) hq.2 (by simp only[List.length_append,List.length_cons,List.length_nil];omega) (fun ss' n' h1 h2=>hk ss' n' (by rw[List.append_assoc] at h1;exact h1) h2)
  ·show n+1=((0+before.length:Nat):Int)
   omega
  ·show r.us.map ae=r.us
   rcases hq1.us with e|⟨s,hs,e,hi⟩
   ·rw[e];rfl
   ·rw[e];show [ae (ae s)]=[ae s];rw[kx]
  ·rcases List.mem_append.mp hs with hs|hs
   ·exact hc s hs
   ·cases List.mem_singleton.mp hs
    exact ok.cols
def ColQ2:ColE→Prop
 |.star t=>∀x,t=some x→x.length≤300
 |.ex e al=>ExQ e∧fC e∧∀x,al=some x→x.length≤300
theorem ColQ2.q{c:ColE}(h:ColQ2 c):Il c:=by
 cases c with
 |star t=>trivial
 |ex e al=>exact h.1
theorem xw{rs:List Row}{ss:List SrcR}{t:Option Str}{c:Str}{re:RE}(h:SrcsR rs ss 0)(e:eR ss [] t c=.ok re):∃t' c',∃(i j:Nat),∃a b nm,re=.nm t' c' i j a b∧ge i j ss=some nm:=by
 have hs:=kv (als:=[]) (alt:=[]) (tbl:=t) (col:=c) h trivial
 rw[e] at hs
 cases h2:ac rs [] t c with
 |no m'=>rw[h2] at hs;exact hs.elim
 |ok tag=>
  rw[h2] at hs
  have hs:bL re=tag.c:=hs
  obtain⟨i,j,r,s,rfl,hr,hn⟩:=il h2
  cases re with
  |lit i=>simp[bL,Tag.c] at hs
  |litS s=>simp[bL,Tag.c] at hs
  |cnt=>simp[bL,Tag.c] at hs
  |nm t' c' n j' a b=>
   walk_at "dm"
   subst e5;subst e6
   exact⟨t',c',i,j,a,b,s,rfl,md h (Nat.zero_le _) hr hn⟩
theorem DW{rs:List Row}{ss:List SrcR}{c:ColE}(h:SrcsR rs ss 0)(hc:ColQ2 c):ka ss c:=by
 cases c with
 |star t=>exact hc
 |ex e al=>
  refine⟨hc.2.1,fun re he=>?_⟩
  cases al with
  |some a=>exact .inl ⟨a,rfl⟩
  |none=>
   cases e with
   |lit i=>cases he;exact .inr (.inl ⟨i,rfl,rfl,hc.2.1⟩)
   |litS s=>exact hc.1.elim
   |cnt=>cases he;exact .inr (.inr (.inl ⟨rfl,rfl⟩))
   |nm t c=>
    obtain⟨t',c',i,j,a,b,nm,rfl,ho⟩:=xw h he
    exact .inr (.inr (.inr ⟨t,c,t',c',i,j,a,b,nm,rfl,rfl,ho⟩))
theorem dT{tbl:Option Str}:∀{rs:List Row} {i:Nat},(∀r∈rs,r.names.length≤2)→(bi tbl rs i).length≤2*rs.length
 |[],_,_=>Nat.zero_le _
 |r::rs,i,h=>by
  have ih:=dT (tbl:=tbl) (rs:=rs) (i:=i+1) (fun x hx=>h x (.tail _ hx))
  have h1:=h r (.head _)
  have h2:=mv (tbl:=tbl) (us:=r.us) (i:=i) (l:=r.names) (j:=0)
  rw[gH]
  cases eT tbl r with
  |true=>rw[cond_true,List.length_append];simp only[List.length_cons];omega
  |false=>rw[cond_false];simp only[List.length_cons];omega
theorem qU{ss:List SrcR}(h:∀t:Option Str,(bV (t.map ae) ss).length≤6):∀cols:List ColE,jR ss cols≤6*cols.length
 |[]=>Nat.zero_le _
 |c::cols=>by
  have ih:=qU h cols
  have h1:DX ss c≤6:=by
   cases c with
   |star t=>exact h _
   |ex e al=>exact(by decide:1≤6)
  show DX ss c+jR ss cols≤_
  simp only[List.length_cons];omega
theorem l8{ss:List SrcR}:∀{cols:List ColE} {o:List Out} {a:List AlN} {r:List Out×List AlN},dh ss cols o a=.ok r→(∀c∈cols,ColQ2 c)→(∀x∈a,x.1.length≤1000)→(∀x∈r.2,x.1.length≤1000)∧r.2.length≤a.length+cols.length
 |[],o,a,r,h,_,ha=>by cases h;exact⟨ha,Nat.le_refl _⟩
 |.star t::cols,o,a,r,h,hc,ha=>by
  unfold dh at h
  cases h1:en ss t with
  |no m=>rw[h1] at h;cases h
  |ok l=>
   rw[h1] at h
   have:=l8 h (fun c hx=>hc c (.tail _ hx)) ha
   exact⟨this.1,by simp only[List.length_cons];omega⟩
 |.ex e al::cols,o,a,r,h,hc,ha=>by
  unfold dh at h
  cases h1:exE ss [] e with
  |no m=>rw[h1] at h;cases h
  |ok re=>
   rw[h1] at h
   have h0:=(hc _ (.head _)).2.2
   have:=l8 h (fun c hx=>hc c (.tail _ hx)) (fun x hx=>by
    cases al with
    |none=>exact ha x hx
    |some y=>
     rcases List.mem_append.mp (show x∈a++[(y,re)] from hx) with hx|hx
     ·exact ha x hx
     ·cases List.mem_singleton.mp hx
      exact Nat.le_trans (h0 y rfl) (by decide))
   refine⟨this.1,?_⟩
   have h2:(CP a al re).length≤a.length+1:=by
    cases al with
    |none=>exact Nat.le_succ _
    |some y=>show (a++[(y,re)]).length≤_;rw[List.length_append];exact Nat.le_refl _
   have:=this.2
   simp only[List.length_cons];omega
theorem RowsQ.all:∀{b rs:List Row},RowsQ b rs→∀r∈rs,∃b',RowQ r b'
 |b,x::rs,h,r,hr=>by
  cases hr with
  |head=>exact⟨b,h.1⟩
  |tail _ hr=>exact RowsQ.all h.2 r hr
theorem RowQ.nlen{r:Row}{b:List Row}(h:RowQ r b):r.names.length≤2:=by
 obtain⟨a,e|⟨c,e⟩⟩:=h.names<;>rw[e]<;>simp
theorem RowQ.ulen{r:Row}{b:List Row}(h:RowQ r b):r.us.length≤1:=by
 rcases h.us with e|⟨s,_,e,_⟩<;>rw[e]<;>simp
theorem plain{rs:List Row}{cols:List ColE}{gs:List Ex}{E:Str→Prop}{K:List Out→List RE→Prop}(hq:RowsQ [] rs)(hl:rs.length≤3)(hc:∀c∈cols,ColQ2 c)(hcl:cols.length≤4)(hgl:gs.length≤2)
  (h:match aw rs cols with
   |⟨.no m,_⟩=>E m
   |⟨.ok l,als⟩=>match aW rs l als gs with
    |.no m=>E m
    |.ok t=>∀o r,OutsR o l→r.map bL=t.map Tag.c→K o r):rdK (iL cols gs E K) rs [] (-1):=by
 refine nU (before:=[]) (ss:=[]) trivial rfl (fun s hs=>(nomatch hs)) hq (by simpa using hl) (fun ss n hs hcol=>?_)
 have hs:SrcsR rs ss 0:=hs
 have hlen:=hs.len
 have hz:∀t,(bi t rs 0).length≤6:=fun t=>Nat.le_trans (dT (fun r hr=>by obtain⟨b,g⟩:=hq.all r hr;exact g.nlen)) (by omega)
 have hok:∀s∈ss,gi s:=fun s hm=>by
  obtain⟨r,hr,j,h1⟩:=hs.mem hm
  obtain⟨b,g⟩:=hq.all r hr
  exact⟨hcol s hm,fun a ha=>Nat.le_trans (g.alias a (by rw[←h1.alias];exact ha)).1 (by decide),by rw[h1.us];have:=g.ulen;omega⟩
 have hstar:∀t:Option Str,(bV (t.map ae) ss).length≤6:=fun t=>by rw[(i3 hs).len];exact hz t
 have hcn:=qU hstar cols
 have hrd:=kl hs (cols:=cols) (o:=[]) (a:=[]) (l:=[]) (als:=[]) (fun c hx=>(hc c hx).q) trivial trivial
 have hlo:=dp (rs:=rs) (fun t=>Nat.le_trans (hz t) (by decide)) (cols:=cols) (D:=⟨.ok [],[]⟩) (m:=0) (fun l e=>by cases e;decide) (by decide)
 refine⟨⟨hok,by omega,fun a ha=>(nomatch ha),by decide⟩,fun c hx=>DW hs (hc c hx),by omega,?_⟩
 unfold aw at h
 cases h1:dh ss cols [] [] with
 |no m=>
  rw[h1] at hrd
  generalize cols.foldl (aV rs) ⟨.ok [],[]⟩=D at hrd h hlo
  obtain⟨due,als⟩:=D
  cases due with
  |no m'=>exact hrd▸h
  |ok l=>exact hrd.elim
 |ok r=>
  rw[h1] at hrd
  have hal:=l8 h1 hc (fun x hx=>(nomatch hx))
  generalize cols.foldl (aV rs) ⟨.ok [],[]⟩=D at hrd h hlo
  obtain⟨due,alt⟩:=D
  cases due with
  |no m'=>exact hrd.elim
  |ok l=>
   obtain⟨ho,ha⟩:=hrd
   have hll:=hlo.1 l rfl
   refine⟨by rw[ho.len];omega,fun als e=>⟨⟨hok,by omega,fun a hx=>?_,?_⟩,?_⟩⟩
   ·have:pj a∈r.2:=by rw[←e];exact List.mem_map_of_mem hx
    exact hal.1 _ this
   ·have:als.length=r.2.length:=by rw[←e,List.length_map]
    have:=hal.2
    simp only[List.length_nil] at this;omega
   ·have ha2:tN als alt:=AlnR.als (by rw[e];exact ha)
    have hg:=vx (gs:=gs) hs ha2 ho hgl
    have h:match aW rs l alt gs with
     |.no m=>E m
     |.ok t=>∀o r,OutsR o l→r.map bL=t.map Tag.c→K o r:=h
    cases h3:b6 ss als r.1 false gs [] with
    |no m=>
     rw[h3] at hg
     cases h4:aW rs l alt gs with
     |no m'=>rw[h4] at hg h;exact(show m=m' from hg)▸h
     |ok t=>rw[h4] at hg;exact hg.elim
    |ok l2=>
     rw[h3] at hg
     cases h4:aW rs l alt gs with
     |no m'=>rw[h4] at hg;exact hg.elim
     |ok t=>
      rw[h4] at hg h
      have:=k8 h3
      exact⟨by simp only[List.length_nil] at this;omega,h r.1 l2 ho hg⟩
def lc(a:Int):Int:=bif decide (a < -1 - a) then -1 - a else a
def nV(a:Int):Int:=bif decide (1000000000000000000≤lc a) then 1 else 0
def BJ(a:Int):Int×Int:=(lc a*nV a,(((lc a).fmod 2147483629+7919*0*0+31*0+17)*48271).fmod 2147483647)
def jy(a:Int)(k:K1):Prop:=(-(2 ^ 63:Int) < 0∧(0:Int) < 2 ^ 63)∧(-(2 ^ 63:Int) < 0∧(0:Int) < 2 ^ 63)∧(-(2 ^ 63:Int) < 0∧(0:Int) < 2 ^ 63)∧(-(2 ^ 63:Int) < 48271∧(48271:Int) < 2 ^ 63)∧(-(2 ^ 63:Int) < nV a∧nV a < 2 ^ 63)∧2≤1000∧k (.ref 0) [ak (BJ a)]
theorem wR(P:Params)(k:K1)(X:KX):(0≤1000∧jy 0 k)=jV (uO P) (gU P) [.v (.lst []),.v (.int 0)] [] k X:=by kernel_rfl
theorem wQ(P:Params)(a:Int)(l:List CV)(k:K1)(X:KX):((CV.int a::l).length≤1000∧bif decide ((0:Int) < ((CV.int a::l).length:Nat)) then ((CV.int a::l).length≤1000∧jy a k) else jy 0 k)=jV (uO P) (gU P) [.v (.lst (.int a::l)),.v (.int 0)] [] k X:=by kernel_rfl
theorem wP(a:Int):au (BJ a):=by
 have hb:0≤lc a:=by
  unfold lc
  by_cases h:a < -1 - a
  ·rw[decide_eq_true h,cond_true];omega
  ·rw[decide_eq_false h,cond_false];omega
 refine⟨?_,Int.fmod_nonneg_of_pos _ (by decide),Int.fmod_lt_of_pos _ (by decide)⟩
 show 0≤lc a*nV a
 refine Int.mul_nonneg hb ?_
 unfold nV
 cases decide (1000000000000000000≤lc a)<;>decide
theorem ku(a:Int)(k:K1)(h:∀p,au p→k (.ref 0) [ak p]):jy a k:=by
 refine⟨⟨by decide,by decide⟩,⟨by decide,by decide⟩,⟨by decide,by decide⟩,⟨by decide,by decide⟩,?_,by decide,h _ (wP a)⟩
 unfold nV
 cases decide (1000000000000000000≤lc a)<;>exact⟨by decide,by decide⟩
def BI:aE:=fun args kws M k X=>kws=[]∧M=[]∧∃l:List Int,args=[.v (.lst (l.map CV.int)),.v (.int 0)]∧l.length≤900∧∀p,au p→k (.ref 0) [ak p]
theorem zQ{D:Wd}(h:Ok D):SpecOk D 132 1488 BI:=(a9 (ln h) (w0 h)).less fun args kws M k X z=>by
 obtain⟨rfl,rfl,l,rfl,hl,z⟩:=z
 refine oZ rfl ?_
 cases l with
 |nil=>
  show jV _ _ [.v (.lst []),.v (.int 0)] _ _ _
  rw[←wR]
  exact⟨by decide,ku 0 k z⟩
 |cons a l=>
  show jV _ _ [.v (.lst (.int a::l.map CV.int)),.v (.int 0)] _ _ _
  rw[←wQ]
  have h1:(CV.int a::l.map CV.int).length≤1000:=by simp only[List.length_cons,List.length_map] at hl ⊢;omega
  refine⟨h1,?_⟩
  cases decide ((0:Int) < ((CV.int a::l.map CV.int).length:Nat)) with
  |true=>exact⟨h1,ku a k z⟩
  |false=>exact ku 0 k z
def CT(P:Params):Tb:=aD (uO P) 1488 BI
theorem Dr{D:Wd}(h:Ok D):TbOk D 132 (CT D.w.params):=(w0 h).add (zQ h) (ln h).keep
def Dat:Nat→CV→Prop
 |0,_=>False
 |n+1,c=>match c with
  |.tup l=>∀x∈l,Dat n x
  |.lst l=>∀x∈l,Dat n x
  |c=>kdC c < 4
theorem Dat.eqs{n:Nat}(ih:∀c,Dat n c→eqC c c=true):∀l:List CV,(∀x∈l,Dat n x)→dA l l=true
 |[],_=>rfl
 |a::r,h=>by
  unfold dA
  rw[ih a (h a (.head _)),cond_true]
  exact Dat.eqs ih r fun x hx=>h x (.tail _ hx)
theorem Dat.eq:∀(n:Nat) (c:CV),Dat n c→eqC c c=true
 |n+1,.tup l,h=>by unfold eqC;exact Dat.eqs (Dat.eq n) l h
 |n+1,.lst l,h=>by unfold eqC;exact Dat.eqs (Dat.eq n) l h
 |n+1,.none,h=>rfl
 |n+1,.bool b,h=>by cases b<;>rfl
 |n+1,.int i,h=>by unfold eqC;exact decide_eq_true rfl
 |n+1,.str s,h=>by unfold eqC;exact b8 s
 |n+1,.inst _ _,h=>absurd (show 9 < 4 from h) (by decide)
 |n+1,.ref _,h=>absurd (show 9 < 4 from h) (by decide)
 |n+1,.st _,h=>absurd (show 9 < 4 from h) (by decide)
 |n+1,.dct,h=>absurd (show 9 < 4 from h) (by decide)
 |n+1,.rng _ _,h=>absurd (show 9 < 4 from h) (by decide)
 |n+1,.any,h=>absurd (show 9 < 4 from h) (by decide)
theorem Dat.cms{n m:Nat}(ih:∀c,Dat n c→Cm m c c):∀l:List CV,(∀x∈l,Dat n x)→CmL (Cm m) l l
 |[],_=>trivial
 |a::r,h=>⟨ih a (h a (.head _)),Dat.cms ih r fun x hx=>h x (.tail _ hx)⟩
theorem Dat.cm:∀(n m:Nat) (c:CV),n≤m→Dat n c→Cm m c c
 |n+1,m+1,.tup l,hm,h=>Dat.cms (fun c hc=>Dat.cm n m c (by omega) hc) l h
 |n+1,m+1,.lst l,hm,h=>Dat.cms (fun c hc=>Dat.cm n m c (by omega) hc) l h
 |n+1,m+1,.none,hm,h=>rfl
 |n+1,m+1,.bool b,hm,h=>rfl
 |n+1,m+1,.int i,hm,h=>rfl
 |n+1,m+1,.str s,hm,h=>rfl
 |n+1,m+1,.inst _ _,hm,h=>absurd (show 9 < 4 from h) (by decide)
 |n+1,m+1,.ref _,hm,h=>absurd (show 9 < 4 from h) (by decide)
 |n+1,m+1,.st _,hm,h=>absurd (show 9 < 4 from h) (by decide)
 |n+1,m+1,.dct,hm,h=>absurd (show 9 < 4 from h) (by decide)
 |n+1,m+1,.rng _ _,hm,h=>absurd (show 9 < 4 from h) (by decide)
 |n+1,m+1,.any,hm,h=>absurd (show 9 < 4 from h) (by decide)
 |n+1,0,_,hm,_=>absurd hm (by omega)
theorem tU(t:Tag):Dat 2 t.c:=by
 cases t<;>(intro x hx;simp only[List.mem_cons,List.not_mem_nil,or_false] at hx;first|(rcases hx with rfl|rfl|rfl)|(rcases hx with rfl|rfl)|subst hx)<;>first|exact(show 3 < 4 by decide)|exact(show 2 < 4 by decide)
theorem wn{o:List Out}{l:List br}{r:List RE}{t:List Tag}(h:OutsR o l)(h2:r.map bL=t.map Tag.c):pD o r=.tup [.lst (l.map bf),.lst (t.map Tag.c),.bool (!t.isEmpty||dz l)]:=by
 unfold pD
 rw[h.told,h2,uI h,Bool.not_not]
 have:r.isEmpty=t.isEmpty:=by
  have:=congrArg List.length h2
  rw[List.length_map,List.length_map] at this
  cases r<;>cases t<;>first|rfl|(simp at this)
 rw[this]
theorem gv(l:List br)(t:List Tag)(b:Bool):∀x∈[CV.lst (l.map bf),.lst (t.map Tag.c),.bool b],Dat 4 x:=by
 intro x hx
 simp only[List.mem_cons,List.not_mem_nil,or_false] at hx
 rcases hx with rfl|rfl|rfl
 ·intro y hy
  obtain⟨o,_,rfl⟩:=List.mem_map.mp hy
  intro z hz
  simp only[List.mem_cons,List.not_mem_nil,or_false] at hz
  rcases hz with rfl|rfl
  ·exact(show 3 < 4 by decide)
  ·exact tU o.2
 ·intro y hy
  obtain⟨o,_,rfl⟩:=List.mem_map.mp hy
  have h2:=tU o
  cases o<;>(intro z hz;simp only[List.mem_cons,List.not_mem_nil,or_false] at hz;first|(rcases hz with rfl|rfl|rfl)|(rcases hz with rfl|rfl)|subst hz)<;>first|exact(show 3 < 4 by decide)|exact(show 2 < 4 by decide)
 ·exact(show 1 < 4 by decide)
theorem zY{T:Tb}{I:FnI}{zs:List (Nat×List Str)}{n:Nat}{args:List AV}{M:AM}{k:K1}{X:KX}(h:Nat.beq args.length n=true)(z:iM T I zs args M k X):DB T I zs n args [] M k X:=by
 unfold DB Sp
 rw[h]
 show iM T I zs (args++[]) M k X
 rw[List.append_nil];exact z
def b5(rs:List Row)(cols:List ColE)(gs:List Ex):CV:=match aw rs cols with
 |⟨.no m,_⟩=>noC m
 |⟨.ok l,als⟩=>match aW rs l als gs with
  |.no m=>noC m
  |.ok t=>.tup [.lst (l.map bf),.lst (t.map Tag.c),.bool (!t.isEmpty||dz l)]
theorem dr{rows:List Row}{outs:List br}{als:List AlT}{two:Bool}{D:Res (List Tag)}{e:Ex}{t:List Tag}(h:aQ rows outs als two D e=.ok t):∃l,D=.ok l∧t.length=l.length+1:=by
 unfold aQ at h
 cases D with
 |no m=>cases h
 |ok l=>
  simp only at h
  split at h
  ·cases h
  ·cases h;exact⟨l,rfl,by rw[List.length_append];rfl⟩
theorem qo{rs:List Row}{l:List br}{als:List AlT}{gs:List Ex}{t:List Tag}(hl:gs.length≤2)(h:aW rs l als gs=.ok t):t.length≤2:=by
 match gs,hl,h with
 |[],_,h=>cases h;decide
 |[a],_,h=>
  have h:aQ rs l als false (.ok []) a=.ok t:=h
  obtain⟨l1,e,h1⟩:=dr h
  cases e
  rw[h1];decide
 |[a,b],_,h=>
  have h:aQ rs l als true (aQ rs l als false (.ok []) a) b=.ok t:=h
  obtain⟨l1,e,h1⟩:=dr h
  obtain⟨l2,e2,h2⟩:=dr e
  cases e2
  rw[h1,h2];decide
def wp:aE:=fun args kws M k X=>kws=[]∧M=[]∧∃(rs:List Row) (cols:List ColE) (gs:List Ex) (v:CV),args=[.v (.lst (cols.map ColE.c)),.v (aZ rs),.v (.lst (gs.map Ex.d))]∧RowsQ [] rs∧rs.length≤3∧bx rs∧(∀c∈cols,ColQ2 c)∧cols.length≤4∧bZ cols≤3∧gs.length≤2∧(∀e∈gs,fC e)∧b5 rs cols gs=v∧k (.v v) []
theorem wo{D:Wd}(h:Ok D):SpecOk D 129 1588 wp:=(tQ h).less fun args kws M k X z=>by
 obtain⟨rfl,rfl,rs,cols,gs,v,rfl,hq,hl,hf,hc,hcl,hst,hgl,hex,hv,z⟩:=z
 refine⟨rfl,false,rs,cols,gs,rfl,rfl,(fun e=>by cases e),hl,hf,fun r hr=>?_,hst,by omega,hgl,hex,?_⟩
 ·obtain⟨b,g⟩:=hq.all r hr
  rw[List.length_map];have:=g.ulen;omega
 ·refine plain hq hl hc hcl hgl ?_
  subst hv
  unfold b5 at z
  have hlo:=dp (rs:=rs) (fun t=>Nat.le_trans (dT (tbl:=t) (i:=0) (fun r hr=>by obtain⟨b,g⟩:=hq.all r hr;exact g.nlen)) (by omega)) (cols:=cols) (D:=⟨.ok [],[]⟩) (m:=0) (fun l e=>by cases e;decide) (by decide)
  have hlo:∀l,(aw rs cols).due=.ok l→l.length≤12*(0+cols.length):=hlo.1
  generalize aw rs cols=D at z hlo ⊢
  obtain⟨due,als⟩:=D
  cases due with
  |no m=>exact z
  |ok l=>
   have hll:=hlo l rfl
   have z:k (.v (match aW rs l als gs with
    |.no m=>noC m
    |.ok t=>.tup [.lst (l.map bf),.lst (t.map Tag.c),.bool (!t.isEmpty||dz l)])) []:=z
   show match aW rs l als gs with
    |.no m=>k (.v (noC m)) []
    |.ok t=>∀o r,OutsR o l→r.map bL=t.map Tag.c→(o.length≤900∧r.length≤900∧k (.v (pD o r)) [])
   cases hg:aW rs l als gs with
   |no m=>rw[hg] at z;exact z
   |ok t=>
    rw[hg] at z
    intro o r ho hr
    rw[wn ho hr]
    refine⟨by rw[ho.len];omega,?_,z⟩
    have h1:=congrArg List.length hr
    rw[List.length_map,List.length_map] at h1
    have h2:t.length≤2:=qo hgl hg
    omega
def uN(P:Params):Tb:=aD (CT P) 1588 (lK wp)
theorem wZ{D:Wd}(h:Ok D):TbOk D 133 (uN D.w.params):=(Dr h).add ((jh (wo h)).up (by decide)) (g9 h).keep
def zL:Row:=⟨some "x",["a","b"],[]⟩
def zK(us:List Str):Row:=⟨some "y",["A"],us⟩
theorem l6(us:List Str)(h:us=[]∨us=([Str.ofString "a"]:List Str)):RowsQ [] [zL,zK us]:=by
 have sh:∀s∈(["x","y","a","b","A"]:List Str),Sh s:=by
  intro s hs
  simp only[List.mem_cons,List.not_mem_nil,or_false] at hs
  rcases hs with rfl|rfl|rfl|rfl|rfl<;>exact⟨leB (by kernel_rfl),by kernel_rfl⟩
 refine⟨⟨fun a e=>?_,⟨"a",.inr ⟨"b",rfl⟩⟩,fun s hs=>?_,.inl rfl⟩,⟨fun a e=>?_,⟨"A",.inl rfl⟩,fun s hs=>?_,?_⟩,trivial⟩
 ·cases e;exact sh _ (by simp)
 ·have hs:s∈(["a","b"]:List Str):=hs
  simp only[List.mem_cons,List.not_mem_nil,or_false] at hs
  rcases hs with rfl|rfl<;>exact sh _ (by simp)
 ·cases e;exact sh _ (by simp)
 ·have hs:s∈(["A"]:List Str):=hs
  cases List.mem_singleton.mp hs
  exact sh _ (by simp)
 ·rcases h with rfl|rfl
  ·exact .inl rfl
  ·exact .inr ⟨"A",.head _,by kernel_rfl,by kernel_rfl⟩
def rrZ:List (Nat×List Str):=[(1162,["x","y"]),(1163,["one","other"]),(1164,["one","other","columns"]),(1165,["one","other","columns","due"])]
def rrCols:List ColE:=[.star none,.star (some "Y"),.ex (.nm none "A") none,.ex .cnt none]
def l5:List Row:=[zL,zK [Str.ofString "a"]]
def jv:List Row:=[zL,zK []]
def rrOuts:List br:=[("a",.col 0 0),("b",.col 0 1),("A",.col 1 0),("a",.col 0 0),("count(*)",.count)]
theorem rr1:b5 l5 rrCols []=.tup [.lst (rrOuts.map bf),.lst [],.bool true]:=by kernel_rfl
theorem rr2:b5 jv [.ex (.nm none "a") none] []=noC "ambiguous column name: a":=by kernel_rfl
theorem rr3:b5 l5 [.ex (.lit 5) (some "b")] [.nm none "b"]=.tup [.lst [.tup [.str "b",.tup [.str "value",.int 5]]],.lst [.tup [.str "column",.int 0,.int 1]],.bool true]:=by kernel_rfl
theorem ua(c:Str)(h:Nat.ble c.length 300=true)(h2:sIn (ae c) oO=false):zl none c:=⟨leB h,(fun t e=>by cases e),h2⟩
theorem wI:∀c∈rrCols,ColQ2 c:=by
 intro c hc
 simp only[rrCols,List.mem_cons,List.not_mem_nil,or_false] at hc
 rcases hc with rfl|rfl|rfl|rfl
 ·exact fun x e=>by cases e
 ·exact fun x e=>by cases e;exact leB (by kernel_rfl)
 ·exact⟨trivial,ua _ (by kernel_rfl) (by kernel_rfl),fun x e=>by cases e⟩
 ·exact⟨trivial,trivial,fun x e=>by cases e⟩
theorem FN:∀c∈[ColE.ex (.nm none "a") none],ColQ2 c:=by
 intro c hc
 cases List.mem_singleton.mp hc
 exact⟨trivial,ua _ (by kernel_rfl) (by kernel_rfl),fun x e=>by cases e⟩
theorem FK:∀c∈[ColE.ex (.lit 5) (some "b")],ColQ2 c:=by
 intro c hc
 cases List.mem_singleton.mp hc
 exact⟨trivial,⟨by decide,by decide⟩,fun x e=>by cases e;exact leB (by kernel_rfl)⟩
theorem FL:∀e∈[Ex.nm none "b"],fC e:=by
 intro c hc
 cases List.mem_singleton.mp hc
 exact ua _ (by kernel_rfl) (by kernel_rfl)
abbrev rrS(P:Params)(n:Nat)(m:Vs)(k:K1)(X:KX)(M:AM:=[]):Prop:=evZ (ev 40) ⟨uN P,(bn P).scope,false⟩ 0 rrZ ((bn P).body.drop n) m M (vJ 0 k) (fun msg M'=>gf 0 M' fun M2=>X msg M2)
def FJ:Vs:=[("x",.v (Row.node zL)),("y",.v (Row.node (zK [])))]
def FI:Vs:=[("one",.v (aZ l5)),("other",.v (aZ jv))]
def FH:Vs:=[("one",.v (aZ l5)),("other",.v (aZ jv)),("columns",.v (.lst (rrCols.map ColE.c)))]
def wH:Vs:=[("one",.v (aZ l5)),("other",.v (aZ jv)),("columns",.v (.lst (rrCols.map ColE.c))),("due",.v (.lst ((rrOuts.take 4).map bf)))]
theorem Iz(P:Params)(k:K1)(X:KX):(1≤1000∧AV.v .none=.v .none∧0≤1000∧AV.v .none=.v .none∧2≤1000∧rrS P 2 FI k X)=rrS P 1 FJ k X:=by kernel_rfl
theorem Iy(P:Params)(k:K1)(X:KX):(AV.v .none=.v .none∧AV.v .none=.v .none∧AV.v .none=.v .none∧AV.v .none=.v .none∧0≤1000∧AV.v .none=.v .none∧AV.v .none=.v .none∧4≤1000∧rrS P 3 FH k X)=rrS P 2 FI k X:=by kernel_rfl
theorem Ix(P:Params)(k:K1)(X:KX):(3≤1000∧2≤1000∧3≤1000∧2≤1000∧3≤1000∧2≤1000∧3≤1000∧2≤1000∧4≤1000∧rrS P 4 wH k X)=rrS P 3 FH k X:=by kernel_rfl
def k9(n:Nat):AM:=List.replicate n .gone
theorem cmT{l l2:List CV}(h:∀x∈l,Dat 4 x)(e:l=l2):CmL (Cm 8) l l2:=e▸Dat.cms (fun c=>Dat.cm 4 8 c (by decide)) l h
theorem It(P:Params)(k:K1)(X:KX)(h:k (.v (.bool true)) []):rrS P 7 (List.append wH [("told",.v (.tup [.lst [.tup [.str "b",.tup [.str "value",.int 5]]],.lst [.tup [.str "column",.int 0,.int 1]],.bool true]))]) k X (k9 10):=by
 walk_at "ag"
 refine And.intro (cmT (gv [("b",.valI 5)] [.col 0 1] true) (by kernel_rfl)) ?_
 exact h
theorem Iu(P:Params)(k:K1)(X:KX)(h:k (.v (.bool true)) []):rrS P 6 wH k X (k9 5):=by
 walk_at "ag"
 refine⟨rfl,rfl,l5,[.ex (.lit 5) (some "b")],[.nm none "b"],_,rfl,l6 _ (.inr rfl),leB rfl,rfl,FK,leB rfl,leB rfl,leB rfl,FL,rr3,?_⟩
 exact It P k X h
theorem Iv(P:Params)(k:K1)(X:KX)(h:k (.v (.bool true)) []):rrS P 5 wH k X (k9 1):=by
 walk_at "ag"
 refine⟨rfl,rfl,jv,[.ex (.nm none "a") none],[],_,rfl,l6 _ (.inl rfl),leB rfl,rfl,FN,leB rfl,leB rfl,leB rfl,(fun e h=>(nomatch h)),rr2,?_⟩
 walk_at "ag"
 walk_at "cu"
 exact Iu P k X h
theorem Iw(P:Params)(k:K1)(X:KX)(h:k (.v (.bool true)) []):rrS P 4 wH k X:=by
 walk_at "ag"
 refine⟨rfl,rfl,l5,rrCols,[],_,rfl,l6 _ (.inr rfl),leB rfl,rfl,wI,leB rfl,leB rfl,leB rfl,(fun e h=>(nomatch h)),rr1,?_⟩
 walk_at "ag"
 refine And.intro (cmT (gv rrOuts [] true) (by kernel_rfl)) ?_
 exact Iv P k X h
theorem zJ(P:Params)(k:K1)(X:KX)(h:k (.v (.bool true)) []):iM (uN P) (bn P) rrZ [] [] k X:=by
 walk_at "ag"
 refine⟨rfl,[Str.ofString "a",Str.ofString "b"],rfl,rfl,⟨_,.inr ⟨_,rfl⟩⟩,?_⟩
 walk_at "ag"
 refine⟨rfl,[Str.ofString "A"],rfl,rfl,⟨_,.inl rfl⟩,?_⟩
 walk_at "n_3"
 walk_at "n_3"
 have h1:rrS P 1 FJ k X:=by
  rw[←Iz,←Iy,←Ix]
  exact⟨leB rfl,rfl,leB rfl,rfl,leB rfl,rfl,rfl,rfl,rfl,leB rfl,rfl,rfl,leB rfl,leB rfl,leB rfl,leB rfl,leB rfl,leB rfl,leB rfl,leB rfl,leB rfl,leB rfl,Iw P k X h⟩
 exact h1
def FG:aE:=fun args kws M k X=>kws=[]∧M=[]∧args=[]∧k (.v (.bool true)) []
theorem FE{D:Wd}(h:Ok D):SpecOk D 134 1595 FG:=(zX (c8 h) (wZ h)).less fun args kws M k X z=>by
 obtain⟨rfl,rfl,rfl,z⟩:=z
 exact zY rfl (zJ _ k X z)
def CS(P:Params):Tb:=aD (uN P) 1595 FG
theorem Dq{D:Wd}(h:Ok D):TbOk D 134 (CS D.w.params):=(wZ h).add (FE h) (c8 h).keep
theorem AK{al:Option Str}(h:al∈aliL):∀a,al=some a→Sh a:=by
 intro a e
 simp only[aliL,List.mem_cons,List.not_mem_nil,or_false] at h
 rcases h with rfl|rfl|rfl|rfl<;>cases e<;>exact⟨leB (by kernel_rfl),by kernel_rfl⟩
theorem RowG.q{r:Row}{b:List Row}(h:RowG r b):RowQ r b:=⟨AK h.alias,h.names,fun s hs=>(h.each s hs).sh,h.us⟩
theorem RowsG.q:∀{b rs:List Row},RowsG b rs→RowsQ b rs
 |_,[],_=>trivial
 |_,_::_,h=>⟨h.1.q,RowsG.q h.2⟩
theorem RowsQ.shs{rs:List Row}(h:RowsQ [] rs):∀r∈rs,cO r:=fun r hr=>by
 obtain⟨b,g⟩:=h.all r hr
 exact⟨Nat.le_trans g.nlen (by decide),Nat.le_trans g.ulen (by decide),g.alias,g.each⟩
theorem RowsQ.bare{rs:List Row}(h:RowsQ [] rs):bx rs:=by
 cases rs with
 |nil=>trivial
 |cons r rs=>
  rcases h.1.us with e|⟨s,_,_,e⟩
  ·exact e
  ·cases e
theorem qg{t:Option Str}{c:Str}(ht:t∈tblL)(hc:CaseOf colL c):zl t c:=by
 refine⟨Nat.le_trans hc.sh2.1 (by decide),fun x e=>Nat.le_trans (fE ht x e).1 (by decide),?_⟩
 obtain⟨s,hs,e⟩:=hc
 walk_at "c3"
 rcases hs with rfl|rfl|rfl|rfl<;>rcases e with rfl|rfl<;>kernel_rfl
theorem uF{al:Option Str}(h:al∈calL):∀a,al=some a→Sh a:=by
 intro a e
 simp only[calL,List.mem_cons,List.not_mem_nil,or_false] at h
 rcases h with rfl|rfl|rfl|rfl<;>cases e<;>exact⟨leB (by kernel_rfl),by kernel_rfl⟩
theorem ColCh.q{c:ColE}(h:ColCh c):ColQ2 c:=by
 cases c with
 |star t=>
  rcases h with rfl|⟨s,hs,rfl⟩
  ·exact fun x e=>by cases e
  ·exact fun x e=>by cases e;exact(pN s hs).1
 |ex e al=>
  obtain⟨h1,h2⟩:=h
  have ha:∀x,al=some x→x.length≤300:=fun x e=>(uF h1 x e).1
  rcases h2 with rfl|rfl|⟨t,c,rfl,ht,hc⟩
  ·exact⟨trivial,⟨by decide,by decide⟩,ha⟩
  ·exact⟨trivial,trivial,ha⟩
  ·exact⟨trivial,qg ht hc,ha⟩
theorem GrpCh.ok{e:Ex}(h:GrpCh e):fC e:=by
 rcases h with ⟨n,rfl,h0,h1⟩|rfl|⟨t,c,rfl,ht,hc|rfl⟩
 ·exact⟨by omega,by omega⟩
 ·trivial
 ·exact qg ht hc
 ·exact⟨leB (by kernel_rfl),fun x e=>Nat.le_trans (fE ht x e).1 (by decide),by kernel_rfl⟩
theorem ff:∀cols:List ColE,bZ cols≤cols.length
 |[]=>Nat.le_refl _
 |.star _::r=>by have:=ff r;simp only[bZ,List.length_cons];omega
 |.ex _ _::r=>by have:=ff r;simp only[bZ,List.length_cons];omega
theorem xM{rs:List Row}{c:ColE}(h:ColCh c):∀a,bO rs c=some a→Sh a:=by
 intro a e
 cases c with
 |star t=>cases e
 |ex x al=>
  have e:(match aX rs (.ex x al) with|.no _=>none|.ok _=>al)=some a:=e
  split at e
  ·cases e
  ·exact uF h.1 a e
theorem mz{rs:List Row}:∀{cols:List ColE} {D:OutsT},(∀a∈D.als,Sh a.1)→(∀c∈cols,ColCh c)→∀a∈(cols.foldl (aV rs) D).als,Sh a.1
 |[],D,h,_=>h
 |c::cols,D,h,hc=>by
  refine mz (cols:=cols) ?_ fun x hx=>hc x (.tail _ hx)
  unfold aV
  cases D.due with
  |no m=>exact h
  |ok l=>
   cases aX rs c with
   |no m=>exact h
   |ok l2=>
    show ∀a∈ri (bO rs c) l2 D.als,Sh a.1
    cases hA:bO rs c with
    |none=>exact h
    |some a=>
     cases l2 with
     |nil=>exact h
     |cons o r=>
      intro x hx
      rcases List.mem_append.mp hx with hx|hx
      ·exact h x hx
      ·cases List.mem_singleton.mp hx;exact xM (hc c (.head _)) a hA
theorem um:∀l:List br,inC (.tup [.str "count"]) (l.map fun o=>o.2.c)=dz l
 |[]=>rfl
 |(s,t)::r=>by
  have ih:=um r
  show (bif eqC t.c (.tup [.str "count"]) then true else inC (.tup [.str "count"]) (r.map fun o=>o.2.c))=(bF (.ok t)||dz r)
  rw[ih]
  cases t<;>rfl
theorem vf:am=bf:=funext wU
def mN:aE:=fun args kws M k X=>kws=[]∧∃(p:Int×Int) (rs:List Row) (outs:List br) (als:List AlT),args=[.ref 0,.v (.lst (rs.map Row.cv)),.v (.lst (outs.map bf)),.v (.lst (als.map alT))]∧M=[ak p]∧au p∧rs.length≤900∧(∀r∈rs,cO r)∧outs.length≤50∧als.length≤900∧(∀a∈als,Sh a.1) ∧
 ∀(gs:List Ex) (q:Int×Int),gs.length≤2→(∀e∈gs,GrpCh e)→au q→k (.v (.tup [.lst (gs.map Ex.d),vK (aW rs outs als gs)])) [ak q]
theorem sr{D:Wd}(h:Ok D):SpecOk D 131 1576 mN:=(n9 h).less fun args kws M k X z=>by
 unfold mN at z
 rw[←vf] at z
 exact z
def lwZ:List (Nat×List Str):=[(1173,["script","two"]),(1174,["script","two","due"])]
def IX:eQ:=⟨[],fun items _ M k _=>∃(q:Int×Int) (l:List br),M=k9 8++[ak q,.lst []]∧items=l.map bf∧k (l.map fun o=>o.2.c) M⟩
def uM(P:Params):Tb:=pu (aD (CS P) 1576 mN) 1191 IX
theorem ok_131{D:Wd}(h:Ok D):TbOk D 135 (uM D.w.params):=eE ((Dq h).add ((sr h).up (by decide)) (e9 h).keep)
abbrev lwS(P:Params)(n:Nat)(m:Vs)(k:K1)(X:KX)(M:AM:=[]):Prop:=evZ (ev 40) ⟨uM P,(rH P).scope,false⟩ 0 lwZ ((rH P).body.drop n) m M (vJ 0 k) (fun msg M'=>gf 0 M' fun M2=>X msg M2)
def twoC:List ColE:=[.ex (.lit 1) none,.ex (.lit 2) (some "k")]
def twoO:List br:=[("1",.valI 1),("k",.valI 2)]
def G0(s:AV):Vs:=[("script",s),("two",.v (.lst (twoC.map ColE.c)))]
def vo(s:AV):Vs:=[("script",s),("two",.v (.lst (twoC.map ColE.c))),("due",.v (.lst (twoO.map bf)))]
theorem IW(P:Params)(s:CV)(k:K1)(X:KX):(AV.v .none=.v .none∧AV.v .none=.v .none∧AV.v .none=.v .none∧AV.v .none=.v .none∧2≤1000∧lwS P 1 (G0 (.v s)) k X)=iM (uM P) (rH P) lwZ [.v s] [] k X:=by kernel_rfl
theorem IV(P:Params)(s:CV)(k:K1)(X:KX):(2≤1000∧2≤1000∧2≤1000∧2≤1000∧2≤1000∧lwS P 2 (vo (.v s)) k X)=lwS P 1 (G0 (.v s)) k X:=by kernel_rfl
def lwM(q:Int×Int):Option (List CV)→AM
 |none=>[.gone,.gone,.gone,.gone,.gone,.gone,.gone,.gone,ak q,.lst []]
 |some l=>[.gone,.gone,.gone,.gone,.gone,.gone,.gone,.gone,ak q,.lst [],.lst l]
def xE(s:CV)(rs:List Row)(cols:List ColE)(outs als:CV):Vs:=[("script",.v s),("two",.v (.lst (twoC.map ColE.c))),("due",.v (.lst (twoO.map bf))),("source",.ref 8),("node",.v (aZ rs)),("rows",.v (.lst (rs.map Row.cv))),("columns",.v (.lst (cols.map ColE.c))),("outputs",.v outs),("aliases",.v als)]
def qk(s:CV)(rs:List Row)(cols:List ColE)(outs als:CV)(gs:List Ex)(due:CV):Vs:=[("script",.v s),("two",.v (.lst (twoC.map ColE.c))),("due",.v due),("source",.ref 8),("node",.v (aZ rs)),("rows",.v (.lst (rs.map Row.cv))),("columns",.v (.lst (cols.map ColE.c))),("outputs",.v outs),("aliases",.v als),("groups",.v (.lst (gs.map Ex.d)))]
def GZ(s:CV)(rs:List Row)(cols:List ColE)(outs als:CV)(gs:List Ex)(due:CV)(g:Bool):Vs:=[("script",.v s),("two",.v (.lst (twoC.map ColE.c))),("due",.v due),("source",.ref 8),("node",.v (aZ rs)),("rows",.v (.lst (rs.map Row.cv))),("columns",.v (.lst (cols.map ColE.c))),("outputs",.v outs),("aliases",.v als),("groups",.v (.lst (gs.map Ex.d))),("is_gathered",.v (.bool g))]
structure zm(rs:List Row)(cols:List ColE)(gs:List Ex):Prop where
 rq:RowsQ [] rs
 rl:rs.length≤3
 cq:∀c∈cols,ColCh c
 cl:cols.length≤3
 gl:gs.length≤2
 gq:∀e∈gs,GrpCh e
theorem Ct(P:Params)(s:CV)(q:Int×Int)(o:Option (List CV))(rs:List Row)(cols:List ColE)(gs:List Ex)(l:List br)(t:List Tag)(als:CV)(k:K1)(X:KX)(ok:zm rs cols gs)
  (ht:b5 rs cols gs=.tup [.lst (l.map bf),.lst (t.map Tag.c),.bool (!t.isEmpty||dz l)]) (h:k (.v (.bool true)) []):lwS P 13 (GZ s rs cols (.lst (l.map bf)) als gs (.lst (t.map Tag.c)) (!t.isEmpty||dz l)) k X (lwM q o):=by
 have hc:=ff cols
 have hcl:=ok.cl
 have key:∀b:Bool,eqC (.tup [.lst (l.map bf),.lst (t.map Tag.c),.bool b]) (.tup [.lst (l.map bf),.lst (t.map Tag.c),.bool b])=true:=fun b=>Dat.eq 5 _ (gv l t b)
 generalize (!t.isEmpty||dz l)=b at ht ⊢
 have hcm:CmL (Cm 8) [.lst (l.map bf),.lst (t.map Tag.c),.bool b] [.lst (l.map bf),.lst (t.map Tag.c),.bool b]:=Dat.cms (fun c=>Dat.cm 4 8 c (by decide)) _ (gv l t b)
 have hb:k (.v (.bool (eqC (.tup [.lst (l.map bf),.lst (t.map Tag.c),.bool b]) (.tup [.lst (l.map bf),.lst (t.map Tag.c),.bool b])))) []:=by rw[key];exact h
 cases o with
 |none=>
  walk_at "bD"
  walk_at "ab"
  refine And.intro hcm ?_
  exact hb
 |some es=>
  walk_at "bD"
  walk_at "ab"
  refine And.intro hcm ?_
  exact hb
theorem GV(P:Params)(s:CV)(q:Int×Int)(rs:List Row)(cols:List ColE)(gs:List Ex)(l:List br)(t:List Tag)(als:CV)(k:K1)(X:KX)(ok:zm rs cols gs)(hl:l.length≤50)(hg:gs.isEmpty=t.isEmpty)
  (ht:b5 rs cols gs=.tup [.lst (l.map bf),.lst (t.map Tag.c),.bool (!t.isEmpty||dz l)]) (h:k (.v (.bool true)) []):lwS P 12 (qk s rs cols (.lst (l.map bf)) als gs (.lst (t.map Tag.c))) k X [.gone,.gone,.gone,.gone,.gone,.gone,.gone,.gone,ak q]:=by
 have hlm:(l.map bf).length≤1000:=by rw[List.length_map];omega
 have hgl:(gs.map Ex.d).length≤1000:=by rw[List.length_map];have:=ok.gl;omega
 cases gs with
 |nil=>
  have ht0:t.isEmpty=true:=hg.symm
  have fin:=Ct P s q (some (l.map fun o=>o.2.c)) rs cols [] l t als k X ok ht h
  rw[ht0,Bool.not_true,Bool.false_or,←um] at fin
  walk_at "ab"
  refine And.intro hgl ?_
  walk_at "ab"
  refine And.intro hlm ?_
  walk_at "aJ"
  ·intro vals M k X z
   obtain⟨q,l,rfl,e,z⟩:=z
   cases l with
   |nil=>exact z
   |cons a r=>cases e
  ·intro c cs vals M k X z
   obtain⟨q,l,rfl,e,z⟩:=z
   cases l with
   |nil=>cases e
   |cons a r=>
    cases e
    exact⟨q,r,rfl,rfl,z⟩
  ·refine⟨q,l,rfl,rfl,?_⟩
   refine And.intro ⟨by rw[List.length_map];omega,fun c hc=>?_⟩ ?_
   ·obtain⟨o,_,rfl⟩:=List.mem_map.mp hc
    cases o.2<;>exact⟨rfl,trivial⟩
   ·exact fin
 |cons g gs=>
  have ht0:t.isEmpty=false:=hg.symm
  have fin:=Ct P s q none rs cols (g::gs) l t als k X ok ht h
  rw[ht0,Bool.not_false,Bool.true_or] at fin
  walk_at "ab"
  refine And.intro hgl ?_
  exact fin
def mu(q:Int×Int):AM:=[.gone,.gone,.gone,.gone,.gone,.gone,.gone,.gone,ak q]
theorem zV(m:Str):∀x∈[CV.str "refused",.str m],Dat 4 x:=by
 intro x hx
 simp only[List.mem_cons,List.not_mem_nil,or_false] at hx
 rcases hx with rfl|rfl<;>exact(show 3 < 4 by decide)
theorem xu(m:Str):eqC (noC m) (noC m)=true:=Dat.eq 5 _ (zV m)
theorem GY(P:Params)(s:CV)(q:Int×Int)(rs:List Row)(cols:List ColE)(gs:List Ex)(o als:CV)(ts:List CV)(k:K1)(X:KX):lwS P 12 (qk s rs cols o als gs (.lst ts)) k X (mu q)=lwS P 11 (qk s rs cols o als gs (.lst ts)) k X (mu q):=by kernel_rfl
theorem IU(P:Params)(s:CV)(q:Int×Int)(rs:List Row)(cols:List ColE)(os:List CV)(als:CV)(k:K1)(X:KX):lwS P 10 (xE s rs cols (.lst os) als) k X (mu q)=lwS P 9 (xE s rs cols (.lst os) als) k X (mu q):=by kernel_rfl
theorem GW(P:Params)(s:CV)(q:Int×Int)(rs:List Row)(cols:List ColE)(gs:List Ex)(l:List br)(als:List AlT)(k:K1)(X:KX)(ok:zm rs cols gs)(hl:l.length≤50)
  (ho:aw rs cols=⟨.ok l,als⟩) (h:k (.v (.bool true)) []):lwS P 11 (qk s rs cols (.lst (l.map bf)) (.lst (als.map alT)) gs (vK (aW rs l als gs))) k X (mu q):=by
 have hc:=ff cols
 have hcl:=ok.cl
 have ht:b5 rs cols gs=match aW rs l als gs with
  |.no m=>noC m
  |.ok t=>.tup [.lst (l.map bf),.lst (t.map Tag.c),.bool (!t.isEmpty||dz l)]:=by unfold b5;rw[ho];try rfl
 have hlen:∀t,aW rs l als gs=.ok t→gs.isEmpty=t.isEmpty:=fun t e=>by
  match gs,ok.gl,e with
  |[],_,e=>cases e;rfl
  |[a],_,e=>
   obtain⟨l1,e1,h1⟩:=dr (show aQ rs l als false (.ok []) a=.ok t from e)
   cases t with
   |nil=>simp at h1
   |cons _ _=>rfl
  |[a,b],_,e=>
   obtain⟨l1,e1,h1⟩:=dr (show aQ rs l als true (aQ rs l als false (.ok []) a) b=.ok t from e)
   cases t with
   |nil=>simp at h1
   |cons _ _=>rfl
 cases hg:aW rs l als gs with
 |no m=>
  rw[hg] at ht
  have hb:k (.v (.bool (eqC (noC m) (noC m)))) []:=by rw[xu];exact h
  walk_at "bD"
  walk_at "cu"
  exact hb
 |ok t=>
  rw[hg] at ht
  show lwS P 11 (qk s rs cols (.lst (l.map bf)) (.lst (als.map alT)) gs (.lst (t.map Tag.c))) k X (mu q)
  rw[←GY]
  exact GV P s q rs cols gs l t (.lst (als.map alT)) k X ok hl (hlen t hg) ht h
theorem GX(P:Params)(s:CV)(q:Int×Int)(hq:au q)(rs:List Row)(cols:List ColE)(l:List br)(als:List AlT)(k:K1)(X:KX)(ok:zm rs cols [])(hl:l.length≤50)(hal:als.length≤900)(hsh:∀a∈als,Sh a.1)
  (ho:aw rs cols=⟨.ok l,als⟩) (h:k (.v (.bool true)) []):lwS P 10 (xE s rs cols (.lst (l.map bf)) (.lst (als.map alT))) k X (mu q):=by
 refine⟨rfl,q,rs,l,als,rfl,rfl,hq,Nat.le_trans ok.rl (by decide),ok.rq.shs,hl,hal,hsh,fun gs q2 h1 h2 h3=>?_⟩
 exact GW P s q2 rs cols gs l als k X ⟨ok.rq,ok.rl,ok.cq,ok.cl,h1,h2⟩ hl ho h
theorem IM(P:Params)(s:CV)(q:Int×Int)(hq:au q)(rs:List Row)(cols:List ColE)(k:K1)(X:KX)(ok:zm rs cols [])(h:k (.v (.bool true)) []):lwS P 9 (xE s rs cols (l7 (aw rs cols).due) (.lst ((aw rs cols).als.map alT))) k X (mu q):=by
 have hc:=ff cols
 have hcl:=ok.cl
 have hlo:=dp (rs:=rs) (fun t=>Nat.le_trans (dT (tbl:=t) (i:=0) (fun r hr=>by obtain⟨b,g⟩:=ok.rq.all r hr;exact g.nlen)) (by have:=ok.rl;omega)) (cols:=cols) (D:=⟨.ok [],[]⟩) (m:=0) (fun l e=>by cases e;decide) (by decide)
 have hsh:=mz (rs:=rs) (cols:=cols) (D:=⟨.ok [],[]⟩) (fun a h=>(nomatch h)) ok.cq
 have hlo:(∀l,(aw rs cols).due=.ok l→l.length≤12*(0+cols.length))∧(aw rs cols).als.length≤0+cols.length:=hlo
 have hsh:∀a∈(aw rs cols).als,Sh a.1:=hsh
 cases ho:aw rs cols with
 |mk due als=>
  rw[ho] at hlo hsh
  cases due with
  |no m=>
   have ht:b5 rs cols []=noC m:=by unfold b5;rw[ho];try rfl
   have hb:k (.v (.bool (eqC (noC m) (noC m)))) []:=by rw[xu];exact h
   walk_at "ab"
   refine⟨rfl,rfl,rs,cols,[],_,rfl,ok.rq,ok.rl,ok.rq.bare,fun c hc=>(ok.cq c hc).q,by omega,by omega,by decide,fun e he=>(nomatch he),ht,?_⟩
   walk_at "cu"
   exact hb
  |ok l=>
   have h1:l.length≤12*(0+cols.length):=hlo.1 l rfl
   have h2:als.length≤0+cols.length:=hlo.2
   show lwS P 9 (xE s rs cols (.lst (l.map bf)) (.lst (als.map alT))) k X (mu q)
   rw[←IU]
   exact GX P s q hq rs cols l als k X ok (by omega) (by omega) hsh ho h
theorem IN(P:Params)(s:CV)(q:Int×Int)(hq:au q)(rs:List Row)(k:K1)(X:KX)(rq:RowsQ [] rs)(rl:rs.length≤3)(h:k (.v (.bool true)) []) :
  lwS P 8 [("script",.v s),("two",.v (.lst (twoC.map ColE.c))),("due",.v (.lst (twoO.map bf))),("source",.ref 8),("node",.v (aZ rs)),("rows",.v (.lst (rs.map Row.cv)))] k X (mu q):=by
 refine⟨rfl,q,rs,rfl,rfl,hq,rl,rq.shs,fun t=>Nat.le_trans (dT (tbl:=t) (i:=0) (fun r hr=>by obtain⟨b,g⟩:=rq.all r hr;exact g.nlen)) (by omega),fun cols q2 h0 h1 h2 h3=>?_⟩
 exact IM P s q2 h3 rs cols k X ⟨rq,rl,h2,h1,by decide,fun e he=>(nomatch he)⟩ h
theorem IO(P:Params)(s:CV)(q:Int×Int)(hq:au q)(k:K1)(X:KX)(h:k (.v (.bool true)) []) :
  lwS P 7 [("script",.v s),("two",.v (.lst (twoC.map ColE.c))),("due",.v (.lst (twoO.map bf))),("source",.ref 8)] k X (mu q):=by
 refine⟨rfl,q,rfl,rfl,hq,fun rs q2 h1 h2 h3=>?_⟩
 exact IN P s q2 h1 rs k X h2.q h3 h
theorem IP(P:Params)(l:List Int)(hl:l.length≤63)(k:K1)(X:KX)(h:k (.v (.bool true)) []):lwS P 6 (vo (.v (.lst (l.map CV.int)))) k X (k9 8):=by
 refine⟨rfl,rfl,l,rfl,Nat.le_trans hl (by decide),fun q hq=>?_⟩
 exact IO P _ q hq k X h
theorem IQ(P:Params)(l:List Int)(hl:l.length≤63)(k:K1)(X:KX)(h:k (.v (.bool true)) []):lwS P 5 (vo (.v (.lst (l.map CV.int)))) k X (k9 8):=by
 refine⟨rfl,rfl,rfl,?_⟩
 exact IP P l hl k X h
theorem lw4:b5 [] [.star none] []=noC "no tables specified":=by kernel_rfl
theorem lw3:b5 [] twoC [.lit 3]=noC "1st GROUP BY term out of range - should be between 1 and 2":=by kernel_rfl
theorem lw2:b5 [] twoC [.lit 1,.nm none "K"]=.tup [.lst (twoO.map bf),.lst ([Tag.valI 1,.valI 2].map Tag.c),.bool true]:=by kernel_rfl
theorem wl:∀c∈twoC,ColQ2 c:=by
 intro c hc
 simp only[twoC,List.mem_cons,List.not_mem_nil,or_false] at hc
 rcases hc with rfl|rfl
 ·exact⟨trivial,⟨by decide,by decide⟩,fun x e=>by cases e⟩
 ·exact⟨trivial,⟨by decide,by decide⟩,fun x e=>by cases e;exact leB (by kernel_rfl)⟩
theorem IR(P:Params)(l:List Int)(hl:l.length≤63)(k:K1)(X:KX)(h:k (.v (.bool true)) []):lwS P 4 (vo (.v (.lst (l.map CV.int)))) k X (k9 5):=by
 walk_at "ag"
 refine⟨rfl,rfl,[],[.star none],[],_,rfl,trivial,by decide,trivial,fun c hc=>by cases List.mem_singleton.mp hc;exact fun x e=>(nomatch e),leB rfl,leB rfl,by decide,fun e he=>(nomatch he),lw4,?_⟩
 walk_at "ag"
 walk_at "cu"
 exact IQ P l hl k X h
theorem IS(P:Params)(l:List Int)(hl:l.length≤63)(k:K1)(X:KX)(h:k (.v (.bool true)) []):lwS P 3 (vo (.v (.lst (l.map CV.int)))) k X (k9 3):=by
 walk_at "ag"
 refine⟨rfl,rfl,[],twoC,[.lit 3],_,rfl,trivial,by decide,trivial,wl,leB rfl,leB rfl,by decide,fun e he=>by cases List.mem_singleton.mp he;exact⟨by decide,by decide⟩,lw3,?_⟩
 walk_at "ag"
 walk_at "cu"
 exact IR P l hl k X h
theorem G1:∀e∈[Ex.lit 1,.nm none "K"],fC e:=by
 intro e he
 simp only[List.mem_cons,List.not_mem_nil,or_false] at he
 rcases he with rfl|rfl
 ·exact⟨by decide,by decide⟩
 ·exact ua _ (by kernel_rfl) (by kernel_rfl)
theorem IT(P:Params)(l:List Int)(hl:l.length≤63)(k:K1)(X:KX)(h:k (.v (.bool true)) []):lwS P 2 (vo (.v (.lst (l.map CV.int)))) k X:=by
 walk_at "ag"
 refine⟨rfl,rfl,[],twoC,[.lit 1,.nm none "K"],_,rfl,trivial,by decide,trivial,wl,leB rfl,leB rfl,by decide,G1,lw2,?_⟩
 walk_at "ag"
 refine And.intro (cmT (gv twoO [.valI 1,.valI 2] true) (by kernel_rfl)) ?_
 exact IS P l hl k X h
theorem law_body(P:Params)(l:List Int)(hl:l.length≤63):iM (uM P) (rH P) lwZ [.v (.lst (l.map CV.int))] [] (fun r _=>r=.v (.bool true)) fun _ _=>False:=by
 rw[←IW,←IV]
 exact⟨rfl,rfl,rfl,rfl,leB rfl,leB rfl,leB rfl,leB rfl,leB rfl,leB rfl,IT P l hl _ _ rfl⟩
theorem get_back{h h':Heap}(k:∀b o,h.get? b=some o→h'.get? b=some o){a:Addr}{o:Obj}(e:h.get? a=some o){o':Obj}(e':h'.get? a=some o'):h.get? a=some o':=by
 rw[k a o e] at e';cases e';exact e
theorem ns_back{h h':Heap}(k:∀b o,h.get? b=some o→h'.get? b=some o){a:Addr}{o:Obj}(e:h.get? a=some o){m:Str→Option Value}(n:h'.Ns a m):h.Ns a m:=by
 obtain⟨o',es,ep,h1,r⟩:=n
 exact⟨o',es,ep,get_back k e h1,r⟩
theorem has_main(P:Params):∃o,(KL P).lookup mainGlobals=some o:=Option.isSome_iff_exists.mp (by kernel_rfl)
theorem has_blt(P:Params):∃o,(KL P).lookup builtinsNs=some o:=Option.isSome_iff_exists.mp (by kernel_rfl)
theorem has_sta(P:Params):∃o,(KL P).lookup cStatics=some o:=Option.isSome_iff_exists.mp (by kernel_rfl)
theorem law_at(P:Params):nsIn (KL P) mainGlobals ("law" : Str)=some (some (.ref 1600)):=by kernel_rfl
end Mine
theorem PySem.Challenge.cw_xw0243_01_holds : PySem.Challenge.rw_xw0243_01.Holds := by
 refine Mine.head1 fun w s₀ s₁ mg mb G e args vals as a ha L hpre hlay=>?_
 have X:(Mine.KL w.params).In s₀.heap:=e▸Mine.KL_in w.params
 obtain⟨o1,e1⟩:=Mine.has_main w.params
 obtain⟨o2,e2⟩:=Mine.has_blt w.params
 obtain⟨o3,e3⟩:=Mine.has_sta w.params
 have T1:=topRead_of G.T
 have T:TopRead Mine.q1 (looseW Mine.q1 Mine.loose1) mg mb s₀.heap:=⟨Mine.ns_back L.keeps (X _ _ e1) T1.g,Mine.ns_back L.keeps (X _ _ e2) T1.b,T1.nolimit.at fun o h=>Mine.get_back L.keeps (X _ _ e3) h,T1.builtins,T1.free⟩
 let D:Mine.Wd:=⟨Mine.P1,w,Mine.KL w.params,fun x=>Mine.lkA x Mine.cTab,s₀.heap,s₁.os,_,_,mg,mb,X,T⟩
 have h:Mine.Ok D:=⟨rfl,rfl⟩
 have ea:mg ("law" : Str)=some (.ref 1600):=mg_of X T.g (Mine.law_at w.params)
 rw[ha] at ea
 cases ea
 exact Mine.law_join (D:=D) (l:=PySem.Challenge.rw_xw0243_01) (Mine.F_law h) (Mine.ok_131 h) (by decide) rfl rfl rfl rfl L hpre fun xs hx=>Mine.law_body _ xs hx
end
