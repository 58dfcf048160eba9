import PyProof.Rows.All
import Wide.All
import OpenK.AllK
import Wide.FinOn
import HandS.ForMost
import HandS.ForExc
import HandS.Wide
import HandS.Lambda
import HandS.TupAny
import HandS.Flow
import HandS.IsInst
import HandS.Conv
import HandS.Deep
import HandS.Defaults
import HandS.MakeKwOnly
import HandS.Walk
import HandS.StrMore
import HandS.Codes
import HandS.Head0
import HandS.Head1
import HandS.Head2
import HandS.HeadEnd
import HandS.HeadHook1
import HandS.HeadHook2
import HandS.Exc
import HandS.ExcInit
import HandS.ExcField
import HandS.ExcValue
import HandS.HotCalls
import HandS.HeadHook4
import HandS.EndTab
import HandS.MakeKw
import HandS.ClsMeth
import HandS.Property
import HandS.HeadNt
import KE.KCallOwn
import PyProof.InstNe
import HandS.FStr
import HandS.Style
import HandS.Star
import HandS.Zip
import PyProof.AutoSeq1
import HandS.ForDict
import HandS.DictComp
import KE.SortKeyHeap
import KE.KUnpackStar
import KE.IntTextLaws
import PyProof.StrBlock2
import HandS.More
import PyProof.GenQ
import PyProof.Rows.RowBridgeG
import HandS.GenCall
import HandS.GenList
import KE.GoesComp
import HandS.TryOnly
import PyProof.LongRange
import HandS.OwnEq
import KE.KExcInit
import HandS.Flt
import HandS.MethStar
import PyProof.Rows.StrMul
import PySem.Challenge.RW_roundmaps_k60_strings_that_are_no_texts
set_option Elab.async false
set_option linter.all false
set_option maxRecDepth 100000
set_option maxHeartbeats 4000000
set_option autoImplicit false
namespace DL
open PySem PySem.Spec PyProof.Rows L2
inductive D where
 | non | bl (b:Bool) | int (i:Int) | str (x:Str) | ty (n:String)
 | tup (xs:List D) | lst (xs:List D) | rol (xs:List D) | obj (C:Addr) (ns:List Str) (xs:List D)
 | exc (C:Addr) (ns:List Str) (xs:List D)
 | dk (ks:List Key) (xs:List D) | dt (ks:List (List Int)) (xs:List D)
 | ref (a:Addr) | mt (i:Nat)
 | lam (f:Addr) (L:List (Addr×(Heap->Prop)))
inductive MO where
 | lst (xs:List D) | dK (kvs:List (Key×D)) | dT (ks:List (List Int)) (xs:List D) | ins (C:Addr) (fs:List (Str×D))
abbrev Ents:=List (List Int×Addr×V)
def thI (ks:List Int):Int:=reduceHash (Builtin.Tuple.tupleHashOf (ks.map hashInt))
abbrev DicO (a:Addr) (L:Ents):HO:=.ext fun h=>(a == sysModules)=false/\L.length<=sizeLine/\∃ xs:List (List Int×Addr×Value),Paired (fun p q=>p.1=q.1/\p.2.1=q.2.1/\RelV p.2.2 q.2.2) L xs /\
 ∃ o es ep,h.get? a=some o/\o.ExactDict/\o.data = .dict es ep/\es.toList=xs.map (fun x=>(⟨thI x.1,.ref x.2.1,x.2.2⟩:DictEntry))/\(xs.map (·.1)).Nodup
def kD (ks:List Int):D:=.tup (ks.map D.int)
def Lv (L:Ents):List V:=L.map (fun e=>V.ref e.2.1) ++ L.map (·.2.2)
abbrev Mem:=List (Option MO)
abbrev Rho:=List (Option D)
structure Exn where
 C:Addr
 fs:List (Str×D)
abbrev VD:=D->Mem->Prop
abbrev XD:=Exn->Mem->Prop
structure Al where
 a:List Addr
 h:List Addr
def Fz (al:Al) (M:Mem) (a:Addr):Prop:=a ∉ al.h/\∀ (i:Nat) (mo:MO),al.a[i]?=some a->M[i]?=some (some mo)->False
def Al.push (al:Al) (p:Addr):Al:=⟨al.a ++ [p],al.h⟩
def noH:Hp:=fun _=>none
def exs (a:Addr) (cls:Value) (d:Option Addr):HO:=.ext fun h=>∃ (oe:Obj) (vs:Array Value),h.get? a=some oe/\Zc cls d oe/\oe.data = .fields vs
def SqTz (K:PySem.W.Frag) (al:Al) (M:Mem) (H:Hp) (a:Addr) (xs:List V):Prop:=(H a=some (.tup xs)/\Fz al M a)\/SqT K noH a xs
def SqLz (K:PySem.W.Frag) (al:Al) (M:Mem) (H:Hp) (a:Addr) (xs:List V):Prop:=(Rd H a (.lst xs)/\Fz al M a)\/SqL K noH a xs
mutual
def Rp (K:PySem.W.Frag) (al:Al) (M:Mem) (H:Hp):D->V->Prop
 | .non,v=>v = .non
 | .bl b,v=>v = .bl b
 | .int i,v=>v = .int i
 | .str x,v=>v = .str x
 | .ty n,v=>v = .ty n
 | .tup ds,v=>∃ a xs,v = .ref a/\SqTz K al M H a xs/\Rps K al M H ds xs
 | .lst ds,v=>∃ a xs,v = .ref a/\H a=some (.lst xs)/\Fz al M a/\Rps K al M H ds xs
 | .rol ds,v=>∃ a xs,v = .ref a/\SqLz K al M H a xs/\Rps K al M H ds xs
 | .obj C ns ds,v=>∃ a dx xs,v = .ref a/\H a=some (.ins C dx (ns.zip xs))/\Fz al M a/\ns.length=xs.length/\Rps K al M H ds xs
 | .exc C ns ds,v=>∃ a dx xs,v = .ref a/\H a=some (exs a (.ref C) (some dx))/\Fz al M a/\H dx=some (.xd (ns.zip xs))/\Fz al M dx/\ns.length=xs.length/\Rps K al M H ds xs
 | .dk ks ds,v=>∃ a o xs,v = .ref a/\H a=some (.frz o (.dK (ks.zip xs)))/\Fz al M a/\ks.length=xs.length/\Rps K al M H ds xs
 | .dt ks ds,v=>∃ a o L,v = .ref a/\H a=some (.frz o (DicO a L))/\Fz al M a/\(L.map (·.1)=ks/\ds.take ks.length=ks.map kD)/\Rps K al M H ds (Lv L)
 | .ref a,v=>v = .ref a
 | .lam f L,v=>v = .ref f/\∀ x∈L,H x.1=some (.ext x.2)/\Fz al M x.1
 | .mt i,v=>∃ a,al.a[i]?=some a/\v = .ref a
def Rps (K:PySem.W.Frag) (al:Al) (M:Mem) (H:Hp):List D->List V->Prop
 | [],xs=>xs=[]
 | d :: ds,xs=>∃ x r,xs=x :: r/\Rp K al M H d x/\Rps K al M H ds r
end
structure Stp (al:Al) (M:Mem) (H:Hp) (al':Al) (M':Mem) (H':Hp):Prop where
 pre:∀ (i:Nat) (a:Addr),al.a[i]?=some a->al'.a[i]?=some a
 fz:∀ a o,H a=some o->(∀ ps,o≠.tbl ps)->Fz al M a->H' a=some o/\Fz al' M' a
 hh:al'.h=al.h
 hid:∀ a∈al.h,H' a=H a
theorem Stp.trans {al al1 al2:Al} {M M1 M2:Mem} {H H1 H2:Hp} (a:Stp al M H al1 M1 H1) (b:Stp al1 M1 H1 al2 M2 H2):Stp al M H al2 M2 H2 :=
 ⟨fun i x h=>b.pre i x (a.pre i x h),fun x o h n f=>b.fz x o (a.fz x o h n f).1 n (a.fz x o h n f).2,b.hh.trans a.hh,fun x hx=>(b.hid x (by rw [a.hh];exact hx)).trans (a.hid x hx)⟩
theorem SqTz.mono {K:PySem.W.Frag} {al al':Al} {M M':Mem} {H H':Hp} {a:Addr} {xs:List V} (s:Stp al M H al' M' H') (h:SqTz K al M H a xs):SqTz K al' M' H' a xs:=by
 rcases h with ⟨h,f⟩ | h
 ·exact .inl ⟨(s.fz _ _ h (fun _ z=>by cases z) f).1,(s.fz _ _ h (fun _ z=>by cases z) f).2⟩
 ·exact .inr h
theorem SqLz.mono {K:PySem.W.Frag} {al al':Al} {M M':Mem} {H H':Hp} {a:Addr} {xs:List V} (s:Stp al M H al' M' H') (h:SqLz K al M H a xs):SqLz K al' M' H' a xs:=by
 rcases h with ⟨h | ⟨o,h⟩,f⟩ | h
 ·exact .inl ⟨.inl (s.fz _ _ h (fun _ z=>by cases z) f).1,(s.fz _ _ h (fun _ z=>by cases z) f).2⟩
 ·exact .inl ⟨.inr ⟨o,(s.fz _ _ h (fun _ z=>by cases z) f).1⟩,(s.fz _ _ h (fun _ z=>by cases z) f).2⟩
 ·exact .inr h
mutual
theorem Rp.mono {K:PySem.W.Frag} {al al':Al} {M M':Mem} {H H':Hp} (s:Stp al M H al' M' H'):∀ {d:D} {v:V},Rp K al M H d v->Rp K al' M' H' d v
 | .non,_,h=>h
 | .bl _,_,h=>h
 | .int _,_,h=>h
 | .str _,_,h=>h
 | .ty _,_,h=>h
 | .tup ds,_,h=>by
  obtain ⟨a,xs,e,q,r⟩:=h
  exact ⟨a,xs,e,q.mono s,Rps.mono s r⟩
 | .lst ds,_,h=>by
  obtain ⟨a,xs,e,q,f,r⟩:=h
  exact ⟨a,xs,e,(s.fz _ _ q (fun _ z=>by cases z) f).1,(s.fz _ _ q (fun _ z=>by cases z) f).2,Rps.mono s r⟩
 | .rol ds,_,h=>by
  obtain ⟨a,xs,e,q,r⟩:=h
  exact ⟨a,xs,e,q.mono s,Rps.mono s r⟩
 | .obj C ns ds,_,h=>by
  obtain ⟨a,dx,xs,e,q,f,l,r⟩:=h
  exact ⟨a,dx,xs,e,(s.fz _ _ q (fun _ z=>by cases z) f).1,(s.fz _ _ q (fun _ z=>by cases z) f).2,l,Rps.mono s r⟩
 | .dk C ds,_,h=>by
  obtain ⟨a,dx,xs,e,q,f,l,r⟩:=h
  exact ⟨a,dx,xs,e,(s.fz _ _ q (fun _ z=>by cases z) f).1,(s.fz _ _ q (fun _ z=>by cases z) f).2,l,Rps.mono s r⟩
 | .dt C ds,_,h=>by
  obtain ⟨a,dx,xs,e,q,f,l,r⟩:=h
  exact ⟨a,dx,xs,e,(s.fz _ _ q (fun _ z=>by cases z) f).1,(s.fz _ _ q (fun _ z=>by cases z) f).2,l,Rps.mono s r⟩
 | .exc C ns ds,_,h=>by
  obtain ⟨a,dx,xs,e,q,f,q2,f2,l,r⟩:=h
  exact ⟨a,dx,xs,e,(s.fz _ _ q (fun _ z=>by cases z) f).1,(s.fz _ _ q (fun _ z=>by cases z) f).2,(s.fz _ _ q2 (fun _ z=>by cases z) f2).1,(s.fz _ _ q2 (fun _ z=>by cases z) f2).2,l,Rps.mono s r⟩
 | .lam _ _,_,h=>⟨h.1,fun x hx=>s.fz _ _ (h.2 x hx).1 (fun _ z=>by cases z) (h.2 x hx).2⟩
 | .ref _,_,h=>h
 | .mt i,_,h=>by
  obtain ⟨a,e,q⟩:=h
  exact ⟨a,s.pre _ _ e,q⟩
theorem Rps.mono {K:PySem.W.Frag} {al al':Al} {M M':Mem} {H H':Hp} (s:Stp al M H al' M' H'):∀ {ds:List D} {xs:List V},Rps K al M H ds xs->Rps K al' M' H' ds xs
 | [],_,h=>h
 | d :: ds,_,h=>by
  obtain ⟨x,r,e,q,t⟩:=h
  exact ⟨x,r,e,Rp.mono s q,Rps.mono s t⟩
end
section
variable {K:PySem.W.Frag} {al:Al} {M:Mem} {H:Hp}
theorem Rps.length:∀ {ds:List D} {xs:List V},Rps K al M H ds xs->ds.length=xs.length
 | [],_,h=>by cases (show _=[] from h);rfl
 | d :: ds,_,h=>by
  obtain ⟨x,r,e,_,t⟩:=h
  subst e
  simp [Rps.length t]
theorem Rps.append:∀ {ds es:List D} {xs ys:List V},Rps K al M H ds xs->Rps K al M H es ys->Rps K al M H (ds ++ es) (xs ++ ys)
 | [],_,_,_,h,g=>by cases (show _=[] from h);exact g
 | d :: ds,_,_,_,h,g=>by
  obtain ⟨x,r,q,t,u⟩:=h
  subst q
  exact ⟨x,_,rfl,t,Rps.append u g⟩
theorem Rps.take:∀ {ds:List D} {xs:List V} (n:Nat),Rps K al M H ds xs->Rps K al M H (ds.take n) (xs.take n)
 | _,_,0,_=>rfl
 | [],_,_+1,h=>by cases (show _=[] from h);rfl
 | d :: ds,_,n+1,h=>by
  obtain ⟨x,r,q,t,u⟩:=h
  subst q
  exact ⟨x,_,rfl,t,Rps.take n u⟩
theorem Rps.drop:∀ {ds:List D} {xs:List V} (n:Nat),Rps K al M H ds xs->Rps K al M H (ds.drop n) (xs.drop n)
 | _,_,0,h=>by simpa using h
 | [],_,_+1,h=>by cases (show _=[] from h);rfl
 | d :: ds,_,n+1,h=>by
  obtain ⟨x,r,q,t,u⟩:=h
  subst q
  simpa using Rps.drop n u
theorem Rps.set:∀ {ds:List D} {xs:List V} (n:Nat) {d:D} {x:V},Rps K al M H ds xs->Rp K al M H d x->Rps K al M H (ds.set n d) (xs.set n x)
 | [],_,_,_,_,h,_=>by cases (show _=[] from h);rfl
 | d :: ds,_,0,_,_,h,g=>by
  obtain ⟨x,r,q,t,u⟩:=h
  subst q
  exact ⟨_,_,rfl,g,u⟩
 | d :: ds,_,n+1,_,_,h,g=>by
  obtain ⟨x,r,q,t,u⟩:=h
  subst q
  exact ⟨x,_,rfl,t,Rps.set n u g⟩
end
def Rpk {κ:Type} (K:PySem.W.Frag) (al:Al) (M:Mem) (H:Hp) (ds:List (κ×D)) (xs:List (κ×V)):Prop:=ds.map (·.1)=xs.map (·.1)/\Rps K al M H (ds.map (·.2)) (xs.map (·.2))
theorem Rpk.mono {κ:Type} {K:PySem.W.Frag} {al al':Al} {M M':Mem} {H H':Hp} {ds:List (κ×D)} {xs:List (κ×V)} (s:Stp al M H al' M' H') (h:Rpk K al M H ds xs):Rpk K al' M' H' ds xs:=⟨h.1,h.2.mono s⟩
theorem Rpk.nil {κ:Type} {K:PySem.W.Frag} {al:Al} {M:Mem} {H:Hp}:Rpk (κ:=κ) K al M H [] []:=⟨rfl,rfl⟩
theorem Rpk.cons {κ:Type} {K:PySem.W.Frag} {al:Al} {M:Mem} {H:Hp} {k:κ} {d:D} {x:V} {ds:List (κ×D)} {xs:List (κ×V)} (r:Rp K al M H d x) (h:Rpk K al M H ds xs):Rpk K al M H ((k,d) :: ds) ((k,x) :: xs) :=
 ⟨by simp [h.1],⟨x,_,rfl,r,h.2⟩⟩
theorem Rpk.cases {κ:Type} {K:PySem.W.Frag} {al:Al} {M:Mem} {H:Hp} {k:κ} {d:D} {ds:List (κ×D)} {xs:List (κ×V)} (h:Rpk K al M H ((k,d) :: ds) xs):∃ x r,xs=(k,x) :: r/\Rp K al M H d x/\Rpk K al M H ds r:=by
 obtain ⟨h1,x,r,e,q,t⟩:=h
 cases xs with
 | nil=>simp at h1
 | cons y ys =>
  obtain ⟨y1,y2⟩:=y
  simp at h1 e
  obtain ⟨rfl,h1⟩:=h1
  obtain ⟨rfl,rfl⟩:=e
  exact ⟨y2,ys,rfl,q,h1,t⟩
def Rpd (K:PySem.W.Frag) (al:Al) (M:Mem) (H:Hp) (ks:List (List Int)) (ds:List D) (L:Ents):Prop:=(L.map (·.1)=ks/\ds.take ks.length=ks.map kD)/\Rps K al M H ds (Lv L)
theorem Rpd.mono {K:PySem.W.Frag} {al al':Al} {M M':Mem} {H H':Hp} {ks:List (List Int)} {ds:List D} {L:Ents} (s:Stp al M H al' M' H') (h:Rpd K al M H ks ds L):Rpd K al' M' H' ks ds L:=⟨h.1,h.2.mono s⟩
def RpM (K:PySem.W.Frag) (al:Al) (M:Mem) (H:Hp) (a:Addr):MO->Prop
 | .lst ds=>∃ xs,H a=some (.lst xs)/\Rps K al M H ds xs
 | .dK kvs=>∃ ys,H a=some (.dK ys)/\Rpk K al M H kvs ys
 | .dT ks ds=>∃ L,H a=some (DicO a L)/\Rpd K al M H ks ds L
 | .ins C fs=>∃ dx ys,H a=some (.ins C dx ys)/\Rpk K al M H fs ys
def RpX (K:PySem.W.Frag) (al:Al) (M:Mem) (H:Hp) (x:Exn) (cls:Value) (d:Option Addr):Prop:=cls = .ref x.C/\∃ dx ys,d=some dx/\H dx=some (.xd ys)/\Rpk K al M H x.fs ys
theorem dic_code {a c:Addr} {L:Ents} {q:Str} (h:DicO a L=LamX.CodeO c q):False:=by
 unfold DicO LamX.CodeO at h
 injection h with h
 let ob:Obj:={ cls:=.none,data:=.fields #[.none,.str q 0] }
 let hp:Heap:=⟨Array.replicate (c+1) ob,{}⟩
 have key:∀ b o,hp.get? b=some o->o=ob:=fun b o e=>by
  have e1:(match (Array.replicate (c+1) ob)[b]? with
   | some ⟨_,_,.freed,_⟩=>none
   | o=>o)=some o:=e
  by_cases hb:b < c+1
  ·rw [Array.getElem?_eq_getElem (by simpa using hb),Array.getElem_replicate] at e1
   exact (Option.some.inj e1).symm
  ·rw [Array.getElem?_eq_none (by simpa using hb)] at e1
   cases e1
 have at_:hp.get? c=some ob:=by
  show (match (Array.replicate (c+1) ob)[c]? with
   | some ⟨_,_,.freed,_⟩=>none
   | o=>o)=some ob
  rw [Array.getElem?_eq_getElem (by simp),Array.getElem_replicate]
 have e:=congrFun h hp
 have yes:=e.mpr ⟨ob,_,0,at_,rfl,rfl⟩
 obtain ⟨_,_,_,_,o,es,ep,h1,_,h3,_⟩:=yes
 have:=key _ _ h1
 subst this
 cases h3
def HidO (a:Addr) (o:HO):Prop:=(∃ xs,o = .lst xs)\/(∃ kvs,o = .dK kvs)\/(∃ L,o=DicO a L)\/∃ od u,o = .frz od u
theorem HidO.tbl {a:Addr} {o:HO} (h:HidO a o) (ps:Array Value):o≠.tbl ps:=fun z=>by
 rcases h with ⟨_,rfl⟩ | ⟨_,rfl⟩ | ⟨_,rfl⟩ | ⟨_,_,rfl⟩ <;> cases z
theorem HidO.xd {a:Addr} {o:HO} (h:HidO a o) (fs:List (Str×V)):o≠.xd fs:=fun z=>by
 rcases h with ⟨_,rfl⟩ | ⟨_,rfl⟩ | ⟨_,rfl⟩ | ⟨_,_,rfl⟩ <;> cases z
theorem HidO.code {a:Addr} {o:HO} (h:HidO a o) (c:Addr) (q:Str):o≠LamX.CodeO c q:=fun z=>by
 rcases h with ⟨_,rfl⟩ | ⟨_,rfl⟩ | ⟨_,rfl⟩ | ⟨_,_,rfl⟩
 ·unfold LamX.CodeO at z;cases z
 ·unfold LamX.CodeO at z;cases z
 ·exact dic_code z
 ·unfold LamX.CodeO at z;cases z
structure Wf (K:PySem.W.Frag) (Tb:List (Addr×Str)) (al:Al) (H:Hp) (M:Mem):Prop where
 len:al.a.length=M.length
 nd:al.a.Nodup
 rep:∀ (i:Nat) (a:Addr) (mo:MO),al.a[i]?=some a->M[i]?=some (some mo)->RpM K al M H a mo
 there:∀ (i:Nat) (a:Addr),al.a[i]?=some a->∃ o,H a=some o/\∀ ps,o≠.tbl ps
 tb:LamX.Tabs Tb H
 hth:∀ a∈al.h,∃ o,H a=some o/\HidO a o
 hdis:∀ (i:Nat) (a:Addr) (mo:MO),al.a[i]?=some a->M[i]?=some (some mo)->a ∉ al.h
def RpS (K:PySem.W.Frag) (al:Al) (M:Mem) (H:Hp) (σ:L2.St) (rho:Rho):Prop:=rho.length=σ.length/\∀ (i:Nat) (d:D),rho[i]?=some (some d)->∃ v,σ[i]?=some (some v)/\Rp K al M H d v
theorem RpS.mono {K:PySem.W.Frag} {al al':Al} {M M':Mem} {H H':Hp} {σ:L2.St} {rho:Rho} (s:Stp al M H al' M' H') (h:RpS K al M H σ rho):RpS K al' M' H' σ rho :=
 ⟨h.1,fun i d e=>let ⟨v,e1,r⟩:=h.2 i d e;⟨v,e1,r.mono s⟩⟩
theorem RpS.set {K:PySem.W.Frag} {al:Al} {M:Mem} {H:Hp} {σ:L2.St} {rho:Rho} (h:RpS K al M H σ rho) (i:Nat) {d:D} {v:V} (r:Rp K al M H d v):RpS K al M H (σ.set i (some v)) (rho.set i (some d)):=by
 refine ⟨by simpa using h.1,fun j e q=>?_⟩
 by_cases hj:i=j
 ·subst hj
  rw [List.getElem?_set] at q
  simp at q
  obtain ⟨q1,rfl⟩:=q
  exact ⟨v,by rw [List.getElem?_set];simp;rw [<- h.1];exact q1,r⟩
 ·rw [List.getElem?_set_ne hj] at q ⊢
  exact h.2 j e q
abbrev TED:=XD->Rho->Mem->VD->Prop
structure DEnds where
 nx:Rho->Mem->Prop
 rt:VD
 bk:Rho->Mem->Prop:=fun _ _=>False
 ct:Rho->Mem->Prop:=fun _ _=>False
def PostV (K:PySem.W.Frag) (Tb:List (Addr×Str)) (al:Al) (M:Mem) (H:Hp) (Q:VD) (QV:VK):Prop:=∀ al' d M' v H',Stp al M H al' M' H'->Wf K Tb al' H' M'->Rp K al' M' H' d v->Q d M'->QV v H'
def PostX (K:PySem.W.Frag) (Tb:List (Addr×Str)) (al:Al) (M:Mem) (H:Hp) (E:XD) (EV:XK):Prop:=∀ al' x M' cls dct H',Stp al M H al' M' H'->Wf K Tb al' H' M'->RpX K al' M' H' x cls dct->E x M'->EV cls dct H'
def PostT (K:PySem.W.Frag) (Tb:List (Addr×Str)) (al:Al) (M:Mem) (H:Hp) (Q:Bool->Mem->Prop) (QV:Bool->Hp->Prop):Prop:=∀ al' b M' H',Stp al M H al' M' H'->Wf K Tb al' H' M'->Q b M'->QV b H'
def PostA (K:PySem.W.Frag) (Tb:List (Addr×Str)) (al:Al) (M:Mem) (H:Hp) (Q:List D->Mem->Prop) (QV:List V->Hp->Prop):Prop:=∀ al' ds M' vs H',Stp al M H al' M' H'->Wf K Tb al' H' M'->Rps K al' M' H' ds vs->Q ds M'->QV vs H'
def PostS (K:PySem.W.Frag) (Tb:List (Addr×Str)) (al:Al) (M:Mem) (H:Hp) (Q:Rho->Mem->Prop) (QV:L2.St->Hp->Prop):Prop:=∀ al' rho' M' σ' H',Stp al M H al' M' H'->Wf K Tb al' H' M'->RpS K al' M' H' σ' rho'->Q rho' M'->QV σ' H'
theorem PostX.mono {K:PySem.W.Frag} {Tb:List (Addr×Str)} {al al1:Al} {M M1:Mem} {H H1:Hp} {E:XD} {EV:XK} (s:Stp al M H al1 M1 H1) (p:PostX K Tb al M H E EV):PostX K Tb al1 M1 H1 E EV :=
 fun _ _ _ _ _ _ s'=>p _ _ _ _ _ _ (s.trans s')
theorem PostV.mono {K:PySem.W.Frag} {Tb:List (Addr×Str)} {al al1:Al} {M M1:Mem} {H H1:Hp} {Q:VD} {QV:VK} (s:Stp al M H al1 M1 H1) (p:PostV K Tb al M H Q QV):PostV K Tb al1 M1 H1 Q QV :=
 fun _ _ _ _ _ s'=>p _ _ _ _ _ (s.trans s')
theorem PostT.mono {K:PySem.W.Frag} {Tb:List (Addr×Str)} {al al1:Al} {M M1:Mem} {H H1:Hp} {Q:Bool->Mem->Prop} {QV:Bool->Hp->Prop} (s:Stp al M H al1 M1 H1) (p:PostT K Tb al M H Q QV):PostT K Tb al1 M1 H1 Q QV :=
 fun _ _ _ _ s'=>p _ _ _ _ (s.trans s')
theorem PostA.mono {K:PySem.W.Frag} {Tb:List (Addr×Str)} {al al1:Al} {M M1:Mem} {H H1:Hp} {Q:List D->Mem->Prop} {QV:List V->Hp->Prop} (s:Stp al M H al1 M1 H1) (p:PostA K Tb al M H Q QV):PostA K Tb al1 M1 H1 Q QV :=
 fun _ _ _ _ _ s'=>p _ _ _ _ _ (s.trans s')
theorem PostS.mono {K:PySem.W.Frag} {Tb:List (Addr×Str)} {al al1:Al} {M M1:Mem} {H H1:Hp} {Q:Rho->Mem->Prop} {QV:L2.St->Hp->Prop} (s:Stp al M H al1 M1 H1) (p:PostS K Tb al M H Q QV):PostS K Tb al1 M1 H1 Q QV :=
 fun _ _ _ _ _ s'=>p _ _ _ _ _ (s.trans s')
structure At (K:PySem.W.Frag) (Tb:List (Addr×Str)) (EV:XK) (al:Al) (σ:L2.St) (H:Hp) (rho:Rho) (M:Mem) (E:XD):Prop where
 wf:Wf K Tb al H M
 sl:RpS K al M H σ rho
 ex:PostX K Tb al M H E EV
theorem At.go {K:PySem.W.Frag} {Tb:List (Addr×Str)} {EV:XK} {al al':Al} {σ:L2.St} {H H':Hp} {rho:Rho} {M M':Mem} {E:XD} (a:At K Tb EV al σ H rho M E) (s:Stp al M H al' M' H') (w:Wf K Tb al' H' M'):At K Tb EV al' σ H' rho M' E :=
 ⟨w,a.sl.mono s,a.ex.mono s⟩
structure PostE (K:PySem.W.Frag) (Tb:List (Addr×Str)) (al:Al) (M:Mem) (H:Hp) (DD:DEnds) (DV:Ends):Prop where
 nx:PostS K Tb al M H DD.nx DV.nx
 rt:PostV K Tb al M H DD.rt DV.rt
 bk:PostS K Tb al M H DD.bk DV.bk
 ct:PostS K Tb al M H DD.ct DV.ct
theorem PostE.mono {K:PySem.W.Frag} {Tb:List (Addr×Str)} {al al1:Al} {M M1:Mem} {H H1:Hp} {DD:DEnds} {DV:Ends} (s:Stp al M H al1 M1 H1) (p:PostE K Tb al M H DD DV):PostE K Tb al1 M1 H1 DD DV :=
 ⟨p.nx.mono s,p.rt.mono s,p.bk.mono s,p.ct.mono s⟩
section
variable {K:PySem.W.Frag} {Tb:List (Addr×Str)} {al:Al} {M:Mem} {H:Hp} {p a:Addr}
theorem Wf.nohid (w:Wf K Tb al H M) (hp:H p=none):p ∉ al.h:=fun hm=>by
 obtain ⟨xs,h,_⟩:=w.hth p hm
 rw [hp] at h;cases h
theorem Wf.fresh (w:Wf K Tb al H M) (hp:H p=none):Fz al M p:=⟨w.nohid hp,fun i mo e _=>by
 obtain ⟨o,h,_⟩:=w.there i p e
 rw [hp] at h;cases h⟩
theorem RpM.mono {al':Al} {M':Mem} {H':Hp} {mo:MO} (s:Stp al M H al' M' H') (e:∀ o,H a=some o->H' a=some o) (h:RpM K al M H a mo):RpM K al' M' H' a mo:=by
 cases mo with
 | lst ds=>obtain ⟨xs,h1,h2⟩:=h;exact ⟨xs,e _ h1,h2.mono s⟩
 | dK kvs=>obtain ⟨xs,h1,h2⟩:=h;exact ⟨xs,e _ h1,h2.mono s⟩
 | dT ks ds=>obtain ⟨xs,h1,h2⟩:=h;exact ⟨xs,e _ h1,h2.mono s⟩
 | ins C fs=>obtain ⟨dx,xs,h1,h2⟩:=h;exact ⟨dx,xs,e _ h1,h2.mono s⟩
end
section
variable {X:Cx} {Tb:List (Addr×Str)} {EV:XK} {a b c:Expr} {ta tb tc:TED} {pos:Pos}
theorem Rps.nil {K:PySem.W.Frag} {al:Al} {M:Mem} {H:Hp}:Rps K al M H [] []:=rfl
end
mutual
def D.hb (n:Nat):D->Bool
 | .mt i=>decide (i < n)
 | .tup xs=>D.hbs n xs
 | .lst xs=>D.hbs n xs
 | .rol xs=>D.hbs n xs
 | .obj _ _ xs=>D.hbs n xs
 | .exc _ _ xs=>D.hbs n xs
 | .dk _ xs=>D.hbs n xs
 | .dt _ xs=>D.hbs n xs
 | _=>true
def D.hbs (n:Nat):List D->Bool
 | []=>true
 | x :: xs=>D.hb n x && D.hbs n xs
end
def MO.hb (n:Nat):MO->Bool
 | .lst xs=>D.hbs n xs
 | .dK kvs=>D.hbs n (kvs.map (·.2))
 | .dT _ xs=>D.hbs n xs
 | .ins _ fs=>D.hbs n (fs.map (·.2))
def okM (n:Nat) (M:Mem):Prop:=∀ (i:Nat) (mo:MO),i < n->M[i]?=some (some mo)->mo.hb n=true
section
variable {K:PySem.W.Frag} {Tb:List (Addr×Str)} {al:Al} {M:Mem} {H:Hp}
mutual
theorem Rp.hb:∀ {d:D} {v:V},Rp K al M H d v->D.hb al.a.length d=true
 | .mt i,_,h=>by
  obtain ⟨a,e,_⟩:=h
  exact decide_eq_true (List.getElem?_eq_some_iff.mp e).1
 | .tup xs,_,h=>by obtain ⟨_,_,_,_,r⟩:=h;exact Rps.hb r
 | .lst xs,_,h=>by obtain ⟨_,_,_,_,_,r⟩:=h;exact Rps.hb r
 | .rol xs,_,h=>by obtain ⟨_,_,_,_,r⟩:=h;exact Rps.hb r
 | .obj _ _ xs,_,h=>by obtain ⟨_,_,_,_,_,_,_,r⟩:=h;exact Rps.hb r
 | .exc _ _ xs,_,h=>by obtain ⟨_,_,_,_,_,_,_,_,_,r⟩:=h;exact Rps.hb r
 | .dk _ xs,_,h=>by obtain ⟨_,_,_,_,_,_,_,r⟩:=h;exact Rps.hb r
 | .dt _ xs,_,h=>by obtain ⟨_,_,_,_,_,_,_,r⟩:=h;exact Rps.hb r
 | .non,_,_=>rfl
 | .bl _,_,_=>rfl
 | .int _,_,_=>rfl
 | .str _,_,_=>rfl
 | .ty _,_,_=>rfl
 | .lam _ _,_,_=>rfl
 | .ref _,_,_=>rfl
theorem Rps.hb:∀ {ds:List D} {vs:List V},Rps K al M H ds vs->D.hbs al.a.length ds=true
 | [],_,_=>rfl
 | d :: ds,_,h=>by
  obtain ⟨_,_,_,r,t⟩:=h
  show (D.hb _ d && D.hbs _ ds)=true
  rw [Rp.hb r,Rps.hb t];rfl
end
end
def Cut (n:Nat) (Q:VD):VD:=fun d M'=>∃ m,n<=m/\d.hb m=true/\okM m M'/\Q d (M'.take m)
def CutX (n:Nat) (E:XD):XD:=fun x M'=>D.hbs n (x.fs.map (·.2))=true/\okM n M'/\E x (M'.take n)
theorem okM.set {n i:Nat} {M:Mem} {mo:MO} (ok:okM n M) (h:mo.hb n=true):okM n (M.set i (some mo)):=fun j m hj e=>by
 by_cases hij:i=j
 ·subst hij
  rw [List.getElem?_set] at e
  simp at e
  rw [<- e.2];exact h
 ·rw [List.getElem?_set_ne hij] at e
  exact ok j m hj e
theorem Cut.set {Q:VD} {d:D} {M:Mem} {i:Nat} {mo:MO} (h:d.hb M.length=true) (ok:okM M.length M) (hm:mo.hb M.length=true) (q:Q d (M.set i (some mo))):Cut M.length Q d (M.set i (some mo)) :=
 ⟨M.length,Nat.le_refl _,h,ok.set hm,by rw [List.take_of_length_le (by simp)];exact q⟩
abbrev DSp:=List D->Mem->VD->XD->Prop
def liftSp (K:PySem.W.Frag) (Tb:List (Addr×Str)) (dsp:DSp):Sp:=fun vs H QV EV=>∃ al M ds Q E,Wf K Tb al H M/\Rps K al M H ds vs/\dsp ds M Q E/\PostV K Tb al M H Q QV/\PostX K Tb al M H E EV
structure FnD (P:Program) (w:World) (K:PySem.W.Frag) (mg:Str->Option Value) (base:Heap) (Tb:List (Addr×Str)) (k:Nat) (f:Addr) (fd:FuncData) (ps:List Str) (dsp:DSp):Prop where
 ok:FnOk P w K mg base (L2.CX P w) k f fd ps (liftSp K Tb dsp)
theorem FnD.mono {P:Program} {w:World} {K:PySem.W.Frag} {mg:Str->Option Value} {base:Heap} {Tb:List (Addr×Str)} {j k:Nat} {f:Addr} {fd:FuncData} {ps:List Str} {dsp:DSp} (F:FnD P w K mg base Tb j f fd ps dsp) (h:j<=k):FnD P w K mg base Tb k f fd ps dsp:=⟨F.ok.mono h⟩
section
variable {K:PySem.W.Frag} {Tb:List (Addr×Str)} {al:Al} {M:Mem} {H:Hp}
def signsD (z:Str):List D:=z.cps.toList.map fun c=>D.str ⟨#[c]⟩
end
section
variable {X:Cx} {Tb:List (Addr×Str)} {EV:XK} {tg:Expr}
theorem Rps.one {K:PySem.W.Frag} {al:Al} {M:Mem} {H:Hp} {d:D} {vs:List V} (r:Rps K al M H [d] vs):∃ v,vs=[v]/\Rp K al M H d v:=by
 obtain ⟨v,w,rfl,r,e⟩:=r
 cases (show _=[] from e)
 exact ⟨v,rfl,r⟩
end
def noE:XD:=fun _ _=>False
def pick {α:Type} (is:List Nat) (xs:List α):List α:=is.filterMap (xs[·]?)
def CsD (K:PySem.W.Frag) (ds:List D) (vs:List V):Prop:=∀ al M H,Rps K al M H ds vs
theorem CsD.nil {K:PySem.W.Frag}:CsD K [] []:=fun _ _ _=>rfl
end DL
namespace Mt
def bs (n:Nat):Nat:=if n=0 then 0 else n.log2+1
theorem bs_lt (n:Nat):n < 2 ^ bs n:=by
 unfold bs
 split
 ·subst_vars;decide
 ·exact Nat.lt_log2_self
theorem bs_le {n k:Nat} (h:n < 2 ^ k):bs n<=k:=by
 unfold bs
 split
 ·omega
 ·rename_i e
  have:=(Nat.log2_lt e).mpr h
  omega
theorem bs_mono {a b:Nat} (h:a<=b):bs a<=bs b:=bs_le (Nat.lt_of_le_of_lt h (bs_lt b))
theorem bs_mul (a b:Nat):bs (a * b)<=bs a+bs b:=bs_le (by rw [Nat.pow_add];exact Nat.mul_lt_mul'' (bs_lt a) (bs_lt b))
theorem bs_add (a b:Nat):bs (a+b)<=max (bs a) (bs b)+1:=by
 refine bs_le ?_
 have h1:=bs_lt a
 have h2:=bs_lt b
 have h3:2 ^ bs a<=2 ^ max (bs a) (bs b):=Nat.pow_le_pow_right (by decide) (Nat.le_max_left ..)
 have h4:2 ^ bs b<=2 ^ max (bs a) (bs b):=Nat.pow_le_pow_right (by decide) (Nat.le_max_right ..)
 rw [Nat.pow_succ]
 omega
def bz (i:Int):Nat:=bs i.natAbs
theorem bi_mul (a b:Int):bz (a * b)<=bz a+bz b:=by unfold bz;rw [Int.natAbs_mul];exact bs_mul ..
theorem bi_add (a b:Int):bz (a+b)<=max (bz a) (bz b)+1:=by
 unfold bz
 exact Nat.le_trans (bs_mono (Int.natAbs_add_le a b)) (bs_add ..)
theorem bi_neg (a:Int):bz (-a)=bz a:=by unfold bz;rw [Int.natAbs_neg]
theorem bi_sub (a b:Int):bz (a - b)<=max (bz a) (bz b)+1:=by
 rw [Int.sub_eq_add_neg]
 have:=bi_add a (-b)
 rwa [bi_neg] at this
def qs (q:Rat):Nat:=max (bz q.num) (bs q.den)
theorem qs_num (q:Rat):bz q.num<=qs q:=Nat.le_max_left ..
theorem qs_den (q:Rat):bs q.den<=qs q:=Nat.le_max_right ..
theorem qs_den' (q:Rat):bz (q.den:Int)<=qs q:=qs_den q
theorem qs_divInt (a b:Int) (hb:b≠0):qs (Rat.divInt a b)<=max (bz a) (bz b):=by
 unfold qs
 refine Nat.max_le.mpr ⟨?_,?_⟩
 ·refine Nat.le_trans (bs_mono ?_) (Nat.le_max_left ..)
  rw [Rat.num_divInt]
  have h1:(b.sign * a).natAbs=a.natAbs:=by
   rw [Int.natAbs_mul]
   rcases Int.lt_or_gt_of_ne hb with h | h
   ·rw [Int.sign_eq_neg_one_of_neg h];simp
   ·rw [Int.sign_eq_one_of_pos h];simp
  rw [<- h1]
  have hg:(b.gcd a:Int) ∣ (b.sign * a):=Int.dvd_mul_of_dvd_right (Int.gcd_dvd_right ..)
  rw [Int.natAbs_ediv_of_dvd hg]
  exact Nat.div_le_self ..
 ·refine Nat.le_trans (bs_mono ?_) (Nat.le_max_right ..)
  rw [Rat.den_divInt,if_neg hb]
  exact Nat.div_le_self ..
theorem divInt_add (a b:Rat):Rat.divInt (a.num * b.den+b.num * a.den) (a.den * b.den)=a+b:=by
 rw [Rat.add_def']
 rw [show ((a.den:Int) * (b.den:Int))=((a.den * b.den:Nat):Int) from rfl,Rat.divInt_ofNat]
theorem divInt_sub (a b:Rat):Rat.divInt (a.num * b.den - b.num * a.den) (a.den * b.den)=a - b:=by
 rw [Rat.sub_def']
 rw [show ((a.den:Int) * (b.den:Int))=((a.den * b.den:Nat):Int) from rfl,Rat.divInt_ofNat]
theorem divInt_mul (a b:Rat):Rat.divInt (a.num * b.num) (a.den * b.den)=a * b:=by
 rw [Rat.mul_def']
 rw [show ((a.den:Int) * (b.den:Int))=((a.den * b.den:Nat):Int) from rfl,Rat.divInt_ofNat]
theorem divInt_div (a b:Rat) (h:b≠0):Rat.divInt (a.num * b.den) (a.den * b.num)=a / b:=by
 rw [Rat.div_def,Rat.inv_def]
 conv=>rhs;rw [<- Rat.num_divInt_den a]
 rw [Rat.divInt_mul_divInt]
theorem den_ne (a b:Rat):((a.den:Int) * (b.den:Int))≠0:=by
 have:=a.den_pos
 have:=b.den_pos
 exact Int.mul_ne_zero (by omega) (by omega)
theorem qs_add (a b:Rat):qs (a+b)<=qs a+qs b+1:=by
 rw [<- divInt_add]
 refine Nat.le_trans (qs_divInt _ _ (den_ne a b)) (Nat.max_le.mpr ⟨?_,?_⟩)
 ·have h1:=bi_add (a.num * b.den) (b.num * a.den)
  have h2:=bi_mul a.num b.den
  have h3:=bi_mul b.num a.den
  have:=qs_num a;have:=qs_num b;have:=qs_den' a;have:=qs_den' b
  omega
 ·have h2:=bi_mul a.den b.den
  have:=qs_den' a;have:=qs_den' b
  omega
theorem qs_sub (a b:Rat):qs (a - b)<=qs a+qs b+1:=by
 rw [<- divInt_sub]
 refine Nat.le_trans (qs_divInt _ _ (den_ne a b)) (Nat.max_le.mpr ⟨?_,?_⟩)
 ·have h1:=bi_sub (a.num * b.den) (b.num * a.den)
  have h2:=bi_mul a.num b.den
  have h3:=bi_mul b.num a.den
  have:=qs_num a;have:=qs_num b;have:=qs_den' a;have:=qs_den' b
  omega
 ·have h2:=bi_mul a.den b.den
  have:=qs_den' a;have:=qs_den' b
  omega
theorem qs_mul (a b:Rat):qs (a * b)<=qs a+qs b:=by
 rw [<- divInt_mul]
 refine Nat.le_trans (qs_divInt _ _ (den_ne a b)) (Nat.max_le.mpr ⟨?_,?_⟩)
 ·have h2:=bi_mul a.num b.num
  have:=qs_num a;have:=qs_num b
  omega
 ·have h2:=bi_mul a.den b.den
  have:=qs_den' a;have:=qs_den' b
  omega
theorem num_ne {b:Rat} (h:b≠0):b.num≠0:=fun z=>h (Rat.num_eq_zero.mp z)
theorem qs_div (a b:Rat):qs (a / b)<=qs a+qs b:=by
 by_cases h:b=0
 ·subst h
  have:a / 0=0:=by rw [Rat.div_def,Rat.inv_zero,Rat.mul_zero]
  rw [this]
  have:qs (0:Rat)=1:=by decide
  have h1:1<=bs a.den:=by
   unfold bs
   have:=a.den_pos
   split <;> omega
  have:=qs_den a
  omega
 ·rw [<- divInt_div a b h]
  have hne:((a.den:Int) * b.num)≠0:=Int.mul_ne_zero (by have:=a.den_pos;omega) (num_ne h)
  refine Nat.le_trans (qs_divInt _ _ hne) (Nat.max_le.mpr ⟨?_,?_⟩)
  ·have h2:=bi_mul a.num b.den
   have:=qs_num a;have:=qs_den' b
   omega
  ·have h2:=bi_mul a.den b.num
   have:=qs_den' a;have:=qs_num b
   omega
theorem qs_int (i:Int):qs (i:Rat)<=max (bz i) 1:=by
 unfold qs
 rw [Rat.num_intCast,Rat.den_intCast]
 exact Nat.le_refl _
end Mt
namespace DL
open PySem PySem.Spec PyProof.Rows L2 Mt
structure Rng where
 ns:List Int
 p:Int
 c:Int
 s:Int
 k:Int
def Rng.items (r:Rng):List D:=[.lst (r.ns.map D.int),.int r.p,.int r.c,.int r.s,.int r.k]
def Rng.mo (r:Rng):MO:=.lst r.items
structure Rng.Ok (r:Rng):Prop where
 p0:0<=r.p
 c0:0<=r.c
 s0:0<=r.s
 s1:r.s < 2147483647
 k0:0<=r.k
theorem hbs_ints (n:Nat):∀ ns:List Int,D.hbs n (ns.map D.int)=true
 | []=>rfl
 | _ :: r=>by show (true && D.hbs n (r.map D.int))=true;rw [hbs_ints n r];rfl
theorem Rng.hb (r:Rng) (n:Nat):r.mo.hb n=true:=by
 show (D.hbs n (r.ns.map D.int) && (true && (true && (true && (true && true)))))=true
 rw [hbs_ints];rfl
def RgAt (M:Mem) (i:Nat):Prop:=∃ r:Rng,M[i]?=some (some r.mo)/\r.Ok
def RgTo (M:Mem) (i:Nat) (M':Mem):Prop:=∃ r:Rng,r.Ok/\M'=M.set i (some r.mo)
theorem RgTo.at {M M':Mem} {i:Nat} (a:RgAt M i) (t:RgTo M i M'):RgAt M' i:=by
 obtain ⟨r,ok,rfl⟩:=t
 obtain ⟨q,e,_⟩:=a
 exact ⟨r,by rw [List.getElem?_set_self (List.getElem?_eq_some_iff.mp e).1],ok⟩
theorem RgTo.trans {M M1 M2:Mem} {i:Nat} (a:RgTo M i M1) (b:RgTo M1 i M2):RgTo M i M2:=by
 obtain ⟨r,ok,rfl⟩:=a
 obtain ⟨q,ok2,rfl⟩:=b
 exact ⟨q,ok2,by rw [List.set_set]⟩
theorem RgTo.len {M M':Mem} {i:Nat} (t:RgTo M i M'):M'.length=M.length:=by
 obtain ⟨r,_,rfl⟩:=t
 simp
def fr (a b:Int):D:=.tup [.int a,.int b]
def qD (q:Rat):D:=fr q.num q.den
mutual
theorem D.hb_mono {n m:Nat} (h:n<=m):∀ {d:D},D.hb n d=true->D.hb m d=true
 | .mt i,e=>decide_eq_true (Nat.lt_of_lt_of_le (of_decide_eq_true e) h)
 | .tup xs,e=>D.hbs_mono h (ds:=xs) e
 | .lst xs,e=>D.hbs_mono h (ds:=xs) e
 | .rol xs,e=>D.hbs_mono h (ds:=xs) e
 | .obj _ _ xs,e=>D.hbs_mono h (ds:=xs) e
 | .exc _ _ xs,e=>D.hbs_mono h (ds:=xs) e
 | .dk _ xs,e=>D.hbs_mono h (ds:=xs) e
 | .dt _ xs,e=>D.hbs_mono h (ds:=xs) e
 | .non,_=>rfl
 | .bl _,_=>rfl
 | .int _,_=>rfl
 | .str _,_=>rfl
 | .ty _,_=>rfl
 | .lam _ _,_=>rfl
 | .ref _,_=>rfl
theorem D.hbs_mono {n m:Nat} (h:n<=m):∀ {ds:List D},D.hbs n ds=true->D.hbs m ds=true
 | [],_=>rfl
 | d :: ds,e=>by
  have e:(D.hb n d && D.hbs n ds)=true:=e
  rw [Bool.and_eq_true] at e
  show (D.hb m d && D.hbs m ds)=true
  rw [D.hb_mono h e.1,D.hbs_mono h e.2];rfl
end
theorem MO.hb_mono {n m:Nat} (h:n<=m):∀ {o:MO},o.hb n=true->o.hb m=true
 | .lst xs,e=>D.hbs_mono h (ds:=xs) e
 | .dK kvs,e=>D.hbs_mono h (ds:=kvs.map Prod.snd) e
 | .dT _ xs,e=>D.hbs_mono h (ds:=xs) e
 | .ins _ fs,e=>D.hbs_mono h (ds:=fs.map Prod.snd) e
theorem okM.app {M:Mem} {o:MO} (ok:okM M.length M) (h:o.hb (M.length+1)=true):okM (M.length+1) (M ++ [some o]):=fun i mo hi e=>by
 by_cases q:i < M.length
 ·rw [List.getElem?_append_left q] at e
  exact MO.hb_mono (Nat.le_succ _) (ok i mo q e)
 ·have:i=M.length:=by omega
  subst this
  rw [List.getElem?_concat_length] at e
  cases e
  exact h
mutual
def dp:D->Nat
 | .tup xs=>dps xs+1
 | .lst xs=>dps xs+1
 | .rol xs=>dps xs+1
 | _=>0
def dps:List D->Nat
 | []=>0
 | x :: xs=>max (dp x) (dps xs)
end
mutual
def pu:D->Bool
 | .non=>true
 | .bl _=>true
 | .int _=>true
 | .str _=>true
 | .tup xs=>decide (xs.length<=sizeLine) && pus xs
 | .lst xs=>decide (xs.length<=sizeLine) && pus xs
 | .rol xs=>decide (xs.length<=sizeLine) && pus xs
 | _=>false
def pus:List D->Bool
 | []=>true
 | x :: xs=>pu x && pus xs
end
theorem bi_lt {i:Int} {k:Nat} (h1:-(2 ^ k:Int) < i) (h2:i < (2 ^ k:Int)):bz i<=k:=bs_le (by
 have:((2 ^ k:Nat):Int)=(2:Int) ^ k:=by simp
 omega)
theorem pu_seq {xs:List D} (h:(decide (xs.length<=sizeLine) && pus xs)=true):xs.length<=sizeLine/\pus xs=true:=by
 rw [Bool.and_eq_true] at h;exact ⟨of_decide_eq_true h.1,h.2⟩
theorem Cut.app {Q:VD} {d:D} {M L:Mem} (h:d.hb M.length=true) (ok:okM M.length M) (q:Q d M):Cut M.length Q d (M ++ L) :=
 ⟨M.length,Nat.le_refl _,h,fun i mo hi e=>ok i mo hi (by rw [List.getElem?_append_left hi] at e;exact e),by rw [List.take_left'];exact q;rfl⟩
theorem RgTo.last {M M':Mem} {o:Option MO} (t:RgTo (M ++ [o]) M.length M'):∃ r:Rng,r.Ok/\M'=M ++ [some r.mo]:=by
 obtain ⟨r,ok,rfl⟩:=t
 exact ⟨r,ok,by rw [List.set_append_right _ _ (Nat.le_refl _)];simp⟩
theorem RgAt.last {M:Mem} {r:Rng} (ok:r.Ok):RgAt (M ++ [some r.mo]) M.length:=⟨r,List.getElem?_concat_length ..,ok⟩
abbrev Rg1 (M M':Mem):Prop:=∃ r:Rng,r.Ok/\M'=M ++ [some r.mo]
end DL
namespace DL
open PySem PySem.Spec PyProof.Rows L2
def oexB (K:PySem.W.Frag) (C:Addr):Bool:=(match K.lookup C with
 | some ⟨.type "type",_,.cls cd,sl⟩=>(match cd.mro,sl.toList with
  | .ref C' :: bm,[_,_,_,_,some (.builtin n),_]=>C' == C && (n == "ValueError.__new__" && (!cd.hasDel && (cd.hasDict && PySem.HandSPX.refsVE bm)))
  | _,_=>false)
 | _=>false) && (decide (PySem.W.findIn K (.ref C) "__setattr__"=some (some (.builtin "object.__setattr__"))) && (decide (PySem.W.subIn K (.ref C) (.type "BaseException")=some true) && (decide (PySem.W.typeIn K (.ref C)=some (.type "type")) && PySem.W.keepIn K (.ref C))))
inductive FSrc where
 | k (z:Str) | p (i:Nat)
def FSrc.v (ws:List V):FSrc->V
 | .k z=>.str z
 | .p i=>ws.getD i .non
abbrev FL:=List (Str×FSrc)
def FL.v (fl:FL) (ws:List V):List (Str×V):=fl.map fun q=>(q.1,q.2.v ws)
section
variable {K:PySem.W.Frag} {h:Heap} {mg:Str->Option Value}
def xfaB (K:PySem.W.Frag) (x:Str) (fs:List Str):Bool:=decide (PySem.W.exmAny K (.ref (He.ga K x)) [.ref (He.ga K "RoundError"),.ref (He.ga K "Missing"),.ref (He.ga K "NothingLeft")]=some true) && (xfB K (He.ga K x) && (("code":Str) :: fs).all fun f=>decide (PySem.W.findIn K (.ref (He.ga K x)) f=some none))
def xcB (K:PySem.W.Frag) (x:Str) (fs:List Str):Bool:=oexB K (He.ga K x) && (decide (PySem.W.typeIn K (.ref (He.ma K (He.ga K x) "__init__"))=some (.type "function")) && (decide (PySem.W.findIn K (.ref (He.ga K x)) "__init__"=some (some (.ref (He.ma K (He.ga K x) "__init__")))) && fs.all fun f=>decide (PySem.W.findIn K (.ref (He.ga K x)) f=some none)))
end
end DL
namespace DL
open PySem PySem.Spec PyProof.Rows L2 Mt
mutual
def pz:D->Bool
 | .non=>true
 | .bl _=>true
 | .int _=>true
 | .str x=>PyData.strOk x
 | .tup xs=>pzs xs
 | .lst xs=>pzs xs
 | .rol xs=>pzs xs
 | _=>false
def pzs:List D->Bool
 | []=>true
 | x :: xs=>pz x && pzs xs
end
end DL
namespace DL
open PySem PySem.Spec PyProof.Rows L2
def insOf (M:Mem):D->Option (Addr×List (Str×D))
 | .obj C ns xs=>some (C,ns.zip xs)
 | .mt i=>match M[i]? with
  | some (some (.ins C fs))=>some (C,fs)
  | _=>none
 | _=>none
def cloB (K:PySem.W.Frag) (C:Addr):Bool:=PySem.W.plainGet K C Str.empty && (PySem.W.hasDictIn K C && (PySem.W.plainOver K C && (decide (PySem.W.findIn K (.ref C) "__setattr__"=some (some (.builtin "object.__setattr__"))) && (decide (PySem.W.findIn K (.ref C) "__class__"=some (some (.builtin "object.__class__"))) &&
 (decide (PySem.W.specialIn K (.builtin "object.__class__") "__get__"=some (some (.builtin "getset_descriptor.__get__"))) && (decide (PySem.W.takesIn K (.builtin "object.__class__")=some true) && (decide (PySem.W.mroIn K C (.type "object")=some true) && ((PySem.W.clsIn K C).isSome && (decide (PySem.W.typeIn K (.ref C)=some (.type "type")) &&
 (decide (PySem.W.specialIn K (.ref C) "__getattribute__"=some (some (.builtin "type.__getattribute__"))) && PySem.W.readsIn K C (.type "type")))))))))))
section
variable {X:Cx} {k:Nat} {f C:Addr} {fd:FuncData} {ps:List Str} {sp:Sp} {pins:List (Addr×Obj)} {σ:L2.St} {H:Hp} {s:Shared} {Q:VK} {us:List Value} {vs:List V} {E':Value->Shared->Prop}
theorem cxF {P:Program} {w:World} {l:List Env} {H:Hp} {s:Shared} {e:Value} {s':Shared} (z:L2.CX P w l H s (fun _ _ _=>False) e s'):False:=by
 obtain ⟨_,_,_,_,_,_,_,_,_,_,_,_,z⟩:=z
 exact z
theorem run1 (F:FnOk X.prog X.w X.K X.mg X.base (L2.CX X.prog X.w) k f fd ps sp) (hr:Room (k+1) X.A) (hb:Binds X.K fd ps []) (I:Inv X pins σ H s) (r:Vals vs us) (h:sp vs H Q (fun _ _ _=>False)) :
  wpAny (model X.prog X.w) X.A.in1 (call (.ref f) us) (EP X pins σ Q) E' s:=by
 have hl:(us ++ []).length=ps.length:=by rw [List.append_nil,<- r.length];exact F.len _ _ _ _ h
 refine wpAny_call (codeAny_mono (F.run X.A.in1 X.stack s H ⟨us,[]⟩ us vs Q _ hr.in1 I.env0.in1 (by have:=hb s us I.kIn hl;rw [List.append_nil] at this;exact this) r h) fun r s' hq=>?_)
 cases r with
 | error e=>exact (cxF hq).elim
 | ok fl =>
  cases fl with
  | ret u=>exact I.after hq
  | next=>exact False.elim hq
  | brk=>exact False.elim hq
  | cont=>exact False.elim hq
end
end DL
namespace He
open PySem PySem.Spec PyProof.Rows L2
structure DefE where
 at_:PySem.W.Frag->Addr
 name:Str
 qual:Str
 params:Arguments
 body:List Stmt
 scope:Scope
 dfl:List Dv:=[]
 kwd:List (Str×Dv):=[]
def fnE (K:PySem.W.Frag) (a:Addr):FnW:=match K.lookup a with
 | some ⟨_,_,.func fd,_⟩=>some (fd.name,fd.qualname,fd.params,fd.body,fd.scope,fd.globals,fd.closure,fd.builtins)
 | _=>none
def DefE.val (d:DefE):FnW:=some (d.name,d.qual,d.params,.stmts d.body,d.scope,mainGlobals,[],builtinsNs)
def DefE.dvs (K:PySem.W.Frag) (d:DefE):List V:=d.dfl.map (Dv.v K)
def DefE.kws (K:PySem.W.Frag) (d:DefE):List (Str×V):=d.kwd.map fun q=>(q.1,q.2.v K)
def DefE.ok (K:PySem.W.Frag) (d:DefE):Bool:=PySem.W.keepIn K (.ref (d.at_ K)) && (match K.lookup (d.at_ K) with
 | some ⟨_,_,.func fd,_⟩=>PySem.W.codeIn K fd.code d.qual && (dflB K fd.defaults (d.dvs K) && kwdB K fd.kwdefaults (d.kws K))
 | _=>false)
abbrev AlY:Type:=Bool×List FnW
def obsYK (fa:List Fa) (fn:List DefE) (ex:PySem.W.Frag->Bool) (K:PySem.W.Frag):AlY:=((fa.all fun f=>f.ok K) && (fn.all (fun d=>d.ok K) && ex K),fn.map fun d=>fnE K (d.at_ K))
def valY (fn:List DefE):AlY:=(true,fn.map DefE.val)
structure SaysY (fa:List Fa) (fn:List DefE) (tf:List Defn) (ex:PySem.W.Frag->Bool) (h:Heap) (K:PySem.W.Frag):Prop where
 t:obsYK fa fn ex K=valY fn
 hd:∀ p∈tf,PySem.W.codeHdIn K (cT K p).1 (cT K p).2=true
 out:∀ p∈tf,K.lookup (cT K p).2=none
 empty:∀ p∈tf,h.get? (cT K p).2=some { cls:=.none,data:=.fields #[] }
abbrev AlYX:Type:=AlY×Bool
end He
namespace DL
open PySem PySem.Spec PyProof.Rows L2 Mt
theorem Rg1.ok {M M':Mem} (g:Rg1 M M') (ok:okM M.length M):okM M'.length M':=by
 obtain ⟨r,_,rfl⟩:=g
 have:=ok.app (o:=r.mo) (r.hb _)
 simpa using this
theorem Rg1.at {M M':Mem} (g:Rg1 M M'):RgAt M' M.length:=by
 obtain ⟨r,ok,rfl⟩:=g
 exact .last ok
end DL
namespace DL
def qHalf:Rat:=⟨1,2,by decide,by decide⟩
end DL
namespace DL
open PySem PySem.Spec PyProof.Rows L2
def RgL (M L M':Mem):Prop:=∃ r:Rng,r.Ok/\M'=M ++ (some r.mo :: L)
theorem RgL.at {M L M':Mem} (g:RgL M L M'):RgAt M' M.length:=by
 obtain ⟨r,ok,rfl⟩:=g
 exact ⟨r,by simp,ok⟩
end DL
namespace DL
abbrev lkF (f:PySem.Str) (fs:List (PySem.Str×D)):Option D:=fs.lookup f
end DL
namespace DL
open PySem PySem.Spec PyProof.Rows L2 Mt
def bigQ (q:Rat):Bool:=decide (10 ^ 60<=(q.num.natAbs:Int)) || decide (10 ^ 60<=(q.den:Int))
theorem RgL.app {M L M':Mem} {o:Option MO} (g:RgL M L M'):RgL M (L ++ [o]) (M' ++ [o]):=by
 obtain ⟨r,ok,rfl⟩:=g
 exact ⟨r,ok,by simp⟩
theorem RgL.len {M L M':Mem} (g:RgL M L M'):M'.length=M.length+1+L.length:=by
 obtain ⟨r,ok,rfl⟩:=g
 simp;omega
theorem RgL.last {M L M':Mem} {o:Option MO} (g:RgL M (L ++ [o]) M'):M'[M.length+1+L.length]?=some o:=by
 obtain ⟨r,ok,rfl⟩:=g
 rw [List.getElem?_append_right (by omega)]
 have:M.length+1+L.length - M.length=L.length+1:=by omega
 rw [this,List.getElem?_cons_succ]
 simp
theorem RgL.set {M L M':Mem} {o o':Option MO} (g:RgL M (L ++ [o]) M'):RgL M (L ++ [o']) (M'.set (M.length+1+L.length) o'):=by
 obtain ⟨r,ok,rfl⟩:=g
 refine ⟨r,ok,?_⟩
 rw [List.set_append_right _ _ (by omega)]
 have:M.length+1+L.length - M.length=L.length+1:=by omega
 rw [this,List.set_cons_succ]
 simp
end DL
namespace ZN
open PySem PySem.Spec PyProof.Rows L2
open PySem.Sem (wp)
structure Sb where
 tp:Bool
 it:Addr
 l:Addr
def Sb.At (h:Heap) (k:Nat):Sb->Prop
 | ⟨true,it,l⟩=>h.IsTupleIter it l k
 | ⟨false,it,l⟩=>h.IsListIter it l k
theorem Sb.At.obj {h:Heap} {k:Nat} {b:Sb} (x:b.At h k):∃ o,h.get? b.it=some o/\∀ v,o.data≠.cell v:=by
 obtain ⟨tp,it,l⟩:=b
 cases tp
 ·obtain ⟨o,e,_,d⟩:=x
  exact ⟨o,e,fun v q=>by rw [d] at q;cases q⟩
 ·obtain ⟨o,e,_,d⟩:=x
  exact ⟨o,e,fun v q=>by rw [d] at q;cases q⟩
section
variable {prog:Program} {w:World} {A:Around} {E:Value->Shared->Prop} {s:Shared}
structure Apart (z TI TO:Addr) (bs:List (Sb×Array Value)):Prop where
 TIz:TI≠z
 TOz:TO≠z
 TITO:TI≠TO
 nd:(bs.map (·.1.it)).Nodup
 itz:∀ p∈bs,p.1.it≠z
 itTI:∀ p∈bs,p.1.it≠TI
 itTO:∀ p∈bs,p.1.it≠TO
 lz:∀ p∈bs,p.1.l≠z
 lTO:∀ p∈bs,p.1.l≠TO
 lit:∀ p∈bs,∀ q∈bs,p.1.l≠q.1.it
theorem Apart.head {z TI TO:Addr} {p:Sb×Array Value} {bs:List (Sb×Array Value)} (D:Apart z TI TO (p :: bs)):∀ q∈bs,q.1.it≠p.1.it:=fun q h e =>
 (List.nodup_cons.mp D.nd).1 (List.mem_map.mpr ⟨q,h,e⟩)
inductive Hds (k:Nat):List (Sb×Array Value)->List Value->Prop
 | nil:Hds k [] []
 | cons {p:Sb×Array Value} {u:Value} {bs:List (Sb×Array Value)} {us:List Value}:p.2[k]?=some u->Hds k bs us->Hds k (p :: bs) (u :: us)
theorem Hds.len {k:Nat}:∀ {bs:List (Sb×Array Value)} {us:List Value},Hds k bs us->us.length=bs.length
 | _,_,.nil=>rfl
 | _,_,.cons _ h=>by simp [h.len]
end
end ZN
namespace ZN
open PySem PySem.Spec PyProof.Rows L2
def SqX (K:PySem.W.Frag) (H:Hp) (xs:List V):Bool×Addr->Prop
 | (true,a)=>SqT K H a xs
 | (false,a)=>SqL K H a xs
inductive Sqs (K:PySem.W.Frag) (H:Hp):List (Bool×Addr)->List (List V)->Prop
 | nil:Sqs K H [] []
 | cons {t:Bool×Addr} {r:List V} {ts:List (Bool×Addr)} {rs:List (List V)}:SqX K H r t->Sqs K H ts rs->Sqs K H (t :: ts) (r :: rs)
inductive Col (i:Nat):List (List V)->List V->Prop
 | nil:Col i [] []
 | cons {r:List V} {u:V} {rs:List (List V)} {us:List V}:r[i]?=some u->Col i rs us->Col i (r :: rs) (u :: us)
section
variable {X:Cx} {pins:List (Addr×Obj)} {σ:L2.St} {H:Hp} {s:Shared}
def key (b:Sb):Bool×Addr:=(b.tp,b.l)
end
theorem Col.len {i:Nat}:∀ {rows:List (List V)} {us:List V},Col i rows us->us.length=rows.length
 | _,_,.nil=>rfl
 | _,_,.cons _ h=>by simp [h.len]
theorem Sqs.len {K:PySem.W.Frag} {H:Hp}:∀ {ts:List (Bool×Addr)} {rows:List (List V)},Sqs K H ts rows->rows.length=ts.length
 | _,_,.nil=>rfl
 | _,_,.cons _ h=>by simp [h.len]
def itO:Bool×Addr->Obj
 | (true,l)=>{ cls:=.type "tuple_iterator",data:=.fields #[.ref l,.int 0 0] }
 | (false,l)=>{ cls:=.type "list_iterator",data:=.fields #[.ref l,.int 0 0] }
def BaseK (h:Heap) (xs:Array Value):Bool×Addr->Prop
 | (true,l)=>h.IsTuple l xs
 | (false,l)=>h.IsList l xs
theorem BaseK.push {h:Heap} {xs:Array Value} {t:Bool×Addr} (x:BaseK h xs t) (o:Obj):BaseK (h.push o) xs t:=by
 obtain ⟨tp,l⟩:=t
 cases tp
 ·exact Heap.IsList.push x o
 ·exact Heap.IsTuple.push x o
theorem BaseK.lt {h:Heap} {xs:Array Value} {t:Bool×Addr} (x:BaseK h xs t):t.2 < h.objs.size:=by
 obtain ⟨tp,l⟩:=t
 cases tp
 ·obtain ⟨o,e,_⟩:=x;exact Heap.lt_size e
 ·obtain ⟨o,e,_⟩:=x;exact Heap.lt_size e
abbrev z2 (h:Heap) (t1 t2:Bool×Addr):Heap:=(h.push (itO t1)).push (itO t2)
abbrev z3 (h:Heap) (t1 t2:Bool×Addr):Heap:=(z2 h t1 t2).push { cls:=.type "tuple",data:=.seq #[.ref h.objs.size,.ref (h.push (itO t1)).objs.size] }
abbrev z4 (h:Heap) (t1 t2:Bool×Addr):Heap:=(z3 h t1 t2).push { cls:=.type "tuple",data:=.seq #[.none,.none] }
abbrev y3 (h:Heap) (t1 t2 t3:Bool×Addr):Heap:=(z2 h t1 t2).push (itO t3)
end ZN
namespace DL
open PySem PySem.Spec PyProof.Rows L2 ZN
def asS:D->Option (List D)
 | .tup xs=>some xs
 | .lst xs=>some xs
 | .rol xs=>some xs
 | _=>none
end DL
namespace DL
structure Pt where
 a:Rat
 l:Rat
 v:Rat
 r:Rat
deriving DecidableEq
def Pt.mv (q:Pt) (t p r:Rat):Pt:=⟨q.a+t * p,q.l+t * r,q.v+t * r,q.r+t * r⟩
def slB (q q':Pt):Rat:=(q'.l - q.r) / (q'.a - q.a)
def nextPts (p r:Rat):List Pt->List Pt
 | []=>[]
 | q :: qs=>qs ++ [q.mv 1 p r]
structure okPt (p:Rat) (q:Pt):Prop where
 lo:¬ q.a < 0
 hi:q.a < p
 lv:¬ q.v < q.l
 vr:¬ q.r < q.v
structure okPr (x:Pt×Pt):Prop where
 lt:x.1.a < x.2.a
 le:¬ x.2.l < x.1.r
structure okPts (p r:Rat) (pts:List Pt):Prop where
 p0:0 < p
 r0:0 < r
 pt:∀ q∈pts,okPt p q
 pr:∀ x∈pts.zip (nextPts p r pts),okPr x
def ringP (p r:Rat) (q:Pt) (qs:List Pt):List Pt:=((q :: qs).getLast (by simp)).mv (-1) p r :: (q :: qs) ++ [q.mv 1 p r]
def isTrue3 (x:Pt×Pt×Pt):Bool:=(!decide (x.2.1.l=x.2.1.r)) || !decide (slB x.1 x.2.1=slB x.2.1 x.2.2)
def truePts (p r:Rat) (q:Pt) (qs:List Pt):List Pt:=(((ringP p r q qs).zip (((ringP p r q qs).drop 1).zip ((ringP p r q qs).drop 2))).filter isTrue3).map (·.2.1)
def laterP (p r:Rat) (pts:List Pt) (n:Nat):List Pt:=pts.drop n ++ (pts.take n).map fun x=>x.mv 1 p r
def repB (p r:Rat) (pts:List Pt) (n:Nat):Bool:=(pts.zip (laterP p r pts n)).all fun x=>decide (x.1.mv 1 (p / ((pts.length / n:Nat):Rat)) (r / ((pts.length / n:Nat):Rat))=x.2)
def goodN (p r:Rat) (pts:List Pt) (i:Nat):Bool:=decide (pts.length % (1+i)=0) && repB p r pts (1+i)
def eqParts (p r:Rat) (pts:List Pt):Nat:=match (List.range (pts.length - 1)).find? (goodN p r pts) with
 | some i=>pts.length / (1+i)
 | none=>1
def rowAt (p r:Rat) (row:List Pt) (k:Int):Pt:=((row[(k % row.length).toNat]?).getD ⟨0,0,0,0⟩).mv (k / row.length:Int) p r
structure Trk (S:Int->Pt):Prop where
 up:∀ k,(S k).a < (S (k+1)).a
 lv:∀ k,(S k).l<=(S k).v
 vr:∀ k,(S k).v<=(S k).r
 ri:∀ k,(S k).r<=(S (k+1)).l
 hi:∀ x:Rat,∃ k,x < (S k).a
 lo:∀ x:Rat,∃ k,(S k).a < x
theorem Trk.upN {S:Int->Pt} (h:Trk S) (k:Int):∀ n:Nat,(S k).a < (S (k+n+1)).a
 | 0=>by simpa using h.up k
 | n+1=>by
  have h1:=h.upN k n
  have h2:=h.up (k+n+1)
  have e:k+((n+1:Nat):Int)+1=k+n+1+1:=by omega
  rw [e]
  exact Std.lt_trans h1 h2
theorem Trk.lt {S:Int->Pt} (h:Trk S) {i j:Int} (hij:i < j):(S i).a < (S j).a:=by
 have:=h.upN i (j - i - 1).toNat
 rw [show i+((j - i - 1).toNat:Int)+1=j from by omega] at this
 exact this
theorem Trk.lt_iff {S:Int->Pt} (h:Trk S) {i j:Int}:(S i).a < (S j).a ↔ i < j:=by
 constructor
 ·intro g
  rcases Int.lt_trichotomy i j with e | e | e
  ·exact e
  ·subst e;exact absurd g (by grind)
  ·have:=h.lt e;exact absurd g (by grind)
 ·exact h.lt
theorem Trk.inj {S:Int->Pt} (h:Trk S) {i j:Int} (e:(S i).a=(S j).a):i=j:=by
 rcases Int.lt_trichotomy i j with g | g | g
 ·have:=h.lt g;grind
 ·exact g
 ·have:=h.lt g;grind
def IsPl (S:Int->Pt) (x:Rat) (k:Int):Prop:=(S (k - 1)).a < x/\x<=(S k).a
theorem Trk.pl_ex {S:Int->Pt} (h:Trk S) (x:Rat):∃ k,IsPl S x k:=by
 obtain ⟨i,hi⟩:=h.lo x
 obtain ⟨j,hj⟩:=h.hi x
 have hij:i < j:=h.lt_iff.mp (Std.lt_trans hi hj)
 have:∀ n:Nat,x<=(S (i+n)).a->∃ k,IsPl S x k:=by
  intro n
  induction n with
  | zero=>intro g;simp at g;grind
  | succ n ih =>
   intro g
   by_cases z:x<=(S (i+n)).a
   ·exact ih z
   ·refine ⟨i+(n+1:Nat),?_,g⟩
    rw [show i+((n+1:Nat):Int) - 1=i+n from by omega]
    grind
 refine this (j - i).toNat ?_
 rw [show i+((j - i).toNat:Int)=j from by omega]
 grind
theorem Trk.pl_un {S:Int->Pt} (h:Trk S) {x:Rat} {i j:Int} (hi:IsPl S x i) (hj:IsPl S x j):i=j:=by
 have h1:(S (i - 1)).a < (S j).a:=by have:=hi.1;have:=hj.2;grind
 have h2:(S (j - 1)).a < (S i).a:=by have:=hj.1;have:=hi.2;grind
 have:=h.lt_iff.mp h1
 have:=h.lt_iff.mp h2
 omega
open Classical in
noncomputable def plc (S:Int->Pt) (x:Rat):Int:=if h:∃ k,IsPl S x k then h.choose else 0
theorem Trk.plc {S:Int->Pt} (h:Trk S) (x:Rat):IsPl S x (plc S x):=by
 unfold DL.plc
 rw [dif_pos (h.pl_ex x)]
 exact (h.pl_ex x).choose_spec
theorem Trk.plc_eq {S:Int->Pt} (h:Trk S) {x:Rat} {k:Int} (g:IsPl S x k):DL.plc S x=k:=h.pl_un (h.plc x) g
structure Arn where
 l:Rat
 v:Rat
 r:Rat
 sb:Rat
 sa:Rat
def arnAt (S:Int->Pt) (x:Rat) (k:Int):Arn :=
 if (S k).a=x then ⟨(S k).l,(S k).v,(S k).r,slB (S (k - 1)) (S k),slB (S k) (S (k+1))⟩
 else ⟨(S k).l - slB (S (k - 1)) (S k) * ((S k).a - x),(S k).l - slB (S (k - 1)) (S k) * ((S k).a - x),(S k).l - slB (S (k - 1)) (S k) * ((S k).a - x),slB (S (k - 1)) (S k),slB (S (k - 1)) (S k)⟩
noncomputable def arn (S:Int->Pt) (x:Rat):Arn:=arnAt S x (plc S x)
theorem Trk.arn_pt {S:Int->Pt} (h:Trk S) {k:Int}:arn S (S k).a=⟨(S k).l,(S k).v,(S k).r,slB (S (k - 1)) (S k),slB (S k) (S (k+1))⟩:=by
 unfold arn
 have:DL.plc S (S k).a=k:=h.plc_eq ⟨h.lt (by omega),by grind⟩
 rw [this]
 unfold arnAt
 rw [if_pos rfl]
theorem slB_mul {q q':Pt} (h:q.a < q'.a):slB q q' * (q'.a - q.a)=q'.l - q.r:=by
 unfold slB
 rw [Rat.div_mul_cancel]
 intro z
 grind
theorem Trk.arn_in {S:Int->Pt} (h:Trk S) {k:Int} {x:Rat} (h1:(S k).a < x) (h2:x < (S (k+1)).a) :
  arn S x=⟨(S k).r+slB (S k) (S (k+1)) * (x - (S k).a),(S k).r+slB (S k) (S (k+1)) * (x - (S k).a),(S k).r+slB (S k) (S (k+1)) * (x - (S k).a),slB (S k) (S (k+1)),slB (S k) (S (k+1))⟩:=by
 unfold arn
 have e:DL.plc S x=k+1:=h.plc_eq ⟨by rw [show k+1 - 1=k from by omega];exact h1,by grind⟩
 rw [e]
 unfold arnAt
 rw [if_neg (by grind),show k+1 - 1=k from by omega]
 have hm:=slB_mul (h.up k)
 have:(S (k+1)).l - slB (S k) (S (k+1)) * ((S (k+1)).a - x)=(S k).r+slB (S k) (S (k+1)) * (x - (S k).a):=by grind
 rw [this]
theorem Pt.mv_mv (q:Pt) (s t p r:Rat):(q.mv s p r).mv t p r=q.mv (s+t) p r:=by
 unfold Pt.mv
 simp only [Pt.mk.injEq]
 refine ⟨?_,?_,?_,?_⟩ <;> grind
theorem Pt.mv_0 (q:Pt) (p r:Rat):q.mv 0 p r=q:=by
 unfold Pt.mv
 cases q
 simp only [Pt.mk.injEq]
 refine ⟨?_,?_,?_,?_⟩ <;> grind
section
variable {p r:Rat} {row:List Pt}
theorem rowAt_nat (j:Nat) (hj:j < row.length):rowAt p r row j=row[j]:=by
 unfold rowAt
 have h1:((j:Int) % (row.length:Int))=j:=Int.emod_eq_of_lt (by omega) (by omega)
 have h2:((j:Int) / (row.length:Int))=0:=Int.ediv_eq_zero_of_lt (by omega) (by omega)
 rw [h1,h2,Int.toNat_natCast,List.getElem?_eq_getElem hj]
 exact Pt.mv_0 ..
theorem rowAt_add (hn:row≠[]) (k t:Int):rowAt p r row (k+t * row.length)=(rowAt p r row k).mv t p r:=by
 have hl:(row.length:Int)≠0:=by have:=List.length_pos_iff.mpr hn;omega
 unfold rowAt
 rw [Int.add_mul_emod_self_right,Int.add_mul_ediv_right _ _ hl,Pt.mv_mv,Rat.intCast_add]
theorem rowAt_wrap (hn:row≠[]):rowAt p r row row.length=(row.head hn).mv 1 p r:=by
 have h:=rowAt_add (p:=p) (r:=r) hn 0 1
 have hl:=List.length_pos_iff.mpr hn
 rw [show (0:Int)+1 * row.length=row.length from by omega] at h
 rw [h,show ((0:Int))=((0:Nat):Int) from rfl,rowAt_nat 0 hl,List.head_eq_getElem]
 rfl
theorem rowAt_split (hn:row≠[]) (k:Int):∃ (j:Nat) (t:Int),j < row.length/\k=j+t * row.length:=by
 have hl:=List.length_pos_iff.mpr hn
 refine ⟨(k % row.length).toNat,k / row.length,?_,?_⟩
 ·have:=Int.emod_lt_of_pos k (show (0:Int) < row.length by omega)
  have:=Int.emod_nonneg k (show (row.length:Int)≠0 by omega)
  omega
 ·have:=Int.emod_nonneg k (show (row.length:Int)≠0 by omega)
  have:=Int.emod_add_mul_ediv k row.length
  rw [Int.mul_comm] at this
  omega
theorem nextPts_get (j:Nat) (hj:j < row.length):(nextPts p r row)[j]?=some (rowAt p r row (j+1)):=by
 cases row with
 | nil=>simp at hj
 | cons q qs =>
  unfold nextPts
  simp only [List.length_cons] at hj
  by_cases h:j < qs.length
  ·rw [List.getElem?_append_left h,show ((j:Int)+1)=((j+1:Nat):Int) from rfl,rowAt_nat (j+1) (by simp;omega),List.getElem?_eq_getElem h]
   rfl
  ·have:j=qs.length:=by omega
   subst this
   rw [List.getElem?_append_right (by omega),show ((qs.length:Int)+1)=((q :: qs).length:Int) from by simp,rowAt_wrap (by simp)]
   simp
theorem okPts.pr' (h:okPts p r row) (j:Nat) (hj:j < row.length):okPr (rowAt p r row j,rowAt p r row (j+1)):=by
 refine h.pr _ ?_
 refine List.mem_iff_getElem?.mpr ⟨j,?_⟩
 rw [List.getElem?_zip_eq_some]
 refine ⟨?_,nextPts_get j hj⟩
 show row[j]?=some (rowAt p r row j)
 rw [rowAt_nat j hj,List.getElem?_eq_getElem hj]
theorem int_between (x:Rat):∃ n:Int,x < n/\(n:Rat)<=x+1:=⟨x.floor+1,Rat.lt_floor_add_one x,by have:=Rat.floor_le x;rw [Rat.intCast_add];grind⟩
theorem okPts.trk (h:okPts p r row) (hn:row≠[]):Trk (rowAt p r row):=by
 have hl:=List.length_pos_iff.mpr hn
 have step:∀ k,∃ (j:Nat) (t:Int),j < row.length/\rowAt p r row k=(rowAt p r row j).mv t p r/\rowAt p r row (k+1)=(rowAt p r row (j+1)).mv t p r:=fun k=>by
  obtain ⟨j,t,hj,rfl⟩:=rowAt_split hn k
  refine ⟨j,t,hj,rowAt_add hn _ _,?_⟩
  rw [<- rowAt_add hn]
  congr 1
  omega
 have mem:∀ k,∃ (q:Pt) (t:Int),q∈row/\rowAt p r row k=q.mv t p r:=fun k=>by
  obtain ⟨j,t,hj,e,_⟩:=step k
  exact ⟨row[j],t,List.getElem_mem hj,by rw [e,rowAt_nat j hj]⟩
 have h0:∀ t:Int,rowAt p r row (t * row.length)=(row[0]).mv t p r:=fun t=>by
  have:=rowAt_add (p:=p) (r:=r) hn 0 t
  rw [Int.zero_add] at this
  rw [this,show (0:Int)=((0:Nat):Int) from rfl,rowAt_nat 0 hl]
 refine ⟨fun k=>?_,fun k=>?_,fun k=>?_,fun k=>?_,fun x=>?_,fun x=>?_⟩
 ·obtain ⟨j,t,hj,e1,e2⟩:=step k
  rw [e1,e2]
  have:=(h.pr' j hj).lt
  show _+_ < _+_
  grind
 ·obtain ⟨q,t,hq,e⟩:=mem k
  rw [e]
  have:=(h.pt q hq).lv
  show _+_<=_+_
  grind
 ·obtain ⟨q,t,hq,e⟩:=mem k
  rw [e]
  have:=(h.pt q hq).vr
  show _+_<=_+_
  grind
 ·obtain ⟨j,t,hj,e1,e2⟩:=step k
  rw [e1,e2]
  have:=(h.pr' j hj).le
  show _+_<=_+_
  grind
 ·obtain ⟨n,hn1,_⟩:=int_between (x / p)
  refine ⟨n * row.length,?_⟩
  rw [h0]
  have p0:=h.p0
  have q0:=(h.pt _ (List.getElem_mem hl)).lo
  have:x < n * p:=(Rat.div_lt_iff p0).mp hn1
  show x < _+_
  grind
 ·obtain ⟨n,hn1,hn2⟩:=int_between ((x - row[0].a) / p)
  refine ⟨(n - 2) * row.length,?_⟩
  rw [h0]
  have p0:=h.p0
  have:(n:Rat) - 2 < (x - row[0].a) / p:=by grind
  have:((n:Rat) - 2) * p < (x - row[0].a):=(Rat.lt_div_iff p0).mp this
  show _+_ < x
  rw [Rat.intCast_sub]
  grind
end
end DL
namespace DL
def isT (S:Int->Pt) (k:Int):Bool:=isTrue3 (S (k - 1),S k,S (k+1))
theorem isT_no {S:Int->Pt} {k:Int} (h:isT S k=false):(S k).l=(S k).r/\slB (S (k - 1)) (S k)=slB (S k) (S (k+1)):=by
 unfold isT isTrue3 at h
 simpa using h
structure Sub (S S':Int->Pt) (f:Int->Int):Prop where
 eq:∀ j,S' j=S (f j)
 up:∀ j,f j < f (j+1)
 no:∀ j k,f j < k->k < f (j+1)->isT S k=false
theorem Trk.le {S:Int->Pt} (h:Trk S) {i j:Int} (hij:i < j):(S i).r<=(S j).l:=by
 have:∀ n:Nat,(S i).r<=(S (i+n+1)).l:=by
  intro n
  induction n with
  | zero=>simpa using h.ri i
  | succ n ih =>
   have h1:=h.lv (i+n+1)
   have h2:=h.vr (i+n+1)
   have h3:=h.ri (i+n+1)
   rw [show i+((n+1:Nat):Int)+1=i+n+1+1 from by omega]
   grind
 have:=this (j - i - 1).toNat
 rw [show i+((j - i - 1).toNat:Int)+1=j from by omega] at this
 exact this
theorem Trk.run {S:Int->Pt} (h:Trk S) {i j:Int} (hij:i < j) (no:∀ k,i < k->k < j->isT S k=false) (m:Int) (h1:i<=m) (h2:m < j) :
  slB (S m) (S (m+1))=slB (S i) (S (i+1))/\(S (m+1)).l=(S i).r+slB (S i) (S (i+1)) * ((S (m+1)).a - (S i).a)/\(S m).r=(S i).r+slB (S i) (S (i+1)) * ((S m).a - (S i).a):=by
 have:∀ n:Nat,i+n < j->slB (S (i+n)) (S (i+n+1))=slB (S i) (S (i+1))/\(S (i+n+1)).l=(S i).r+slB (S i) (S (i+1)) * ((S (i+n+1)).a - (S i).a)/\(S (i+n)).r=(S i).r+slB (S i) (S (i+1)) * ((S (i+n)).a - (S i).a):=by
  intro n
  induction n with
  | zero =>
   intro _
   have:=slB_mul (h.up i)
   simp only [Int.natCast_zero,Int.add_zero]
   refine ⟨trivial,?_,?_⟩ <;> grind
  | succ n ih =>
   intro hn
   obtain ⟨a1,a2,a3⟩:=ih (by omega)
   have hno:=isT_no (no (i+n+1) (by omega) (by omega))
   rw [show i+(n:Int)+1 - 1=i+n from by omega] at hno
   have hm:=slB_mul (h.up (i+n+1))
   rw [show i+((n+1:Nat):Int)=i+n+1 from by omega]
   obtain ⟨b1,b2⟩:=hno
   have c1:slB (S (i+n+1)) (S (i+n+1+1))=slB (S i) (S (i+1)):=by rw [<- b2];exact a1
   rw [c1] at hm
   refine ⟨c1,?_,?_⟩ <;> grind
 have:=this (m - i).toNat (by omega)
 rw [show i+((m - i).toNat:Int)=m from by omega] at this
 exact this
theorem Trk.flat {S:Int->Pt} (h:Trk S) {k:Int} (no:isT S k=false):(S k).l=(S k).v/\(S k).r=(S k).v:=by
 have:=(isT_no no).1
 have:=h.lv k
 have:=h.vr k
 constructor <;> grind
theorem Sub.trk {S S':Int->Pt} {f:Int->Int} (s:Sub S S' f) (h:Trk S):Trk S':=by
 have fn:∀ n:Nat,∀ i,f i+n<=f (i+n):=by
  intro n
  induction n with
  | zero=>intro i;simp
  | succ n ih =>
   intro i
   have:=ih i
   have:=s.up (i+n)
   rw [show i+((n+1:Nat):Int)=i+n+1 from by omega]
   omega
 refine ⟨fun k=>?_,fun k=>?_,fun k=>?_,fun k=>?_,fun x=>?_,fun x=>?_⟩
 ·rw [s.eq,s.eq];exact h.lt (s.up k)
 ·rw [s.eq];exact h.lv _
 ·rw [s.eq];exact h.vr _
 ·rw [s.eq,s.eq];exact h.le (s.up k)
 ·obtain ⟨k,hk⟩:=h.hi x
  have:=fn (k - f 0).toNat 0
  by_cases z:f 0<=k
  ·refine ⟨(0:Int)+(k - f 0).toNat,?_⟩
   rw [s.eq]
   have:k<=f (0+(k - f 0).toNat):=by omega
   rcases Int.lt_or_eq_of_le this with e | e
   ·exact Std.lt_trans hk (h.lt e)
   ·rw [<- e];exact hk
  ·refine ⟨0,?_⟩
   rw [s.eq]
   exact Std.lt_trans hk (h.lt (by omega))
 ·obtain ⟨k,hk⟩:=h.lo x
  by_cases z:k<=f 0
  ·refine ⟨-((f 0 - k).toNat:Int),?_⟩
   rw [s.eq]
   have:=fn (f 0 - k).toNat (-((f 0 - k).toNat:Int))
   rw [show -((f 0 - k).toNat:Int)+((f 0 - k).toNat:Int)=0 from by omega] at this
   have:f (-((f 0 - k).toNat:Int))<=k:=by omega
   rcases Int.lt_or_eq_of_le this with e | e
   ·exact Std.lt_trans (h.lt e) hk
   ·rw [e];exact hk
  ·refine ⟨0,?_⟩
   rw [s.eq]
   exact Std.lt_trans (h.lt (by omega)) hk
theorem Sub.sl {S S':Int->Pt} {f:Int->Int} (s:Sub S S' f) (h:Trk S) (j m:Int) (h1:f j<=m) (h2:m < f (j+1)):slB (S' j) (S' (j+1))=slB (S m) (S (m+1)):=by
 have r1:=h.run (s.up j) (s.no j) m h1 h2
 have r2:=h.run (s.up j) (s.no j) (f (j+1) - 1) (by omega) (by omega)
 rw [show f (j+1) - 1+1=f (j+1) from by omega] at r2
 rw [r1.1,s.eq,s.eq]
 have lt:=h.lt (s.up j)
 show (_ - _) / (_ - _)=_
 rw [r2.2.1]
 have:(S (f (j+1))).a - (S (f j)).a≠0:=by grind
 generalize slB (S (f j)) (S (f j+1))=z
 rw [show (S (f j)).r+z * ((S (f (j+1))).a - (S (f j)).a) - (S (f j)).r=z * ((S (f (j+1))).a - (S (f j)).a) from by grind,Rat.mul_div_cancel this]
theorem Sub.arn {S S':Int->Pt} {f:Int->Int} (s:Sub S S' f) (h:Trk S) (x:Rat):arn S' x=arn S x:=by
 have h':=s.trk h
 obtain ⟨g1,g2⟩:=h'.plc x
 generalize DL.plc S' x=k at g1 g2
 obtain ⟨j,rfl⟩:∃ j,k=j+1:=⟨k - 1,by omega⟩
 rw [show j+1 - 1=j from by omega] at g1
 by_cases e:x=(S' (j+1)).a
 ·subst e
  rw [h'.arn_pt,s.sl h (j+1) (f (j+1)) (by omega) (s.up _),show j+1 - 1=j from by omega,s.sl h j (f (j+1) - 1) (by have:=s.up j;omega) (by omega),show f (j+1) - 1+1=f (j+1) from by omega,s.eq,h.arn_pt]
 have g3:x < (S' (j+1)).a:=by grind
 rw [h'.arn_in g1 g3]
 rw [s.eq] at g1 g3
 obtain ⟨q1,q2⟩:=h.plc x
 generalize DL.plc S x=k' at q1 q2
 obtain ⟨m,rfl⟩:∃ m,k'=m+1:=⟨k' - 1,by omega⟩
 rw [show m+1 - 1=m from by omega] at q1
 have m1:f j<=m:=by
  have:(S (f j)).a < (S (m+1)).a:=by grind
  have:=h.lt_iff.mp this
  omega
 have m2:m < f (j+1):=h.lt_iff.mp (by grind)
 have rn:=h.run (s.up j) (s.no j) m m1 m2
 rw [s.sl h j m m1 m2]
 by_cases e2:x=(S (m+1)).a
 ·subst e2
  have m3:m+1 < f (j+1):=h.lt_iff.mp g3
  have nt:=s.no j (m+1) (by omega) m3
  have fl:=h.flat nt
  have sl:=(isT_no nt).2
  rw [show m+1 - 1=m from by omega] at sl
  rw [h.arn_pt,show m+1 - 1=m from by omega,<- sl,s.eq]
  rw [rn.1] at *
  rw [fl.2,<- fl.1,rn.2.1]
 ·rw [h.arn_in q1 (by grind)]
  rw [s.eq,rn.1]
  have:(S (f j)).r+slB (S (f j)) (S (f j+1)) * (x - (S (f j)).a)=(S m).r+slB (S (f j)) (S (f j+1)) * (x - (S m).a):=by grind
  rw [this]
section
variable {p r:Rat} {row:List Pt}
theorem rowAt_neg1 (hn:row≠[]):rowAt p r row (-1)=(row.getLast hn).mv (-1) p r:=by
 have hl:=List.length_pos_iff.mpr hn
 have h:=rowAt_add (p:=p) (r:=r) hn ((row.length - 1:Nat):Int) (-1)
 rw [show ((row.length - 1:Nat):Int) + -1 * row.length = -1 from by omega] at h
 rw [h,rowAt_nat _ (by omega),List.getLast_eq_getElem]
 rfl
theorem ring_get {q:Pt} {qs:List Pt} (j:Nat) (hj:j < qs.length+3):(ringP p r q qs)[j]?=some (rowAt p r (q :: qs) ((j:Int) - 1)):=by
 unfold ringP
 cases j with
 | zero =>
  rw [show ((0:Nat):Int) - 1 = -1 from rfl,rowAt_neg1 (by simp)]
  rfl
 | succ j =>
  rw [show ((j+1:Nat):Int) - 1=j from by omega]
  show ((q :: qs) ++ [q.mv 1 p r])[j]?=_
  by_cases h:j < (q :: qs).length
  ·rw [List.getElem?_append_left h,rowAt_nat j h,List.getElem?_eq_getElem h]
  ·have:j=(q :: qs).length:=by simp at h ⊢;omega
   subst this
   rw [rowAt_wrap (by simp),List.getElem?_append_right (by omega)]
   simp
theorem triples {q:Pt} {qs:List Pt}:(ringP p r q qs).zip (((ringP p r q qs).drop 1).zip ((ringP p r q qs).drop 2))=(List.range (q :: qs).length).map fun i:Nat=>(rowAt p r (q :: qs) ((i:Int) - 1),rowAt p r (q :: qs) i,rowAt p r (q :: qs) (i+1)):=by
 have hl:(ringP p r q qs).length=qs.length+3:=by simp [ringP]
 apply List.ext_getElem?
 intro i
 by_cases h:i < qs.length+1
 ·rw [List.getElem?_map,List.getElem?_range (by simpa using h)]
  simp only [Option.map_some]
  rw [List.getElem?_zip_eq_some]
  refine ⟨ring_get i (by omega),?_⟩
  rw [List.getElem?_zip_eq_some,List.getElem?_drop,List.getElem?_drop,ring_get _ (by omega),ring_get _ (by omega)]
  simp only [Option.some.injEq]
  constructor <;> (congr 1;omega)
 ·rw [List.getElem?_eq_none (by simp [hl];omega),List.getElem?_eq_none (by simp;omega)]
def trueI (p r:Rat) (row:List Pt):List Nat:=(List.range row.length).filter fun i:Nat=>isT (rowAt p r row) i
theorem truePts_eq {q:Pt} {qs:List Pt}:truePts p r q qs=(trueI p r (q :: qs)).map fun i:Nat=>rowAt p r (q :: qs) i:=by
 unfold truePts trueI
 rw [triples,List.filter_map,List.map_map]
 rfl
theorem isT_per (hn:row≠[]) (k t:Int):isT (rowAt p r row) (k+t * row.length)=isT (rowAt p r row) k:=by
 unfold isT
 rw [show k+t * (row.length:Int) - 1=k - 1+t * row.length from by omega,show k+t * (row.length:Int)+1=k+1+t * row.length from by omega,rowAt_add hn,rowAt_add hn,rowAt_add hn]
 unfold isTrue3 slB Pt.mv
 simp only []
 rw [show (rowAt p r row k).l+↑t * r - ((rowAt p r row (k - 1)).r+↑t * r)=(rowAt p r row k).l - (rowAt p r row (k - 1)).r from by grind,
  show (rowAt p r row k).a+↑t * p - ((rowAt p r row (k - 1)).a+↑t * p)=(rowAt p r row k).a - (rowAt p r row (k - 1)).a from by grind,
  show (rowAt p r row (k+1)).l+↑t * r - ((rowAt p r row k).r+↑t * r)=(rowAt p r row (k+1)).l - (rowAt p r row k).r from by grind,
  show (rowAt p r row (k+1)).a+↑t * p - ((rowAt p r row k).a+↑t * p)=(rowAt p r row (k+1)).a - (rowAt p r row k).a from by grind]
 have:decide ((rowAt p r row k).l+↑t * r=(rowAt p r row k).r+↑t * r)=decide ((rowAt p r row k).l=(rowAt p r row k).r):=by
  rw [Bool.eq_iff_iff,decide_eq_true_iff,decide_eq_true_iff]
  constructor <;> intro h <;> grind
 rw [this]
def subF (I:List Nat) (n:Nat) (j:Int):Int:=((I[(j % I.length).toNat]?).getD 0:Nat)+(j / I.length) * n
theorem subF_at {I:List Nat} {n:Nat} (j:Nat) (t:Int) (hj:j < I.length):subF I n (j+t * I.length)=I[j]+t * n:=by
 unfold subF
 have hl:(I.length:Int)≠0:=by omega
 have h1:((j:Int) % (I.length:Int))=j:=Int.emod_eq_of_lt (by omega) (by omega)
 have h2:((j:Int) / (I.length:Int))=0:=Int.ediv_eq_zero_of_lt (by omega) (by omega)
 rw [Int.add_mul_emod_self_right,Int.add_mul_ediv_right _ _ hl,h1,h2,Int.toNat_natCast,List.getElem?_eq_getElem hj]
 simp
theorem isplit {m:Nat} (hm:0 < m) (k:Int):∃ (j:Nat) (t:Int),j < m/\k=j+t * m:=by
 refine ⟨(k % m).toNat,k / m,?_,?_⟩
 ·have:=Int.emod_lt_of_pos k (show (0:Int) < m by omega)
  have:=Int.emod_nonneg k (show (m:Int)≠0 by omega)
  omega
 ·have:=Int.emod_nonneg k (show (m:Int)≠0 by omega)
  have:=Int.emod_add_mul_ediv k m
  rw [Int.mul_comm] at this
  omega
theorem sub_true (hn:row≠[]) (hI:trueI p r row≠[]):Sub (rowAt p r row) (rowAt p r ((trueI p r row).map fun i:Nat=>rowAt p r row i)) (subF (trueI p r row) row.length):=by
 have hm:=List.length_pos_iff.mpr hI
 have pw:(trueI p r row).Pairwise (· < ·):=List.Pairwise.filter _ List.pairwise_lt_range
 have lt:∀ i∈trueI p r row,i < row.length:=fun i hi=>List.mem_range.mp (List.mem_filter.mp hi).1
 have mem:∀ i,i < row.length->isT (rowAt p r row) i=true->i∈trueI p r row:=fun i h1 h2=>List.mem_filter.mpr ⟨List.mem_range.mpr h1,h2⟩
 generalize hI':trueI p r row=I at *
 have fup:∀ j,subF I row.length j < subF I row.length (j+1):=fun k=>by
  obtain ⟨j,t,hj,rfl⟩:=isplit hm k
  rw [subF_at j t hj]
  by_cases h:j+1 < I.length
  ·rw [show (j:Int)+t * I.length+1=((j+1:Nat):Int)+t * I.length from by omega,subF_at _ t h]
   have:=List.pairwise_iff_getElem.mp pw j (j+1) hj h (by omega)
   omega
  ·have e:(j:Int)+t * I.length+1=((0:Nat):Int)+(t+1) * I.length:=by
    have:(j:Int)+1=I.length:=by omega
    rw [Int.add_mul];omega
   rw [e,subF_at _ _ hm]
   have:=lt _ (List.getElem_mem hj)
   rw [Int.add_mul]
   omega
 refine ⟨fun k=>?_,fup,fun j k h1 h2=>?_⟩
 ·obtain ⟨j,t,hj,rfl⟩:=isplit hm k
  have hne:I.map (fun i:Nat=>rowAt p r row i)≠[]:=by simpa using hI
  have:=rowAt_add (p:=p) (r:=r) hne j t
  rw [List.length_map] at this
  rw [this,rowAt_nat j (by simpa using hj),List.getElem_map,subF_at j t hj,rowAt_add hn]
 ·by_cases z:isT (rowAt p r row) k=true
  ·exfalso
   obtain ⟨i,t,hi,rfl⟩:=rowAt_split hn k
   rw [isT_per hn] at z
   obtain ⟨i',hi',rfl⟩:=List.mem_iff_getElem.mp (mem i hi z)
   have e:=subF_at (n:=row.length) i' t hi'
   rw [<- e] at h1 h2
   have mono:∀ a b,a<=b->subF I row.length a<=subF I row.length b:=fun a b hab=>by
    have:∀ n:Nat,subF I row.length a<=subF I row.length (a+n):=by
     intro n
     induction n with
     | zero=>simp
     | succ n ih =>
      have:=fup (a+n)
      rw [show a+((n+1:Nat):Int)=a+n+1 from by omega]
      omega
    have:=this (b - a).toNat
    rw [show a+((b - a).toNat:Int)=b from by omega] at this
    exact this
   rcases Int.lt_or_le j ((i':Int)+t * I.length) with g | g
   ·have:=mono _ _ (show j+1<=(i':Int)+t * I.length by omega)
    omega
   ·have:=mono _ _ g
    omega
  ·simpa using z
theorem okPts_of (p0:0 < p) (r0:0 < r) (hn:row≠[]) (h:Trk (rowAt p r row)) (hp:∀ q∈row,¬ q.a < 0/\q.a < p):okPts p r row:=by
 refine ⟨p0,r0,fun q hq=>?_,fun x hx=>?_⟩
 ·obtain ⟨j,hj,rfl⟩:=List.mem_iff_getElem.mp hq
  have h1:=h.lv j
  have h2:=h.vr j
  rw [rowAt_nat j hj] at h1 h2
  exact ⟨(hp _ hq).1,(hp _ hq).2,by grind,by grind⟩
 ·obtain ⟨j,hj⟩:=List.mem_iff_getElem?.mp hx
  obtain ⟨h1,h2⟩:=List.getElem?_zip_eq_some.mp hj
  have hjl:j < row.length:=(List.getElem?_eq_some_iff.mp h1).1
  rw [nextPts_get j hjl] at h2
  rw [List.getElem?_eq_getElem hjl,<- rowAt_nat (p:=p) (r:=r) j hjl] at h1
  obtain ⟨x1,x2⟩:=x
  simp only [Option.some.injEq] at h1 h2
  subst h1 h2
  have u:=h.up j
  have v:=h.ri j
  exact ⟨by grind,by grind⟩
theorem line_of (ok:okPts p r row) (hn:row≠[]) (hI:trueI p r row=[]) (x:Rat) :
  arn (rowAt p r row) x=(fun y=>⟨y,y,y,r / p,r / p⟩) ((row.head hn).v - r / p * (row.head hn).a+r / p * x):=by
 have h:=ok.trk hn
 have hl:=List.length_pos_iff.mpr hn
 have no:∀ k,isT (rowAt p r row) k=false:=fun k=>by
  obtain ⟨i,t,hi,rfl⟩:=rowAt_split hn k
  rw [isT_per hn]
  by_cases z:isT (rowAt p r row) i=true
  ·have:i∈trueI p r row:=List.mem_filter.mpr ⟨List.mem_range.mpr hi,z⟩
   rw [hI] at this;cases this
  ·simpa using z
 have hw:=rowAt_wrap (p:=p) (r:=r) hn
 have e0:rowAt p r row 0=row.head hn:=by
  rw [show (0:Int)=((0:Nat):Int) from rfl,rowAt_nat 0 hl,List.head_eq_getElem]
 have p0:=ok.p0
 have rn:∀ i m,i<=m->slB (rowAt p r row m) (rowAt p r row (m+1))=slB (rowAt p r row i) (rowAt p r row (i+1))/\(rowAt p r row m).r=(rowAt p r row i).r+slB (rowAt p r row i) (rowAt p r row (i+1)) * ((rowAt p r row m).a - (rowAt p r row i).a):=fun i m him=>by
  have:=h.run (i:=i) (j:=m+1) (by omega) (fun k _ _=>no k) m him (by omega)
  exact ⟨this.1,this.2.2⟩
 have fl:=fun k=>h.flat (no k)
 have sl:∀ k,slB (rowAt p r row k) (rowAt p r row (k+1))=slB (rowAt p r row 0) (rowAt p r row (0+1)):=fun k=>by
  rcases Int.le_total 0 k with g | g
  ·exact (rn 0 k g).1
  ·exact (rn k 0 g).1.symm
 have pt:∀ k,(rowAt p r row k).r=(rowAt p r row 0).r+slB (rowAt p r row 0) (rowAt p r row (0+1)) * ((rowAt p r row k).a - (rowAt p r row 0).a):=fun k=>by
  rcases Int.le_total 0 k with g | g
  ·exact (rn 0 k g).2
  ·have:=(rn k 0 g).2
   rw [sl k] at this
   grind
 have sl0:slB (rowAt p r row 0) (rowAt p r row (0+1))=r / p:=by
  have r1:=pt row.length
  have f0:=fl 0
  rw [hw,e0] at r1
  rw [e0] at f0
  rw [e0]
  generalize slB (row.head hn) (rowAt p r row (0+1))=z at *
  generalize row.head hn=q at *
  unfold Pt.mv at r1
  simp only [] at r1
  have:r=z * p:=by grind
  rw [this,Rat.mul_div_cancel (by grind)]
 have f0:=fl 0
 rw [sl0] at sl pt
 rw [e0] at pt f0
 obtain ⟨q1,q2⟩:=h.plc x
 generalize DL.plc (rowAt p r row) x=k' at q1 q2
 obtain ⟨m,rfl⟩:∃ m,k'=m+1:=⟨k' - 1,by omega⟩
 rw [show m+1 - 1=m from by omega] at q1
 by_cases e2:x=(rowAt p r row (m+1)).a
 ·subst e2
  have g:=pt (m+1)
  have f1:=fl (m+1)
  have s1:=sl m
  have s2:=sl (m+1)
  rw [h.arn_pt,show m+1 - 1=m from by omega,s1,s2,f1.1,f1.2]
  rw [f1.2] at g
  have:(row.head hn).v - r / p * (row.head hn).a+r / p * (rowAt p r row (m+1)).a=(rowAt p r row (m+1)).v:=by grind
  rw [this]
 ·rw [h.arn_in q1 (by grind),sl m]
  have g:=pt m
  have:(row.head hn).v - r / p * (row.head hn).a+r / p * x=(rowAt p r row m).r+r / p * (x - (rowAt p r row m).a):=by grind
  rw [this]
theorem laterP_get {n:Nat} (hn:row≠[]) (h0:0 < n) (hle:n<=row.length) (j:Nat) (hj:j < row.length):(laterP p r row n)[j]?=some (rowAt p r row ((j:Int)+n)):=by
 unfold laterP
 by_cases h:j < (row.drop n).length
 ·rw [List.getElem?_append_left h,List.getElem?_drop]
  rw [List.length_drop] at h
  rw [show (j:Int)+n=((n+j:Nat):Int) from by omega,rowAt_nat (n+j) (by omega),List.getElem?_eq_getElem]
 ·rw [List.getElem?_append_right (by omega)]
  rw [List.length_drop] at h ⊢
  rw [List.getElem?_map,List.getElem?_take_of_lt (by omega),List.getElem?_eq_getElem (by omega)]
  have:=rowAt_add (p:=p) (r:=r) hn ((j - (row.length - n):Nat):Int) 1
  rw [show ((j - (row.length - n):Nat):Int)+1 * row.length=(j:Int)+n from by omega,rowAt_nat _ (by omega)] at this
  rw [this]
  rfl
theorem rep_track {n k:Nat} (hn:row≠[]) (h0:0 < n) (hk:row.length=n * k) (hr:repB p r row n=true) (j:Int):rowAt p r row (j+n)=(rowAt p r row j).mv 1 (p / k) (r / k):=by
 have hl:=List.length_pos_iff.mpr hn
 have hk0:0 < k:=by
  rcases Nat.eq_zero_or_pos k with e | e
  ·subst e;omega
  ·exact e
 have hle:n<=row.length:=by rw [hk];exact Nat.le_mul_of_pos_right n hk0
 have ek:row.length / n=k:=by rw [hk,Nat.mul_div_cancel_left _ h0]
 unfold repB at hr
 rw [ek,List.all_eq_true] at hr
 have base:∀ i:Nat,i < row.length->rowAt p r row ((i:Int)+n)=(rowAt p r row i).mv 1 (p / k) (r / k):=fun i hi=>by
  have hm:(row[i],rowAt p r row ((i:Int)+n))∈row.zip (laterP p r row n):=List.mem_iff_getElem?.mpr ⟨i,List.getElem?_zip_eq_some.mpr ⟨List.getElem?_eq_getElem hi,laterP_get hn h0 hle i hi⟩⟩
  have:=of_decide_eq_true (hr _ hm)
  rw [rowAt_nat i hi]
  exact this.symm
 obtain ⟨i,t,hi,rfl⟩:=rowAt_split hn j
 rw [show (i:Int)+t * row.length+n=(i:Int)+n+t * row.length from by omega,rowAt_add hn,rowAt_add hn,base i hi]
 unfold Pt.mv
 simp only [Pt.mk.injEq]
 refine ⟨?_,?_,?_,?_⟩ <;> grind
theorem part_eq {n k:Nat} (hn:row≠[]) (h0:0 < n) (hk:row.length=n * k) (hr:repB p r row n=true) (j:Int):rowAt (p / k) (r / k) (row.take n) j=rowAt p r row j:=by
 have hl:=List.length_pos_iff.mpr hn
 have hk0:0 < k:=by
  rcases Nat.eq_zero_or_pos k with e | e
  ·subst e;omega
  ·exact e
 have hle:n<=row.length:=by rw [hk];exact Nat.le_mul_of_pos_right n hk0
 have tl:(row.take n).length=n:=by rw [List.length_take];omega
 have tne:row.take n≠[]:=fun z=>by rw [z] at tl;simp at tl;omega
 have up:∀ (m:Nat) (i:Int),rowAt p r row (i+m * n)=(rowAt p r row i).mv m (p / k) (r / k):=fun m i=>by
  induction m with
  | zero=>rw [show i+((0:Nat):Int) * n=i from by simp];exact (Pt.mv_0 ..).symm
  | succ m ih =>
   rw [show i+((m+1:Nat):Int) * n=i+m * n+n from by rw [Int.natCast_add,Int.add_mul];omega,rep_track hn h0 hk hr,ih,Pt.mv_mv,Rat.natCast_add]
   rfl
 obtain ⟨i,t,hi,rfl⟩:=rowAt_split tne j
 rw [rowAt_add tne,rowAt_nat i hi,tl]
 rw [tl] at hi
 rw [List.getElem_take,<- rowAt_nat (p:=p) (r:=r) i (by omega)]
 rcases Int.le_total 0 t with g | g
 ·have:=up t.toNat i
  rw [show ((t.toNat:Nat):Int)=t from by omega] at this
  rw [this]
  congr 1
  rw [<- Rat.intCast_natCast,show ((t.toNat:Nat):Int)=t from by omega]
 ·have:=up (-t).toNat (i+t * n)
  rw [show (((-t).toNat:Nat):Int) = -t from by omega] at this
  rw [show (i:Int)+t * n + -t * n=i from by rw [Int.neg_mul];omega] at this
  rw [this,Pt.mv_mv]
  have e:(((-t).toNat:Nat):Rat) = -(t:Rat):=by
   rw [<- Rat.intCast_natCast,show (((-t).toNat:Nat):Int) = -t from by omega,Rat.intCast_neg]
  rw [e]
  rw [show -(t:Rat)+t=0 from by grind,Pt.mv_0]
theorem ok_part {n k:Nat} (ok:okPts p r row) (hn:row≠[]) (h0:0 < n) (hk:row.length=n * k) (hr:repB p r row n=true):okPts (p / k) (r / k) (row.take n):=by
 have hl:=List.length_pos_iff.mpr hn
 have hk0:0 < k:=by
  rcases Nat.eq_zero_or_pos k with e | e
  ·subst e;omega
  ·exact e
 have hle:n<=row.length:=by rw [hk];exact Nat.le_mul_of_pos_right n hk0
 have tl:(row.take n).length=n:=by rw [List.length_take];omega
 have tne:row.take n≠[]:=fun z=>by rw [z] at tl;simp at tl;omega
 have e:rowAt (p / k) (r / k) (row.take n)=rowAt p r row:=funext (part_eq hn h0 hk hr)
 have trk:=ok.trk hn
 have k0:(0:Rat) < k:=by exact_mod_cast hk0
 refine okPts_of ?_ ?_ tne (by rw [e];exact trk) fun q hq=>?_
 ·rw [Rat.lt_div_iff k0,Rat.zero_mul];exact ok.p0
 ·rw [Rat.lt_div_iff k0,Rat.zero_mul];exact ok.r0
 ·refine ⟨(ok.pt q (List.mem_of_mem_take hq)).lo,?_⟩
  obtain ⟨j,hj,rfl⟩:=List.mem_iff_getElem.mp hq
  rw [List.getElem_take]
  rw [tl] at hj
  have a1:row[j]=rowAt p r row j:=(rowAt_nat j (by omega)).symm
  -- the point k - 1 parts later lies in the period
  have a2:=rowAt_add (p:=p / k) (r:=r / k) tne j (k - 1:Int)
  rw [part_eq hn h0 hk hr,part_eq hn h0 hk hr,tl] at a2
  have hjj:j+(k - 1) * n < row.length:=by
   rw [hk]
   have:(k - 1) * n+n=n * k:=by
    rw [Nat.mul_comm n k]
    conv=>rhs;rw [show k=k - 1+1 from by omega,Nat.add_mul,Nat.one_mul]
   omega
  rw [show (j:Int)+(k - 1) * n=((j+(k - 1) * n:Nat):Int) from by rw [Int.natCast_add,Int.natCast_mul,Int.natCast_sub (by omega)];rfl,rowAt_nat _ hjj] at a2
  have a3:=(ok.pt _ (List.getElem_mem hjj)).hi
  rw [a2] at a3
  rw [a1]
  rw [Rat.lt_div_iff k0]
  unfold Pt.mv at a3
  simp only [] at a3
  rw [Rat.intCast_sub] at a3
  have z:((k:Int):Rat)=(k:Rat):=Rat.intCast_natCast k
  rw [z] at a3
  have z1:p / k * k=p:=Rat.div_mul_cancel (by grind)
  have p0:=ok.p0
  have k1:(1:Rat)<=k:=by exact_mod_cast hk0
  generalize (k:Rat)=kk at *
  generalize (rowAt p r row j).a=y at *
  generalize p / kk=pp at *
  rw [show (((1:Int):Rat))=1 from rfl] at a3
  have:y+(kk - 1) * pp < pp * kk:=by rw [z1];exact a3
  have:y < pp:=by grind
  have:y * kk < pp * kk:=by
   exact (Rat.mul_lt_mul_right (by grind)).mpr this
  grind
theorem eqParts_spec:∃ n:Nat,0 < n/\(row≠[]->row.length=n * eqParts p r row/\repB p r row n=true)/\(row≠[]->row.length / eqParts p r row=n)/\0 < eqParts p r row:=by
 unfold eqParts
 cases hf:(List.range (row.length - 1)).find? (goodN p r row) with
 | some i =>
  have h1:=List.find?_some hf
  have h2:=List.mem_range.mp (List.mem_of_find?_eq_some hf)
  unfold goodN at h1
  simp only [Bool.and_eq_true,decide_eq_true_eq] at h1
  have h3:row.length=(1+i) * (row.length / (1+i)):=by
   have:=Nat.div_add_mod row.length (1+i)
   omega
  have h4:0 < row.length / (1+i):=Nat.div_pos (by omega) (by omega)
  refine ⟨1+i,by omega,fun _=>⟨h3,h1.2⟩,fun _=>?_,h4⟩
  show row.length / (row.length / (1+i))=1+i
  conv=>lhs;rw [h3]
  rw [Nat.mul_div_cancel_left _ (by omega:0 < 1+i)]
  rw [Nat.mul_div_cancel _ h4]
 | none =>
  show ∃ n:Nat,0 < n/\(row≠[]->row.length=n * 1/\_)/\(row≠[]->row.length / 1=n)/\0 < 1
  by_cases hn:row=[]
  ·exact ⟨1,by decide,fun h=>absurd hn h,fun h=>absurd hn h,by decide⟩
  ·have hl:=List.length_pos_iff.mpr hn
   refine ⟨row.length,hl,fun _=>⟨by omega,?_⟩,fun _=>Nat.div_one _,by decide⟩
   unfold repB
   rw [List.all_eq_true]
   intro x hx
   obtain ⟨j,hj⟩:=List.mem_iff_getElem?.mp hx
   obtain ⟨h1,h2⟩:=List.getElem?_zip_eq_some.mp hj
   have hjl:j < row.length:=(List.getElem?_eq_some_iff.mp h1).1
   rw [laterP_get hn hl (Nat.le_refl _) j hjl] at h2
   have:=rowAt_add (p:=p) (r:=r) hn j 1
   rw [Int.one_mul] at this
   rw [this,rowAt_nat j hjl] at h2
   rw [List.getElem?_eq_getElem hjl] at h1
   simp only [Option.some.injEq] at h1 h2
   rw [<- h1,<- h2,Nat.div_self hl]
   refine decide_eq_true ?_
   unfold Pt.mv
   simp only [Pt.mk.injEq]
   have e1:(((1:Nat)):Rat)=1:=rfl
   have e2:(((1:Int)):Rat)=1:=rfl
   rw [e1,e2]
   refine ⟨?_,?_,?_,?_⟩ <;> grind
end
structure Crv where
 p:Rat
 r:Rat
 row:List Pt
 s:Rat
 b:Rat
def Crv.at (c:Crv) (k:Int):Pt:=rowAt c.p c.r c.row k
noncomputable def Crv.arn (c:Crv) (x:Rat):Arn:=if c.row=[] then ⟨c.b+c.s * x,c.b+c.s * x,c.b+c.s * x,c.s,c.s⟩ else DL.arn c.at x
structure Crv.Ok (c:Crv):Prop where
 p0:0 < c.p
 r0:0 < c.r
 s:c.s=c.r / c.p
 p1:c.row=[]->c.p=1
 ok:c.row≠[]->okPts c.p c.r c.row
def keptP (p r:Rat):List Pt->List Pt
 | []=>[]
 | q :: qs=>truePts p r q qs
def baseP (p r o:Rat):List Pt->Rat
 | []=>o
 | q :: _=>q.v - r / p * q.a
def norm (p r:Rat) (pts:List Pt) (o:Rat):Crv :=
 if keptP p r pts=[] then ⟨1,r / p,[],r / p,baseP p r o pts⟩
 else ⟨p / (eqParts p r (keptP p r pts):Nat),r / (eqParts p r (keptP p r pts):Nat),(keptP p r pts).take ((keptP p r pts).length / eqParts p r (keptP p r pts)),r / p,o⟩
section
variable {p r:Rat} {pts:List Pt} {o:Rat}
theorem keptP_eq:keptP p r pts=(trueI p r pts).map fun i:Nat=>rowAt p r pts i:=by
 cases pts with
 | nil=>rfl
 | cons q qs=>exact truePts_eq
theorem kept_ok (ok:okPts p r pts) (h:keptP p r pts≠[]):okPts p r (keptP p r pts):=by
 have hn:pts≠[]:=fun z=>h (by rw [z];rfl)
 have hI:trueI p r pts≠[]:=fun z=>h (by rw [keptP_eq,z];rfl)
 have s:=sub_true hn hI
 rw [<- keptP_eq] at s
 refine okPts_of ok.p0 ok.r0 h (s.trk (ok.trk hn)) fun q hq=>?_
 rw [keptP_eq] at hq
 obtain ⟨i,hi,rfl⟩:=List.mem_map.mp hq
 have hi':i < pts.length:=List.mem_range.mp (List.mem_filter.mp hi).1
 have:=ok.pt _ (List.getElem_mem hi')
 rw [rowAt_nat i hi']
 exact ⟨this.lo,this.hi⟩
theorem kept_arn (ok:okPts p r pts) (h:keptP p r pts≠[]) (x:Rat):arn (rowAt p r (keptP p r pts)) x=arn (rowAt p r pts) x:=by
 have hn:pts≠[]:=fun z=>h (by rw [z];rfl)
 have hI:trueI p r pts≠[]:=fun z=>h (by rw [keptP_eq,z];rfl)
 have s:=sub_true hn hI
 rw [<- keptP_eq] at s
 exact s.arn (ok.trk hn) x
theorem norm_ok (ok:okPts p r pts):(norm p r pts o).Ok:=by
 unfold norm
 have p0:=ok.p0
 have r0:=ok.r0
 have d0:0 < r / p:=by rw [Rat.lt_div_iff p0,Rat.zero_mul];exact r0
 split
 ·refine ⟨(by decide +kernel:(0:Rat) < 1),d0,?_,fun _=>rfl,fun h=>absurd rfl h⟩
  show r / p=r / p / 1
  rw [Rat.div_def (r / p) 1,show (1:Rat)⁻¹=1 from by decide +kernel,Rat.mul_one]
 ·rename_i h
  obtain ⟨n,n0,h1,h2,k0⟩:=eqParts_spec (p:=p) (r:=r) (row:=keptP p r pts)
  obtain ⟨h3,h4⟩:=h1 h
  rw [h2 h]
  have:=ok_part (kept_ok ok h) h n0 h3 h4
  generalize eqParts p r (keptP p r pts)=k at *
  have k0':(0:Rat) < k:=by exact_mod_cast k0
  refine ⟨this.p0,this.r0,?_,fun z=>?_,fun _=>this⟩
  ·show r / p=r / k / (p / k)
   have e1:p≠0:=by grind
   have e2:(k:Rat)≠0:=by grind
   rw [Rat.div_def r k,Rat.div_def p k,Rat.div_def (r * _),Rat.div_def r p,Rat.inv_mul_rev,Rat.inv_inv]
   grind
  ·exfalso
   have z:(keptP p r pts).take n=[]:=z
   have:=congrArg List.length z
   rw [List.length_take,List.length_nil] at this
   have:=List.length_pos_iff.mpr h
   omega
theorem norm_arn (ok:okPts p r pts) (hn:pts≠[]) (x:Rat):(norm p r pts o).arn x=arn (rowAt p r pts) x:=by
 unfold norm
 split
 ·rename_i h
  cases pts with
  | nil=>exact absurd rfl hn
  | cons q qs =>
   unfold Crv.arn
   rw [if_pos rfl]
   have hI:trueI p r (q :: qs)=[]:=by
    rw [keptP_eq] at h
    exact List.map_eq_nil_iff.mp h
   rw [line_of ok hn hI]
   rfl
 ·rename_i h
  obtain ⟨n,n0,h1,h2,k0⟩:=eqParts_spec (p:=p) (r:=r) (row:=keptP p r pts)
  obtain ⟨h3,h4⟩:=h1 h
  rw [h2 h]
  unfold Crv.arn
  rw [if_neg,<- kept_arn ok h]
  ·have e:Crv.at ⟨p / (eqParts p r (keptP p r pts):Nat),r / (eqParts p r (keptP p r pts):Nat),(keptP p r pts).take n,r / p,o⟩=rowAt p r (keptP p r pts):=funext (part_eq h n0 h3 h4)
   rw [e]
  ·intro z
   have z:(keptP p r pts).take n=[]:=z
   have:=congrArg List.length z
   rw [List.length_take,List.length_nil] at this
   have:=List.length_pos_iff.mpr h
   omega
theorem norm_arn0 (x:Rat):(norm p r [] o).arn x=⟨o+r / p * x,o+r / p * x,o+r / p * x,r / p,r / p⟩:=by
 unfold norm
 rw [if_pos (show keptP p r []=[] from rfl)]
 unfold Crv.arn
 rw [if_pos rfl]
 rfl
end
end DL
namespace DL
def wthn (o u:Rat):Rat:=o - ((o / u).floor:Rat) * u
theorem wthn_in {o u:Rat} (h:0 < u):0<=wthn o u/\wthn o u < u:=by
 unfold wthn
 have f1:=Rat.floor_le (o / u)
 have f2:=Rat.lt_floor_add_one (o / u)
 rw [Rat.intCast_add] at f2
 have g1:((o / u).floor:Rat) * u<=o:=by
  have:=fun z=>(show ¬ o / u < ((o / u).floor:Rat) by grind) ((Rat.div_lt_iff h).mpr z)
  grind
 have g2:o < (((o / u).floor:Rat)+((1:Int):Rat)) * u:=(Rat.div_lt_iff h).mp f2
 have e1:(((1:Int)):Rat)=1:=rfl
 rw [e1] at g2
 constructor <;> grind
def lowN (u o x:Rat):Int:=((x - o) / u).floor
end DL
namespace DL
def lrepA (p r:Rat) (row:List Pt) (n:Nat):Prop:=∀ j:Nat,j+n < row.length->rowAt p r row ((j:Int)+n)=(rowAt p r row j).mv 1 (p / ((row.length / n:Nat):Rat)) (r / ((row.length / n:Nat):Rat))
structure Crv.Nf (c:Crv):Prop where
 t:c.row≠[]->∀ k,isT c.at k=true
 n:∀ n,0 < n->n < c.row.length->c.row.length % n=0->¬ lrepA c.p c.r c.row n
end DL
namespace DL
open PySem PySem.Spec PyProof.Rows L2 Mt
def ptD (q:Pt):D:=.tup [qD q.a,qD q.l,qD q.v,qD q.r]
structure Pt.sz (q:Pt) (B:Nat):Prop where
 a:qs q.a<=B
 l:qs q.l<=B
 v:qs q.v<=B
 r:qs q.r<=B
theorem Pt.sz.mono {q:Pt} {B C:Nat} (h:q.sz B) (e:B<=C):q.sz C:=⟨Nat.le_trans h.a e,Nat.le_trans h.l e,Nat.le_trans h.v e,Nat.le_trans h.r e⟩
theorem Pt.sz.mv {q:Pt} {B C n:Nat} {t:Int} {p r:Rat} (h:q.sz B) (ht:bz t<=n) (hp:qs p<=B) (hr:qs r<=B) (e:2 * B+n+3<=C):(q.mv t p r).sz C:=by
 have h1:=qs_mul t p
 have h2:=qs_mul t r
 have h3:=qs_int t
 have h4:=qs_add q.a (t * p)
 have h5:=qs_add q.l (t * r)
 have h6:=qs_add q.v (t * r)
 have h7:=qs_add q.r (t * r)
 have:=h.a
 have:=h.l
 have:=h.v
 have:=h.r
 constructor <;> (show qs (_+_)<=C) <;> omega
theorem bz_floor (a:Rat):bz a.floor<=qs a:=by
 rw [Rat.floor_def]
 have h1:=qs_num a
 have h2:=Int.natAbs_ediv_le_natAbs a.num a.den
 exact Nat.le_trans (bs_mono h2) h1
structure Crv.Sz (c:Crv) (B:Nat):Prop where
 p:c.row≠[]->qs c.p<=B
 r:c.row≠[]->qs c.r<=B
 s:qs c.s<=2 * B
 b:qs c.b<=6 * B
 pt:∀ q∈c.row,q.sz B
 len:c.row.length < 10000
theorem bz_ediv (a b:Int):bz (a / b)<=bz a:=bs_mono (Int.natAbs_ediv_le_natAbs a b)
theorem Crv.Sz.at {c:Crv} {B n:Nat} (h:c.Sz B) (hn:c.row≠[]) {k:Int} (hk:bz k<=n):(c.at k).sz (2 * B+n+3):=by
 have hl:=List.length_pos_iff.mpr hn
 unfold Crv.at rowAt
 have h1:(k % (c.row.length:Int)).toNat < c.row.length:=by
  have:=Int.emod_lt_of_pos k (show (0:Int) < c.row.length by omega)
  have:=Int.emod_nonneg k (show (c.row.length:Int)≠0 by omega)
  omega
 rw [List.getElem?_eq_getElem h1]
 exact Pt.sz.mv (h.pt _ (List.getElem_mem h1)) (Nat.le_trans (bz_ediv ..) hk) (h.p hn) (h.r hn) (by omega)
theorem Crv.sl_per {c:Crv} (hn:c.row≠[]) (k t:Int):slB (c.at (k+t * c.row.length)) (c.at (k+t * c.row.length+1))=slB (c.at k) (c.at (k+1)):=by
 unfold Crv.at
 rw [show k+t * (c.row.length:Int)+1=k+1+t * c.row.length from by omega,rowAt_add hn,rowAt_add hn]
 unfold slB Pt.mv
 simp only []
 congr 1 <;> grind
theorem qs_slB {x y:Pt} {A B:Nat} (hx:x.sz A) (hy:y.sz B):qs (slB x y)<=2 * A+2 * B+2:=by
 unfold slB
 have h1:=qs_div (y.l - x.r) (y.a - x.a)
 have h2:=qs_sub y.l x.r
 have h3:=qs_sub y.a x.a
 have:=hx.r;have:=hx.a;have:=hy.l;have:=hy.a
 omega
theorem Crv.Sz.sl {c:Crv} {B:Nat} (h:c.Sz B) (hn:c.row≠[]) (k:Int):qs (slB (c.at k) (c.at (k+1)))<=8 * B+80:=by
 obtain ⟨j,t,hj,rfl⟩:=rowAt_split hn k
 rw [Crv.sl_per hn]
 have hb:∀ i:Nat,i<=c.row.length->bz (i:Int)<=14:=fun i hi=>bs_le (by have:=h.len;show i < 2 ^ 14;omega)
 have h1:=h.at hn (hb j (by omega))
 have h2:=h.at hn (k:=(j:Int)+1) (hb (j+1) (by omega))
 have:=qs_slB h1 h2
 omega
theorem Crv.Ok.trk {c:Crv} (h:c.Ok) (hn:c.row≠[]):Trk c.at:=(h.ok hn).trk hn
structure CrvX (K:PySem.W.Frag) (M:Mem) (x:D) (c:Crv) (fs:List (Str×D)):Prop where
 ins:insOf M x=some (He.ga K "Curve",fs)
 p:lkF "period" fs=some (qD c.p)
 r:lkF "rise" fs=some (qD c.r)
 row:lkF "row" fs=some (.tup (c.row.map ptD))
 s:lkF "slope" fs=some (qD c.s)
 b:lkF "base" fs=some (qD c.b)
 m1:lkF "point_at" fs=none
 m2:lkF "place_from" fs=none
 m3:lkF "slope_behind" fs=none
 m4:lkF "around" fs=none
 m5:lkF "value" fs=none
theorem plc_bz {c:Crv} {B:Nat} (hz:c.Sz B) (ok:c.Ok) (hn:c.row≠[]) (y:Rat):bz (plc c.at y)<=qs y+B+18:=by
 have hl:=List.length_pos_iff.mpr hn
 have trk:=ok.trk hn
 have p0:=ok.p0
 have h0:∀ t:Int,(c.at (t * c.row.length)).a=(c.row[0]).a+t * c.p:=fun t=>by
  have h1:=rowAt_add (p:=c.p) (r:=c.r) hn 0 t
  rw [Int.zero_add,show (0:Int)=((0:Nat):Int) from rfl,rowAt_nat 0 hl] at h1
  unfold Crv.at
  rw [h1];rfl
 have okp:=(ok.ok hn).pt _ (List.getElem_mem hl)
 have f1:=Rat.floor_le (y / c.p)
 have f2:=Rat.lt_floor_add_one (y / c.p)
 rw [Rat.intCast_add] at f2
 have g1:((y / c.p).floor:Rat) * c.p<=y:=by
  have:=fun z=>(show ¬ y / c.p < ((y / c.p).floor:Rat) by grind) ((Rat.div_lt_iff p0).mpr z)
  grind
 have g2:y < (((y / c.p).floor:Rat)+((1:Int):Rat)) * c.p:=(Rat.div_lt_iff p0).mp f2
 have e1:(((1:Int)):Rat)=1:=rfl
 rw [e1] at g2
 obtain ⟨q1,q2⟩:=trk.plc y
 generalize plc c.at y=k at *
 have u1:(y / c.p).floor * c.row.length - 1 < k:=by
  refine trk.lt_iff.mp ?_
  have h1:=rowAt_add (p:=c.p) (r:=c.r) hn ((c.row.length - 1:Nat):Int) ((y / c.p).floor - 1)
  rw [rowAt_nat _ (by omega),show ((c.row.length - 1:Nat):Int)+((y / c.p).floor - 1) * c.row.length=(y / c.p).floor * c.row.length - 1 from by rw [Int.sub_mul];omega] at h1
  have:=((ok.ok hn).pt _ (List.getElem_mem (show c.row.length - 1 < c.row.length by omega))).hi
  have:(c.at ((y / c.p).floor * c.row.length - 1)).a < y:=by
   unfold Crv.at
   rw [h1]
   show _+_ < y
   rw [Rat.intCast_sub]
   grind
  grind
 have u2:k - 1 < ((y / c.p).floor+1) * c.row.length:=by
  refine trk.lt_iff.mp ?_
  have:y < (c.at (((y / c.p).floor+1) * c.row.length)).a:=by
   rw [h0,Rat.intCast_add,e1]
   have:=okp.lo
   grind
  grind
 have hd:=qs_div y c.p
 have hf:=bz_floor (y / c.p)
 have hzp:=hz.p hn
 have hzl:=hz.len
 have b1:=bi_mul (y / c.p).floor c.row.length
 have b2:=bi_add ((y / c.p).floor * c.row.length) (k - (y / c.p).floor * c.row.length)
 have b3:bz (c.row.length:Int)<=14:=bi_lt (by omega) (by omega)
 rw [Int.add_mul] at u2
 have b4:bz (k - (y / c.p).floor * c.row.length)<=15:=bi_lt (by omega) (by omega)
 rw [show (y / c.p).floor * (c.row.length:Int)+(k - (y / c.p).floor * c.row.length)=k from by omega] at b2
 omega
def Crv.nums (c:Crv):List Rat:=[c.p,c.r,if c.row=[] then c.b else 0] ++ c.row.flatMap fun q=>[q.a,q.l,q.v,q.r]
def Crv.long (c:Crv):Bool:=c.nums.any bigQ
def Crv.ris (c:Crv):Bool:=decide (c.row=[]) || (List.range c.row.length).any fun k:Nat=>decide (0 < slB (c.at k) (c.at (k+1)))
def Crv.Eq' (c d:Crv):Prop:=c.p=d.p/\c.r=d.r/\c.row=d.row/\(if c.row=[] then c.b else 0)=(if d.row=[] then d.b else 0)
instance (c d:Crv):Decidable (Crv.Eq' c d):=inferInstanceAs (Decidable (c.p=d.p/\c.r=d.r/\c.row=d.row/\(if c.row=[] then c.b else 0)=(if d.row=[] then d.b else 0)))
theorem insOf_app {M L:Mem} {x:D} {v:Addr×List (Str×D)} (h:insOf M x=some v):insOf (M ++ L) x=some v:=by
 cases x <;> first | exact h | skip
 unfold insOf at h ⊢
 rename_i i
 cases e:M[i]? with
 | none=>simp only [e] at h;cases h
 | some o =>
  simp only [e] at h
  have e2:(M ++ L)[i]?=some o:=by rw [List.getElem?_append_left (List.getElem?_eq_some_iff.mp e).1];exact e
  simp only [e2]
  exact h
theorem CrvX.app {K:PySem.W.Frag} {M L:Mem} {x:D} {c:Crv} {fs:List (Str×D)} (h:CrvX K M x c fs):CrvX K (M ++ L) x c fs:=⟨insOf_app h.ins,h.p,h.r,h.row,h.s,h.b,h.m1,h.m2,h.m3,h.m4,h.m5⟩
theorem CutX.set {E:XD} {x:Exn} {M:Mem} {i:Nat} {mo:MO} (h:D.hbs M.length (x.fs.map (·.2))=true) (ok:okM M.length M) (hm:mo.hb M.length=true) (q:E x (M.set i (some mo))):CutX M.length E x (M.set i (some mo)):=by
 refine ⟨h,?_,?_⟩
 ·intro j m hj e
  by_cases z:i=j
  ·subst z
   rw [List.getElem?_set_self hj] at e
   cases e
   exact hm
  ·rw [List.getElem?_set_ne z] at e
   exact ok j m hj e
 ·rw [List.take_of_length_le (by rw [List.length_set];exact Nat.le_refl _)]
  exact q
theorem qs_pos (q:Rat):1<=qs q:=Nat.le_trans (by unfold bs;have:=q.den_pos;split <;> omega) (qs_den q)
theorem big_qs {q:Rat} (h:bigQ q=false):qs q<=200:=by
 unfold bigQ at h
 rw [Bool.or_eq_false_iff,decide_eq_false_iff_not,decide_eq_false_iff_not] at h
 have e:(10:Int) ^ 60 < 2 ^ 200:=by decide
 unfold qs
 refine Nat.max_le.mpr ⟨bs_le ?_,bs_le ?_⟩
 ·have:(q.num.natAbs:Int) < ((2 ^ 200:Nat):Int):=Int.lt_trans (Int.not_le.mp h.1) (by decide)
  exact Int.ofNat_lt.mp this
 ·have:(q.den:Int) < ((2 ^ 200:Nat):Int):=Int.lt_trans (Int.not_le.mp h.2) (by decide)
  exact Int.ofNat_lt.mp this
mutual
def D.nl:D->Bool
 | .lst _=>false
 | .rol _=>false
 | .tup xs=>D.nls xs
 | .obj _ _ xs=>D.nls xs
 | .exc _ _ xs=>D.nls xs
 | .dk _ _=>false
 | .dt _ xs=>D.nls xs
 | _=>true
def D.nls:List D->Bool
 | []=>true
 | d :: r=>d.nl && D.nls r
end
def MO.nl:MO->Bool
 | .lst xs=>D.nls xs
 | .dK kvs=>D.nls (kvs.map (·.2))
 | .dT _ xs=>D.nls xs
 | .ins _ fs=>D.nls (fs.map (·.2))
def MO.isL:MO->Bool
 | .lst _=>true
 | .dK _=>true
 | _=>false
structure More (al:Al) (M M':Mem) (H:Hp):Prop where
 at_:∀ (j:Nat) (b:Addr) (mo:MO),al.a[j]?=some b->M'[j]?=some (some mo)->M[j]?=some (some mo)\/(∃ xs,H b=some (.lst xs))\/∃ ys,H b=some (.dK ys)
theorem More.fz {al:Al} {M M':Mem} {H:Hp} (m:More al M M' H) {b:Addr} {o:HO} (h:H b=some o) (n:∀ xs,o≠.lst xs) (n2:∀ ys,o≠.dK ys) (f:Fz al M b):Fz al M' b :=
 ⟨f.1,fun j mo e1 e2=>(m.at_ j b mo e1 e2).elim (fun q=>f.2 j mo e1 q) fun z=>z.elim (fun ⟨xs,q⟩=>n xs (Option.some.inj (h.symm.trans q))) fun ⟨ys,q⟩=>n2 ys (Option.some.inj (h.symm.trans q))⟩
def dead (n:Nat) (M:Mem):Mem:=(M.take n).map (fun _=>none) ++ M.drop n
def back (n:Nat) (M M':Mem):Mem:=M.take n ++ M'.drop n
structure LendOk (n:Nat) (M M':Mem):Prop where
 len:n<=M'.length
 hd:M'.take n=(dead n M).take n
 tl:∀ (j:Nat) (mo:MO),n<=j->M'[j]?=some (some mo)->mo.nl=true
section
variable {K:PySem.W.Frag} {Tb:List (Addr×Str)} {al:Al} {M:Mem} {H:Hp} {n:Nat}
theorem dead_lt (h:n<=M.length) {j:Nat} (hj:j < n):(dead n M)[j]?=some none:=by
 unfold dead
 rw [List.getElem?_append_left (by rw [List.length_map,List.length_take];omega),List.getElem?_map,List.getElem?_take_of_lt hj,List.getElem?_eq_getElem (by omega)]
 rfl
theorem LendOk.lt {M':Mem} (k:LendOk n M M') (h:n<=M.length) {j:Nat} (hj:j < n):M'[j]?=some none:=by
 have:=congrArg (fun l:Mem=>l[j]?) k.hd
 simp only [List.getElem?_take_of_lt hj] at this
 rw [this,dead_lt h hj]
end
def tw (q:Rat) (n:Nat):Prop:=∃ m:Nat,m<=n/\q=(m:Rat) / 12
theorem tw.add {a b:Rat} {n m:Nat} (h:tw a n) (g:tw b m):tw (a+b) (n+m):=by
 obtain ⟨x,hx,rfl⟩:=h
 obtain ⟨y,hy,rfl⟩:=g
 refine ⟨x+y,by omega,?_⟩
 rw [Rat.natCast_add]
 grind
theorem tw.mono {a:Rat} {n m:Nat} (h:tw a n) (e:n<=m):tw a m:=let ⟨x,hx,q⟩:=h;⟨x,by omega,q⟩
theorem tw.pos {a:Rat} {n:Nat} (h:tw a n):0<=a:=by
 obtain ⟨x,hx,rfl⟩:=h
 have:(0:Rat)<=x:=by exact_mod_cast Nat.zero_le x
 grind
theorem tw.qs {a:Rat} {n k:Nat} (h:tw a n) (e:n < 2 ^ k) (hk:4<=k):Mt.qs a<=k:=by
 obtain ⟨x,hx,rfl⟩:=h
 have h1:=qs_divInt (x:Int) 12 (by decide)
 have e1:(x:Rat) / 12=Rat.divInt x 12:=by
  rw [<- Rat.intCast_natCast,show (12:Rat)=((12:Int):Rat) from rfl,<- Rat.divInt_eq_div]
 rw [e1]
 have h2:bz (x:Int)<=k:=bs_le (by show x < 2 ^ k;omega)
 have h3:bz (12:Int)=4:=by decide
 omega
structure Chn (L0 sp lv:Rat) (pts:List Pt):Prop where
 s0:0<=sp
 l0:L0<=lv
 pt:∀ q∈pts,0<=q.a/\q.a < sp/\q.l<=q.v/\q.v<=q.r/\q.r<=lv
 pw:pts.Pairwise fun x y=>x.a < y.a/\x.r<=y.l
 hd:pts.head?.map Pt.l=some L0\/(pts=[]/\lv=L0)
theorem Chn.nil {L0 sp:Rat} (h:0<=sp):Chn L0 sp L0 []:=⟨h,Rat.le_refl,(fun q hq=>nomatch hq),.nil,.inr ⟨rfl,rfl⟩⟩
theorem Chn.ok {L0 sp lv:Rat} {pts:List Pt} (c:Chn L0 sp lv pts) (hn:pts≠[]) {e:Rat} (h1:lv<=e) (h2:L0 < e):okPts sp (e - L0) pts:=by
 have p0:0 < sp:=by
  cases pts with
  | nil=>exact absurd rfl hn
  | cons q l =>
   obtain ⟨a1,a2,_⟩:=c.pt q (List.mem_cons_self ..)
   grind
 have hd:∀ h:pts≠[],(pts.head h).l=L0:=fun h=>by
  cases pts with
  | nil=>exact absurd rfl h
  | cons q l =>
   rcases c.hd with z | ⟨z,_⟩
   ·exact Option.some.inj z
   ·cases z
 refine ⟨p0,by grind,fun q hq=>?_,fun x hx=>?_⟩
 ·obtain ⟨a1,a2,a3,a4,a5⟩:=c.pt q hq
  exact ⟨by grind,a2,by grind,by grind⟩
 ·obtain ⟨j,hj⟩:=List.mem_iff_getElem?.mp hx
  obtain ⟨g1,g2⟩:=List.getElem?_zip_eq_some.mp hj
  have hjl:j < pts.length:=(List.getElem?_eq_some_iff.mp g1).1
  rw [nextPts_get j hjl] at g2
  rw [List.getElem?_eq_getElem hjl] at g1
  obtain ⟨x1,x2⟩:=x
  simp only [Option.some.injEq] at g1 g2
  subst g1 g2
  by_cases hl:j+1 < pts.length
  ·have:=List.pairwise_iff_getElem.mp c.pw j (j+1) hjl hl (by omega)
   rw [show ((j:Int)+1)=((j+1:Nat):Int) from rfl,rowAt_nat (j+1) hl]
   exact ⟨this.1,by grind⟩
  ·have el:(j:Int)+1=pts.length:=by omega
   rw [el,rowAt_wrap hn]
   obtain ⟨a1,a2,a3,a4,a5⟩:=c.pt _ (List.getElem_mem hjl)
   obtain ⟨b1,b2,b3,b4,b5⟩:=c.pt _ (List.head_mem hn)
   have:=hd hn
   refine ⟨?_,?_⟩
   ·show pts[j].a < (pts.head hn).a+1 * sp
    grind
   ·show ¬ (pts.head hn).l+1 * (e - L0) < pts[j].r
    grind
def RgX (M:Mem) (i:Nat) (L M':Mem):Prop:=∃ M2,RgTo M i M2/\M'=M2 ++ L
theorem RgAt.lt {M:Mem} {i:Nat} (a:RgAt M i):i < M.length:=by
 obtain ⟨r,h,_⟩:=a
 exact (List.getElem?_eq_some_iff.mp h).1
section
variable {M M' M'' L:Mem} {i j:Nat} {o:Option MO}
theorem RgX.of (t:RgTo M i M'):RgX M i [] M':=⟨M',t,by simp⟩
theorem RgX.at (a:RgAt M i) (g:RgX M i L M'):RgAt M' i:=by
 obtain ⟨M2,t,rfl⟩:=g
 obtain ⟨r,h,ok⟩:=t.at a
 exact ⟨r,by rw [List.getElem?_append_left (List.getElem?_eq_some_iff.mp h).1];exact h,ok⟩
theorem RgX.len (g:RgX M i L M'):M'.length=M.length+L.length:=by
 obtain ⟨M2,t,rfl⟩:=g
 rw [List.length_append,t.len]
theorem RgX.app (g:RgX M i L M'):RgX M i (L ++ [o]) (M' ++ [o]):=by
 obtain ⟨M2,t,rfl⟩:=g
 exact ⟨M2,t,by simp⟩
theorem RgX.set (g:RgX M i L M') (j:Nat):RgX M i (L.set j o) (M'.set (M.length+j) o):=by
 obtain ⟨M2,t,rfl⟩:=g
 refine ⟨M2,t,?_⟩
 rw [List.set_append_right _ _ (by rw [t.len];omega),t.len]
 congr 2
 omega
end
def AllL (M:Mem):Prop:=∀ (j:Nat) (mo:MO),M[j]?=some (some mo)->mo.isL=true
theorem AllL.nil:AllL []:=fun j mo e=>by simp at e
theorem AllL.app {M L:Mem} (h:AllL M) (g:AllL L):AllL (M ++ L):=fun j mo e=>by
 by_cases hj:j < M.length
 ·rw [List.getElem?_append_left hj] at e;exact h j mo e
 ·rw [List.getElem?_append_right (by omega)] at e;exact g _ mo e
theorem AllL.one {xs:List D}:AllL [some (.lst xs)]:=fun j mo e=>by
 cases j with
 | zero=>simp at e;rw [<- e];rfl
 | succ j=>simp at e
theorem AllL.cons {xs:List D} {L:Mem} (g:AllL L):AllL (some (.lst xs) :: L):=AllL.app (M:=[some (.lst xs)]) .one g
def valE (L:Ents) (k:List Int):Option V:=(L.find? fun e=>decide (e.1=k)).map (·.2.2)
abbrev LR:Ents->List (List Int×Addr×Value)->Prop:=Paired fun p q=>p.1=q.1/\p.2.1=q.2.1/\RelV p.2.2 q.2.2
theorem LR.val {L:Ents} {xs:List (List Int×Addr×Value)} (r:LR L xs) (k:List Int):RelO (valE L k) ((atKey xs k).map (·.2)):=by
 induction r with
 | nil=>exact True.intro
 | @cons p q ps qs h t ih =>
  obtain ⟨h1,_,h2⟩:=h
  unfold valE atKey at ih ⊢
  by_cases e:p.1=k
  ·have e':q.1=k:=h1.symm.trans e
   simp [List.find?_cons,e,e'];exact h2
  ·have e':¬ q.1=k:=fun z=>e (h1.trans z)
   simp only [List.find?_cons,decide_eq_false e,decide_eq_false e']
   exact ih
theorem LR.any {L:Ents} {xs:List (List Int×Addr×Value)} (r:LR L xs) (k:List Int):(L.any fun e=>decide (e.1=k))=(atKey xs k).isSome:=by
 induction r with
 | nil=>rfl
 | @cons p q ps qs h t ih =>
  obtain ⟨h1,_,h2⟩:=h
  unfold atKey at ih ⊢
  by_cases e:p.1=k
  ·have e':q.1=k:=h1.symm.trans e
   simp [List.find?_cons,e,e']
  ·have e':¬ q.1=k:=fun z=>e (h1.trans z)
   simp only [List.find?_cons,List.any_cons,decide_eq_false e,decide_eq_false e',Bool.false_or]
   exact ih
end DL
namespace DL
open PySem PySem.Spec PyProof.Rows L2 Mt LamX
theorem SqT.ext {K:PySem.W.Frag} {H H2:Hp} {a:Addr} {xs:List V} (h:SqT K H a xs) (e:ExtN H H2):SqT K H2 a xs:=by
 rcases h with (h | ⟨o,h⟩) | h
 ·exact .inl (.inl (e _ _ h fun _ z=>by cases z))
 ·exact .inl (.inr ⟨o,e _ _ h fun _ z=>by cases z⟩)
 ·exact .inr h
abbrev Kvs:=List (List Int×D)
def valP (kvs:Kvs) (k:List Int):Option D:=(kvs.find? fun e=>decide (e.1=k)).map (·.2)
def flP' (kvs:Kvs):List D:=kvs.map (fun e=>kD e.1) ++ kvs.map (·.2)
def dtD (kvs:Kvs):D:=.dt (kvs.map (·.1)) (flP' kvs)
def kvsOf (ks:List (List Int)) (ds:List D):Kvs:=ks.zip (ds.drop ks.length)
theorem kvsOf_mk (kvs:Kvs):kvsOf (kvs.map (·.1)) (flP' kvs)=kvs:=by
 unfold kvsOf flP'
 rw [List.drop_left' (by simp)]
 induction kvs with
 | nil=>rfl
 | cons e r ih=>rw [List.map_cons,List.map_cons,List.zip_cons_cons,ih]
section
variable {K:PySem.W.Frag} {al:Al} {M:Mem} {H:Hp}
abbrev RP (K:PySem.W.Frag) (al:Al) (M:Mem) (H:Hp):Kvs->Ents->Prop:=Paired fun p e=>p.1=e.1/\Rp K al M H (kD p.1) (.ref e.2.1)/\Rp K al M H p.2 e.2.2
theorem RP.mono {al':Al} {M':Mem} {H':Hp} {kvs:Kvs} {L:Ents} (s:Stp al M H al' M' H') (h:RP K al M H kvs L):RP K al' M' H' kvs L:=Paired.mapP h fun _ _ z=>⟨z.1,z.2.1.mono s,z.2.2.mono s⟩
theorem Rps.split {ds es:List D}:∀ {xs ys:List V},xs.length=ds.length->Rps K al M H (ds ++ es) (xs ++ ys)->Rps K al M H ds xs/\Rps K al M H es ys:=by
 induction ds with
 | nil=>intro xs ys hl h;cases xs with
  | nil=>exact ⟨rfl,h⟩
  | cons _ _=>simp at hl
 | cons d ds ih=>intro xs ys hl h;cases xs with
  | nil=>simp at hl
  | cons x xs =>
   obtain ⟨y,r,e,q,t⟩:=h
   rw [List.cons_append] at e
   injection e with e1 e2
   subst e1 e2
   obtain ⟨a,b⟩:=ih (by simpa using hl) t
   exact ⟨⟨_,_,rfl,q,a⟩,b⟩
theorem RP.any {kvs:Kvs} {L:Ents} (h:RP K al M H kvs L) (k:List Int):(kvs.any fun e=>decide (e.1=k))=L.any fun e=>decide (e.1=k):=by
 induction h with
 | nil=>rfl
 | cons a _ ih=>rw [List.any_cons,List.any_cons,ih,a.1]
theorem RP.val {kvs:Kvs} {L:Ents} (h:RP K al M H kvs L) {k:List Int} {d:D} (e:valP kvs k=some d):∃ v,valE L k=some v/\Rp K al M H d v:=by
 induction h with
 | nil=>cases e
 | @cons p q ps qs a _ ih =>
  unfold valP at e ih
  unfold valE at ih ⊢
  by_cases c:p.1=k
  ·have c':q.1=k:=a.1.symm.trans c
   rw [List.find?_cons,decide_eq_true c] at e
   rw [List.find?_cons,decide_eq_true c']
   cases (Option.some.inj e)
   exact ⟨_,rfl,a.2.2⟩
  ·have c':¬ q.1=k:=fun z=>c (a.1.trans z)
   rw [List.find?_cons,decide_eq_false c] at e
   rw [List.find?_cons,decide_eq_false c']
   exact ih e
end
end DL
namespace Mt
def ddStep (acc:List Rat) (q:Rat):List Rat:=if q∈acc then acc else acc ++ [q]
def ddQ (l:List Rat):List Rat:=l.foldl ddStep []
def leR:Rat->Rat->Bool:=fun a b=>decide (a<=b)
def ordQ (l:List Rat):List Rat:=(ddQ l).mergeSort leR
theorem ddf (l:List Rat):∀ acc:List Rat,acc.Nodup->(l.foldl ddStep acc).Nodup/\∀ x,x∈l.foldl ddStep acc ↔ x∈acc\/x∈l:=by
 induction l with
 | nil=>intro acc h;exact ⟨h,fun x=>by simp⟩
 | cons q l ih =>
  intro acc h
  have h1:(ddStep acc q).Nodup/\∀ x,x∈ddStep acc q ↔ x∈acc\/x=q:=by
   unfold ddStep
   by_cases c:q∈acc
   ·rw [if_pos c]
    exact ⟨h,fun x=>⟨.inl,fun z=>z.elim (fun y=>y) fun y=>y ▸ c⟩⟩
   ·rw [if_neg c]
    refine ⟨List.nodup_append.mpr ⟨h,by simp,fun a ha b hb=>?_⟩,fun x=>by simp⟩
    have:b=q:=by simpa using hb
    subst this
    exact fun z=>c (z ▸ ha)
  obtain ⟨a,b⟩:=ih _ h1.1
  refine ⟨a,fun x=>?_⟩
  rw [List.foldl_cons,b x,h1.2 x,List.mem_cons]
  exact or_assoc
theorem ddQ_nodup (l:List Rat):(ddQ l).Nodup:=(ddf l [] List.nodup_nil).1
theorem mem_ddQ {l:List Rat} {x:Rat}:x∈ddQ l ↔ x∈l:=((ddf l [] List.nodup_nil).2 x).trans (by simp)
theorem ordQ_mem {l:List Rat} {x:Rat}:x∈ordQ l ↔ x∈l:=((List.mergeSort_perm _ _).mem_iff).trans mem_ddQ
theorem ordQ_lt (l:List Rat):(ordQ l).Pairwise (· < ·):=by
 have h1:(ordQ l).Pairwise fun a b=>leR a b=true:=List.pairwise_mergeSort (le:=leR) (fun a b c h1 h2=>decide_eq_true (Rat.le_trans (of_decide_eq_true h1) (of_decide_eq_true h2))) (fun a b=>by
  rcases Rat.le_total (a:=a) (b:=b) with h | h
  ·simp [leR,h]
  ·simp [leR,h]) _
 have h2:(ordQ l).Nodup:=(List.mergeSort_perm _ _).nodup_iff.mpr (ddQ_nodup l)
 refine List.Pairwise.imp₂ (fun a b h3 h4=>?_) h1 h2
 exact Rat.lt_of_le_of_ne (of_decide_eq_true h3) h4
theorem ordQ_len (l:List Rat):(ordQ l).length<=l.length:=by
 unfold ordQ
 rw [List.length_mergeSort]
 have:∀ (l acc:List Rat),(l.foldl ddStep acc).length<=acc.length+l.length:=by
  intro l
  induction l with
  | nil=>intro acc;simp
  | cons q l ih =>
   intro acc
   rw [List.foldl_cons]
   have h1:=ih (ddStep acc q)
   have h2:(ddStep acc q).length<=acc.length+1:=by unfold ddStep;split <;> simp
   rw [List.length_cons];omega
 have:=this l []
 simpa [ddQ] using this
def qk (q:Rat):List Int:=[q.num,(q.den:Int)]
def cmQ (a b:Rat):Rat:=Rat.divInt (Nat.lcm a.num.natAbs b.num.natAbs:Nat) (Nat.gcd a.den b.den:Nat)
def cmL (a b:Rat):Nat:=b.num.natAbs / Nat.gcd a.num.natAbs b.num.natAbs * (a.den / Nat.gcd a.den b.den)
theorem num_pos' {a:Rat} (h:0 < a):0 < a.num:=by
 have h1:0<=a.num:=Rat.num_nonneg.mpr (Rat.le_of_lt h)
 have h2:a.num≠0:=fun z=>by rw [Rat.num_eq_zero.mp z] at h;exact Rat.lt_irrefl h
 omega
theorem rat_nat {a:Rat} (h:0 < a):a=(a.num.natAbs:Rat) / (a.den:Rat):=by
 have hp:0 < a.num:=num_pos' h
 have e:((a.num.natAbs:Nat):Rat)=((a.num:Int):Rat):=by
  have:((a.num.natAbs:Nat):Int)=a.num:=by omega
  rw [<- this];rfl
 rw [e]
 conv=>lhs;rw [<- Rat.num_divInt_den a,Rat.divInt_eq_div]
 rfl
theorem cmQ_comm (a b:Rat):cmQ a b=cmQ b a:=by unfold cmQ;rw [Nat.lcm_comm,Nat.gcd_comm]
theorem cm_l {a b:Rat} (ha:0 < a) (hb:0 < b):cmQ a b=(cmL a b:Rat) * a/\0 < cmL a b:=by
 have pa:0 < a.num.natAbs:=by have:=num_pos' ha;omega
 have pb:0 < b.num.natAbs:=by have:=num_pos' hb;omega
 have hg:0 < Nat.gcd a.num.natAbs b.num.natAbs:=Nat.gcd_pos_of_pos_left _ pa
 have hh:0 < Nat.gcd a.den b.den:=Nat.gcd_pos_of_pos_left _ a.den_pos
 have ea:=rat_nat ha
 unfold cmL cmQ
 have hl:Nat.lcm a.num.natAbs b.num.natAbs=a.num.natAbs * (b.num.natAbs / Nat.gcd a.num.natAbs b.num.natAbs):=by
  rw [Nat.lcm,Nat.mul_div_assoc _ (Nat.gcd_dvd_right ..)]
 rw [hl]
 obtain ⟨nb',hnb⟩:=Nat.gcd_dvd_right a.num.natAbs b.num.natAbs
 obtain ⟨da',hda⟩:=Nat.gcd_dvd_left a.den b.den
 have e1:b.num.natAbs / Nat.gcd a.num.natAbs b.num.natAbs=nb':=Nat.div_eq_of_eq_mul_right hg hnb
 have e2:a.den / Nat.gcd a.den b.den=da':=Nat.div_eq_of_eq_mul_right hh hda
 rw [e1,e2]
 generalize Nat.gcd a.den b.den=h at *
 generalize a.num.natAbs=na at *
 have hd0:0 < da':=by
  rcases Nat.eq_zero_or_pos da' with z | z
  ·rw [z,Nat.mul_zero] at hda;have:=a.den_pos;omega
  ·exact z
 have hn0:0 < nb':=by
  rcases Nat.eq_zero_or_pos nb' with z | z
  ·rw [z,Nat.mul_zero] at hnb;omega
  ·exact z
 refine ⟨?_,Nat.mul_pos hn0 hd0⟩
 have hr:(h:Rat)≠0:=by exact_mod_cast (by omega:h≠0)
 have dr:(da':Rat)≠0:=by exact_mod_cast (by omega:da'≠0)
 have ed:((a.den:Nat):Rat)=(h:Rat) * (da':Rat):=by rw [hda];exact Rat.natCast_mul ..
 have e3:Rat.divInt ((na * nb':Nat):Int) ((h:Nat):Int)=(((na * nb':Nat):Int):Rat) / (((h:Nat):Int):Rat):=Rat.divInt_eq_div ..
 rw [e3]
 rw [show (((h:Nat):Int):Rat)=(h:Rat) from rfl,show ((((na * nb':Nat)):Int):Rat)=((na * nb':Nat):Rat) from rfl,Rat.natCast_mul,Rat.natCast_mul,ea,ed]
 grind
theorem cm_r {a b:Rat} (ha:0 < a) (hb:0 < b):cmQ a b=(cmL b a:Rat) * b/\0 < cmL b a:=by
 rw [cmQ_comm];exact cm_l hb ha
end Mt
namespace DL
open PySem PySem.Spec PyProof.Rows L2 Mt
def OrdIn (x:D) (l:List Rat):Prop:=asS x=some (l.map qD)\/∃ kvs,x=dtD kvs/\kvs.map (·.1)=l.map qk
theorem OrdIn.it {P:D} {l:List Rat} (h:OrdIn P l) {M:Mem} {Q:List D->Mem->Prop} (q:Q (l.map qD) M):(match (generalizing:=false) P with
 | .lst xs=>Q xs M
 | .rol xs=>Q xs M
 | .tup xs=>Q xs M
 | .str z=>Q (signsD z) M
 | .dt ks ds=>Q ((kvsOf ks ds).map fun e=>kD e.1) M
 | _=>False):=by
 rcases h with h | ⟨kvs,rfl,h⟩
 ·cases P <;> first | (cases h;done) | (cases h;exact q)
 ·show Q ((kvsOf _ _).map fun e=>kD e.1) M
  rw [kvsOf_mk,show (fun e:List Int×D=>kD e.1)=kD ∘ (fun e:List Int×D=>e.1) from rfl,<- List.map_map,h,List.map_map]
  exact q
theorem AllL.set {M:Mem} {i:Nat} {xs:List D} (h:AllL M):AllL (M.set i (some (.lst xs))):=fun j mo e=>by
 by_cases hij:i=j
 ·subst hij
  rw [List.getElem?_set] at e
  simp at e
  rw [<- e.2];rfl
 ·rw [List.getElem?_set_ne hij] at e
  exact h j mo e
end DL
namespace DL
open PySem Mt
def nrN (t:Str) (low:Int) (rest:Rat) (side:Int):Int:=if rest=qHalf then (if 0 < side\/(side=0/\(t="up"\/(t="even"/\low.fmod 2=1))) then low+1 else low) else if qHalf < rest then low+1 else low
end DL
namespace DL
open PySem PySem.Spec PyProof.Rows L2 Mt
def seqB (K:PySem.W.Frag) (vs:List He.Dv):Option Obj->Bool
 | some ⟨.type c,_,.seq its _,_⟩=>decide (c="tuple") && (decide (its.size<=sizeLine) && He.relAll (vs.map (He.Dv.v K)) its.toList)
 | _=>false
def cvTB (K:PySem.W.Frag) (x f:Str) (vs:List He.Dv):Bool:=match PySem.W.findCls K (.ref (He.ga K x)) (.type "type") f with
 | some (.val (.ref a))=>seqB K vs (K.lookup a)
 | _=>false
theorem RpS.at {K:PySem.W.Frag} {al:Al} {M:Mem} {H:Hp} {σ:L2.St} {rho:Rho} (h:RpS K al M H σ rho) (i:Nat) {d:D} {v:V} (hs:σ[i]?=some (some v)) (r:Rp K al M H d v):RpS K al M H σ (rho.set i (some d)):=by
 have:=h.set i r
 rw [show σ.set i (some v)=σ from by
  apply List.ext_getElem?
  intro j
  by_cases hj:i=j
  ·subst hj;rw [List.getElem?_set_self (List.getElem?_eq_some_iff.mp hs).1,hs]
  ·rw [List.getElem?_set_ne hj]] at this
 exact this
end DL
namespace He
open PySem PySem.Spec PyProof.Rows L2
def obsZ (as:List Addr) (fa:List Fa) (fn:List DefE) (tf:List Defn) (ex:PySem.W.Frag->Bool) (g:Addr->Option Obj):AlYX:=(obsYK fa fn ex (frT g as),tabsB g tf (frT g as))
theorem saysZ_of {as:List Addr} {fa:List Fa} {fn:List DefE} {tf:List Defn} {ex:PySem.W.Frag->Bool} {h:Heap} (e:obsZ as fa fn tf ex h.get?=(valY fn,true)):SaysY fa fn tf ex h (frT h.get? as):=by
 have e1:obsYK fa fn ex (frT h.get? as)=valY fn:=congrArg (fun z:AlYX=>z.1) e
 have e2:tabsB h.get? tf (frT h.get? as)=true:=congrArg (fun z:AlYX=>z.2) e
 have key:∀ p∈tf,PySem.W.codeHdIn (frT h.get? as) (cT (frT h.get? as) p).1 (cT (frT h.get? as) p).2=true/\∃ o,h.get? (cT (frT h.get? as) p).2=some o/\emptyTab o=true:=fun p hp=>by
  obtain ⟨h3,h4⟩:=ba (List.all_eq_true.mp e2 p hp)
  refine ⟨h3,?_⟩
  cases q:h.get? (cT (frT h.get? as) p).2 with
  | none=>rw [q] at h4;cases h4
  | some o=>rw [q] at h4;exact ⟨o,rfl,h4⟩
 exact ⟨e1,fun p hp=>(key p hp).1,fun p hp=>let ⟨_,_,q,z⟩:=key p hp;frT_none q z,fun p hp=>let ⟨_,_,q,z⟩:=key p hp;by rw [q,emptyTab_eq z]⟩
def hookZ (as:List Addr) (fa:List Fa) (fn:List DefE) (tf:List Defn) (ex:PySem.W.Frag->Bool):PySem.W.Hook where
 α:=AlYX
 obs:=fun s=>obsZ as fa fn tf ex s.heap.get?
 val:=fun _=>(valY fn,true)
 says:=fun _ h=>∃ K:PySem.W.Frag,K.In h/\SaysY fa fn tf ex h K
 of:=fun _ _ e=>⟨_,frT_in,saysZ_of e⟩
 keeps:=fun _ _ _ ⟨K,hK,c⟩ k=>⟨K,PySem.W.Frag.In.keeps hK k,⟨c.t,c.hd,c.out,fun p hp=>k _ _ (c.empty p hp)⟩⟩
def LookEq (r:PySem.W.OpenRow) (M:Nat) (w:World) {β:Type} (f:PySem.W.SharedT->β) (v:β):Prop :=
 ∀ os:OsState,(HandSHeadRun.endF (HandSHeadRun.stepQ (HandSHeadRun.denQ HandSHeadRun.tabQ) r.prog w) M r.prog w os).map f=some v
theorem LookEq.obsZ {r:PySem.W.OpenRow} {M:Nat} {w:World} {as:List Addr} {fa:List Fa} {fn:List DefE} {tf:List Defn} {ex:PySem.W.Frag->Bool}
  (h1:LookEq r M w (fun s=>(fa.all fun f=>f.ok (frT (HandSHeadRun.getT s) as)) && tabsB (HandSHeadRun.getT s) tf (frT (HandSHeadRun.getT s) as)) true)
  (h2:LookEq r M w (fun s=>((fn.all fun d=>d.ok (frT (HandSHeadRun.getT s) as)),fn.map fun d=>fnE (frT (HandSHeadRun.getT s) as) (d.at_ (frT (HandSHeadRun.getT s) as)))) (true,fn.map DefE.val))
  (h3:LookEq r M w (fun s=>ex (frT (HandSHeadRun.getT s) as)) true):LookEq r M w (fun s=>He.obsZ as fa fn tf ex (HandSHeadRun.getT s)) (valY fn,true):=fun os=>by
 have h1:=h1 os
 have h2:=h2 os
 have h3:=h3 os
 generalize HandSHeadRun.endF _ _ _ _ _=x at h1 h2 h3
 cases x with
 | none=>cases h1
 | some s =>
  simp only [Option.map_some,Option.some.injEq,Prod.mk.injEq,Bool.and_eq_true] at h1 h2 h3 ⊢
  unfold He.obsZ obsYK valY
  rw [h1.1,h1.2,h2.1,h2.2,h3]
  rfl
end He
namespace DL
open PySem PySem.Spec PySem.Calls PyProof.Rows L2
inductive Capts:List Pattern->List Str->Prop where
 | nil:Capts [] []
 | cons {n:Str} {p:Pos} {ps:List Pattern} {ns:List Str}:Capts ps ns->Capts (.MatchAs none (some n) p :: ps) (n :: ns)
inductive NSl (X:Cx):List Str->List Nat->Prop where
 | nil:NSl X [] []
 | cons {n:Str} {i:Nat} {ns:List Str} {is:List Nat}:X.N[i]?=some n->Loc X.env.scope n->(X.fn n=true\/X.env.scope.names.lookup n=some .local)->NSl X ns is->NSl X (n :: ns) (i :: is)
theorem Capts.len {ps:List Pattern} {ns:List Str} (c:Capts ps ns):ps.length=ns.length:=by induction c with
 | nil=>rfl
 | cons _ ih=>simp [ih]
section
variable {X:Cx} {Tb:List (Addr×Str)} {EV:XK} {pos:Pos}
theorem NSl.len {ns:List Str} {is:List Nat} (c:NSl X ns is):ns.length=is.length:=by induction c with
 | nil=>rfl
 | cons _ _ _ _ ih=>simp [ih]
end
open SX (S S_tl S_len)
abbrev cl (z:Str):List Nat:=z.cps.toList
def isfr (a b:Int):Bool:=decide (a.natAbs < 10 ^ 12) && decide (0 < b) && decide (b < 10 ^ 12) && decide (Int.gcd a b=1)
theorem reps_one (c:Nat):∀ (n:Nat) (acc:Array Nat),((List.replicate n (#[c]:Array Nat)).foldl (· ++ ·) acc).toList=acc.toList ++ List.replicate n c
 | 0,acc=>by simp
 | n+1,acc=>by
  rw [List.replicate_succ,List.foldl_cons,reps_one c n,List.replicate_succ,Array.toList_append]
  simp
theorem mul_one {c:Nat} {k:Int} (h:1 < k):cl (Txt.mul ⟨#[c]⟩ k)=List.replicate k.toNat c:=by
 unfold Txt.mul
 rw [if_neg (by omega),if_neg (by
  have:(k == 1)=false:=by simpa using (by omega:k≠1)
  rw [this]
  exact Bool.false_ne_true)]
 have:=reps_one c k.toNat #[]
 simpa using this
end DL
namespace DL
open PySem PySem.Spec PyProof.Rows L2 Mt
def Fr12 (a:Rat):Prop:=isfr a.num a.den=true
instance {a:Rat}:Decidable (Fr12 a):=inferInstanceAs (Decidable (_=_))
inductive PStep (nm:Str->Prop) (P:D->Prop):D->Prop where
 | shift {a:Rat}:Fr12 a->PStep nm P (.tup [.str "shift",qD a])
 | scale {a:Rat}:Fr12 a->0 < a->PStep nm P (.tup [.str "scale",qD a])
 | use {z:Str}:nm z->PStep nm P (.tup [.str "use",.str z])
 | floor {u o:Rat}:Fr12 u->0 < u->Fr12 o->PStep nm P (.tup [.str "floor",qD u,qD o])
 | ceiling {u o:Rat}:Fr12 u->0 < u->Fr12 o->PStep nm P (.tup [.str "ceiling",qD u,qD o])
 | nearest {u o:Rat} {t:Str}:Fr12 u->0 < u->Fr12 o->(t="up"\/t="down"\/t="even")->PStep nm P (.tup [.str "nearest",qD u,qD o,.str t])
 | join {w:Str} {ps:List D}:(w="sum"\/w="least"\/w="greatest")->2<=ps.length->ps.length<=4->(∀ p∈ps,P p)->PStep nm P (.tup (.str w :: ps))
def PPipe (nm:Str->Prop):Nat->D->Prop
 | 0,_=>False
 | n+1,d=>∃ ss,d = .tup ss/\ss.length<=12/\∀ s∈ss,PStep nm (PPipe nm n) s
theorem PStep.mono {nm nm':Str->Prop} {P P':D->Prop} (hn:∀ z,nm z->nm' z) (hP:∀ d,P d->P' d) {d:D} (h:PStep nm P d):PStep nm' P' d:=by
 cases h with
 | shift a=>exact .shift a
 | scale a b=>exact .scale a b
 | use a=>exact .use (hn _ a)
 | floor a b c=>exact .floor a b c
 | ceiling a b c=>exact .ceiling a b c
 | nearest a b c d=>exact .nearest a b c d
 | join a b c d=>exact .join a b c fun p hp=>hP p (d p hp)
theorem PPipe.up {nm:Str->Prop}:∀ {n:Nat} {d:D},PPipe nm n d->PPipe nm (n+1) d
 | n+1,d,⟨ss,e,l,h⟩=>⟨ss,e,l,fun s hs=>(h s hs).mono (fun _ z=>z) fun _ q=>PPipe.up q⟩
theorem PPipe.mono {nm:Str->Prop} {n m:Nat} {d:D} (h:PPipe nm n d) (hm:n<=m):PPipe nm m d:=by
 induction hm with
 | refl=>exact h
 | step _ ih=>exact ih.up
theorem natAbs_lt_bz {i:Int} {k:Nat} (h:bz i<=k):i.natAbs < 2 ^ k:=by
 unfold bz at h
 exact Nat.lt_of_lt_of_le (bs_lt _) (Nat.pow_le_pow_right (by decide) h)
theorem isfr_q {q:Rat} (h:qs q<=39):isfr q.num q.den=true:=by
 have h1:=natAbs_lt_bz (Nat.le_trans (qs_num q) h)
 have h2:=natAbs_lt_bz (Nat.le_trans (qs_den' q) h)
 have h3:=q.den_pos
 have h4:Int.gcd q.num q.den=1:=q.reduced
 unfold isfr
 rw [decide_eq_true (show q.num.natAbs < 10 ^ 12 by omega),decide_eq_true (show (0:Int) < q.den by omega),decide_eq_true (show (q.den:Int) < 10 ^ 12 by omega),decide_eq_true h4]
 rfl
theorem Fr12.eq {q:Rat} (h:Fr12 q):isfr q.num q.den=true:=h
theorem Fr12.of {q:Rat} (h:qs q<=39):Fr12 q:=isfr_q h
theorem Fr12.b {q:Rat} (h:Fr12 q):q.num.natAbs < 10 ^ 12/\q.den < 10 ^ 12:=by
 unfold Fr12 isfr at h
 simp only [Bool.and_eq_true,decide_eq_true_eq] at h
 exact ⟨h.1.1.1,by have:=h.1.2;omega⟩
theorem Fr12.qs {q:Rat} (h:Fr12 q):Mt.qs q<=40:=by
 obtain ⟨h1,h2⟩:=h.b
 unfold Mt.qs
 exact Nat.max_le.mpr ⟨bs_le (Nat.lt_trans h1 (by decide)),bs_le (Nat.lt_trans h2 (by decide))⟩
structure Un (u:Rat):Prop where
 pos:0 < u
 i:∃ z:Int,12 * u=z
 j:∃ z:Int,12 * (1 / u)=z
 hi:u<=4
 lo:1<=4 * u
structure Of (o:Rat):Prop where
 qs:Mt.qs o<=8
 i:∃ z:Int,12 * o=z
 lo:-6<=o
 hi:o<=6
inductive GStep (nm:Str->Prop) (P:D->Prop):D->Rat->Prop where
 | shift {a:Rat}:Of a->GStep nm P (.tup [.str "shift",qD a]) 1
 | scale {a:Rat}:qs a<=3->Un a->GStep nm P (.tup [.str "scale",qD a]) a
 | use {z:Str}:nm z->GStep nm P (.tup [.str "use",.str z]) 1
 | floor {u o:Rat}:qs u<=3->Un u->Of o->GStep nm P (.tup [.str "floor",qD u,qD o]) 1
 | ceiling {u o:Rat}:qs u<=3->Un u->Of o->GStep nm P (.tup [.str "ceiling",qD u,qD o]) 1
 | nearest {u o:Rat} {t:Str}:qs u<=3->Un u->Of o->(t="up"\/t="down"\/t="even")->GStep nm P (.tup [.str "nearest",qD u,qD o,.str t]) 1
 | sum {ps:List D}:2<=ps.length->ps.length<=4->(∀ p∈ps,P p)->GStep nm P (.tup (.str "sum" :: ps)) ps.length
 | pick {w:Str} {ps:List D}:(w="least"\/w="greatest")->2<=ps.length->ps.length<=4->(∀ p∈ps,P p)->GStep nm P (.tup (.str w :: ps)) 1
theorem qs_small (n:Nat) (h:n<=4):qs ((n:Nat):Rat)<=3:=by
 have:n=0\/n=1\/n=2\/n=3\/n=4:=by omega
 rcases this with rfl | rfl | rfl | rfl | rfl <;> decide +kernel
theorem GStep.mono {nm nm':Str->Prop} {P P':D->Prop} (hn:∀ z,nm z->nm' z) (hP:∀ d,P d->P' d) {d:D} {r:Rat} (h:GStep nm P d r):GStep nm' P' d r:=by
 cases h with
 | shift a=>exact .shift a
 | scale a b=>exact .scale a b
 | use a=>exact .use (hn _ a)
 | floor a b c=>exact .floor a b c
 | ceiling a b c=>exact .ceiling a b c
 | nearest a b c d=>exact .nearest a b c d
 | sum b c d=>exact .sum b c fun p hp=>hP p (d p hp)
 | pick a b c d=>exact .pick a b c fun p hp=>hP p (d p hp)
theorem GStep.ps {nm:Str->Prop} {P:D->Prop} {d:D} {r:Rat} (h:GStep nm P d r):PStep nm P d:=by
 cases h with
 | shift a=>exact .shift (.of (by have:=a.qs;omega))
 | scale a b=>exact .scale (.of (by omega)) b.pos
 | use a=>exact .use a
 | floor a b c=>exact .floor (.of (by omega)) b.pos (.of (by have:=c.qs;omega))
 | ceiling a b c=>exact .ceiling (.of (by omega)) b.pos (.of (by have:=c.qs;omega))
 | nearest a b c d=>exact .nearest (.of (by omega)) b.pos (.of (by have:=c.qs;omega)) d
 | sum b c d=>exact .join (.inl rfl) b c d
 | pick a b c d=>exact .join (.inr a) b c d
theorem GStep.sl {nm:Str->Prop} {P:D->Prop} {d:D} {r:Rat} (h:GStep nm P d r):qs r<=3/\0 < r:=by
 have h1:qs 1<=3/\(0:Rat) < 1:=⟨by decide +kernel,by decide +kernel⟩
 cases h with
 | scale a b=>exact ⟨a,b.pos⟩
 | sum b c d =>
  refine ⟨qs_small _ c,?_⟩
  rename_i ps
  have:((0:Nat):Rat) < (ps.length:Rat):=Rat.natCast_lt_natCast.mpr (by omega)
  simpa using this
 | _=>exact h1
def slopeP:List (D×Rat)->Rat
 | []=>1
 | p :: r=>p.2 * slopeP r
theorem slopeP_ok:∀ {l:List (D×Rat)},(∀ p∈l,qs p.2<=3/\0 < p.2)->qs (slopeP l)<=1+3 * l.length/\0 < slopeP l
 | [],_=>⟨by decide +kernel,by decide +kernel⟩
 | p :: r,h=>by
  obtain ⟨h1,h2⟩:=h p (List.mem_cons_self ..)
  obtain ⟨h3,h4⟩:=slopeP_ok (l:=r) fun q hq=>h q (List.mem_cons_of_mem _ hq)
  have h5:=qs_mul p.2 (slopeP r)
  refine ⟨?_,Rat.mul_pos h2 h4⟩
  show qs (p.2 * slopeP r)<=_
  rw [List.length_cons]
  omega
def GPipe (nm:Str->Prop):Nat->Nat->D->Prop
 | 0,_,_=>False
 | n+1,m,d=>∃ ps:List (D×Rat),ps.length<=m/\m<=4/\(∀ p∈ps,GStep nm (GPipe nm n 2) p.1 p.2) /\
  ((slopeP ps=1/\d = .tup (ps.map (·.1)))\/(slopeP ps≠1/\d = .tup (ps.map (·.1) ++ [.tup [.str "scale",qD (1 / slopeP ps)]])))
theorem GPipe.pp {nm:Str->Prop}:∀ {n m:Nat} {d:D},GPipe nm n m d->PPipe nm n d
 | n+1,m,d,⟨ps,hl,hm,h,hd⟩=>by
  have hs:∀ p∈ps,PStep nm (PPipe nm n) p.1:=fun p hp=>(h p hp).ps.mono (fun _ z=>z) fun _ q=>GPipe.pp q
  obtain ⟨h3,h4⟩:=slopeP_ok fun p hp=>(h p hp).sl
  rcases hd with ⟨_,rfl⟩ | ⟨_,rfl⟩
  ·refine ⟨_,rfl,by rw [List.length_map];omega,fun s hs'=>?_⟩
   obtain ⟨p,hp,rfl⟩:=List.mem_map.mp hs'
   exact hs p hp
  ·refine ⟨_,rfl,by rw [List.length_append,List.length_map];show _+1<=12;omega,fun s hs'=>?_⟩
   rcases List.mem_append.mp hs' with hs' | hs'
   ·obtain ⟨p,hp,rfl⟩:=List.mem_map.mp hs'
    exact hs p hp
   ·rw [List.mem_singleton.mp hs']
    have h5:=qs_div 1 (slopeP ps)
    have h6:qs 1<=1:=by decide +kernel
    exact .scale (.of (by omega)) (by rw [Rat.div_def,Rat.one_mul];exact Rat.inv_pos.mpr h4)
theorem hbs_all {n:Nat}:∀ {l:List D},(∀ d∈l,D.hb n d=true)->D.hbs n l=true
 | [],_=>rfl
 | d :: r,h=>by
  show (D.hb n d && D.hbs n r)=true
  rw [h d (List.mem_cons_self ..),hbs_all (l:=r) fun x hx=>h x (List.mem_cons_of_mem _ hx)];rfl
theorem hbs_snoc {n:Nat} {l:List D} {d:D} (h:D.hbs n l=true) (hd:D.hb n d=true):D.hbs n (l ++ [d])=true:=by
 induction l with
 | nil=>show (D.hb n d && true)=true;rw [hd];rfl
 | cons x r ih =>
  have h':(D.hb n x && D.hbs n r)=true:=h
  rw [Bool.and_eq_true] at h'
  show (D.hb n x && D.hbs n (r ++ [d]))=true
  rw [h'.1,ih h'.2];rfl
theorem GStep.hb {nm:Str->Prop} {P:D->Prop} {n:Nat} (hP:∀ d,P d->D.hb n d=true) {d:D} {r:Rat} (h:GStep nm P d r):D.hb n d=true:=by
 cases h with
 | @sum ps b c e =>
  exact hbs_all (l:=.str "sum" :: ps) fun x hx=>by
   rcases List.mem_cons.mp hx with rfl | hx
   ·rfl
   ·exact hP x (e x hx)
 | @pick w ps a b c e =>
  exact hbs_all (l:=.str w :: ps) fun x hx=>by
   rcases List.mem_cons.mp hx with rfl | hx
   ·rfl
   ·exact hP x (e x hx)
 | _=>rfl
theorem GPipe.hb {nm:Str->Prop} {m:Nat}:∀ {n k:Nat} {d:D},GPipe nm n k d->D.hb m d=true
 | n+1,k,d,⟨ps,hl,hk,h,hd⟩=>by
  have hs:D.hbs m (ps.map (·.1))=true:=hbs_all fun x hx=>by
   obtain ⟨p,hp,rfl⟩:=List.mem_map.mp hx
   exact (h p hp).hb fun _ q=>GPipe.hb q
  rcases hd with ⟨_,rfl⟩ | ⟨_,rfl⟩
  ·exact hs
  ·exact hbs_snoc hs rfl
end DL
namespace DL
open PySem PySem.Spec PyProof.Rows L2
def seerB (K:PySem.W.Frag):Bool:=(K.lookup cStatics).isSome && ((K.lookup sysModules).isSome && ((K.lookup builtinsNs).isSome && (K.lookup (He.ga K "__builtins__")).isSome))
end DL
namespace DL
open PySem PySem.Spec PyProof.Rows L2 Mt
def starSp (n:Nat) (dsp:DSp):DSp:=fun ds M Q E=>∃ ws rest,ds=ws ++ rest/\ws.length=n/\rest.length<=sizeLine/\dsp (ws ++ [.tup rest]) M Q E
structure FnSD (P:Program) (w:World) (K:PySem.W.Frag) (mg:Str->Option Value) (base:Heap) (Tb:List (Addr×Str)) (k:Nat) (f:Addr) (n:Nat) (dsp:DSp):Prop where
 run:FnR P w K mg base (L2.CX P w) k f (liftSp K Tb (starSp n dsp))
theorem FnSD.mono {P:Program} {w:World} {K:PySem.W.Frag} {mg:Str->Option Value} {base:Heap} {Tb:List (Addr×Str)} {j k:Nat} {f:Addr} {n:Nat} {dsp:DSp} (F:FnSD P w K mg base Tb j f n dsp) (h:j<=k):FnSD P w K mg base Tb k f n dsp:=⟨F.run.mono h⟩
abbrev KD:=List (Key×D)
def valD (kvs:KD) (k:Key):Option D:=(kvs.find? fun kv=>decide (kv.1=k)).map (·.2)
section
variable {K:PySem.W.Frag} {al:Al} {M:Mem} {H:Hp}
theorem Rpk.any {k:Key}:∀ {kvs:KD} {ys:List (Key×V)},Rpk K al M H kvs ys->(kvs.any fun kv=>decide (kv.1=k))=(ys.any fun kv=>decide (kv.1=k))
 | [],[],_=>rfl
 | [],_ :: _,h=>by simp [Rpk] at h
 | (k',d) :: r,ys,h=>by
  obtain ⟨x,rs,rfl,_,t⟩:=h.cases
  rw [List.any_cons,List.any_cons,Rpk.any t]
theorem Rpk.val {k:Key}:∀ {kvs:KD} {ys:List (Key×V)},Rpk K al M H kvs ys->(valD kvs k=none/\valV ys k=none)\/∃ d v,valD kvs k=some d/\valV ys k=some v/\Rp K al M H d v
 | [],[],_=>.inl ⟨rfl,rfl⟩
 | [],_ :: _,h=>by simp [Rpk] at h
 | (k',d) :: r,ys,h=>by
  obtain ⟨x,rs,rfl,rd,t⟩:=h.cases
  by_cases e:k'=k
  ·exact .inr ⟨d,x,by simp [valD,List.find?_cons,e],by simp [valV,List.find?_cons,e],rd⟩
  ·have e1:valD ((k',d) :: r) k=valD r k:=by simp [valD,List.find?_cons,e]
   have e2:valV ((k',x) :: rs) k=valV rs k:=by simp [valV,List.find?_cons,e]
   rw [e1,e2]
   exact Rpk.val t
theorem Rpk.map {k:Key} {d:D} {v:V} (rd:Rp K al M H d v):∀ {kvs:KD} {ys:List (Key×V)},Rpk K al M H kvs ys->Rpk K al M H (kvs.map fun kv=>if kv.1=k then (kv.1,d) else kv) (ys.map fun kv=>if kv.1=k then (kv.1,v) else kv)
 | [],[],_=>Rpk.nil
 | [],_ :: _,h=>by simp [Rpk] at h
 | (k',d') :: r,ys,h=>by
  obtain ⟨x,rs,rfl,rd',t⟩:=h.cases
  rw [List.map_cons,List.map_cons]
  by_cases e:k'=k
  ·rw [if_pos e,if_pos e];exact Rpk.cons rd (Rpk.map rd t)
  ·rw [if_neg e,if_neg e];exact Rpk.cons rd' (Rpk.map rd t)
theorem Rpk.app {ks ls:KD} {xs ys:List (Key×V)} (h1:Rpk K al M H ks xs) (h2:Rpk K al M H ls ys):Rpk K al M H (ks ++ ls) (xs ++ ys):=⟨by simp [h1.1,h2.1],by rw [List.map_append,List.map_append];exact h1.2.append h2.2⟩
theorem Rpk.len {kvs:KD} {ys:List (Key×V)} (h:Rpk K al M H kvs ys):kvs.length=ys.length:=by have:=congrArg List.length h.1;simpa using this
end
end DL
namespace Gfr
open PySem
open PyProof.Rows (AllBare)
abbrev NGf (fs:List Frame):Prop:=splitAtGen fs=none
def Sus:GenState->Prop
 | .suspended _ _ _ _ _ _=>True
 | _=>False
def ng:GenState->Prop
 | .suspended _ _ _ _ fs _=>NGf fs
 | _=>True
def poison:GenState->GenState
 | .suspended _ l c p fs cl=>.suspended (fun _=>.unsupported "") l c p fs cl
 | x=>x
theorem poison_bare (x:GenState):(poison x).bare=x.bare:=by cases x <;> rfl
structure GRl (P:Nat->Prop) (Y:Nat->GenState) (gp G:Array GenState):Prop where
 sz:gp.size=G.size
 pz:∀ i,P i->gp[i]?=some (poison (Y i))/\G[i]?=some (Y i)
 eq:∀ i,¬ P i->gp[i]?=G[i]?
 ng:∀ i x,¬ P i->G[i]?=some x->ng x
section
variable {P:Nat->Prop} {Y:Nat->GenState} {gp G:Array GenState}
theorem GRl.set (h:GRl P Y gp G) {j:Nat} {x:GenState} (hj:¬ P j) (hx:Gfr.ng x):GRl P Y (gp.setIfInBounds j x) (G.setIfInBounds j x):=by
 refine ⟨by simp [h.sz],fun i hi=>?_,fun i hi=>?_,fun i y hi e=>?_⟩
 ·have:j≠i:=fun z=>hj (z ▸ hi)
  rw [Array.getElem?_setIfInBounds_ne this,Array.getElem?_setIfInBounds_ne this]
  exact h.pz i hi
 ·by_cases z:j=i
  ·subst z
   rw [Array.getElem?_setIfInBounds_self,Array.getElem?_setIfInBounds_self,h.sz]
  ·rw [Array.getElem?_setIfInBounds_ne z,Array.getElem?_setIfInBounds_ne z]
   exact h.eq i hi
 ·by_cases z:j=i
  ·subst z
   rw [Array.getElem?_setIfInBounds_self] at e
   split at e
   ·cases e;exact hx
   ·cases e
  ·rw [Array.getElem?_setIfInBounds_ne z] at e
   exact h.ng i y hi e
theorem GRl.push (h:GRl P Y gp G) (c:Code):GRl P Y (gp.push (.fresh c)) (G.push (.fresh c)):=by
 refine ⟨by simp [h.sz],fun i hi=>?_,fun i hi=>?_,fun i y hi e=>?_⟩
 ·obtain ⟨e1,e2⟩:=h.pz i hi
  have l1:=(Array.getElem?_eq_some_iff.mp e1).1
  have l2:=(Array.getElem?_eq_some_iff.mp e2).1
  rw [Array.getElem?_push,Array.getElem?_push,if_neg (by omega),if_neg (by omega)]
  exact ⟨e1,e2⟩
 ·rw [Array.getElem?_push,Array.getElem?_push,h.sz,h.eq i hi]
 ·rw [Array.getElem?_push] at e
  split at e
  ·cases e;trivial
  ·exact h.ng i y hi e
end
theorem GRl.bare {P:Nat->Prop} {Y:Nat->GenState} {gp G:Array GenState} (r:GRl P Y gp G) (hb:AllBare gp):AllBare G:=fun y hy=>by
 obtain ⟨i,hi,rfl⟩:=Array.mem_iff_getElem.mp hy
 have ei:G[i]?=some G[i]:=Array.getElem?_eq_getElem hi
 by_cases hp:P i
 ·obtain ⟨e1,e2⟩:=r.pz i hp
  have e3:some G[i]=some (Y i):=ei.symm.trans e2
  rw [Option.some.inj e3,<- poison_bare]
  exact hb _ (Array.mem_of_getElem? e1)
 ·exact hb _ (Array.mem_of_getElem? ((r.eq i hp).trans ei))
structure Like (s s' sp:Shared):Prop where
 ex:∃ G,s'={ sp with gens:=G }
 kp:∀ (i:Nat) (x:GenState),s.gens[i]?=some x->Sus x->s'.gens[i]?=some x
 br:AllBare sp.gens->AllBare s'.gens
 rl:∃ P Y G,(∀ i,P i->Sus (Y i))/\GRl P Y sp.gens G/\s'={ sp with gens:=G }
theorem Like.heap {s s' sp:Shared} (h:Like s s' sp):s'.heap=sp.heap:=by obtain ⟨⟨G,rfl⟩,_,_,_⟩:=h;rfl
end Gfr
namespace Gg
open PySem PySem.Spec PyProof.Rows L2 GenW DL
def Sg (M:Model) (A:Around) (c:Code) (t:Sem PySem.Fin) (fs:List PySem.Frame) (s:Shared) (Φ:PySem.End->Shared->Prop):Prop :=
 ∀ (Γ:PySem.Ctx) (p:Pos),Γ.code=c->Γ.Woken A->∃ e s',PySem.Runs M Γ p t fs s e s'/\Φ e s'
def cutH (h:Heap) (n:Nat):Heap:={ h with objs:=h.objs.extract 0 n }
abbrev noE:XK:=fun _ _ _=>False
structure Gf where
 P:Program
 w:World
 K:PySem.W.Frag
 mg:Str->Option Value
 base:Heap
 Tb:List (Addr×Str)
 N:List Str
 qual:Str
 scope:Scope
 f:Addr
 cd:Value
 A:Around
 outer:List Env
 a:Addr
 go:Obj
 nb:Nat
def Gf.env (G:Gf):Env:=envOfC G.qual G.scope G.nb G.f G.cd
def Gf.X (G:Gf) (s:Shared) (H:Hp):Cx :=
 { cxOf (L2.CX G.P G.w) G.P G.w G.K G.mg G.base G.N G.qual G.scope G.f G.cd G.A G.outer s H noE with pn:=[(G.a,G.go)],xe:=fun _ _=>False }
structure Tk where
 s:Shared
 H:Hp
 al:Al
 M:Mem
 pl:List (Addr×Obj)
structure GAt (G:Gf) (T:Tk) (al:Al) (σ:L2.St) (H:Hp) (rho:Rho) (M:Mem) (s:Shared):Prop where
 sz:T.s.heap.objs.size=G.nb
 inv:Inv (G.X T.s T.H) T.pl σ H s
 wf:Wf G.K G.Tb al H M
 sl:RpS G.K al M H σ rho
 st:Stp T.al T.M T.H al M H
structure FrOk (G:Gf) (T:Tk) (s:Shared):Prop where
 cut:T.s={ s with heap:=cutH s.heap G.nb }
 sz:G.nb<=s.heap.objs.size
 mod:Mod G.K G.mg G.base
 hd:G.A.handled=none
 fr:G.A.frames=some G.outer
 bs:∀ b o,G.base.get? b=some o->s.heap.get? b=some o/\T.H b=none
 bsz:G.base.objs.size<=G.nb
 funs:(cutH s.heap G.nb).FunFrames G.base G.outer
 frf:∀ b∈frs G.outer,T.H b=none
 hok:HOk G.P G.w T.H s.heap
 bare:AllBare s.gens
 nbf:T.H G.nb=none
 pin:∀ p∈(G.a,G.go) :: T.pl,s.heap.get? p.1=some p.2/\T.H p.1=none/\p.1≠G.nb/\p.1 ∉ frs G.outer/\∀ v,p.2.data≠.cell v
structure Stv (al:Al) (M:Mem) (H:Hp) (al':Al) (M':Mem) (H':Hp):Prop where
 pre:∀ (i:Nat) (a:Addr),al.a[i]?=some a->al'.a[i]?=some a
 fz:∀ a o,H a=some o->(∀ ps,o≠.tbl ps)->Fz al M a->H' a=some o/\Fz al' M' a
theorem Stv.trans {al al1 al2:Al} {M M1 M2:Mem} {H H1 H2:Hp} (a:Stv al M H al1 M1 H1) (b:Stv al1 M1 H1 al2 M2 H2):Stv al M H al2 M2 H2 :=
 ⟨fun i x h=>b.pre i x (a.pre i x h),fun x o h n f=>b.fz x o (a.fz x o h n f).1 n (a.fz x o h n f).2⟩
structure Lat (G:Gf) (T:Tk) (al:Al) (H:Hp) (s1:Shared) (T':Tk) (s2:Shared):Prop where
 st:Stv al T.M H T'.al T'.M T'.H
 wf:Wf G.K G.Tb T'.al T'.H T'.M
 fr:FrOk G T' s2
 loc:∀ o,s1.heap.get? G.nb=some o->s2.heap.get? G.nb=some o
def NoCell (sc:Scope):Prop:=(∀ n,cellsFrom n sc.names []=[])/\∀ x,sc.names.lookup x≠some .cell/\sc.names.lookup x≠some .free
def Phi (G:Gf):List D->Tk->PySem.End->Shared->Prop
 | [],T=>fun e s'=>match e with
  | .ret r=>(r = .ok (.ret .none)\/r = .ok .next)/\∃ al H σ rho,GAt G T al σ H rho T.M s'
  | .susp ..=>False
 | d :: ys,T=>fun e s'=>match e with
  | .susp v gd l k c p fs=>(PySem.End.susp v gd l k c p fs).quiet=true/\∃ al H σ rho x,GAt G T al σ H rho T.M s'/\RelV x v/\Rp G.K al T.M H d x/\∀ T' s'',Lat G T al H s' T' s''->Sg (model G.P G.w) G.A c (k (.send .none)) fs s'' (Phi G ys T')
  | .ret _=>False
end Gg
namespace Gg
open PySem PySem.Spec PyProof.Rows L2 GenW DL Gfr
abbrev GSpD:=List DL.D->(List DL.D->Prop)->Prop
structure GNew (P:Program) (w:World) (K:PySem.W.Frag) (mg:Str->Option Value) (base:Heap) (Tb:List (Addr×Str)) (k:Nat) (outer:List Env) (H:Hp) (s:Shared) (al:Al) (M:Mem) (ys:List DL.D) (N:List Str) (qual:Str) (scope:Scope) (f:Addr) (cd:Value) (a:Addr) (go:Obj) (g:Nat) (s':Shared):Prop where
 gc:∀ v,go.data≠.cell v
 os:s'.os=s.os
 bare:AllBare s'.gens
 keep:∀ b o,s.heap.get? b=some o->s'.heap.get? b=some o
 an:s.heap.objs.size < a
 at_:s'.heap.get? a=some go
 gen:s'.heap.IsGen a g
 loc:∃ ol,s'.heap.get? s.heap.objs.size=some ol/\∀ v,ol.data≠.cell v
 nc:NoCell scope
 run:∃ c,s'.gens[g]?=some (.fresh c)/\∀ Aw,Room k Aw->∀ T' s'',Stv al M H T'.al T'.M T'.H->Wf K Tb T'.al T'.H T'.M->FrOk ⟨P,w,K,mg,base,Tb,N,qual,scope,f,cd,Aw,outer,a,go,s.heap.objs.size⟩ T' s'' ->
  (∀ o,s'.heap.get? s.heap.objs.size=some o->s''.heap.get? s.heap.objs.size=some o)->Sg (model P w) Aw c ((model P w).den c) [] s'' (Phi ⟨P,w,K,mg,base,Tb,N,qual,scope,f,cd,Aw,outer,a,go,s.heap.objs.size⟩ ys T')
structure GFnD (P:Program) (w:World) (K:PySem.W.Frag) (mg:Str->Option Value) (base:Heap) (Tb:List (Addr×Str)) (k:Nat) (f:Addr) (fd:FuncData) (ps:List Str) (gsp:GSpD):Prop where
 len:∀ ds Q,gsp ds Q->ds.length=ps.length
 run:∀ (A:Around) (outer:List Env) (s:Shared) (H:Hp) (args:Args) (us:List Value) (vs:List V) (ds:List DL.D) (al:Al) (M:Mem) (Q:List DL.D->Prop),Room k A->Env0 P w K mg base A outer s H->BindsTo s fd args (ps.zip us)->Vals vs us->Rps K al M H ds vs->gsp ds Q ->
  codeAny (model P w) A (.call (.ref f) args) (fun r s'=>∃ N qual scope cd a go g ys,r = .ok (.ret (.ref a))/\Q ys/\GNew P w K mg base Tb k outer H s al M ys N qual scope f cd a go g s') s
theorem GFnD.mono {P:Program} {w:World} {K:PySem.W.Frag} {mg:Str->Option Value} {base:Heap} {Tb:List (Addr×Str)} {j k:Nat} {f:Addr} {fd:FuncData} {ps:List Str} {gsp:GSpD} (F:GFnD P w K mg base Tb j f fd ps gsp) (h:j<=k):GFnD P w K mg base Tb k f fd ps gsp :=
 ⟨F.len,fun A outer s H args us vs ds al M Q hr e0 hb r rr q=>codeAny_mono (F.run A outer s H args us vs ds al M Q (hr.mono h) e0 hb r rr q) fun r s' ⟨N,qual,scope,cd,a,go,g,ys,e,q,z⟩ =>
  ⟨N,qual,scope,cd,a,go,g,ys,e,q,⟨z.gc,z.os,z.bare,z.keep,z.an,z.at_,z.gen,z.loc,z.nc,let ⟨c,e,y⟩:=z.run;⟨c,e,fun Aw hr=>y Aw (hr.mono h)⟩⟩⟩⟩
end Gg
namespace DL
open PySem PySem.Spec PyProof.Rows L2 Mt
inductive CErr where
 | frac | inval | step | parts | many | long | unlike | equal | pipe | strch | text | name | cmd | unk (z:Str)
def CErr.ex (K:PySem.W.Frag):CErr->Exn
 | .frac=>⟨He.ga K "InvalidFraction",[("code",.str "InvalidFraction")]⟩
 | .inval=>⟨He.ga K "InvalidCurve",[("code",.str "InvalidCurve")]⟩
 | .step=>⟨He.ga K "InvalidStep",[("code",.str "InvalidStep")]⟩
 | .parts=>⟨He.ga K "InvalidParts",[("code",.str "InvalidParts")]⟩
 | .many=>⟨He.ga K "TooMany",[("limit",.int 60),("code",.str "TooMany")]⟩
 | .long=>⟨He.ga K "TooLong",[("limit",.int 60),("code",.str "TooLong")]⟩
 | .unlike=>⟨He.ga K "UnlikeSlopes",[("code",.str "UnlikeSlopes")]⟩
 | .equal=>⟨He.ga K "EqualSlopes",[("code",.str "EqualSlopes")]⟩
 | .pipe=>⟨He.ga K "InvalidPipeline",[("code",.str "InvalidPipeline")]⟩
 | .strch=>⟨He.ga K "InvalidStretch",[("code",.str "InvalidStretch")]⟩
 | .text=>⟨He.ga K "InvalidText",[("code",.str "InvalidText")]⟩
 | .name=>⟨He.ga K "InvalidName",[("code",.str "InvalidName")]⟩
 | .cmd=>⟨He.ga K "InvalidCommand",[("code",.str "InvalidCommand")]⟩
 | .unk z=>⟨He.ga K "UnknownName",[("name",.str z),("code",.str "UnknownName")]⟩
abbrev Out:=Except CErr Crv
open Classical in
noncomputable def mkC (p r:Rat) (pts:List Pt) (o:Rat):Out :=
 if okPts p r pts then (if 60 < pts.length then .error .many else if (norm p r pts o).long=true then .error .long else .ok (norm p r pts o)) else .error .inval
noncomputable abbrev Crv.off (c:Crv):Rat:=(c.arn 0).v
noncomputable def behC (c:Crv) (hi:Rat):Int:=if (c.at (plc c.at hi)).a=hi then plc c.at hi+1 else plc c.at hi
noncomputable def ptsB (c:Crv) (lo hi:Rat):List Pt:=if c.row=[] then [] else (List.range (behC c hi - plc c.at lo).toNat).map fun i:Nat=>c.at (plc c.at lo+i)
theorem Trk.ale {S:Int->Pt} (h:Trk S) {i j:Int} (hij:i<=j):(S i).a<=(S j).a:=by
 rcases Int.lt_or_eq_of_le hij with g | g
 ·have:=h.lt g;grind
 ·subst g;exact Rat.le_refl
theorem Trk.pl_lt {S:Int->Pt} (h:Trk S) {x:Rat} {k:Int}:k < DL.plc S x ↔ (S k).a < x:=by
 have h1:=h.plc x
 constructor
 ·intro g
  have:=h.ale (show k<=DL.plc S x - 1 by omega)
  have:=h1.1
  grind
 ·intro g
  exact h.lt_iff.mp (by have:=h1.2;grind)
theorem beh_le {c:Crv} (h:Trk c.at) {hi:Rat} {k:Int}:k < behC c hi ↔ (c.at k).a<=hi:=by
 have h1:=h.plc hi
 unfold behC
 by_cases e:(c.at (plc c.at hi)).a=hi
 ·rw [if_pos e]
  constructor
  ·intro g
   have:=h.ale (show k<=plc c.at hi by omega)
   grind
  ·intro g
   have:¬ plc c.at hi < k:=fun z=>by have:=h.lt z;grind
   omega
 ·rw [if_neg e,h.pl_lt]
  constructor
  ·intro g;grind
  ·intro g
   by_cases z:(c.at k).a=hi
   ·have:¬ k < plc c.at hi:=fun q=>by have:=h.pl_lt.mp q;grind
    have:¬ plc c.at hi < k:=fun q=>by have:=h.lt q;have:=h1.2;grind
    have:k=plc c.at hi:=by omega
    subst this
    exact absurd z e
   ·grind
def IsLv (S:Int->Pt) (w:Rat) (k:Int):Prop:=(S k).l < w/\w<=(S (k+1)).l
def IsLu (S:Int->Pt) (w:Rat) (k:Int):Prop:=(S k).r<=w/\w < (S (k+1)).r
open Classical in
noncomputable def lvl (S:Int->Pt) (w:Rat):Int:=if h:∃ k,IsLv S w k then h.choose else 0
open Classical in
noncomputable def lvu (S:Int->Pt) (w:Rat):Int:=if h:∃ k,IsLu S w k then h.choose else 0
theorem Trk.lle {S:Int->Pt} (h:Trk S) {i j:Int} (hij:i<=j):(S i).l<=(S j).l:=by
 rcases Int.lt_or_eq_of_le hij with g | g
 ·have:=h.le g;have:=h.lv i;have:=h.vr i;grind
 ·subst g;exact Rat.le_refl
theorem Trk.rle {S:Int->Pt} (h:Trk S) {i j:Int} (hij:i<=j):(S i).r<=(S j).r:=by
 rcases Int.lt_or_eq_of_le hij with g | g
 ·have:=h.le g;have:=h.lv j;have:=h.vr j;grind
 ·subst g;exact Rat.le_refl
theorem Trk.lv_un {S:Int->Pt} (h:Trk S) {w:Rat} {i j:Int} (hi:IsLv S w i) (hj:IsLv S w j):i=j:=by
 have h1:¬ i+1<=j:=fun z=>by have:=h.lle z;have:=hi.2;have:=hj.1;grind
 have h2:¬ j+1<=i:=fun z=>by have:=h.lle z;have:=hj.2;have:=hi.1;grind
 omega
theorem Trk.lu_un {S:Int->Pt} (h:Trk S) {w:Rat} {i j:Int} (hi:IsLu S w i) (hj:IsLu S w j):i=j:=by
 have h1:¬ i+1<=j:=fun z=>by have:=h.rle z;have:=hi.2;have:=hj.1;grind
 have h2:¬ j+1<=i:=fun z=>by have:=h.rle z;have:=hj.2;have:=hi.1;grind
 omega
theorem Trk.lvl_eq {S:Int->Pt} (h:Trk S) {w:Rat} {k:Int} (g:IsLv S w k):lvl S w=k:=by
 unfold lvl
 rw [dif_pos ⟨k,g⟩]
 exact h.lv_un (Classical.choose_spec (⟨k,g⟩:∃ k,IsLv S w k)) g
theorem Trk.lvu_eq {S:Int->Pt} (h:Trk S) {w:Rat} {k:Int} (g:IsLu S w k):lvu S w=k:=by
 unfold lvu
 rw [dif_pos ⟨k,g⟩]
 exact h.lu_un (Classical.choose_spec (⟨k,g⟩:∃ k,IsLu S w k)) g
theorem Trk.lv_ex {S:Int->Pt} (h:Trk S) {w:Rat} {i:Int}:∀ n:Nat,(S i).l < w->w<=(S (i+n)).l->∃ k,i<=k/\k < i+n/\IsLv S w k
 | 0,h1,h2=>by simp at h2;grind
 | n+1,h1,h2=>by
  by_cases z:w<=(S (i+n)).l
  ·obtain ⟨k,a,b,c⟩:=h.lv_ex n h1 z
   exact ⟨k,a,by omega,c⟩
  ·exact ⟨i+n,by omega,by omega,by grind,by rw [show i+(n:Int)+1=i+((n+1:Nat):Int) from by omega];exact h2⟩
theorem Trk.lu_ex {S:Int->Pt} (h:Trk S) {w:Rat} {i:Int}:∀ n:Nat,(S i).r<=w->w < (S (i+n)).r->∃ k,i<=k/\k < i+n/\IsLu S w k
 | 0,h1,h2=>by simp at h2;grind
 | n+1,h1,h2=>by
  by_cases z:w < (S (i+n)).r
  ·obtain ⟨k,a,b,c⟩:=h.lu_ex n h1 z
   exact ⟨k,a,by omega,c⟩
  ·exact ⟨i+n,by omega,by omega,by grind,by rw [show i+(n:Int)+1=i+((n+1:Nat):Int) from by omega];exact h2⟩
theorem Crv.at_per {c:Crv} (hn:c.row≠[]) (t:Int):c.at (t * c.row.length)=(c.at 0).mv t c.p c.r:=by
 have h1:=rowAt_add (p:=c.p) (r:=c.r) hn 0 t
 rw [Int.zero_add] at h1
 exact h1
def lvlA (c:Crv) (w:Rat):Int:=(-(-((w - (c.at 0).l) / c.r)).floor - 1) * c.row.length
def lvuA (c:Crv) (w:Rat):Int:=((w - (c.at 0).r) / c.r).floor * c.row.length
theorem lvl_at {c:Crv} (ok:c.Ok) (hn:c.row≠[]) (w:Rat):∃ k,lvlA c w<=k/\k < lvlA c w+c.row.length/\IsLv c.at w k:=by
 have r0:=ok.r0
 have trk:=ok.trk hn
 generalize hx:(w - (c.at 0).l) / c.r=x
 have f1:=Rat.floor_le (-x)
 have f2:=Rat.lt_floor_add_one (-x)
 rw [Rat.intCast_add] at f2
 have e1:((1:Int):Rat)=1:=rfl
 rw [e1] at f2
 have hw:w=(c.at 0).l+x * c.r:=by
  rw [<- hx,Rat.div_mul_cancel (by grind)];grind
 have h1:(c.at (lvlA c w)).l < w:=by
  unfold lvlA
  rw [hx,Crv.at_per hn]
  show (c.at 0).l+_ * c.r < w
  rw [Rat.intCast_sub,Rat.intCast_neg,e1,hw]
  have:(-((-x).floor:Rat) - 1) < x:=by grind
  have:=Rat.mul_lt_mul_of_pos_right this r0
  grind
 have h2:w<=(c.at (lvlA c w+c.row.length)).l:=by
  unfold lvlA
  rw [hx,show (-(-x).floor - 1) * (c.row.length:Int)+c.row.length=(-(-x).floor) * c.row.length from by rw [Int.sub_mul];omega,Crv.at_per hn]
  show w<=(c.at 0).l+_ * c.r
  rw [Rat.intCast_neg,hw]
  have:x<=-((-x).floor:Rat):=by grind
  have:=Rat.mul_le_mul_of_nonneg_right this (Rat.le_of_lt r0)
  grind
 exact trk.lv_ex c.row.length h1 h2
theorem lvu_at {c:Crv} (ok:c.Ok) (hn:c.row≠[]) (w:Rat):∃ k,lvuA c w<=k/\k < lvuA c w+c.row.length/\IsLu c.at w k:=by
 have r0:=ok.r0
 have trk:=ok.trk hn
 generalize hx:(w - (c.at 0).r) / c.r=x
 have f1:=Rat.floor_le x
 have f2:=Rat.lt_floor_add_one x
 rw [Rat.intCast_add] at f2
 have e1:((1:Int):Rat)=1:=rfl
 rw [e1] at f2
 have hw:w=(c.at 0).r+x * c.r:=by
  rw [<- hx,Rat.div_mul_cancel (by grind)];grind
 have h1:(c.at (lvuA c w)).r<=w:=by
  unfold lvuA
  rw [hx,Crv.at_per hn]
  show (c.at 0).r+_ * c.r<=w
  rw [hw]
  have:=Rat.mul_le_mul_of_nonneg_right f1 (Rat.le_of_lt r0)
  grind
 have h2:w < (c.at (lvuA c w+c.row.length)).r:=by
  unfold lvuA
  rw [hx,show x.floor * (c.row.length:Int)+c.row.length=(x.floor+1) * c.row.length from by rw [Int.add_mul];omega,Crv.at_per hn]
  show w < (c.at 0).r+_ * c.r
  rw [Rat.intCast_add,e1,hw]
  have:=Rat.mul_lt_mul_of_pos_right f2 r0
  grind
 exact trk.lu_ex c.row.length h1 h2
noncomputable def onL (c:Crv) (w:Rat):Rat:=(w - c.off) / c.s
noncomputable def atLs (S:Int->Pt) (w:Rat):Rat×Bool:=if w<=(S (lvl S w)).v then ((S (lvl S w)).a,true) else if w<=(S (lvl S w)).r then ((S (lvl S w)).a,false)
 else ((S (lvl S w)).a+(w - (S (lvl S w)).r) / slB (S (lvl S w)) (S (lvl S w+1)),true)
noncomputable def atMs (S:Int->Pt) (w:Rat):Rat×Bool:=if w < (S (lvu S w+1)).l then ((S (lvu S w)).a+(w - (S (lvu S w)).r) / slB (S (lvu S w)) (S (lvu S w+1)),true)
 else ((S (lvu S w+1)).a,decide ((S (lvu S w+1)).v<=w))
noncomputable def atL (c:Crv) (w:Rat):Rat×Bool:=if c.row=[] then (onL c w,true) else atLs c.at w
noncomputable def atM (c:Crv) (w:Rat):Rat×Bool:=if c.row=[] then (onL c w,true) else atMs c.at w
noncomputable def liftF (o i:Crv):Rat:=cmQ i.r o.p
noncomputable def turnF (o i:Crv):Int:=(liftF o i / i.r).num
noncomputable def beyF (o i:Crv):Int:=o.row.length * (liftF o i / o.p).num
noncomputable def mineF (o i:Crv):Int:=turnF o i * i.row.length+if i.ris=true then beyF o i else 0
noncomputable def yourF (o i:Crv):Int:=if o.ris=true then mineF o i else 2 * beyF o i
noncomputable def joinF (o i:Crv) (x:Rat):Pt:=⟨x,if (i.arn x).sb=0 then (o.arn (i.arn x).l).v else (o.arn (i.arn x).l).l,(o.arn (i.arn x).v).v,if (i.arn x).sa=0 then (o.arn (i.arn x).r).v else (o.arn (i.arn x).r).r⟩
noncomputable def innA1 (o i:Crv) (k:Int):List Rat:=(i.at k).a :: (if slB (i.at k) (i.at (k+1))=0 then [] else
 ((ptsB o (i.at k).r (i.at (k+1)).l).filter fun q=>decide ((i.at k).r < q.a) && decide (q.a < (i.at (k+1)).l)).map fun q=>(i.at k).a+(q.a - (i.at k).r) / slB (i.at k) (i.at (k+1)))
noncomputable def innA (o i:Crv):List Rat:=(List.range (turnF o i * i.row.length).toNat).flatMap fun k:Nat=>innA1 o i k
noncomputable def outA (o i:Crv):List Rat:=(List.range (beyF o i).toNat).flatMap fun k:Nat=>[(atL i (o.at k).a).1,(atM i (o.at k).a).1]
noncomputable def spotF (o i:Crv):List Rat:=ordQ ((if mineF o i<=yourF o i then innA o i else outA o i).map fun x=>wthn x (turnF o i * i.p))
noncomputable def widPt (o l:Crv) (q:Pt):Pt:=(⟨(q.a - l.off) / l.s,q.l,q.v,q.r⟩:Pt).mv (-((q.a - l.off) / l.s / (o.p / l.s)).floor:Int) (o.p / l.s) o.r
noncomputable def widF (o l:Crv):Out:=mkC (o.p / l.s) o.r ((ordQ ((o.row.map (widPt o l)).map (·.a))).map fun x=>((o.row.map (widPt o l)).reverse.find? fun q=>decide (q.a=x)).getD ⟨0,0,0,0⟩) 0
noncomputable def strF (o i:Crv):Out:=mkC i.p (o.s * i.r) (i.row.map fun q=>⟨q.a,(o.arn q.l).v,(o.arn q.v).v,(o.arn q.r).v⟩) (o.arn i.off).v
noncomputable def afterF (o i:Crv):Out:=if o.row=[] then strF o i else if i.row=[] then widF o i
 else if min (mineF o i) (yourF o i) > 60 then .error .many
 else mkC (turnF o i * i.p) (o.r * (liftF o i / o.p)) ((spotF o i).map (joinF o i)) 0
structure Crv.Gd (c:Crv):Prop where
 ok:c.Ok
 nf:c.Nf
 len:c.row.length<=60
 sh:c.long=false
 b:qs c.b<=100000
theorem Crv.small2 {c:Crv} (h:c.long=false):(qs c.p<=200/\qs c.r<=200)/\(∀ q∈c.row,q.sz 200)/\(c.row=[]->qs c.b<=200):=by
 have hs:∀ q∈c.nums,qs q<=200:=fun q hq=>big_qs (by
  unfold Crv.long at h
  rw [List.any_eq_false] at h
  simpa using h q hq)
 refine ⟨⟨hs c.p (by simp [Crv.nums]),hs c.r (by simp [Crv.nums])⟩,fun q hq=>?_,fun e=>hs c.b (by simp [Crv.nums,e])⟩
 have:∀ x∈[q.a,q.l,q.v,q.r],x∈c.nums:=fun x hx=>List.mem_append_right _ (List.mem_flatMap.mpr ⟨q,hq,hx⟩)
 exact ⟨hs _ (this _ (by simp)),hs _ (this _ (by simp)),hs _ (this _ (by simp)),hs _ (this _ (by simp))⟩
theorem Crv.Gd.sz {c:Crv} (g:c.Gd):c.Sz 20000:=by
 obtain ⟨⟨h1,h2⟩,h3,h4⟩:=Crv.small2 g.sh
 refine ⟨fun _=>by omega,fun _=>by omega,?_,Nat.le_trans g.b (by decide),fun q hq=>(h3 q hq).mono (by decide),by have:=g.len;omega⟩
 rw [g.ok.s]
 have:=qs_div c.r c.p
 omega
theorem Crv.Gd.sl {c:Crv} (g:c.Gd):qs c.s<=400:=by
 obtain ⟨⟨h1,h2⟩,_,_⟩:=Crv.small2 g.sh
 rw [g.ok.s]
 have:=qs_div c.r c.p
 omega
theorem Crv.Gd.sz0 {c:Crv} (g:c.Gd):Crv.Sz ⟨c.p,c.r,c.row,c.s,if c.row=[] then c.b else 0⟩ 200:=by
 obtain ⟨⟨h1,h2⟩,h3,h4⟩:=Crv.small2 g.sh
 refine ⟨fun _=>h1,fun _=>h2,g.sl,?_,h3,by have:=g.len;show c.row.length < 10000;omega⟩
 show qs (if c.row=[] then c.b else 0)<=_
 split
 ·rename_i e;have:=h4 e;omega
 ·have:qs (0:Rat)=1:=by decide
  omega
end DL
namespace DL
open PySem PySem.Spec PyProof.Rows L2 Mt
theorem mul_div_num {n:Nat} {p:Rat} (h:0 < p):((n:Rat) * p / p).num=n:=by
 have:(n:Rat) * p / p=(n:Rat):=by
  rw [Rat.div_def,Rat.mul_assoc,Rat.mul_inv_cancel _ (by grind),Rat.mul_one]
 rw [this];rfl
section
variable {c:Crv}
theorem Crv.at_add (hn:c.row≠[]) (k t:Int):c.at (k+t * c.row.length)=(c.at k).mv t c.p c.r:=rowAt_add hn k t
theorem Crv.at_nat {j:Nat} (hj:j < c.row.length):c.at j=c.row[j]:=rowAt_nat j hj
theorem plc_per (ok:c.Ok) (hn:c.row≠[]) (x:Rat) (t:Int):plc c.at (x+t * c.p)=plc c.at x+t * c.row.length:=by
 have h:=(ok.trk hn).plc x
 refine (ok.trk hn).plc_eq ⟨?_,?_⟩
 ·rw [show plc c.at x+t * c.row.length - 1=plc c.at x - 1+t * c.row.length from by omega,Crv.at_add hn]
  show _+_ < _
  have:=h.1;grind
 ·rw [Crv.at_add hn]
  show _<=_+_
  have:=h.2;grind
end
theorem Arn.of_s0 {c:Crv} (hn:c.row≠[]) (y:Rat):c.arn y=Crv.arn ⟨c.p,c.r,c.row,c.s,if c.row=[] then c.b else 0⟩ y:=by
 unfold Crv.arn
 rw [if_neg hn,if_neg (show ¬ (Crv.row ⟨c.p,c.r,c.row,c.s,if c.row=[] then c.b else 0⟩=[]) from hn)]
 rfl
structure Arn.szd (a:Arn) (B:Nat):Prop where
 l:qs a.l<=B
 v:qs a.v<=B
 r:qs a.r<=B
 sb:qs a.sb<=B
 sa:qs a.sa<=B
theorem arn_szd {c:Crv} {B:Nat} (hz:c.Sz B) (ok:c.Ok) (hn:c.row≠[]) (y:Rat):(c.arn y).szd (14 * B+3 * qs y+150):=by
 have hb:=plc_bz hz ok hn y
 have hs:=hz.at hn (Nat.le_refl (bz (plc c.at y)))
 have h1:=hs.a;have h2:=hs.l;have h3:=hs.v;have h4:=hs.r
 have hsl:=hz.sl hn (plc c.at y - 1)
 have hsl2:=hz.sl hn (plc c.at y)
 rw [show plc c.at y - 1+1=plc c.at y from by omega] at hsl
 have hp:=qs_pos y
 unfold Crv.arn
 rw [if_neg hn]
 unfold arn arnAt
 split
 ·refine ⟨?_,?_,?_,?_,?_⟩ <;> (simp only [];omega)
 ·have q1:=qs_sub (c.at (plc c.at y)).a y
  have q2:=qs_mul (slB (c.at (plc c.at y - 1)) (c.at (plc c.at y))) ((c.at (plc c.at y)).a - y)
  have q3:=qs_sub (c.at (plc c.at y)).l (slB (c.at (plc c.at y - 1)) (c.at (plc c.at y)) * ((c.at (plc c.at y)).a - y))
  refine ⟨?_,?_,?_,?_,?_⟩ <;> (simp only [];omega)
theorem Crv.Gd.arn {c:Crv} (g:c.Gd) (y:Rat):(c.arn y).szd (3000+3 * qs y):=by
 by_cases hn:c.row=[]
 ·have h1:=g.sl
  have h2:=(Crv.small2 g.sh).2.2 hn
  have h3:=qs_mul c.s y
  have h4:=qs_add c.b (c.s * y)
  have:=qs_pos y
  unfold Crv.arn
  rw [if_pos hn]
  refine ⟨?_,?_,?_,?_,?_⟩ <;> (simp only [];omega)
 ·rw [Arn.of_s0 hn]
  have ok':Crv.Ok ⟨c.p,c.r,c.row,c.s,if c.row=[] then c.b else 0⟩:=⟨g.ok.p0,g.ok.r0,g.ok.s,g.ok.p1,g.ok.ok⟩
  have h:=arn_szd g.sz0 ok' hn y
  exact ⟨by have:=h.l;omega,by have:=h.v;omega,by have:=h.r;omega,by have:=h.sb;omega,by have:=h.sa;omega⟩
theorem Crv.Gd.off {c:Crv} (g:c.Gd):qs c.off<=3003:=by
 have h:=(g.arn 0).v
 have:qs (0:Rat)=1:=by decide
 show qs (c.arn 0).v<=3003
 omega
theorem Crv.Gd.p {c:Crv} (g:c.Gd):qs c.p<=200:=(Crv.small2 g.sh).1.1
theorem Crv.Gd.r {c:Crv} (g:c.Gd):qs c.r<=200:=(Crv.small2 g.sh).1.2
theorem Crv.Gd.at {c:Crv} (g:c.Gd) (hn:c.row≠[]) {k:Int} {n:Nat} (hk:bz k<=n):(c.at k).sz (403+n):=by
 have h:=g.sz0.at (c:=⟨c.p,c.r,c.row,c.s,if c.row=[] then c.b else 0⟩) hn hk
 exact Pt.sz.mono h (by omega)
theorem Crv.Gd.s0 {c:Crv} (g:c.Gd):0 < c.s:=by
 rw [g.ok.s,Rat.div_def]
 exact Rat.mul_pos g.ok.r0 (Rat.inv_pos.mpr g.ok.p0)
theorem CErr.hb (K:PySem.W.Frag) (e:CErr) (n:Nat):D.hbs n ((e.ex K).fs.map (·.2))=true:=by cases e <;> rfl
theorem beh_mono {c:Crv} (h:Trk c.at) {x y:Rat} (hxy:x<=y):behC c x<=behC c y:=by
 by_cases z:behC c x<=behC c y
 ·exact z
 ·have h1:behC c y < behC c x:=by omega
  have h2:=(beh_le h).mp h1
  have h3:¬ behC c y < behC c y:=by omega
  exact absurd ((beh_le h).mpr (Rat.le_trans h2 hxy)) h3
theorem Crv.Gd.plc {c:Crv} (g:c.Gd) (hn:c.row≠[]) (y:Rat):bz (plc c.at y)<=qs y+218:=by
 have ok':Crv.Ok ⟨c.p,c.r,c.row,c.s,if c.row=[] then c.b else 0⟩:=⟨g.ok.p0,g.ok.r0,g.ok.s,g.ok.p1,g.ok.ok⟩
 have:=plc_bz g.sz0 ok' hn y
 exact this
theorem lift_n {o i:Crv} (go:o.Ok) (gi:i.Ok):∃ n m:Nat,0 < n/\0 < m/\liftF o i=n * i.r/\liftF o i=m * o.p/\turnF o i=n/\(liftF o i / o.p).num=m:=by
 obtain ⟨e1,h1⟩:=cm_l gi.r0 go.p0
 obtain ⟨e2,h2⟩:=cm_r gi.r0 go.p0
 refine ⟨_,_,h1,h2,e1,e2,?_,?_⟩
 ·unfold turnF;rw [show liftF o i=_ from e1,mul_div_num gi.r0]
 ·rw [show liftF o i=_ from e2,mul_div_num go.p0]
theorem slB_nonneg {S:Int->Pt} (h:Trk S) (k:Int):0<=slB (S k) (S (k+1)):=by
 have h1:=h.up k
 have h2:=h.ri k
 have e:=slB_mul h1
 by_cases z:0<=slB (S k) (S (k+1))
 ·exact z
 ·have z:slB (S k) (S (k+1)) < 0:=Rat.not_le.mp z
  have:slB (S k) (S (k+1)) * ((S (k+1)).a - (S k).a) < 0:=by
   have:=Rat.mul_lt_mul_of_pos_right z (show 0 < (S (k+1)).a - (S k).a by grind)
   rw [Rat.zero_mul] at this
   exact this
  grind
theorem ris_of {i:Crv} (gi:i.Ok) (hn:i.row≠[]) {k:Int} (h:slB (i.at k) (i.at (k+1))≠0):i.ris=true:=by
 obtain ⟨j,t,hj,rfl⟩:=rowAt_split hn k
 rw [Crv.sl_per hn] at h
 have h0:=slB_nonneg (gi.trk hn) j
 unfold Crv.ris
 rw [Bool.or_eq_true]
 right
 rw [List.any_eq_true]
 refine ⟨j,List.mem_range.mpr hj,decide_eq_true ?_⟩
 grind
section
variable {o i:Crv}
theorem pair_len {β:Type} {f g:Nat->β} (j:Nat):((List.range j).flatMap fun k=>[f k,g k]).length=2 * j:=by
 induction j with
 | zero=>rfl
 | succ j ih=>rw [List.range_succ,List.flatMap_append,List.length_append,ih];simp;omega
end
theorem row_asc {p r:Rat} {row:List Pt} (ok:okPts p r row) (hn:row≠[]):(row.map (·.a)).Pairwise (· < ·):=by
 have trk:=ok.trk hn
 rw [List.pairwise_iff_getElem]
 intro i j hi hj hij
 rw [List.length_map] at hi hj
 rw [List.getElem_map,List.getElem_map]
 have h:=trk.lt (show (i:Int) < (j:Int) by omega)
 rw [rowAt_nat i hi,rowAt_nat j hj] at h
 exact h
end DL
namespace DL
section
variable {S:Int->Pt}
theorem slB_ge {q q':Pt} (h:q.a < q'.a) (h2:q.r<=q'.l):0<=slB q q':=by
 have h1:=slB_mul h
 rcases (Rat.le_total (a:=0) (b:=slB q q')) with g | g
 ·exact g
 ·by_cases z:slB q q'=0
  ·rw [z];exact Rat.le_refl
  ·have:slB q q' < 0:=by grind
   have:slB q q' * (q'.a - q.a) < 0 * (q'.a - q.a):=Rat.mul_lt_mul_of_pos_right this (by grind)
   grind
theorem Trk.split (h:Trk S) (x:Rat):∃ k,(S k).a<=x/\x < (S (k+1)).a:=by
 obtain ⟨h1,h2⟩:=h.plc x
 generalize DL.plc S x=k at h1 h2
 by_cases e:x=(S k).a
 ·exact ⟨k,by grind,by rw [e];exact h.up k⟩
 ·exact ⟨k - 1,by grind,by rw [show k - 1+1=k by omega];grind⟩
theorem Trk.arn_ge (h:Trk S) {k:Int} {x:Rat} (h1:(S k).a<=x) (h2:x < (S (k+1)).a) :
  ((S k).a=x/\arn S x=⟨(S k).l,(S k).v,(S k).r,slB (S (k - 1)) (S k),slB (S k) (S (k+1))⟩)\/((S k).a < x/\∃ y,y=(S k).r+slB (S k) (S (k+1)) * (x - (S k).a)/\(S k).r<=y/\y<=(S (k+1)).l/\arn S x=⟨y,y,y,slB (S k) (S (k+1)),slB (S k) (S (k+1))⟩):=by
 by_cases e:(S k).a=x
 ·subst e
  exact .inl ⟨rfl,h.arn_pt⟩
 ·have g:(S k).a < x:=by grind
  have s0:=slB_ge (h.up k) (h.ri k)
  have sm:=slB_mul (h.up k)
  refine .inr ⟨g,_,rfl,?_,?_,h.arn_in g h2⟩
  ·have:0 * (x - (S k).a)<=slB (S k) (S (k+1)) * (x - (S k).a):=Rat.mul_le_mul_of_nonneg_right s0 (by grind)
   grind
  ·have:slB (S k) (S (k+1)) * (x - (S k).a)<=slB (S k) (S (k+1)) * ((S (k+1)).a - (S k).a):=Rat.mul_le_mul_of_nonneg_left (by grind) s0
   grind
theorem Trk.arn_ok (h:Trk S) (x:Rat):(arn S x).l<=(arn S x).v/\(arn S x).v<=(arn S x).r:=by
 obtain ⟨k,h1,h2⟩:=h.split x
 rcases h.arn_ge h1 h2 with ⟨_,e⟩ | ⟨_,y,_,_,_,e⟩
 ·rw [e];exact ⟨h.lv k,h.vr k⟩
 ·rw [e];exact ⟨Rat.le_refl,Rat.le_refl⟩
theorem Trk.arn_beh (h:Trk S) {k:Int} {x:Rat} (hx:(S k).a < x):(S k).r<=(arn S x).l:=by
 obtain ⟨j,h1,h2⟩:=h.split x
 rcases h.arn_ge h1 h2 with ⟨e1,e⟩ | ⟨_,y,_,hy,_,e⟩
 ·rw [e]
  exact h.le (h.lt_iff.mp (by grind))
 ·rw [e]
  have:k < j+1:=h.lt_iff.mp (by grind)
  have:=h.rle (show k<=j by omega)
  show _<=y
  grind
theorem Trk.arn_ahd (h:Trk S) {k:Int} {x:Rat} (hx:x < (S k).a):(arn S x).r<=(S k).l:=by
 obtain ⟨j,h1,h2⟩:=h.split x
 have hj:j < k:=h.lt_iff.mp (by grind)
 rcases h.arn_ge h1 h2 with ⟨e1,e⟩ | ⟨_,y,_,_,hy,e⟩
 ·rw [e]
  exact h.le hj
 ·rw [e]
  have:=h.lle (show j+1<=k by omega)
  show y<=_
  grind
theorem Trk.arn_mono (h:Trk S) {x y:Rat} (hxy:x < y):(arn S x).r<=(arn S y).l:=by
 obtain ⟨k,h1,h2⟩:=h.split x
 rcases h.arn_ge h1 h2 with ⟨e1,e⟩ | ⟨g,z,hz,_,hz2,e⟩
 ·rw [e]
  exact h.arn_beh (by grind)
 ·rcases (Rat.le_total (a:=(S (k+1)).a) (b:=y)) with c | c
  ·rw [e]
   show z<=_
   by_cases q:(S (k+1)).a=y
   ·subst q
    rw [h.arn_pt]
    exact hz2
   ·have:=h.arn_beh (show (S (k+1)).a < y by grind)
    have:=h.lv (k+1)
    have:=h.vr (k+1)
    grind
  ·by_cases q:(S (k+1)).a=y
   ·subst q
    rw [e,h.arn_pt]
    exact hz2
   ·rw [e,h.arn_in (show (S k).a < y by grind) (by grind)]
    show z<=(S k).r+slB (S k) (S (k+1)) * (y - (S k).a)
    have s0:=slB_ge (h.up k) (h.ri k)
    have:slB (S k) (S (k+1)) * (x - (S k).a)<=slB (S k) (S (k+1)) * (y - (S k).a):=Rat.mul_le_mul_of_nonneg_left (by grind) s0
    grind
theorem atLs_spec (h:Trk S) {w:Rat} {k:Int} (hk:IsLv S w k) :
  (atLs S w).2=decide (w<=(arn S (atLs S w).1).v)/\(arn S (atLs S w).1).l<=w/\((arn S (atLs S w).1).l=w->(arn S (atLs S w).1).sb≠0)/\w<=(arn S (atLs S w).1).r/\(∀ y,y < (atLs S w).1->(arn S y).r < w):=by
 have vr:=h.vr k
 have lv:=h.lv k
 have k1:=hk.1
 have k2:=hk.2
 unfold atLs
 rw [h.lvl_eq hk]
 by_cases c1:w<=(S k).v
 ·rw [if_pos c1]
  dsimp only
  rw [h.arn_pt]
  refine ⟨(decide_eq_true c1).symm,by show (S k).l<=w;grind,fun e=>absurd (show (S k).l=w from e) (by grind),by show w<=(S k).r;grind,fun y hy=>?_⟩
  have:=h.arn_ahd hy
  grind
 rw [if_neg c1]
 by_cases c2:w<=(S k).r
 ·rw [if_pos c2]
  dsimp only
  rw [h.arn_pt]
  refine ⟨(decide_eq_false c1).symm,by show (S k).l<=w;grind,fun e=>absurd (show (S k).l=w from e) (by grind),c2,fun y hy=>?_⟩
  have:=h.arn_ahd hy
  grind
 rw [if_neg c2]
 dsimp only
 have s0:=slB_ge (h.up k) (h.ri k)
 have sm:=slB_mul (h.up k)
 have up:=h.up k
 have sn:slB (S k) (S (k+1))≠0:=fun z=>by rw [z] at sm;grind
 have sp:0 < slB (S k) (S (k+1)):=by grind
 generalize hx:(S k).a+(w - (S k).r) / slB (S k) (S (k+1))=x
 have hw:slB (S k) (S (k+1)) * (x - (S k).a)=w - (S k).r:=by
  rw [<- hx,show (S k).a+(w - (S k).r) / slB (S k) (S (k+1)) - (S k).a=(w - (S k).r) / slB (S k) (S (k+1)) by grind,Rat.mul_comm,Rat.div_mul_cancel sn]
 have x1:(S k).a < x:=by
  have:0 < (w - (S k).r) / slB (S k) (S (k+1)):=(Rat.lt_div_iff sp).mpr (by grind)
  grind
 have x2:x<=(S (k+1)).a:=by
  rcases (Rat.le_total (a:=x) (b:=(S (k+1)).a)) with c | c
  ·exact c
  ·by_cases q:x=(S (k+1)).a
   ·rw [q];exact Rat.le_refl
   ·have:slB (S k) (S (k+1)) * ((S (k+1)).a - (S k).a) < slB (S k) (S (k+1)) * (x - (S k).a):=Rat.mul_lt_mul_of_pos_left (by grind) sp
    grind
 have low:∀ y,y < x->(arn S y).r < w:=fun y hy=>by
  rcases (Rat.le_total (a:=y) (b:=(S k).a)) with c | c
  ·by_cases q:y=(S k).a
   ·rw [q,h.arn_pt];show (S k).r < w;grind
   ·have:=h.arn_ahd (show y < (S k).a by grind)
    grind
  ·by_cases q:(S k).a=y
   ·rw [<- q,h.arn_pt];show (S k).r < w;grind
   ·rw [h.arn_in (show (S k).a < y by grind) (by grind)]
    show (S k).r+slB (S k) (S (k+1)) * (y - (S k).a) < w
    have:slB (S k) (S (k+1)) * (y - (S k).a) < slB (S k) (S (k+1)) * (x - (S k).a):=Rat.mul_lt_mul_of_pos_left (by grind) sp
    grind
 by_cases e:x=(S (k+1)).a
 ·have ew:w=(S (k+1)).l:=by rw [e] at hw;grind
  have lv1:=h.lv (k+1)
  have vr1:=h.vr (k+1)
  have ar:=h.arn_pt (k:=k+1)
  rw [show k+1 - 1=k by omega,<- e] at ar
  rw [ar]
  exact ⟨(decide_eq_true (show w<=(S (k+1)).v by grind)).symm,by show (S (k+1)).l<=w;grind,fun _=>sn,by show w<=(S (k+1)).r;grind,low⟩
 ·rw [h.arn_in x1 (by grind),hw]
  have:(S k).r+(w - (S k).r)=w:=by grind
  rw [this]
  exact ⟨(decide_eq_true Rat.le_refl).symm,Rat.le_refl,fun _=>sn,Rat.le_refl,low⟩
theorem atMs_spec (h:Trk S) {w:Rat} {k:Int} (hk:IsLu S w k) :
  (atMs S w).2=decide ((arn S (atMs S w).1).v<=w)/\w<=(arn S (atMs S w).1).r/\((arn S (atMs S w).1).r=w->(arn S (atMs S w).1).sa≠0)/\(arn S (atMs S w).1).l<=w/\(∀ y,(atMs S w).1 < y->w < (arn S y).l):=by
 have vr:=h.vr (k+1)
 have lv:=h.lv (k+1)
 have k1:=hk.1
 have k2:=hk.2
 have up:=h.up k
 unfold atMs
 rw [h.lvu_eq hk]
 by_cases c1:w < (S (k+1)).l
 ·rw [if_pos c1]
  dsimp only
  have s0:=slB_ge (h.up k) (h.ri k)
  have sm:=slB_mul (h.up k)
  have sn:slB (S k) (S (k+1))≠0:=fun z=>by rw [z] at sm;grind
  have sp:0 < slB (S k) (S (k+1)):=by grind
  generalize hx:(S k).a+(w - (S k).r) / slB (S k) (S (k+1))=x
  have hw:slB (S k) (S (k+1)) * (x - (S k).a)=w - (S k).r:=by
   rw [<- hx,show (S k).a+(w - (S k).r) / slB (S k) (S (k+1)) - (S k).a=(w - (S k).r) / slB (S k) (S (k+1)) by grind,Rat.mul_comm,Rat.div_mul_cancel sn]
  have x1:(S k).a<=x:=by
   rcases (Rat.le_total (a:=(S k).a) (b:=x)) with c | c
   ·exact c
   ·by_cases q:x=(S k).a
    ·rw [q];exact Rat.le_refl
    ·have:slB (S k) (S (k+1)) * (x - (S k).a) < slB (S k) (S (k+1)) * 0:=Rat.mul_lt_mul_of_pos_left (by grind) sp
     grind
  have x2:x < (S (k+1)).a:=by
   rcases (Rat.le_total (a:=(S (k+1)).a) (b:=x)) with c | c
   ·have:slB (S k) (S (k+1)) * ((S (k+1)).a - (S k).a)<=slB (S k) (S (k+1)) * (x - (S k).a):=Rat.mul_le_mul_of_nonneg_left (by grind) s0
    grind
   ·by_cases q:x=(S (k+1)).a
    ·rw [q] at hw;grind
    ·grind
  have hi:∀ y,x < y->w < (arn S y).l:=fun y hy=>by
   rcases (Rat.le_total (a:=(S (k+1)).a) (b:=y)) with c | c
   ·by_cases q:(S (k+1)).a=y
    ·rw [<- q,h.arn_pt];exact c1
    ·have:=h.arn_beh (show (S (k+1)).a < y by grind)
     grind
   ·by_cases q:(S (k+1)).a=y
    ·rw [<- q,h.arn_pt];exact c1
    ·rw [h.arn_in (show (S k).a < y by grind) (by grind)]
     show w < (S k).r+slB (S k) (S (k+1)) * (y - (S k).a)
     have:slB (S k) (S (k+1)) * (x - (S k).a) < slB (S k) (S (k+1)) * (y - (S k).a):=Rat.mul_lt_mul_of_pos_left (by grind) sp
     grind
  by_cases e:(S k).a=x
  ·have ew:w=(S k).r:=by rw [<- e] at hw;grind
   have lv1:=h.lv k
   have vr1:=h.vr k
   have ar:=h.arn_pt (k:=k)
   rw [e] at ar
   rw [ar]
   exact ⟨(decide_eq_true (show (S k).v<=w by grind)).symm,by show w<=(S k).r;grind,fun _=>sn,by show (S k).l<=w;grind,hi⟩
  ·rw [h.arn_in (show (S k).a < x by grind) x2,hw]
   have:(S k).r+(w - (S k).r)=w:=by grind
   rw [this]
   exact ⟨(decide_eq_true Rat.le_refl).symm,Rat.le_refl,fun _=>sn,Rat.le_refl,hi⟩
 rw [if_neg c1]
 dsimp only
 rw [h.arn_pt]
 refine ⟨rfl,by show w<=(S (k+1)).r;grind,fun e=>absurd (show (S (k+1)).r=w from e) (by grind),by show (S (k+1)).l<=w;grind,fun y hy=>?_⟩
 have:=h.arn_beh hy
 grind
end
section
variable {c:Crv}
theorem Crv.Ok.s0 (ok:c.Ok):0 < c.s:=by rw [ok.s];exact (Rat.lt_div_iff ok.p0).mpr (by have:=ok.r0;grind)
theorem Crv.arn_row (hn:c.row≠[]) (x:Rat):c.arn x=DL.arn c.at x:=by unfold Crv.arn;rw [if_neg hn]
theorem Crv.arn_str (hn:c.row=[]) (x:Rat):c.arn x=⟨c.b+c.s * x,c.b+c.s * x,c.b+c.s * x,c.s,c.s⟩:=by unfold Crv.arn;rw [if_pos hn]
theorem Crv.Ok.arn_ok (ok:c.Ok) (x:Rat):(c.arn x).l<=(c.arn x).v/\(c.arn x).v<=(c.arn x).r:=by
 by_cases hn:c.row=[]
 ·rw [Crv.arn_str hn];exact ⟨Rat.le_refl,Rat.le_refl⟩
 ·rw [Crv.arn_row hn];exact (ok.trk hn).arn_ok x
theorem Crv.Ok.arn_mono (ok:c.Ok) {x y:Rat} (h:x < y):(c.arn x).r<=(c.arn y).l:=by
 by_cases hn:c.row=[]
 ·rw [Crv.arn_str hn,Crv.arn_str hn]
  have:=Rat.mul_lt_mul_of_pos_left h ok.s0
  show c.b+c.s * x<=c.b+c.s * y
  grind
 ·rw [Crv.arn_row hn,Crv.arn_row hn];exact (ok.trk hn).arn_mono h
theorem Crv.Ok.onL (ok:c.Ok) (hn:c.row=[]) (w:Rat):c.b+c.s * onL c w=w:=by
 unfold DL.onL Crv.off
 rw [Crv.arn_str hn]
 have:=ok.s0
 show c.b+c.s * ((w - (c.b+c.s * 0)) / c.s)=w
 rw [Rat.mul_comm c.s (_ / _),Rat.div_mul_cancel (by grind)]
 grind
theorem Crv.Ok.atL (ok:c.Ok) (w:Rat) :
  (DL.atL c w).2=decide (w<=(c.arn (DL.atL c w).1).v)/\(c.arn (DL.atL c w).1).l<=w/\((c.arn (DL.atL c w).1).l=w->(c.arn (DL.atL c w).1).sb≠0)/\w<=(c.arn (DL.atL c w).1).r/\(∀ y,y < (DL.atL c w).1->(c.arn y).r < w):=by
 have s0:=ok.s0
 unfold DL.atL
 by_cases hn:c.row=[]
 ·rw [if_pos hn]
  dsimp only
  have e:=ok.onL hn w
  simp only [Crv.arn_str hn,e]
  refine ⟨(decide_eq_true Rat.le_refl).symm,Rat.le_refl,fun _=>by grind,Rat.le_refl,fun y hy=>?_⟩
  have:=Rat.mul_lt_mul_of_pos_left hy s0
  grind
 ·rw [if_neg hn]
  obtain ⟨k,_,_,hk⟩:=lvl_at ok hn w
  simp only [Crv.arn_row hn]
  exact atLs_spec (ok.trk hn) hk
theorem Crv.Ok.atM (ok:c.Ok) (w:Rat) :
  (DL.atM c w).2=decide ((c.arn (DL.atM c w).1).v<=w)/\w<=(c.arn (DL.atM c w).1).r/\((c.arn (DL.atM c w).1).r=w->(c.arn (DL.atM c w).1).sa≠0)/\(c.arn (DL.atM c w).1).l<=w/\(∀ y,(DL.atM c w).1 < y->w < (c.arn y).l):=by
 have s0:=ok.s0
 unfold DL.atM
 by_cases hn:c.row=[]
 ·rw [if_pos hn]
  dsimp only
  have e:=ok.onL hn w
  simp only [Crv.arn_str hn,e]
  refine ⟨(decide_eq_true Rat.le_refl).symm,Rat.le_refl,fun _=>by grind,Rat.le_refl,fun y hy=>?_⟩
  have:=Rat.mul_lt_mul_of_pos_left hy s0
  grind
 ·rw [if_neg hn]
  obtain ⟨k,_,_,hk⟩:=lvu_at ok hn w
  simp only [Crv.arn_row hn]
  exact atMs_spec (ok.trk hn) hk
theorem Crv.Ok.arn_per (ok:c.Ok) (x:Rat) (t:Int):c.arn (x+t * c.p)=⟨(c.arn x).l+t * c.r,(c.arn x).v+t * c.r,(c.arn x).r+t * c.r,(c.arn x).sb,(c.arn x).sa⟩:=by
 by_cases hn:c.row=[]
 ·simp only [Crv.arn_str hn]
  have e:c.s * c.p=c.r:=by rw [ok.s,Rat.div_mul_cancel (by have:=ok.p0;grind)]
  have:c.b+c.s * (x+t * c.p)=c.b+c.s * x+t * c.r:=by grind
  rw [this]
 ·simp only [Crv.arn_row hn]
  have tr:=ok.trk hn
  have e:=plc_per ok hn x t
  unfold DL.arn
  rw [e]
  generalize plc c.at x=k
  have a0:=c.at_add hn k t
  have a1:=c.at_add hn (k - 1) t
  have a2:=c.at_add hn (k+1) t
  rw [show k - 1+t * (c.row.length:Int)=k+t * c.row.length - 1 by omega] at a1
  rw [show k+1+t * (c.row.length:Int)=k+t * c.row.length+1 by omega] at a2
  unfold arnAt
  rw [a0,a1,a2]
  have m1:slB ((c.at (k - 1)).mv t c.p c.r) ((c.at k).mv t c.p c.r)=slB (c.at (k - 1)) (c.at k):=by
   unfold slB Pt.mv;congr 1 <;> grind
  have m2:slB ((c.at k).mv t c.p c.r) ((c.at (k+1)).mv t c.p c.r)=slB (c.at k) (c.at (k+1)):=by
   unfold slB Pt.mv;congr 1 <;> grind
  rw [m1,m2]
  by_cases q:(c.at k).a=x
  ·rw [if_pos q,if_pos (by show (c.at k).a+t * c.p=_;rw [q])]
   rfl
  ·rw [if_neg q,if_neg (by show ¬ (c.at k).a+t * c.p=_;intro z;grind)]
   have:((c.at k).mv t c.p c.r).l - slB (c.at (k - 1)) (c.at k) * (((c.at k).mv t c.p c.r).a - (x+t * c.p))=(c.at k).l - slB (c.at (k - 1)) (c.at k) * ((c.at k).a - x)+t * c.r:=by
    show (c.at k).l+t * c.r - slB (c.at (k - 1)) (c.at k) * ((c.at k).a+t * c.p - (x+t * c.p))=_
    grind
   rw [this]
end
end DL
namespace DL
open PySem PySem.Spec PyProof.Rows L2 Mt
theorem mem_ptsB {c:Crv} (ok:c.Ok) (hn:c.row≠[]) {lo hi:Rat} {k:Int} (h1:lo<=(c.at k).a) (h2:(c.at k).a<=hi):c.at k∈ptsB c lo hi:=by
 have trk:=ok.trk hn
 unfold ptsB
 rw [if_neg hn]
 have a1:plc c.at lo<=k:=by
  have:=(not_congr (trk.pl_lt (x:=lo) (k:=k))).mpr (by grind)
  omega
 have a2:=(beh_le trk (hi:=hi) (k:=k)).mpr h2
 refine List.mem_map.mpr ⟨(k - plc c.at lo).toNat,List.mem_range.mpr (by omega),?_⟩
 congr 1;omega
end DL
namespace DL
structure Tri where
 l:Rat
 v:Rat
 r:Rat
noncomputable def Crv.tri (c:Crv) (x:Rat):Tri:=⟨(c.arn x).l,(c.arn x).v,(c.arn x).r⟩
structure Shp (P R:Rat) (F:Rat->Tri):Prop where
 p0:0 < P
 r0:0 < R
 per:∀ (x:Rat) (t:Int),F (x+t * P)=⟨(F x).l+t * R,(F x).v+t * R,(F x).r+t * R⟩
 lv:∀ x,(F x).l<=(F x).v
 vr:∀ x,(F x).v<=(F x).r
 mono:∀ x y,x < y->(F x).r<=(F y).l
def AffL (F:Rat->Tri) (u w:Rat):Prop:=∃ s:Rat,(∀ x,u < x->x < w->F x=⟨(F u).r+s * (x - u),(F u).r+s * (x - u),(F u).r+s * (x - u)⟩)/\(F w).l=(F u).r+s * (w - u)
noncomputable def ptF (F:Rat->Tri) (x:Rat):Pt:=⟨x,(F x).l,(F x).v,(F x).r⟩
section
variable {P R:Rat} {F:Rat->Tri} {sp:List Rat}
theorem smp_at (h:Shp P R F) (hn:sp≠[]) (k:Int):rowAt P R (sp.map (ptF F)) k=ptF F (rowAt P R (sp.map (ptF F)) k).a:=by
 have hm:sp.map (ptF F)≠[]:=fun z=>hn (List.map_eq_nil_iff.mp z)
 obtain ⟨j,t,hj,rfl⟩:=rowAt_split hm k
 rw [rowAt_add hm,rowAt_nat j hj,List.getElem_map]
 unfold ptF Pt.mv
 simp only []
 rw [h.per]
theorem smp_ok (h:Shp P R F) (hn:sp≠[]) (asc:sp.Pairwise (· < ·)) (hb:∀ x∈sp,0<=x/\x < P):okPts P R (sp.map (ptF F)):=by
 have hm:sp.map (ptF F)≠[]:=fun z=>hn (List.map_eq_nil_iff.mp z)
 have key:∀ j:Nat,j < (sp.map (ptF F)).length->(rowAt P R (sp.map (ptF F)) j).a < (rowAt P R (sp.map (ptF F)) (j+1)).a:=fun j hj=>by
  have hj':j < sp.length:=by rw [List.length_map] at hj;exact hj
  by_cases z:j+1 < sp.length
  ·rw [show ((j:Int)+1)=((j+1:Nat):Int) from rfl,rowAt_nat j hj,rowAt_nat (j+1) (by rw [List.length_map];exact z),List.getElem_map,List.getElem_map]
   exact List.pairwise_iff_getElem.mp asc j (j+1) hj' z (by omega)
  ·have e:((j:Int)+1)=((sp.map (ptF F)).length:Int):=by rw [List.length_map];omega
   rw [e,rowAt_wrap hm,rowAt_nat j hj,List.getElem_map]
   have h1:=hb _ (List.getElem_mem hj')
   have h2:(List.head (sp.map (ptF F)) hm).a=sp.head hn:=by rw [List.head_map];rfl
   have h3:=hb _ (List.head_mem hn)
   show sp[j] < (List.head (sp.map (ptF F)) hm).a+1 * P
   rw [h2]
   grind
 refine ⟨h.p0,h.r0,fun q hq=>?_,fun x hx=>?_⟩
 ·obtain ⟨y,hy,rfl⟩:=List.mem_map.mp hq
  have h1:=hb y hy
  exact ⟨by show ¬ y < 0;grind,h1.2,by have:=h.lv y;show ¬ (F y).v < (F y).l;grind,by have:=h.vr y;show ¬ (F y).r < (F y).v;grind⟩
 ·obtain ⟨j,hj⟩:=List.mem_iff_getElem?.mp hx
  obtain ⟨h1,h2⟩:=List.getElem?_zip_eq_some.mp hj
  have hjl:j < (sp.map (ptF F)).length:=(List.getElem?_eq_some_iff.mp h1).1
  rw [nextPts_get j hjl] at h2
  rw [List.getElem?_eq_getElem hjl,<- rowAt_nat (p:=P) (r:=R) j hjl] at h1
  simp only [Option.some.injEq] at h1 h2
  have hk:=key j hjl
  refine ⟨by rw [<- h1,<- h2];exact hk,?_⟩
  rw [<- h1,<- h2,smp_at h hn,smp_at h hn (j:Int)]
  have:=h.mono _ _ hk
  show ¬ (F _).l < (F _).r
  grind
theorem smp_arn (h:Shp P R F) (hn:sp≠[]) (asc:sp.Pairwise (· < ·)) (hb:∀ x∈sp,0<=x/\x < P) (ha:∀ u w,u < w->(∀ x,u < x->x < w->∀ y∈sp,∀ t:Int,x≠y+t * P)->AffL F u w) (x:Rat) :
  (arn (rowAt P R (sp.map (ptF F))) x).l=(F x).l/\(arn (rowAt P R (sp.map (ptF F))) x).v=(F x).v/\(arn (rowAt P R (sp.map (ptF F))) x).r=(F x).r:=by
 have hm:sp.map (ptF F)≠[]:=fun z=>hn (List.map_eq_nil_iff.mp z)
 have ok:=smp_ok h hn asc hb
 have trk:=ok.trk hm
 have hat:=fun k=>smp_at (sp:=sp) h hn k
 have hsp:∀ y∈sp,∀ t:Int,∃ k,(rowAt P R (sp.map (ptF F)) k).a=y+t * P:=fun y hy t=>by
  obtain ⟨j,hj,rfl⟩:=List.mem_iff_getElem.mp hy
  have hj':j < (sp.map (ptF F)).length:=by rw [List.length_map];exact hj
  refine ⟨j+t * (sp.map (ptF F)).length,?_⟩
  rw [rowAt_add hm,rowAt_nat j hj',List.getElem_map];rfl
 generalize rowAt P R (sp.map (ptF F))=S at *
 obtain ⟨k,h1,h2⟩:=trk.split x
 have e1:=hat k
 have e2:=hat (k+1)
 rcases trk.arn_ge h1 h2 with ⟨e,ee⟩ | ⟨g,y,hy,_,_,ee⟩
 ·rw [ee]
  rw [e] at e1
  rw [e1]
  exact ⟨rfl,rfl,rfl⟩
 ·obtain ⟨s,q1,q2⟩:=ha (S k).a (S (k+1)).a (trk.up k) fun z z1 z2 y hy t e=>by
   obtain ⟨m,hm⟩:=hsp y hy t
   rw [<- e] at hm
   have a1:k < m:=trk.lt_iff.mp (by rw [hm];exact z1)
   have a2:m < k+1:=trk.lt_iff.mp (by rw [hm];exact z2)
   omega
  have r1:(S k).r=(F (S k).a).r:=congrArg Pt.r e1
  have l1:(S (k+1)).l=(F (S (k+1)).a).l:=congrArg Pt.l e2
  have sm:=slB_mul (trk.up k)
  have up:=trk.up k
  have es:slB (S k) (S (k+1))=s:=by
   have:slB (S k) (S (k+1)) * ((S (k+1)).a - (S k).a)=s * ((S (k+1)).a - (S k).a):=by rw [sm,l1,r1,q2];grind
   have hne:(S (k+1)).a - (S k).a≠0:=by grind
   have:=congrArg (fun z=>z / ((S (k+1)).a - (S k).a)) this
   simp only [Rat.mul_div_cancel hne] at this
   exact this
  rw [ee,q1 x g h2,<- r1,<- es,<- hy]
  exact ⟨rfl,rfl,rfl⟩
end
section
variable {c:Crv}
theorem Crv.shp (ok:c.Ok) {P:Rat} (p0:0 < P) (h:c.row≠[]->∃ n:Nat,P=n * c.p):Shp P (c.s * P) c.tri:=by
 have s0:=ok.s0
 refine ⟨p0,Rat.mul_pos s0 p0,fun x t=>?_,fun x=>(ok.arn_ok x).1,fun x=>(ok.arn_ok x).2,fun x y hxy=>ok.arn_mono hxy⟩
 unfold Crv.tri
 by_cases hn:c.row=[]
 ·simp only [Crv.arn_str hn]
  have:c.b+c.s * (x+t * P)=c.b+c.s * x+t * (c.s * P):=by grind
  rw [this]
 ·obtain ⟨n,rfl⟩:=h hn
  have e:x+(t:Rat) * ((n:Rat) * c.p)=x+((t * n:Int):Rat) * c.p:=by
   rw [Rat.intCast_mul,Rat.intCast_natCast];grind
  have er:c.s * c.p=c.r:=by rw [ok.s,Rat.div_mul_cancel (by have:=ok.p0;grind)]
  have e2:((t * n:Int):Rat) * c.r=t * (c.s * (n * c.p)):=by
   rw [Rat.intCast_mul,Rat.intCast_natCast,<- er];grind
  rw [e,ok.arn_per,e2]
theorem Crv.aff (ok:c.Ok) {u w:Rat} (huw:u < w) (no:c.row≠[]->∀ k,¬ (u < (c.at k).a/\(c.at k).a < w)):AffL c.tri u w:=by
 by_cases hn:c.row=[]
 ·refine ⟨c.s,fun x _ _=>?_,?_⟩
  ·unfold Crv.tri
   simp only [Crv.arn_str hn]
   have:c.b+c.s * x=c.b+c.s * u+c.s * (x - u):=by grind
   rw [this]
  ·unfold Crv.tri
   simp only [Crv.arn_str hn]
   grind
 ·have trk:=ok.trk hn
  have no:=no hn
  obtain ⟨k,h1,h2⟩:=trk.split u
  have h3:w<=(c.at (k+1)).a:=by
   have:=no (k+1)
   grind
  have sm:=slB_mul (trk.up k)
  unfold Crv.tri
  simp only [Crv.arn_row hn]
  -- the line behind u
  have hu:(DL.arn c.at u).r=(c.at k).r+slB (c.at k) (c.at (k+1)) * (u - (c.at k).a):=by
   rcases trk.arn_ge h1 h2 with ⟨e,ee⟩ | ⟨g,y,hy,_,_,ee⟩
   ·rw [ee];show (c.at k).r=_;rw [e];grind
   ·rw [ee];exact hy
  refine ⟨slB (c.at k) (c.at (k+1)),fun x x1 x2=>?_,?_⟩
  ·dsimp only
   have:=trk.arn_in (k:=k) (x:=x) (by grind) (by grind)
   have e:(c.at k).r+slB (c.at k) (c.at (k+1)) * (x - (c.at k).a)=(DL.arn c.at u).r+slB (c.at k) (c.at (k+1)) * (x - u):=by rw [hu];grind
   rw [this,e]
  ·dsimp only
   rw [hu]
   by_cases z:w=(c.at (k+1)).a
   ·rw [z,trk.arn_pt]
    show (c.at (k+1)).l=_
    grind
   ·rw [trk.arn_in (k:=k) (x:=w) (by grind) (by grind)]
    show (c.at k).r+_ * _=_
    grind
end
theorem mkC_smp {P R o:Rat} {F:Rat->Tri} {sp:List Rat} (h:Shp P R F) (hn:sp≠[]) (asc:sp.Pairwise (· < ·)) (hb:∀ x∈sp,0<=x/\x < P) (ha:∀ u w,u < w->(∀ x,u < x->x < w->∀ y∈sp,∀ t:Int,x≠y+t * P)->AffL F u w) :
  (∀ e,mkC P R (sp.map (ptF F)) o = .error e->(e = .many/\60 < sp.length)\/(e = .long/\sp.length<=60/\(norm P R (sp.map (ptF F)) o).long=true)) /\
  (∀ c,mkC P R (sp.map (ptF F)) o = .ok c->sp.length<=60/\c=norm P R (sp.map (ptF F)) o/\c.long=false)/\okPts P R (sp.map (ptF F)) /\
  ∀ x,(norm P R (sp.map (ptF F)) o).tri x=F x:=by
 have hm:sp.map (ptF F)≠[]:=fun z=>hn (List.map_eq_nil_iff.mp z)
 have ok:=smp_ok h hn asc hb
 refine ⟨fun e he=>?_,fun c he=>?_,ok,fun x=>?_⟩
 ·unfold mkC at he
  rw [if_pos ok,List.length_map] at he
  split at he
  ·cases he;exact .inl ⟨rfl,by assumption⟩
  ·split at he
   ·cases he;exact .inr ⟨rfl,by omega,by assumption⟩
   ·cases he
 ·unfold mkC at he
  rw [if_pos ok,List.length_map] at he
  split at he
  ·cases he
  ·split at he
   ·cases he
   ·rename_i h1 h2
    cases he
    exact ⟨by omega,rfl,by simpa using h2⟩
 ·obtain ⟨e1,e2,e3⟩:=smp_arn h hn asc hb ha x
  unfold Crv.tri
  rw [norm_arn ok hm,e1,e2,e3]
end DL
namespace DL
open Mt
theorem norm_s {p r o:Rat} {pts:List Pt}:(norm p r pts o).s=r / p:=by
 unfold norm
 split <;> rfl
theorem wthn_eq (x P:Rat):x=wthn x P+((x / P).floor:Rat) * P:=by unfold wthn;grind
section
variable {o i l:Crv}
noncomputable def strT (o i:Crv) (x:Rat):Tri:=⟨o.b+o.s * (i.tri x).l,o.b+o.s * (i.tri x).v,o.b+o.s * (i.tri x).r⟩
noncomputable def strCN (o i:Crv):Crv:=norm i.p (o.s * i.r) (i.row.map fun q=>⟨q.a,(o.arn q.l).v,(o.arn q.v).v,(o.arn q.r).v⟩) (o.arn i.off).v
theorem crv_tri_at {c:Crv} (ok:c.Ok) (hn:c.row≠[]) (k:Int):c.tri (c.at k).a=⟨(c.at k).l,(c.at k).v,(c.at k).r⟩:=by
 unfold Crv.tri
 rw [Crv.arn_row hn,(ok.trk hn).arn_pt]
theorem row_at {c:Crv} {q:Pt} (hq:q∈c.row):∃ j:Nat,j < c.row.length/\q=c.at j:=by
 obtain ⟨j,hj,rfl⟩:=List.mem_iff_getElem.mp hq
 exact ⟨j,hj,(Crv.at_nat hj).symm⟩
theorem row_rep {c:Crv} (hn:c.row≠[]) (k:Int):∃ y∈c.row.map (·.a),∃ t:Int,(c.at k).a=y+t * c.p:=by
 obtain ⟨j,t,hj,rfl⟩:=rowAt_split hn k
 refine ⟨c.row[j].a,List.mem_map.mpr ⟨_,List.getElem_mem hj,rfl⟩,t,?_⟩
 rw [Crv.at_add hn,Crv.at_nat hj];rfl
theorem str_sem (ho:o.row=[]) (go:o.Ok) (gi:i.Ok) (hl:i.row.length<=60):(strCN o i).Ok/\(strCN o i).s=o.s * i.s/\(∀ x,(strCN o i).tri x=strT o i x) /\
  strF o i=if (strCN o i).long=true then .error .long else .ok (strCN o i):=by
 have s0:=go.s0
 have r0:=gi.r0
 have p0:=gi.p0
 have ei:i.s * i.p=i.r:=by rw [gi.s,Rat.div_mul_cancel (by grind)]
 have sh:Shp i.p (o.s * i.r) (strT o i):=by
  have si:=Crv.shp gi p0 fun _=>⟨1,by show i.p=1 * i.p;grind⟩
  rw [ei] at si
  have ml:∀ {x y:Rat},x<=y->o.b+o.s * x<=o.b+o.s * y:=fun h=>by
   have:=Rat.mul_le_mul_of_nonneg_left h (Rat.le_of_lt s0);grind
  refine ⟨p0,Rat.mul_pos s0 r0,fun x t=>?_,fun x=>ml (si.lv x),fun x=>ml (si.vr x),fun x y h=>ml (si.mono x y h)⟩
  unfold strT
  rw [si.per]
  simp only [Tri.mk.injEq]
  refine ⟨by grind,by grind,by grind⟩
 have hao:∀ y,(o.arn y).v=o.b+o.s * y:=fun y=>by rw [Crv.arn_str ho]
 have hrow:(i.row.map fun q=>(⟨q.a,(o.arn q.l).v,(o.arn q.v).v,(o.arn q.r).v⟩:Pt))=(i.row.map (·.a)).map (ptF (strT o i)):=by
  rw [List.map_map]
  apply List.map_congr_left
  intro q hq
  have hn:i.row≠[]:=fun z=>by rw [z] at hq;cases hq
  obtain ⟨j,hj,rfl⟩:=row_at hq
  show (⟨(i.at j).a,_,_,_⟩:Pt)=ptF (strT o i) (i.at j).a
  unfold ptF strT
  rw [crv_tri_at gi hn,hao,hao,hao]
 have hok:okPts i.p (o.s * i.r) ((i.row.map (·.a)).map (ptF (strT o i))):=by
  by_cases hn:i.row=[]
  ·rw [hn];exact ⟨sh.p0,sh.r0,(fun q z=>nomatch z),fun x z=>nomatch z⟩
  ·exact smp_ok sh (fun z=>hn (List.map_eq_nil_iff.mp z)) (row_asc (gi.ok hn) hn) fun x hx=>by
    obtain ⟨q,hq,rfl⟩:=List.mem_map.mp hx
    have:=(gi.ok hn).pt q hq
    exact ⟨Rat.not_lt.mp this.lo,this.hi⟩
 have eN:strCN o i=norm i.p (o.s * i.r) ((i.row.map (·.a)).map (ptF (strT o i))) (o.arn i.off).v:=by unfold strCN;rw [hrow]
 refine ⟨by rw [eN];exact norm_ok hok,?_,fun x=>?_,?_⟩
 ·rw [eN,norm_s,gi.s];rw [Rat.div_def,Rat.div_def,Rat.mul_assoc]
 ·rw [eN]
  by_cases hn:i.row=[]
  ·rw [hn]
   unfold Crv.tri
   show Tri.mk ((norm _ _ [] _).arn x).l ((norm _ _ [] _).arn x).v ((norm _ _ [] _).arn x).r=_
   rw [norm_arn0,hao]
   unfold strT Crv.tri Crv.off
   rw [Crv.arn_str hn,Crv.arn_str hn]
   have:o.s * i.r / i.p=o.s * i.s:=by rw [gi.s,Rat.div_def,Rat.div_def,Rat.mul_assoc]
   rw [this]
   simp only [Tri.mk.injEq]
   refine ⟨by grind,by grind,by grind⟩
  ·refine (mkC_smp sh (fun z=>hn (List.map_eq_nil_iff.mp z)) (row_asc (gi.ok hn) hn) (fun x hx=>?_) fun u w huw no=>?_).2.2.2 x
   ·obtain ⟨q,hq,rfl⟩:=List.mem_map.mp hx
    have:=(gi.ok hn).pt q hq
    exact ⟨Rat.not_lt.mp this.lo,this.hi⟩
   ·obtain ⟨s,q1,q2⟩:=Crv.aff gi huw fun hn k ⟨k1,k2⟩=>by
     obtain ⟨y,hy,t,e⟩:=row_rep hn k
     exact no _ k1 k2 y hy t e
    refine ⟨o.s * s,fun x x1 x2=>?_,?_⟩
    ·unfold strT
     rw [q1 x x1 x2]
     simp only [Tri.mk.injEq]
     refine ⟨by grind,by grind,by grind⟩
    ·unfold strT
     simp only []
     rw [q2];grind
 ·unfold strF mkC
  rw [hrow,if_pos hok,if_neg (by rw [List.length_map,List.length_map];omega),<- eN]
end
section
variable {c o i:Crv}
theorem Crv.Ok.vm (ok:c.Ok) {x y:Rat} (h:x<=y):(c.arn x).v<=(c.arn y).v:=by
 by_cases e:x=y
 ·rw [e];exact Rat.le_refl
 ·have h1:=ok.arn_mono (show x < y by grind)
  have h2:=ok.arn_ok x
  have h3:=ok.arn_ok y
  grind
theorem Crv.Ok.lm (ok:c.Ok) {x y:Rat} (h:x<=y):(c.arn x).l<=(c.arn y).l:=by
 by_cases e:x=y
 ·rw [e];exact Rat.le_refl
 ·have h1:=ok.arn_mono (show x < y by grind)
  have h2:=ok.arn_ok x
  grind
theorem Crv.Ok.rm (ok:c.Ok) {x y:Rat} (h:x<=y):(c.arn x).r<=(c.arn y).r:=by
 by_cases e:x=y
 ·rw [e];exact Rat.le_refl
 ·have h1:=ok.arn_mono (show x < y by grind)
  have h3:=ok.arn_ok y
  grind
theorem Crv.Ok.beh (ok:c.Ok) (x:Rat):∃ z,x < z/\0<=(c.arn x).sa/\(∀ y,x < y->y < z->c.arn y=⟨(c.arn x).r+(c.arn x).sa * (y - x),(c.arn x).r+(c.arn x).sa * (y - x),(c.arn x).r+(c.arn x).sa * (y - x),(c.arn x).sa,(c.arn x).sa⟩)/\(c.arn z).l=(c.arn x).r+(c.arn x).sa * (z - x)/\(c.arn z).sb=(c.arn x).sa:=by
 by_cases hn:c.row=[]
 ·have s0:=ok.s0
  refine ⟨x+1,by grind,?_,fun y h1 h2=>?_,?_,?_⟩
  ·rw [Crv.arn_str hn];exact Rat.le_of_lt s0
  ·rw [Crv.arn_str hn,Crv.arn_str hn]
   have:c.b+c.s * y=c.b+c.s * x+c.s * (y - x):=by grind
   rw [this]
  ·rw [Crv.arn_str hn,Crv.arn_str hn];show c.b+c.s * (x+1)=c.b+c.s * x+c.s * (x+1 - x);grind
  ·rw [Crv.arn_str hn,Crv.arn_str hn]
 ·have trk:=ok.trk hn
  obtain ⟨k,h1,h2⟩:=trk.split x
  have sm:=slB_mul (trk.up k)
  have s0:=slB_ge (trk.up k) (trk.ri k)
  have hx:(DL.arn c.at x).sa=slB (c.at k) (c.at (k+1))/\(DL.arn c.at x).r=(c.at k).r+slB (c.at k) (c.at (k+1)) * (x - (c.at k).a):=by
   rcases trk.arn_ge h1 h2 with ⟨e,ee⟩ | ⟨g,y,hy,_,_,ee⟩
   ·rw [ee];refine ⟨rfl,?_⟩;show (c.at k).r=_;rw [e];grind
   ·rw [ee];exact ⟨rfl,hy⟩
  simp only [Crv.arn_row hn]
  rw [hx.1,hx.2]
  refine ⟨(c.at (k+1)).a,h2,s0,fun y y1 y2=>?_,?_,?_⟩
  ·rw [trk.arn_in (k:=k) (x:=y) (by grind) y2]
   have e:(c.at k).r+slB (c.at k) (c.at (k+1)) * (y - (c.at k).a)=(c.at k).r+slB (c.at k) (c.at (k+1)) * (x - (c.at k).a)+slB (c.at k) (c.at (k+1)) * (y - x):=by grind
   rw [e]
  ·rw [trk.arn_pt];show (c.at (k+1)).l=_;grind
  ·rw [trk.arn_pt]
   show slB (c.at (k+1 - 1)) (c.at (k+1))=_
   rw [show k+1 - 1=k by omega]
theorem Crv.Ok.ahd (ok:c.Ok) (x:Rat):∃ z,z < x/\0<=(c.arn x).sb/\(∀ y,z < y->y < x->c.arn y=⟨(c.arn x).l - (c.arn x).sb * (x - y),(c.arn x).l - (c.arn x).sb * (x - y),(c.arn x).l - (c.arn x).sb * (x - y),(c.arn x).sb,(c.arn x).sb⟩)/\(c.arn z).r=(c.arn x).l - (c.arn x).sb * (x - z)/\(c.arn z).sa=(c.arn x).sb:=by
 by_cases hn:c.row=[]
 ·have s0:=ok.s0
  refine ⟨x - 1,by grind,?_,fun y h1 h2=>?_,?_,?_⟩
  ·rw [Crv.arn_str hn];exact Rat.le_of_lt s0
  ·rw [Crv.arn_str hn,Crv.arn_str hn]
   have:c.b+c.s * y=c.b+c.s * x - c.s * (x - y):=by grind
   rw [this]
  ·rw [Crv.arn_str hn,Crv.arn_str hn];show c.b+c.s * (x - 1)=c.b+c.s * x - c.s * (x - (x - 1));grind
  ·rw [Crv.arn_str hn,Crv.arn_str hn]
 ·have trk:=ok.trk hn
  obtain ⟨h1,h2⟩:=trk.plc x
  generalize hk:DL.plc c.at x=k at h1 h2
  have up:=trk.up (k - 1)
  have ri:=trk.ri (k - 1)
  rw [show k - 1+1=k by omega] at up ri
  have sm:=slB_mul up
  have s0:=slB_ge up ri
  have hin:∀ y,(c.at (k - 1)).a < y->y < (c.at k).a->DL.arn c.at y=⟨(c.at k).l - slB (c.at (k - 1)) (c.at k) * ((c.at k).a - y),(c.at k).l - slB (c.at (k - 1)) (c.at k) * ((c.at k).a - y),(c.at k).l - slB (c.at (k - 1)) (c.at k) * ((c.at k).a - y),slB (c.at (k - 1)) (c.at k),slB (c.at (k - 1)) (c.at k)⟩:=fun y y1 y2=>by
   have:=trk.arn_in (k:=k - 1) (x:=y) y1 (by rw [show k - 1+1=k by omega];exact y2)
   rw [show k - 1+1=k by omega] at this
   rw [this]
   have e:(c.at (k - 1)).r+slB (c.at (k - 1)) (c.at k) * (y - (c.at (k - 1)).a)=(c.at k).l - slB (c.at (k - 1)) (c.at k) * ((c.at k).a - y):=by grind
   rw [e]
  have hx:(DL.arn c.at x).sb=slB (c.at (k - 1)) (c.at k)/\(DL.arn c.at x).l=(c.at k).l - slB (c.at (k - 1)) (c.at k) * ((c.at k).a - x):=by
   by_cases e:x=(c.at k).a
   ·rw [e,trk.arn_pt]
    refine ⟨rfl,?_⟩
    show (c.at k).l=_
    grind
   ·rw [hin x h1 (by grind)];exact ⟨rfl,rfl⟩
  simp only [Crv.arn_row hn]
  rw [hx.1,hx.2]
  refine ⟨(c.at (k - 1)).a,h1,s0,fun y y1 y2=>?_,?_,?_⟩
  ·rw [hin y y1 (by grind)]
   have e:(c.at k).l - slB (c.at (k - 1)) (c.at k) * ((c.at k).a - y)=(c.at k).l - slB (c.at (k - 1)) (c.at k) * ((c.at k).a - x) - slB (c.at (k - 1)) (c.at k) * (x - y):=by grind
   rw [e]
  ·rw [trk.arn_pt];show (c.at (k - 1)).r=_;grind
  ·rw [trk.arn_pt]
   show slB (c.at (k - 1)) (c.at (k - 1+1))=_
   rw [show k - 1+1=k by omega]
theorem Crv.Ok.flat (ok:c.Ok) {x y:Rat} (h:x < y) (e:(c.arn x).r=(c.arn y).l):(c.arn x).sa=0/\(c.arn y).sb=0:=by
 constructor
 ·obtain ⟨z,z1,z2,z3,z4,_⟩:=ok.beh x
  by_cases q:z<=y
  ·have h1:=ok.lm q
   have:(c.arn x).sa * (z - x)<=0:=by grind
   by_cases w:(c.arn x).sa=0
   ·exact w
   ·have:=Rat.mul_pos (show 0 < (c.arn x).sa by grind) (show 0 < z - x by grind)
    grind
  ·have h1:=z3 y h (by grind)
   have h2:(c.arn y).l=(c.arn x).r+(c.arn x).sa * (y - x):=congrArg Arn.l h1
   have:(c.arn x).sa * (y - x)=0:=by grind
   rcases Rat.mul_eq_zero.mp this with w | w
   ·exact w
   ·grind
 ·obtain ⟨z,z1,z2,z3,z4,_⟩:=ok.ahd y
  by_cases q:x<=z
  ·have h1:=ok.rm q
   have:(c.arn y).sb * (y - z)<=0:=by grind
   by_cases w:(c.arn y).sb=0
   ·exact w
   ·have:=Rat.mul_pos (show 0 < (c.arn y).sb by grind) (show 0 < y - z by grind)
    grind
  ·have h1:=z3 x (by grind) h
   have h2:(c.arn x).r=(c.arn y).l - (c.arn y).sb * (y - x):=congrArg Arn.r h1
   have:(c.arn y).sb * (y - x)=0:=by grind
   rcases Rat.mul_eq_zero.mp this with w | w
   ·exact w
   ·grind
theorem Crv.Ok.affS (ok:c.Ok) {u w:Rat} (huw:u < w) (no:c.row≠[]->∀ k,¬ (u < (c.at k).a/\(c.at k).a < w)) :
  (c.arn w).l=(c.arn u).r+(c.arn u).sa * (w - u)/\(c.arn w).sb=(c.arn u).sa/\0<=(c.arn u).sa/\∀ x,u < x->x < w->c.arn x=⟨(c.arn u).r+(c.arn u).sa * (x - u),(c.arn u).r+(c.arn u).sa * (x - u),(c.arn u).r+(c.arn u).sa * (x - u),(c.arn u).sa,(c.arn u).sa⟩:=by
 by_cases hn:c.row=[]
 ·have s0:=ok.s0
  refine ⟨?_,?_,?_,fun x h1 h2=>?_⟩
  ·rw [Crv.arn_str hn,Crv.arn_str hn];show c.b+c.s * w=c.b+c.s * u+c.s * (w - u);grind
  ·rw [Crv.arn_str hn,Crv.arn_str hn]
  ·rw [Crv.arn_str hn];exact Rat.le_of_lt s0
  ·rw [Crv.arn_str hn,Crv.arn_str hn]
   have:c.b+c.s * x=c.b+c.s * u+c.s * (x - u):=by grind
   rw [this]
 ·have trk:=ok.trk hn
  obtain ⟨k,h1,h2⟩:=trk.split u
  have h3:w<=(c.at (k+1)).a:=by
   have:=no hn (k+1)
   grind
  have sm:=slB_mul (trk.up k)
  have s0:=slB_ge (trk.up k) (trk.ri k)
  have hx:(DL.arn c.at u).sa=slB (c.at k) (c.at (k+1))/\(DL.arn c.at u).r=(c.at k).r+slB (c.at k) (c.at (k+1)) * (u - (c.at k).a):=by
   rcases trk.arn_ge h1 h2 with ⟨e,ee⟩ | ⟨g,y,hy,_,_,ee⟩
   ·rw [ee];refine ⟨rfl,?_⟩;show (c.at k).r=_;rw [e];grind
   ·rw [ee];exact ⟨rfl,hy⟩
  simp only [Crv.arn_row hn]
  rw [hx.1,hx.2]
  have hin:∀ y,u < y->y < (c.at (k+1)).a->DL.arn c.at y=⟨(c.at k).r+slB (c.at k) (c.at (k+1)) * (u - (c.at k).a)+slB (c.at k) (c.at (k+1)) * (y - u),(c.at k).r+slB (c.at k) (c.at (k+1)) * (u - (c.at k).a)+slB (c.at k) (c.at (k+1)) * (y - u),(c.at k).r+slB (c.at k) (c.at (k+1)) * (u - (c.at k).a)+slB (c.at k) (c.at (k+1)) * (y - u),slB (c.at k) (c.at (k+1)),slB (c.at k) (c.at (k+1))⟩:=fun y y1 y2=>by
   rw [trk.arn_in (k:=k) (x:=y) (by grind) y2]
   have e:(c.at k).r+slB (c.at k) (c.at (k+1)) * (y - (c.at k).a)=(c.at k).r+slB (c.at k) (c.at (k+1)) * (u - (c.at k).a)+slB (c.at k) (c.at (k+1)) * (y - u):=by grind
   rw [e]
  by_cases z:w=(c.at (k+1)).a
  ·refine ⟨?_,?_,s0,fun x x1 x2=>hin x x1 (by grind)⟩
   ·rw [z,trk.arn_pt];show (c.at (k+1)).l=_;grind
   ·rw [z,trk.arn_pt]
    show slB (c.at (k+1 - 1)) (c.at (k+1))=_
    rw [show k+1 - 1=k by omega]
  ·have:=hin w huw (by grind)
   refine ⟨by rw [this],by rw [this],s0,fun x x1 x2=>hin x x1 (by grind)⟩
noncomputable def jnT (o i:Crv) (x:Rat):Tri:=⟨if (i.arn x).sb=0 then (o.arn (i.arn x).l).v else (o.arn (i.arn x).l).l,(o.arn (i.arn x).v).v,if (i.arn x).sa=0 then (o.arn (i.arn x).r).v else (o.arn (i.arn x).r).r⟩
theorem jn_per (go:o.Ok) (gi:i.Ok):∃ n m:Nat,0 < n/\0 < m/\turnF o i * i.p=n * i.p/\liftF o i=n * i.r/\liftF o i=m * o.p/\o.r * (liftF o i / o.p)=m * o.r/\turnF o i=n/\(liftF o i / o.p).num=m:=by
 obtain ⟨n,m,n0,m0,e1,e2,e3,e4⟩:=lift_n go gi
 have p0:=go.p0
 refine ⟨n,m,n0,m0,by rw [e3];rfl,e1,e2,?_,e3,e4⟩
 rw [e2,Rat.mul_div_cancel (by grind)];grind
theorem jn_shp (go:o.Ok) (gi:i.Ok):Shp (turnF o i * i.p) (o.r * (liftF o i / o.p)) (jnT o i):=by
 obtain ⟨n,m,n0,m0,e1,e2,e3,e4,_⟩:=jn_per go gi
 have p0:=gi.p0
 have r0:=go.r0
 have nq:(0:Rat) < n:=by exact_mod_cast n0
 have mq:(0:Rat) < m:=by exact_mod_cast m0
 rw [e1,e4]
 refine ⟨Rat.mul_pos nq p0,Rat.mul_pos mq r0,fun x t=>?_,fun x=>?_,fun x=>?_,fun x y h=>?_⟩
 ·have ex:x+(t:Rat) * ((n:Rat) * i.p)=x+((t * n:Int):Rat) * i.p:=by rw [Rat.intCast_mul,Rat.intCast_natCast];grind
  have el:((t * n:Int):Rat) * i.r=((t * m:Int):Rat) * o.p:=by
   rw [Rat.intCast_mul,Rat.intCast_natCast,Rat.intCast_mul,Rat.intCast_natCast]
   have:(n:Rat) * i.r=m * o.p:=by rw [<- e2,e3]
   grind
  have er:((t * m:Int):Rat) * o.r=t * (m * o.r):=by rw [Rat.intCast_mul,Rat.intCast_natCast];grind
  unfold jnT
  rw [ex,gi.arn_per]
  simp only [el,go.arn_per,er,Tri.mk.injEq]
  refine ⟨?_,trivial,?_⟩ <;> (split <;> rfl)
 ·have h1:=(gi.arn_ok x).1
  have h2:=go.vm h1
  have h3:=go.arn_ok (i.arn x).l
  unfold jnT
  dsimp only
  split <;> grind
 ·have h1:=(gi.arn_ok x).2
  have h2:=go.vm h1
  have h3:=go.arn_ok (i.arn x).r
  unfold jnT
  dsimp only
  split <;> grind
 ·have h1:=gi.arn_mono h
  unfold jnT
  dsimp only
  by_cases e:(i.arn x).r=(i.arn y).l
  ·obtain ⟨f1,f2⟩:=gi.flat h e
   rw [if_pos f1,if_pos f2,e]
   exact Rat.le_refl
  ·have h2:=go.arn_mono (show (i.arn x).r < (i.arn y).l by grind)
   have h3:=go.arn_ok (i.arn x).r
   have h4:=go.arn_ok (i.arn y).l
   split <;> split <;> grind
theorem innA_rep (go:o.Ok) (gi:i.Ok) (hn:i.row≠[]) (k:Int):∃ (k':Nat) (t:Int),(k':Int) < turnF o i * i.row.length/\i.at k=(i.at k').mv (t * turnF o i:Int) i.p i.r/\i.at (k+1)=(i.at (k'+1)).mv (t * turnF o i:Int) i.p i.r:=by
 obtain ⟨n,m,n0,m0,e1,e2,e3,e4,e5,e6⟩:=jn_per go gi
 have hl:=List.length_pos_iff.mpr hn
 have hnl:0 < n * i.row.length:=Nat.mul_pos n0 hl
 obtain ⟨j,t,hj,rfl⟩:=isplit hnl k
 refine ⟨j,t,by rw [e5,<- Int.natCast_mul];omega,?_,?_⟩
 ·rw [show (j:Int)+t * ((n * i.row.length:Nat):Int)=(j:Int)+(t * turnF o i) * i.row.length from by rw [e5,Int.natCast_mul,Int.mul_assoc],Crv.at_add hn]
 ·rw [show (j:Int)+t * ((n * i.row.length:Nat):Int)+1=((j:Int)+1)+(t * turnF o i) * i.row.length from by rw [e5,Int.natCast_mul,Int.mul_assoc];omega,Crv.at_add hn]
theorem inn_aff (go:o.Ok) (gi:i.Ok) (ho:o.row≠[]) (hn:i.row≠[]) {u w:Rat} (huw:u < w) (no:∀ x,u < x->x < w->∀ y∈innA o i,∀ t:Int,x≠y+t * (turnF o i * i.p)):AffL (jnT o i) u w:=by
 obtain ⟨n,m,n0,m0,e1,e2,e3,e4,e5,e6⟩:=jn_per go gi
 have trk:=gi.trk hn
 have hmem:∀ {k':Nat} {x:Rat},(k':Int) < turnF o i * i.row.length->x∈innA1 o i k'->x∈innA o i:=fun {k' x} h hx=>List.mem_flatMap.mpr ⟨k',List.mem_range.mpr (by omega),hx⟩
 have noi:∀ k,¬ (u < (i.at k).a/\(i.at k).a < w):=fun k ⟨k1,k2⟩=>by
  obtain ⟨k',t,hk,q1,q2⟩:=innA_rep go gi hn k
  refine no _ k1 k2 (i.at k').a (hmem hk (List.mem_cons_self ..)) t ?_
  rw [q1]
  show _+((t * turnF o i:Int):Rat) * i.p=_
  rw [Rat.intCast_mul];grind
 obtain ⟨s1,s2,s3,s4⟩:=gi.affS huw fun _=>noi
 generalize hσ:(i.arn u).sa=σ at *
 by_cases z:σ=0
 ·subst z
  have el:(i.arn w).l=(i.arn u).r:=by rw [s1];grind
  refine ⟨0,fun x x1 x2=>?_,?_⟩
  ·unfold jnT
   rw [s4 x x1 x2,hσ]
   simp only [if_true]
   have:(i.arn u).r+0 * (x - u)=(i.arn u).r:=by grind
   rw [this]
   simp only [Tri.mk.injEq]
   refine ⟨by grind,by grind,by grind⟩
  ·unfold jnT
   rw [s2,hσ,el]
   simp only [if_true]
   grind
 ·have s0:0 < σ:=by grind
  have hlt:(i.arn u).r < (i.arn w).l:=by
   have:=Rat.mul_pos s0 (show 0 < w - u by grind);grind
  have noo:∀ k,¬ ((i.arn u).r < (o.at k).a/\(o.at k).a < (i.arn w).l):=fun q ⟨q1,q2⟩=>by
   -- the place of the piece
   obtain ⟨k,h1,h2⟩:=trk.split u
   have hu:(i.arn u).sa=slB (i.at k) (i.at (k+1))/\(i.arn u).r=(i.at k).r+slB (i.at k) (i.at (k+1)) * (u - (i.at k).a):=by
    rw [Crv.arn_row hn]
    rcases trk.arn_ge h1 h2 with ⟨e,ee⟩ | ⟨g,y,hy,_,_,ee⟩
    ·rw [ee];refine ⟨rfl,?_⟩;show (i.at k).r=_;rw [e];grind
    ·rw [ee];exact ⟨rfl,hy⟩
   rw [hσ] at hu
   have h3:w<=(i.at (k+1)).a:=by have:=noi (k+1);grind
   obtain ⟨k',t,hk,p1,p2⟩:=innA_rep go gi hn k
   have hs:slB (i.at k') (i.at (k'+1))=σ:=by
    rw [hu.1,p1,p2]
    unfold slB Pt.mv
    congr 1 <;> grind
   have r1:(i.at k).r=(i.at k').r+t * liftF o i:=by
    rw [p1];show _+((t * turnF o i:Int):Rat) * i.r=_
    rw [e2,e5,Rat.intCast_mul,Rat.intCast_natCast];grind
   have l1:(i.at (k+1)).l=(i.at (k'+1)).l+t * liftF o i:=by
    rw [p2];show _+((t * turnF o i:Int):Rat) * i.r=_
    rw [e2,e5,Rat.intCast_mul,Rat.intCast_natCast];grind
   have a1:(i.at k).a=(i.at k').a+t * (turnF o i * i.p):=by
    rw [p1];show _+((t * turnF o i:Int):Rat) * i.p=_
    rw [Rat.intCast_mul];grind
   have sm:=slB_mul (trk.up k)
   rw [<- hu.1] at sm
   -- the outer point,moved back
   have ho':=o.at_add ho q (-t * m)
   have oa:(o.at (q + -t * m * o.row.length)).a=(o.at q).a - t * liftF o i:=by
    rw [ho'];show _+((-t * m:Int):Rat) * o.p=_
    rw [e3,Rat.intCast_mul,Rat.intCast_neg,Rat.intCast_natCast];grind
   have m1:=Rat.mul_le_mul_of_nonneg_left (show 0<=u - (i.at k).a by grind) s3
   have m2:=Rat.mul_le_mul_of_nonneg_left (show w - (i.at k).a<=(i.at (k+1)).a - (i.at k).a by grind) s3
   have b1:(i.at k').r < (o.at (q + -t * m * o.row.length)).a:=by rw [oa];grind
   have b2:(o.at (q + -t * m * o.row.length)).a < (i.at (k'+1)).l:=by rw [oa];grind
   have hin:(i.at k').a+((o.at (q + -t * m * o.row.length)).a - (i.at k').r) / slB (i.at k') (i.at (k'+1))∈innA1 o i k':=by
    unfold innA1
    refine List.mem_cons_of_mem _ ?_
    rw [if_neg (by rw [hs];exact z)]
    refine List.mem_map.mpr ⟨_,List.mem_filter.mpr ⟨mem_ptsB go ho (k:=q + -t * m * o.row.length) (Rat.le_of_lt b1) (Rat.le_of_lt b2),?_⟩,rfl⟩
    rw [decide_eq_true b1,decide_eq_true b2];rfl
   rw [hs,oa] at hin
   have ed:((o.at q).a - t * liftF o i - (i.at k').r) / σ * σ=(o.at q).a - t * liftF o i - (i.at k').r:=Rat.div_mul_cancel z
   generalize ((o.at q).a - t * liftF o i - (i.at k').r) / σ=d at *
   have x1:u < (i.at k').a+d+t * (turnF o i * i.p):=by
    have h:(u - (i.at k).a) * σ < d * σ:=by grind
    have:=(Rat.mul_lt_mul_right s0).mp h
    grind
   have x2:(i.at k').a+d+t * (turnF o i * i.p) < w:=by
    have h:d * σ < (w - (i.at k).a) * σ:=by grind
    have:=(Rat.mul_lt_mul_right s0).mp h
    grind
   exact no _ x1 x2 _ (hmem hk hin) t rfl
  obtain ⟨t1,t2,t3,t4⟩:=go.affS hlt fun _=>noo
  refine ⟨(o.arn (i.arn u).r).sa * σ,fun x x1 x2=>?_,?_⟩
  ·have g1:(i.arn u).r < (i.arn u).r+σ * (x - u):=by
    have:=Rat.mul_pos s0 (show 0 < x - u by grind);grind
   have g2:(i.arn u).r+σ * (x - u) < (i.arn w).l:=by
    have:=Rat.mul_lt_mul_of_pos_left (show x - u < w - u by grind) s0;grind
   unfold jnT
   rw [s4 x x1 x2,hσ]
   simp only [if_neg z]
   rw [t4 _ g1 g2]
   simp only [Tri.mk.injEq]
   refine ⟨by grind,by grind,by grind⟩
  ·unfold jnT
   rw [s2,hσ]
   simp only [if_neg z]
   rw [t1,s1]
   grind
end
section
variable {c o i:Crv}
theorem flat_sl (go:o.Ok) (hn:o.row≠[]) (h:o.ris=false) (k:Int):slB (o.at k) (o.at (k+1))=0:=by
 have n0:=slB_nonneg (go.trk hn) k
 by_cases z:slB (o.at k) (o.at (k+1))=0
 ·exact z
 ·have:=ris_of go hn z
  rw [h] at this;cases this
theorem flat_arn (go:o.Ok) (hn:o.row≠[]) (h:o.ris=false) (x:Rat):(o.arn x).sa=0/\(o.arn x).sb=0:=by
 have f:=flat_sl go hn h
 have trk:=go.trk hn
 rw [Crv.arn_row hn]
 obtain ⟨k,h1,h2⟩:=trk.split x
 rcases trk.arn_ge h1 h2 with ⟨e,ee⟩ | ⟨g,y,hy,_,_,ee⟩
 ·rw [ee]
  have:=f (k - 1)
  rw [show k - 1+1=k by omega] at this
  exact ⟨f k,this⟩
 ·rw [ee];exact ⟨f k,f k⟩
theorem no_pt (go:o.Ok) (hn:o.row≠[]) {x:Rat} (h:∀ k,(o.at k).a≠x):(o.arn x).l=(o.arn x).v/\(o.arn x).r=(o.arn x).v:=by
 have trk:=go.trk hn
 rw [Crv.arn_row hn]
 obtain ⟨k,h1,h2⟩:=trk.split x
 rcases trk.arn_ge h1 h2 with ⟨e,ee⟩ | ⟨g,y,hy,_,_,ee⟩
 ·exact absurd e (h k)
 ·rw [ee];exact ⟨rfl,rfl⟩
theorem out_rays (go:o.Ok) (gi:i.Ok) (ho:o.row≠[]) {u w:Rat} (no:∀ x,u < x->x < w->∀ y∈outA o i,∀ t:Int,x≠y+t * (turnF o i * i.p)) (q:Int) :
  ∃ X X',¬ (u < X/\X < w)/\¬ (u < X'/\X' < w)/\(∀ z,z < X->(i.arn z).r < (o.at q).a)/\(o.at q).a<=(i.arn X).r/\(i.arn X).l<=(o.at q).a/\(∀ z,X' < z->(o.at q).a < (i.arn z).l)/\(i.arn X').l<=(o.at q).a/\(o.at q).a<=(i.arn X').r:=by
 obtain ⟨n,m,n0,m0,e1,e2,e3,e4,e5,e6⟩:=jn_per go gi
 have hl:=List.length_pos_iff.mpr ho
 have hml:0 < m * o.row.length:=Nat.mul_pos m0 hl
 obtain ⟨j,t,hj,rfl⟩:=isplit hml q
 have hbey:beyF o i=((m * o.row.length:Nat):Int):=by unfold beyF;rw [e6,Int.natCast_mul,Int.mul_comm]
 have hq:(o.at (j+t * ((m * o.row.length:Nat):Int))).a=(o.at j).a+t * liftF o i:=by
  rw [show (j:Int)+t * ((m * o.row.length:Nat):Int)=(j:Int)+(t * m) * o.row.length from by rw [Int.natCast_mul,Int.mul_assoc],Crv.at_add ho]
  show _+((t * m:Int):Rat) * o.p=_
  rw [e3,Rat.intCast_mul,Rat.intCast_natCast];grind
 have mem1:(atL i (o.at j).a).1∈outA o i:=List.mem_flatMap.mpr ⟨j,List.mem_range.mpr (by rw [hbey];omega),List.mem_cons_self ..⟩
 have mem2:(atM i (o.at j).a).1∈outA o i:=List.mem_flatMap.mpr ⟨j,List.mem_range.mpr (by rw [hbey];omega),List.mem_cons_of_mem _ (List.mem_cons_self ..)⟩
 obtain ⟨_,a2,_,a4,a5⟩:=gi.atL (o.at j).a
 obtain ⟨_,b2,_,b4,b5⟩:=gi.atM (o.at j).a
 have per:∀ x,i.arn (x+t * (turnF o i * i.p))=⟨(i.arn x).l+t * liftF o i,(i.arn x).v+t * liftF o i,(i.arn x).r+t * liftF o i,(i.arn x).sb,(i.arn x).sa⟩:=fun x=>by
  have ex:x+t * (turnF o i * i.p)=x+((t * n:Int):Rat) * i.p:=by rw [e1,Rat.intCast_mul,Rat.intCast_natCast];grind
  have er:((t * n:Int):Rat) * i.r=t * liftF o i:=by rw [e2,Rat.intCast_mul,Rat.intCast_natCast];grind
  rw [ex,gi.arn_per,er]
 have back:∀ z,i.arn z=⟨(i.arn (z - t * (turnF o i * i.p))).l+t * liftF o i,(i.arn (z - t * (turnF o i * i.p))).v+t * liftF o i,(i.arn (z - t * (turnF o i * i.p))).r+t * liftF o i,(i.arn (z - t * (turnF o i * i.p))).sb,(i.arn (z - t * (turnF o i * i.p))).sa⟩:=fun z=>by
  rw [<- per];congr 1;grind
 rw [hq]
 refine ⟨(atL i (o.at j).a).1+t * (turnF o i * i.p),(atM i (o.at j).a).1+t * (turnF o i * i.p),fun ⟨z1,z2⟩=>no _ z1 z2 _ mem1 t rfl,fun ⟨z1,z2⟩=>no _ z1 z2 _ mem2 t rfl,fun z hz=>?_,?_,?_,fun z hz=>?_,?_,?_⟩
 ·rw [back z]
  have:=a5 (z - t * (turnF o i * i.p)) (by grind)
  show _+_ < _+_
  grind
 ·rw [per];show _+_<=_+_;grind
 ·rw [per];show _+_<=_+_;grind
 ·rw [back z]
  have:=b5 (z - t * (turnF o i * i.p)) (by grind)
  show _+_ < _+_
  grind
 ·rw [per];show _+_<=_+_;grind
 ·rw [per];show _+_<=_+_;grind
theorem out_aff (go:o.Ok) (gi:i.Ok) (ho:o.row≠[]) (hr:o.ris=false) {u w:Rat} (huw:u < w) (no:∀ x,u < x->x < w->∀ y∈outA o i,∀ t:Int,x≠y+t * (turnF o i * i.p)):AffL (jnT o i) u w:=by
 have mono:=gi.arn_mono huw
 by_cases e:(i.arn u).r=(i.arn w).l
 ·-- the inner curve is flat
  obtain ⟨f1,f2⟩:=gi.flat huw e
  refine ⟨0,fun x x1 x2=>?_,?_⟩
  ·have m1:=gi.arn_mono x1
   have m2:=gi.arn_mono x2
   have ok:=gi.arn_ok x
   have el:(i.arn x).l=(i.arn u).r:=by grind
   have ev:(i.arn x).v=(i.arn u).r:=by grind
   have er:(i.arn x).r=(i.arn u).r:=by grind
   have s1:=(gi.flat x1 el.symm).2
   have s2:=(gi.flat x2 (er.trans e)).1
   unfold jnT
   rw [s1,s2,f1,el,ev,er]
   simp only [if_true]
   have:(o.arn (i.arn u).r).v+0 * (x - u)=(o.arn (i.arn u).r).v:=by grind
   rw [this]
  ·unfold jnT
   rw [f1,f2,<- e]
   simp only [if_true]
   grind
 ·have hlt:(i.arn u).r < (i.arn w).l:=by grind
  -- each point of the outer curve is passed before,or behind
  have ab:∀ q,((∀ z,z < w->(i.arn z).r < (o.at q).a)/\(i.arn w).l<=(o.at q).a)\/((∀ z,u < z->(o.at q).a < (i.arn z).l)/\(o.at q).a<=(i.arn u).r):=fun q=>by
   obtain ⟨X,X',n1,n2,a1,a2,a3,b1,b2,b3⟩:=out_rays go gi ho no q
   by_cases c1:w<=X
   ·exact .inl ⟨fun z hz=>a1 z (by grind),Rat.le_trans (gi.lm c1) a3⟩
   ·by_cases c2:X'<=u
    ·exact .inr ⟨fun z hz=>b1 z (by grind),Rat.le_trans b3 (gi.rm c2)⟩
    ·exfalso
     have h1:=gi.rm (show X<=u by grind)
     have h2:=gi.lm (show w<=X' by grind)
     grind
  have noo:∀ q,¬ ((i.arn u).r < (o.at q).a/\(o.at q).a < (i.arn w).l):=fun q ⟨q1,q2⟩=>by
   rcases ab q with ⟨_,h⟩ | ⟨_,h⟩ <;> grind
  obtain ⟨t1,t2,t3,t4⟩:=go.affS hlt fun _=>noo
  have fl:=flat_arn go ho hr
  rw [(fl (i.arn u).r).1] at t1 t4
  have k1:(o.arn (i.arn w).l).l=(o.arn (i.arn u).r).r:=by rw [t1];grind
  -- a value that is taken
  have tk:∀ z y,u < z->z < w->(i.arn z).l<=y->y<=(i.arn z).r->(o.arn y).l=(o.arn (i.arn u).r).r/\(o.arn y).v=(o.arn (i.arn u).r).r/\(o.arn y).r=(o.arn (i.arn u).r).r:=fun z y z1 z2 y1 y2=>by
   have np:∀ k,(o.at k).a≠y:=fun k hk=>by
    rcases ab k with ⟨h,_⟩ | ⟨h,_⟩
    ·have:=h z z2;grind
    ·have:=h z z1;grind
   obtain ⟨p1,p2⟩:=no_pt go ho np
   have m1:=gi.arn_mono z1
   have m2:=gi.arn_mono z2
   by_cases w1:y=(i.arn u).r
   ·subst w1;exact ⟨by grind,by grind,rfl⟩
   ·by_cases w2:y=(i.arn w).l
    ·subst w2;exact ⟨k1,by grind,by grind⟩
    ·have:=t4 y (by grind) (by grind)
     rw [this]
     refine ⟨by grind,by grind,by grind⟩
  refine ⟨0,fun x x1 x2=>?_,?_⟩
  ·have ok:=gi.arn_ok x
   obtain ⟨p1,p2,p3⟩:=tk x (i.arn x).l x1 x2 Rat.le_refl (by grind)
   obtain ⟨_,q2,_⟩:=tk x (i.arn x).v x1 x2 ok.1 ok.2
   obtain ⟨r1,r2,r3⟩:=tk x (i.arn x).r x1 x2 (by grind) Rat.le_refl
   have hu:(jnT o i u).r=(o.arn (i.arn u).r).r:=by
    unfold jnT
    dsimp only
    by_cases s:(i.arn u).sa=0
    ·rw [if_pos s]
     obtain ⟨z,z1,_,z3,_,_⟩:=gi.beh u
     have hy:∃ y,u < y/\y < z/\y < w:=by
      by_cases hzw:z<=w
      ·exact ⟨(u+z) / 2,by grind,by grind,by grind⟩
      ·exact ⟨(u+w) / 2,by grind,by grind,by grind⟩
     obtain ⟨y,y1,y2,y3⟩:=hy
     have:=z3 y y1 y2
     rw [s] at this
     have h1:(i.arn y).l=(i.arn u).r:=by rw [this];grind
     have h2:(i.arn y).r=(i.arn u).r:=by rw [this];grind
     exact (tk y (i.arn u).r y1 y3 (by grind) (by grind)).2.1
    ·rw [if_neg s]
   rw [hu]
   unfold jnT
   have:(o.arn (i.arn u).r).r+0 * (x - u)=(o.arn (i.arn u).r).r:=by grind
   rw [this,q2]
   simp only [Tri.mk.injEq]
   refine ⟨?_,trivial,?_⟩
   ·split
    ·exact p2
    ·exact p1
   ·split
    ·exact r2
    ·exact r3
  ·have hu:(jnT o i u).r=(o.arn (i.arn u).r).r:=by
    unfold jnT
    dsimp only
    by_cases s:(i.arn u).sa=0
    ·rw [if_pos s]
     obtain ⟨z,z1,_,z3,_,_⟩:=gi.beh u
     have hy:∃ y,u < y/\y < z/\y < w:=by
      by_cases hzw:z<=w
      ·exact ⟨(u+z) / 2,by grind,by grind,by grind⟩
      ·exact ⟨(u+w) / 2,by grind,by grind,by grind⟩
     obtain ⟨y,y1,y2,y3⟩:=hy
     have:=z3 y y1 y2
     rw [s] at this
     have h1:(i.arn y).l=(i.arn u).r:=by rw [this];grind
     have h2:(i.arn y).r=(i.arn u).r:=by rw [this];grind
     exact (tk y (i.arn u).r y1 y3 (by grind) (by grind)).2.1
    ·rw [if_neg s]
   rw [hu]
   unfold jnT
   dsimp only
   by_cases s:(i.arn w).sb=0
   ·rw [if_pos s]
    obtain ⟨z,z1,_,z3,_,_⟩:=gi.ahd w
    have hy:∃ y,z < y/\y < w/\u < y:=by
     by_cases hzw:u<=z
     ·exact ⟨(z+w) / 2,by grind,by grind,by grind⟩
     ·exact ⟨(u+w) / 2,by grind,by grind,by grind⟩
    obtain ⟨y,y1,y2,y3⟩:=hy
    have:=z3 y y1 y2
    rw [s] at this
    have h1:(i.arn y).l=(i.arn w).l:=by rw [this];grind
    have h2:(i.arn y).r=(i.arn w).l:=by rw [this];grind
    rw [(tk y (i.arn w).l y3 y2 (by grind) (by grind)).2.1]
    grind
   ·rw [if_neg s,k1];grind
theorem filt_eq {S:Int->Pt} {p:Pt->Bool} {a P0 P1:Int} (h0:a<=P0) (hp:∀ k:Int,p (S k)=(decide (P0<=k) && decide (k < P1))):∀ n:Nat,((((List.range n).map fun i:Nat=>S (a+i)).filter p).length:Int)=max 0 (min P1 (a+n) - P0)
 | 0=>by
  show (0:Int)=_
  omega
 | n+1=>by
  rw [List.range_succ,List.map_append,List.filter_append,List.length_append]
  have ih:=filt_eq h0 hp n
  have e:(List.filter p (List.map (fun i:Nat=>S (a+i)) [n])).length=if (decide (P0<=a+(n:Int)) && decide (a+(n:Int) < P1))=true then 1 else 0:=by
   show (List.filter p [S (a+n)]).length=_
   rw [List.filter_cons,hp]
   split <;> rfl
  rw [e]
  by_cases h1:P0<=a+n/\a+n < P1
  ·rw [if_pos (by rw [decide_eq_true h1.1,decide_eq_true h1.2];rfl)]
   push_cast
   omega
  ·rw [if_neg (by
    rw [Bool.and_eq_true,decide_eq_true_eq,decide_eq_true_eq]
    exact h1)]
   push_cast
   omega
theorem beh_ge (x:Rat):plc c.at x<=behC c x:=by unfold behC;split <;> omega
theorem beh_per (ok:c.Ok) (hn:c.row≠[]) (x:Rat) (t:Int):behC c (x+t * c.p)=behC c x+t * c.row.length:=by
 unfold behC
 rw [plc_per ok hn x t,c.at_add hn]
 have:((c.at (plc c.at x)).mv t c.p c.r).a=(c.at (plc c.at x)).a+t * c.p:=rfl
 rw [this]
 by_cases z:(c.at (plc c.at x)).a=x
 ·rw [if_pos z,if_pos (by rw [z])];omega
 ·rw [if_neg z,if_neg (by intro w;apply z;grind)]
theorem inn1_len (go:o.Ok) (gi:i.Ok) (ho:o.row≠[]) (hn:i.row≠[]) (k:Nat):((innA1 o i k).length:Int)<=1+(behC o (i.at ((k:Int)+1)).r - behC o (i.at k).r)/\(slB (i.at k) (i.at ((k:Int)+1))=0->(innA1 o i k).length=1):=by
 have to:=go.trk ho
 have ti:=gi.trk hn
 have h1:=ti.ri (k:Int)
 have h2:=ti.lv ((k:Int)+1)
 have h3:=ti.vr ((k:Int)+1)
 have bm:=beh_mono to (show (i.at k).r<=(i.at ((k:Int)+1)).r by grind)
 unfold innA1
 rw [List.length_cons]
 by_cases z:slB (i.at k) (i.at ((k:Int)+1))=0
 ·rw [if_pos z]
  refine ⟨?_,fun _=>rfl⟩
  show ((0+1:Nat):Int)<=_
  omega
 ·rw [if_neg z]
  refine ⟨?_,fun w=>absurd w z⟩
  rw [List.length_map]
  unfold ptsB
  rw [if_neg ho]
  have hf:=filt_eq (S:=o.at) (p:=fun q:Pt=>decide ((i.at k).r < q.a) && decide (q.a < (i.at ((k:Int)+1)).l)) (a:=plc o.at (i.at k).r) (P0:=behC o (i.at k).r) (P1:=plc o.at (i.at ((k:Int)+1)).l) (beh_ge _) (fun q=>by
   have q1:=beh_le to (hi:=(i.at k).r) (k:=q)
   have q2:=to.pl_lt (x:=(i.at ((k:Int)+1)).l) (k:=q)
   congr 1
   ·rw [Bool.eq_iff_iff,decide_eq_true_iff,decide_eq_true_iff]
    constructor
    ·intro w
     have:=(not_congr q1).mpr (by grind)
     omega
    ·intro w
     have:=(not_congr q1).mp (by omega)
     grind
   ·rw [Bool.eq_iff_iff,decide_eq_true_iff,decide_eq_true_iff]
    exact q2.symm) (behC o (i.at ((k:Int)+1)).l - plc o.at (i.at k).r).toNat
  have b1:=beh_ge (c:=o) (i.at ((k:Int)+1)).l
  have b2:=beh_mono to (show (i.at ((k:Int)+1)).l<=(i.at ((k:Int)+1)).r by grind)
  rw [show ∀ n:Nat,((n+1:Nat):Int)=(n:Int)+1 from fun n=>rfl,hf]
  omega
theorem innA_cnt (go:o.Ok) (gi:i.Ok) (ho:o.row≠[]) (hn:i.row≠[]):((innA o i).length:Int)<=mineF o i:=by
 obtain ⟨n,m,n0,m0,e1,e2,e3,e4,e5,e6⟩:=jn_per go gi
 have hlt:turnF o i * (i.row.length:Int)=((n * i.row.length:Nat):Int):=by rw [e5,Int.natCast_mul]
 have hbey:beyF o i=((m * o.row.length:Nat):Int):=by unfold beyF;rw [e6,Int.natCast_mul,Int.mul_comm]
 have acc:∀ N:Nat,(((List.range N).flatMap fun k:Nat=>innA1 o i k).length:Int)<=N+(behC o (i.at (N:Int)).r - behC o (i.at 0).r)/\(i.ris=false->((List.range N).flatMap fun k:Nat=>innA1 o i k).length=N):=by
  intro N
  induction N with
  | zero=>exact ⟨by rw [show ((0:Nat):Int)=0 from rfl];show (0:Int)<=_;omega,fun _=>rfl⟩
  | succ N ih =>
   have h:=inn1_len go gi ho hn N
   rw [List.range_succ,List.flatMap_append,List.length_append]
   have e:(List.flatMap (fun k:Nat=>innA1 o i k) [N]).length=(innA1 o i N).length:=by simp
   rw [e]
   refine ⟨?_,fun hr=>?_⟩
   ·have:=ih.1
    push_cast
    have:=h.1
    omega
   ·rw [ih.2 hr,h.2 (flat_sl gi hn hr N)]
 unfold innA mineF
 rw [hlt,Int.toNat_natCast]
 obtain ⟨a1,a2⟩:=acc (n * i.row.length)
 by_cases hr:i.ris=true
 ·rw [if_pos hr]
  have er:(i.at ((n * i.row.length:Nat):Int)).r=(i.at 0).r+(m:Int) * o.p:=by
   have:=i.at_add hn 0 n
   rw [Int.zero_add,<- Int.natCast_mul] at this
   rw [this]
   show _+((n:Int):Rat) * i.r=_
   rw [Rat.intCast_natCast,<- e2,e3,Rat.intCast_natCast]
  rw [er,beh_per go ho] at a1
  rw [hbey]
  push_cast at *
  omega
 ·rw [if_neg hr,a2 (by simpa using hr)];omega
noncomputable def joinN (o i:Crv):Crv:=norm (turnF o i * i.p) (o.r * (liftF o i / o.p)) ((spotF o i).map (ptF (jnT o i))) 0
theorem jn_sem (go:o.Gd) (gi:i.Gd) (ho:o.row≠[]) (hn:i.row≠[]):(joinN o i).Ok/\(joinN o i).s=o.s * i.s/\(∀ x,(joinN o i).tri x=jnT o i x) /\
  afterF o i=if min (mineF o i) (yourF o i) > 60 then .error .many else if (joinN o i).long=true then .error .long else .ok (joinN o i):=by
 have sh:=jn_shp go.ok gi.ok
 have p0:=sh.p0
 obtain ⟨n,m,n0,m0,e1,e2,e3,e4,e5,e6⟩:=jn_per go.ok gi.ok
 have hl:=List.length_pos_iff.mpr hn
 have hlo:=List.length_pos_iff.mpr ho
 have hml:0 < m * o.row.length:=Nat.mul_pos m0 hlo
 have hnl:0 < n * i.row.length:=Nat.mul_pos n0 hl
 have hbey:beyF o i=((m * o.row.length:Nat):Int):=by unfold beyF;rw [e6,Int.natCast_mul,Int.mul_comm]
 have hlt:turnF o i * (i.row.length:Int)=((n * i.row.length:Nat):Int):=by rw [e5,Int.natCast_mul]
 have asc:(spotF o i).Pairwise (· < ·):=ordQ_lt _
 have hmem:∀ x,x∈(if mineF o i<=yourF o i then innA o i else outA o i)->wthn x (turnF o i * i.p)∈spotF o i:=fun x hx=>ordQ_mem.mpr (List.mem_map.mpr ⟨x,hx,rfl⟩)
 have hb:∀ x∈spotF o i,0<=x/\x < turnF o i * i.p:=fun x hx=>by
  obtain ⟨y,_,rfl⟩:=List.mem_map.mp (ordQ_mem.mp hx)
  exact wthn_in p0
 have no:∀ {u w:Rat},(∀ x,u < x->x < w->∀ y∈spotF o i,∀ t:Int,x≠y+t * (turnF o i * i.p))->∀ x,u < x->x < w->∀ y∈(if mineF o i<=yourF o i then innA o i else outA o i),∀ t:Int,x≠y+t * (turnF o i * i.p):=fun {u w} h x x1 x2 y hy t e=>by
  refine h x x1 x2 _ (hmem y hy) ((y / (turnF o i * i.p)).floor+t) ?_
  have:=wthn_eq y (turnF o i * i.p)
  rw [Rat.intCast_add];grind
 have hor:¬ mineF o i<=yourF o i->o.ris=false/\yourF o i=2 * beyF o i:=fun h=>by
  unfold yourF at h ⊢
  by_cases z:o.ris=true
  ·rw [if_pos z] at h;omega
  ·exact ⟨by simpa using z,if_neg z⟩
 have aff:∀ u w,u < w->(∀ x,u < x->x < w->∀ y∈spotF o i,∀ t:Int,x≠y+t * (turnF o i * i.p))->AffL (jnT o i) u w:=fun u w huw h=>by
  have h':=no h
  by_cases z:mineF o i<=yourF o i
  ·simp only [if_pos z] at h'
   exact inn_aff go.ok gi.ok ho hn huw h'
  ·simp only [if_neg z] at h'
   exact out_aff go.ok gi.ok ho (hor z).1 huw h'
 have hne:spotF o i≠[]:=by
  by_cases z:mineF o i<=yourF o i
  ·have:(i.at ((0:Nat):Int)).a∈innA o i:=List.mem_flatMap.mpr ⟨0,List.mem_range.mpr (by rw [hlt];omega),List.mem_cons_self ..⟩
   exact List.ne_nil_of_mem (hmem _ (by rw [if_pos z];exact this))
  ·have:(atL i (o.at ((0:Nat):Int)).a).1∈outA o i:=List.mem_flatMap.mpr ⟨0,List.mem_range.mpr (by rw [hbey];omega),List.mem_cons_self ..⟩
   exact List.ne_nil_of_mem (hmem _ (by rw [if_neg z];exact this))
 obtain ⟨m1,m2,hok,m4⟩:=mkC_smp (o:=0) sh hne asc hb aff
 refine ⟨norm_ok hok,?_,m4,?_⟩
 ·unfold joinN
  rw [norm_s,e1,e4,go.ok.s,gi.ok.s]
  have p1:=gi.ok.p0
  have p2:=go.ok.p0
  have nq:(0:Rat) < n:=by exact_mod_cast n0
  have hr:(m:Rat) * o.p=n * i.r:=by rw [<- e3,e2]
  have z1:o.r / o.p * o.p=o.r:=Rat.div_mul_cancel (by grind)
  have z2:i.r / i.p * i.p=i.r:=Rat.div_mul_cancel (by grind)
  have z3:(m:Rat) * o.r=o.r / o.p * (i.r / i.p) * (n * i.p):=by
   have:o.r / o.p * (i.r / i.p) * (n * i.p)=o.r / o.p * (n * (i.r / i.p * i.p)):=by grind
   rw [this,z2,<- hr]
   grind
  rw [z3,Rat.mul_div_cancel (by have:=Rat.mul_pos nq p1;grind)]
 ·unfold afterF
  rw [if_neg ho,if_neg hn]
  by_cases h:min (mineF o i) (yourF o i) > 60
  ·rw [if_pos h,if_pos h]
  ·rw [if_neg h,if_neg h]
   have hlen:(spotF o i).length<=60:=by
    have h1:=ordQ_len ((if mineF o i<=yourF o i then innA o i else outA o i).map fun x=>wthn x (turnF o i * i.p))
    rw [List.length_map] at h1
    have h2:(spotF o i).length<=(if mineF o i<=yourF o i then innA o i else outA o i).length:=h1
    by_cases z:mineF o i<=yourF o i
    ·rw [if_pos z] at h2
     have:=innA_cnt go.ok gi.ok ho hn
     omega
    ·rw [if_neg z] at h2
     have h3:(outA o i).length=2 * (beyF o i).toNat:=pair_len _
     have:=(hor z).2
     omega
   have ep:(spotF o i).map (joinF o i)=(spotF o i).map (ptF (jnT o i)):=rfl
   rw [ep]
   unfold mkC
   rw [if_pos hok,if_neg (by rw [List.length_map];omega)]
   rfl
end
def onG (N:Nat) (x:Rat):Prop:=∃ z:Int,(N:Rat) * x=z
section
variable {N M:Nat} {x y:Rat}
theorem onG.add (h:onG N x) (g:onG N y):onG N (x+y):=by
 obtain ⟨a,ha⟩:=h;obtain ⟨b,hb⟩:=g
 exact ⟨a+b,by rw [Rat.intCast_add,<- ha,<- hb];grind⟩
theorem onG.neg (h:onG N x):onG N (-x):=by
 obtain ⟨a,ha⟩:=h
 exact ⟨-a,by rw [Rat.intCast_neg,<- ha];grind⟩
theorem onG.sub (h:onG N x) (g:onG N y):onG N (x - y):=by
 have:=h.add g.neg
 rwa [<- Rat.sub_eq_add_neg] at this
theorem onG.mul (h:onG N x) (g:onG M y):onG (N * M) (x * y):=by
 obtain ⟨a,ha⟩:=h;obtain ⟨b,hb⟩:=g
 exact ⟨a * b,by rw [Rat.intCast_mul,<- ha,<- hb,Rat.natCast_mul];grind⟩
theorem onG.up (k:Nat) (h:onG N x):onG (N * k) x:=by
 obtain ⟨a,ha⟩:=h
 exact ⟨a * k,by rw [Rat.intCast_mul,<- ha,Rat.natCast_mul,Rat.intCast_natCast];grind⟩
theorem onG.int (t:Int) (h:onG N x):onG N (t * x):=by
 obtain ⟨a,ha⟩:=h
 exact ⟨t * a,by rw [Rat.intCast_mul,<- ha];grind⟩
theorem onG.zero:onG N 0:=⟨0,by rw [Rat.mul_zero];rfl⟩
theorem onG.one:onG N 1:=⟨N,by rw [Rat.mul_one,Rat.intCast_natCast]⟩
theorem onG.dvd (h:onG N x) (d:N ∣ M):onG M x:=by
 obtain ⟨k,rfl⟩:=d
 exact h.up k
end
class Gb where
 n:Nat
 pos:0 < n
instance (priority:=low) gb24:Gb:=⟨24,by decide⟩
def gG [Gb] (j:Nat):Nat:=Gb.n * 12 ^ j
def gT (k:Nat):Nat:=12 ^ k
section
variable [Gb]
theorem gG_dvd {j j':Nat} (h:j<=j'):gG j ∣ gG j':=Nat.mul_dvd_mul_left _ (Nat.pow_dvd_pow _ h)
theorem gT_dvd {j j':Nat} (h:j<=j'):gT j ∣ gT j':=Nat.pow_dvd_pow _ h
theorem gGT (j k:Nat):gG j * gT k=gG (j+k):=by unfold gG gT;rw [Nat.pow_add,Nat.mul_assoc]
theorem gTG (k:Nat):gT k ∣ gG k:=⟨Gb.n,Nat.mul_comm _ _⟩
section
variable {x y:Rat} {j k j' k':Nat}
theorem onG.G (h:onG (gG j) x) (l:j<=j'):onG (gG j') x:=h.dvd (gG_dvd l)
theorem onG.T (h:onG (gT k) x) (l:k<=k'):onG (gT k') x:=h.dvd (gT_dvd l)
theorem onG.GT (h:onG (gG j) x) (g:onG (gT k) y):onG (gG (j+k)) (x * y):=by rw [<- gGT];exact h.mul g
theorem onG.TG (h:onG (gT k) y) (g:onG (gG j) x):onG (gG (j+k)) (y * x):=by rw [Rat.mul_comm];exact g.GT h
end
structure Qd (j kv ki:Nat) (c:Crv):Prop where
 pt:c.row≠[]->∀ q,onG (gG j) (c.at q).a/\onG (gG j) (c.at q).l/\onG (gG j) (c.at q).v/\onG (gG j) (c.at q).r
 b:c.row=[]->onG (gG j) c.b
 sl:∀ x,onG (gT kv) (c.arn x).sa/\((c.arn x).sa≠0->onG (gT ki) (1 / (c.arn x).sa))
section
variable {j kv ki j':Nat} {c:Crv}
theorem Qd.mono (q:Qd j kv ki c) {J Kv Ki:Nat} (h1:j<=J) (h2:kv<=Kv) (h3:ki<=Ki):Qd J Kv Ki c :=
 ⟨fun hn k=>let ⟨a,b,d,e⟩:=q.pt hn k;⟨a.G h1,b.G h1,d.G h1,e.G h1⟩,fun hn=>(q.b hn).G h1,fun x=>⟨(q.sl x).1.T h2,fun z=>((q.sl x).2 z).T h3⟩⟩
theorem sa_str (hn:c.row=[]) (x:Rat):(c.arn x).sa=c.s:=by rw [Crv.arn_str hn]
theorem Qd.val (q:Qd j kv ki c) (ok:c.Ok) {x:Rat} (hx:onG (gG j') x):onG (gG (max j j'+kv)) (c.tri x).l/\onG (gG (max j j'+kv)) (c.tri x).v/\onG (gG (max j j'+kv)) (c.tri x).r:=by
 by_cases hn:c.row=[]
 ·have h1:=q.b hn
  have h2:=(q.sl x).1
  rw [sa_str hn] at h2
  have:onG (gG (max j j'+kv)) (c.b+c.s * x):=(h1.G (by omega)).add ((h2.TG hx).G (by omega))
  unfold Crv.tri
  rw [Crv.arn_str hn]
  exact ⟨this,this,this⟩
 ·have trk:=ok.trk hn
  obtain ⟨k,h1,h2⟩:=trk.split x
  obtain ⟨pa,pl,pv,pr⟩:=q.pt hn k
  unfold Crv.tri
  rw [Crv.arn_row hn]
  rcases trk.arn_ge h1 h2 with ⟨e,ee⟩ | ⟨g,y,hy,_,_,ee⟩
  ·rw [ee]
   exact ⟨pl.G (by omega),pv.G (by omega),pr.G (by omega)⟩
  ·rw [ee]
   have hs:=(q.sl (c.at k).a).1
   rw [Crv.arn_row hn,trk.arn_pt] at hs
   have:onG (gG (max j j'+kv)) y:=by
    rw [hy]
    exact (pr.G (by omega)).add ((onG.TG hs ((hx.G (show j'<=max j j' by omega)).sub (pa.G (by omega)))))
   exact ⟨this,this,this⟩
theorem Qd.per (q:Qd j kv ki c) (hn:c.row≠[]):onG (gG j) c.p/\onG (gG j) c.r:=by
 have h:=c.at_add hn 0 1
 have h0:=q.pt hn 0
 have h1:=q.pt hn (0+1 * c.row.length)
 have e:((1:Int):Rat)=1:=rfl
 rw [h] at h1
 refine ⟨?_,?_⟩
 ·have:=h1.1.sub h0.1
  have z:((c.at 0).mv ((1:Int):Rat) c.p c.r).a - (c.at 0).a=c.p:=by show _+((1:Int):Rat) * c.p - _=_;rw [e];grind
  rwa [z] at this
 ·have:=h1.2.1.sub h0.2.1
  have z:((c.at 0).mv ((1:Int):Rat) c.p c.r).l - (c.at 0).l=c.r:=by show _+((1:Int):Rat) * c.r - _=_;rw [e];grind
  rwa [z] at this
theorem sa_of (ok:c.Ok) {F:Rat->Tri} (hF:∀ x,c.tri x=F x) {x z σ:Rat} (hz:x < z) (h:∀ y,x < y->y < z->(F y).v=(F x).r+σ * (y - x)):(c.arn x).sa=σ:=by
 obtain ⟨w,w1,_,w3,_,_⟩:=ok.beh x
 have hy:∃ y,x < y/\y < w/\y < z:=by
  by_cases q:w<=z
  ·exact ⟨(x+w) / 2,by grind,by grind,by grind⟩
  ·exact ⟨(x+z) / 2,by grind,by grind,by grind⟩
 obtain ⟨y,y1,y2,y3⟩:=hy
 have e1:=w3 y y1 y2
 have e2:=h y y1 y3
 rw [<- hF,<- hF] at e2
 have e3:(c.tri y).v=(c.arn x).r+(c.arn x).sa * (y - x):=by unfold Crv.tri;rw [e1]
 have e4:(c.tri x).r=(c.arn x).r:=rfl
 have e5:((c.arn x).sa - σ) * (y - x)=0:=by rw [e3,e4] at e2;grind
 rcases Rat.mul_eq_zero.mp e5 with z | z
 ·grind
 ·grind
end
end
def IntS (m:Nat) (c:Crv):Prop:=∀ x,∃ n:Nat,n<=m/\(c.arn x).sa=n
section
variable {a b c o i l:Crv} {j ja jb ka kb la lb ma mb jo ji ko ki lo li jl kl ll:Nat}
variable [Gb]
theorem Qd.s (q:Qd j ka la c) (hn:c.row=[]):onG (gT ka) c.s/\(c.s≠0->onG (gT la) (1 / c.s)):=by
 have:=q.sl 0
 rwa [sa_str hn] at this
end
def Dev (B:Rat) (c:Crv):Prop:=∀ x,-B<=(c.tri x).l - c.s * x/\(c.tri x).r - c.s * x<=B
section
variable [Gb] {a b c o i l : Crv} {j ja jb ka kb la lb jo ji ko ki lo li : Nat}
def Kn (J m:Nat) (i:Crv) (x:Rat):Prop:=onG (gG J) x/\onG (gG m) (i.tri x).l/\onG (gG m) (i.tri x).v/\onG (gG m) (i.tri x).r
theorem Kn.pt (qi:Qd ji ki li i) (gi:i.Ok) (hn:i.row≠[]) (k:Int) {J m:Nat} (h1:ji<=J) (h2:ji<=m):Kn J m i (i.at k).a:=by
 obtain ⟨p1,p2,p3,p4⟩:=qi.pt hn k
 refine ⟨p1.G h1,?_⟩
 rw [crv_tri_at gi hn]
 exact ⟨p2.G h2,p3.G h2,p4.G h2⟩
theorem Dev.all {B:Rat} (h:Dev B c) (ok:c.Ok) (x:Rat):(-B<=(c.tri x).l - c.s * x/\(c.tri x).l - c.s * x<=B)/\(-B<=(c.tri x).v - c.s * x/\(c.tri x).v - c.s * x<=B)/\(-B<=(c.tri x).r - c.s * x/\(c.tri x).r - c.s * x<=B):=by
 obtain ⟨h1,h2⟩:=h x
 have h3:=ok.arn_ok x
 unfold Crv.tri at *
 dsimp only at *
 refine ⟨⟨?_,?_⟩,⟨?_,?_⟩,?_,?_⟩ <;> grind
end
theorem onG_qs {N:Nat} {x V:Rat} {n:Nat} (hN:0 < N) (h:onG N x) (h1:-V<=x) (h2:x<=V) (hb:N < 2 ^ n) (hv:V * N < (2 ^ n:Nat)):qs x<=n:=by
 obtain ⟨z,hz⟩:=h
 have hd0:(x.den:Rat)≠0:=fun z=>by
  have h:x.den=0:=by exact_mod_cast z
  have:=x.den_pos
  omega
 have hd:x * (x.den:Rat)=(x.num:Rat):=by
  have h1:(x.num:Rat) / (x.den:Rat) * (x.den:Rat)=(x.num:Rat):=Rat.div_mul_cancel hd0
  have h2:(x.num:Rat) / ((x.den:Int):Rat)=x:=by rw [<- Rat.divInt_eq_div,Rat.num_divInt_den]
  rw [Rat.intCast_natCast] at h2
  rwa [h2] at h1
 have e:(N:Int) * x.num=z * x.den:=by
  have:((N:Rat) * x) * x.den=z * x.den:=by rw [hz]
  have h3:(N:Rat) * (x.num:Rat)=(z:Rat) * (x.den:Rat):=by rw [<- hd,<- this];grind
  exact_mod_cast h3
 have dvd:x.den ∣ N:=by
  have h3:(x.den:Int) ∣ (N:Int) * x.num:=⟨z,by rw [e,Int.mul_comm]⟩
  have h4:x.den ∣ N * x.num.natAbs:=by
   have:=Int.natAbs_dvd_natAbs.mpr h3
   rwa [Int.natAbs_mul,Int.natAbs_natCast,Int.natAbs_natCast] at this
  exact Nat.Coprime.dvd_of_dvd_mul_right x.reduced.symm h4
 have dle:x.den<=N:=Nat.le_of_dvd hN dvd
 have dq:(x.den:Rat)<=(N:Rat):=by exact_mod_cast dle
 have d0:(0:Rat)<=(x.den:Rat):=by exact_mod_cast Nat.zero_le _
 have V0:0<=V:=by grind
 have n1:(x.num:Rat)<=V * N:=by
  rw [<- hd]
  have:=Rat.mul_le_mul_of_nonneg_right h2 d0
  have:=Rat.mul_le_mul_of_nonneg_left dq V0
  grind
 have n2:-(V * N)<=(x.num:Rat):=by
  rw [<- hd]
  have:=Rat.mul_le_mul_of_nonneg_right h1 d0
  have:=Rat.mul_le_mul_of_nonneg_left dq V0
  grind
 unfold qs
 refine Nat.max_le.mpr ⟨bs_le ?_,bs_le (Nat.lt_of_le_of_lt dle hb)⟩
 have a1:(x.num:Rat) < ((2 ^ n:Nat):Rat):=by grind
 have a2:-((2 ^ n:Nat):Rat) < (x.num:Rat):=by grind
 have b1:x.num < ((2 ^ n:Nat):Int):=by exact_mod_cast a1
 have b2:-((2 ^ n:Nat):Int) < x.num:=by
  have:((-((2 ^ n:Nat):Int):Int):Rat) < (x.num:Rat):=by rw [Rat.intCast_neg,Rat.intCast_natCast];exact a2
  exact Rat.intCast_lt_intCast.mp this
 omega
section
variable [Gb]
theorem gG_pos (j:Nat):0 < gG j:=Nat.mul_pos Gb.pos (Nat.pow_pos (by decide))
structure Ft (J K:Nat) (B p S:Rat) (c:Crv):Prop where
 gd:c.Gd
 qd:Qd J K K c
 dv:Dev B c
 pp:c.p<=p
 s1:1<=S * c.s
 s2:c.s<=S
section
variable {c o i a b:Crv} {J K Jo Ko Ji Ki:Nat} {B p S Bo po So Bi pi_ Si M:Rat}
theorem nums_in (ok:c.Ok) (q:Qd J K K c) (hK:K<=J) (dv:Dev B c) (hp:c.p<=p) (hs:c.s<=S) (p1:1<=p) (S1:1<=S) {x:Rat} (hx:x∈c.nums):onG (gG J) x/\-(B+S * p)<=x/\x<=B+S * p:=by
 have s0:=ok.s0
 have p0:=ok.p0
 have B0:0<=B:=by
  obtain ⟨h1,h2⟩:=dv 0
  have h3:=ok.arn_ok 0
  unfold Crv.tri at h1 h2
  dsimp only at h1 h2
  grind
 have sp:0<=c.s * c.p:=Rat.le_of_lt (Rat.mul_pos s0 p0)
 have sp2:c.s * c.p<=S * p:=by
  have:=Rat.mul_le_mul_of_nonneg_left hp (Rat.le_of_lt s0)
  have:=Rat.mul_le_mul_of_nonneg_right hs (show 0<=p by grind)
  grind
 have pS:p<=S * p:=by
  have:=Rat.mul_le_mul_of_nonneg_right S1 (show 0<=p by grind);grind
 have er:c.r=c.s * c.p:=by rw [ok.s,Rat.div_mul_cancel (by grind)]
 have hr0:=ok.r0
 unfold Crv.nums at hx
 rcases List.mem_append.mp hx with hx | hx
 ·have:x=c.p\/x=c.r\/x=(if c.row=[] then c.b else 0):=by simpa using hx
  by_cases hn:c.row=[]
  ·have h1:=ok.p1 hn
   have h2:=(q.s hn).1
   rw [if_pos hn] at this
   rcases this with rfl | rfl | rfl
   ·rw [h1];exact ⟨onG.one,by grind,by grind⟩
   ·refine ⟨?_,by grind,by grind⟩
    rw [er,h1,Rat.mul_one]
    exact h2.dvd (Nat.dvd_trans (gTG K) (gG_dvd hK))
   ·refine ⟨q.b hn,?_,?_⟩
    ·have:=(dv 0).1
     unfold Crv.tri at this
     rw [Crv.arn_str hn] at this
     dsimp only at this
     grind
    ·have:=(dv 0).2
     unfold Crv.tri at this
     rw [Crv.arn_str hn] at this
     dsimp only at this
     grind
  ·rw [if_neg hn] at this
   obtain ⟨h1,h2⟩:=q.per hn
   rcases this with rfl | rfl | rfl
   ·exact ⟨h1,by grind,by grind⟩
   ·exact ⟨h2,by grind,by grind⟩
   ·exact ⟨onG.zero,by grind,by grind⟩
 ·obtain ⟨w,hw,hx⟩:=List.mem_flatMap.mp hx
  have hn:c.row≠[]:=fun z=>by rw [z] at hw;cases hw
  have hpt:=(ok.ok hn).pt w hw
  have a0:=Rat.not_lt.mp hpt.lo
  have a1:=hpt.hi
  obtain ⟨n,hnl,rfl⟩:=row_at hw
  obtain ⟨q1,q2,q3,q4⟩:=q.pt hn n
  obtain ⟨⟨d1,d2⟩,⟨d3,d4⟩,d5,d6⟩:=dv.all ok (c.at n).a
  rw [crv_tri_at ok hn] at d1 d2 d3 d4 d5 d6
  dsimp only at d1 d2 d3 d4 d5 d6
  have m1:=Rat.mul_le_mul_of_nonneg_left a0 (Rat.le_of_lt s0)
  have m2:=Rat.mul_le_mul_of_nonneg_left (Rat.le_of_lt a1) (Rat.le_of_lt s0)
  have:x=(c.at n).a\/x=(c.at n).l\/x=(c.at n).v\/x=(c.at n).r:=by simpa using hx
  rcases this with rfl | rfl | rfl | rfl
  ·exact ⟨q1,by grind,by grind⟩
  ·exact ⟨q2,by grind,by grind⟩
  ·exact ⟨q3,by grind,by grind⟩
  ·exact ⟨q4,by grind,by grind⟩
structure Pf (J:Nat) (B p:Rat) (m:Nat) (c:Crv):Prop where
 gd:c.Gd
 qd:Qd J 0 1 c
 is:IntS m c
 dv:Dev B c
 pp:c.p<=p
end
end
end DL
namespace DL
open PySem PySem.Spec PyProof.Rows L2 Mt
def Fo (c:Crv):Prop:=c.row=[]\/∀ x,(c.arn x).sa=0
section
variable {c o i l:Crv} {u q:Rat}
theorem Fo.str (ho:o.row=[]) (go:o.Ok) (gi:i.Gd) (h:Fo i):Fo (strCN o i):=by
 rcases h with hn | h
 ·left;unfold strCN;rw [hn];rfl
 ·right
  obtain ⟨ok,hs,hF,_⟩:=str_sem ho go gi.ok gi.len
  intro x
  obtain ⟨z,z1,_,z3,_,_⟩:=gi.ok.beh x
  refine sa_of ok hF z1 fun y y1 y2=>?_
  unfold strT Crv.tri
  rw [z3 y y1 y2,h x]
  show o.b+o.s * ((i.arn x).r+0 * (y - x))=o.b+o.s * (i.arn x).r+0 * (y - x)
  grind
theorem Fo.join (ho:o.row≠[]) (hn:i.row≠[]) (go:o.Gd) (gi:i.Gd) (h:∀ x,(i.arn x).sa=0):Fo (joinN o i):=by
 right
 obtain ⟨ok,hs,hF,_⟩:=jn_sem go gi ho hn
 intro x
 obtain ⟨z,z1,_,z3,_,_⟩:=gi.ok.beh x
 refine sa_of ok hF z1 fun y y1 y2=>?_
 unfold jnT
 rw [z3 y y1 y2,h x]
 simp only [if_true]
 have:(i.arn x).r+0 * (y - x)=(i.arn x).r:=by grind
 rw [this];grind
end
theorem Ft.mono {J K J' K':Nat} {B p S B' p' S':Rat} {c:Crv} (h:Ft J K B p S c) (h1:J<=J') (h2:K<=K') (h3:B<=B') (h4:p<=p') (h5:S<=S'):Ft J' K' B' p' S' c:=by
 refine ⟨h.gd,h.qd.mono h1 h2 h2,fun x=>?_,Rat.le_trans h.pp h4,?_,Rat.le_trans h.s2 h5⟩
 ·obtain ⟨a,b⟩:=h.dv x
  constructor <;> grind
 ·have:=Rat.mul_le_mul_of_nonneg_right h5 (Rat.le_of_lt h.gd.ok.s0)
  have:=h.s1
  grind
section
variable {nm:Str->Prop} {T:Str->Option Crv} {P:D->Out}
theorem Pf.mono {J J':Nat} {B p B' p':Rat} {m m':Nat} {c:Crv} (h:Pf J B p m c) (h1:J<=J') (h3:B<=B') (h4:p<=p') (h5:m<=m'):Pf J' B' p' m' c:=by
 refine ⟨h.gd,h.qd.mono h1 (Nat.le_refl _) (Nat.le_refl _),fun x=>?_,fun x=>?_,Rat.le_trans h.pp h4⟩
 ·obtain ⟨n,hn,e⟩:=h.is x
  exact ⟨n,Nat.le_trans hn h5,e⟩
 ·obtain ⟨a,b⟩:=h.dv x
  constructor <;> grind
theorem Pf.ft {B p:Rat} {m:Nat} {c:Crv} (h:Pf 5 B p m c) (h3:B<=8088) (h4:p<=6220800000) (s1:1<=c.s) (s4:c.s<=4):Ft 5 1 8088 6220800000 4 c:=by
 refine ⟨h.gd,h.qd.mono (Nat.le_refl _) (by decide) (Nat.le_refl _),fun x=>?_,Rat.le_trans h.pp h4,by grind,s4⟩
 obtain ⟨a,b⟩:=h.dv x
 constructor <;> grind
def qJ4:Nat->Nat | 0=>0 | 1=>6 | 2=>8 | 3=>11 | _=>15
def qB4:Nat->Rat | 0=>6 | 1=>8112 | 2=>40536 | 3=>170232 | _=>689016
def qp4:Nat->Rat | 0=>6220800000 | 1=>373248000000 | 2=>22394880000000 | 3=>1343692800000000 | _=>80621568000000000
def qS4:Nat->Rat | 0=>1 | 1=>4 | 2=>16 | 3=>64 | _=>256
structure LwC (m:Nat) (c:Crv):Prop where
 ft:Ft (qJ4 m+m) (2 * m) (6+qS4 m * qB4 m) (qp4 m) 1 c
 s:c.s=1
end
theorem LwC.qs {m:Nat} {c:Crv} (h:LwC m c) (hm:m<=4) {x:Rat} (hx:x∈c.nums):qs x<=130:=by
 have f:=h.ft
 have key:Ft 19 8 200000000 100000000000000000 1 c:=by
  have:m=0\/m=1\/m=2\/m=3\/m=4:=by omega
  rcases this with rfl | rfl | rfl | rfl | rfl <;> exact f.mono (by decide) (by decide) (by decide +kernel) (by decide +kernel) Rat.le_refl
 obtain ⟨h1,h2,h3⟩:=nums_in key.gd.ok key.qd (by decide) key.dv key.pp key.s2 (by decide +kernel) Rat.le_refl hx
 exact onG_qs (gG_pos 19) h1 h2 h3 (by decide) (by decide +kernel)
end DL
namespace DL
open Mt
section
variable {a b c d e o i:Crv}
theorem lw_ft (h:LwC 2 a):Ft 10 4 648582 22394880000000 1 a:=by
 have e:=h.ft
 rw [show qJ4 2+2=10 from rfl,show (2 * 2:Nat)=4 from rfl,show (6+qS4 2 * qB4 2:Rat)=648582 by decide +kernel,show qp4 2=22394880000000 from rfl] at e
 exact e
end
section
variable {a b c:Crv} {J K:Nat} {B B' p M:Rat}
structure Sv (J K:Nat) (B p:Rat) (c:Crv):Prop where
 ok:c.Ok
 am:c.row≠[]->∀ q,onG (gG J) (c.at q).a
 vl:∀ x,onG (gG J) x->onG (gG (J+K)) (c.tri x).l/\onG (gG (J+K)) (c.tri x).v/\onG (gG (J+K)) (c.tri x).r
 dv:Dev B c
 pp:c.p<=p
theorem Ft.sv {S:Rat} (h:Ft J K B p S c):Sv J K B p c:=⟨h.gd.ok,fun hn q=>(h.qd.pt hn q).1,fun x hx=>by
 obtain ⟨h1,h2,h3⟩:=h.qd.val h.gd.ok hx
 exact ⟨h1.G (by omega),h2.G (by omega),h3.G (by omega)⟩,h.dv,h.pp⟩
theorem Sv.per (h:Sv J K B p c) (hn:c.row≠[]):onG (gG J) c.p:=by
 have h0:=h.am hn 0
 have h1:=h.am hn (0+1 * c.row.length)
 have e:((1:Int):Rat)=1:=rfl
 rw [c.at_add hn 0 1] at h1
 have:=h1.sub h0
 have z:((c.at 0).mv ((1:Int):Rat) c.p c.r).a - (c.at 0).a=c.p:=by show _+((1:Int):Rat) * c.p - _=_;rw [e];grind
 rwa [z] at this
theorem Sv.sp (h:Sv J K B p c) {x:Rat} (hx:onG (gG J) x) (hm:c.row≠[]->∃ n:Nat,x=n * c.p):onG (gG (J+K)) (c.s * x):=by
 have ok:=h.ok
 have h0:=(h.vl 0 onG.zero).2.1
 have h1:=(h.vl x hx).2.1
 have e:(c.tri x).v - (c.tri 0).v=c.s * x:=by
  by_cases hn:c.row=[]
  ·unfold Crv.tri
   rw [Crv.arn_str hn,Crv.arn_str hn]
   show c.b+c.s * x - (c.b+c.s * 0)=_
   grind
  ·obtain ⟨n,rfl⟩:=hm hn
   have e1:=ok.arn_per 0 (n:Int)
   unfold Crv.tri
   rw [show (n:Rat) * c.p=0+((n:Int):Rat) * c.p by rw [Rat.intCast_natCast];grind,e1]
   show (c.arn 0).v+((n:Int):Rat) * c.r - (c.arn 0).v=_
   have:c.r=c.s * c.p:=by rw [ok.s,Rat.div_mul_cancel (by have:=ok.p0;grind)]
   rw [this];grind
 rw [<- e]
 exact h1.sub h0
theorem Sv.nums (h:Sv J K B p c) (p1:1<=p) {S:Rat} (hs:c.s<=S) (S1:1<=S) {x:Rat} (hx:x∈c.nums):onG (gG (J+K)) x/\-(B+S * p)<=x/\x<=B+S * p:=by
 have ok:=h.ok
 have s0:=ok.s0
 have p0:=ok.p0
 have dv:=h.dv
 have hp:=h.pp
 have B0:0<=B:=by
  obtain ⟨h1,h2⟩:=dv 0
  have h3:=ok.arn_ok 0
  unfold Crv.tri at h1 h2
  dsimp only at h1 h2
  grind
 have sp:0<=c.s * c.p:=Rat.le_of_lt (Rat.mul_pos s0 p0)
 have sp2:c.s * c.p<=S * p:=by
  have:=Rat.mul_le_mul_of_nonneg_left hp (Rat.le_of_lt s0)
  have:=Rat.mul_le_mul_of_nonneg_right hs (show 0<=p by grind)
  grind
 have pS:p<=S * p:=by
  have:=Rat.mul_le_mul_of_nonneg_right S1 (show 0<=p by grind);grind
 have er:c.r=c.s * c.p:=by rw [ok.s,Rat.div_mul_cancel (by grind)]
 have cp:onG (gG J) c.p:=by
  by_cases hn:c.row=[]
  ·rw [ok.p1 hn];exact onG.one
  ·exact h.per hn
 have gr:onG (gG (J+K)) c.r:=by
  rw [er]
  exact h.sp cp fun _=>⟨1,by rw [show ((1:Nat):Rat)=1 from rfl];grind⟩
 unfold Crv.nums at hx
 rcases List.mem_append.mp hx with hx | hx
 ·have:x=c.p\/x=c.r\/x=(if c.row=[] then c.b else 0):=by simpa using hx
  rcases this with rfl | rfl | rfl
  ·exact ⟨cp.G (by omega),by grind,by grind⟩
  ·exact ⟨gr,by grind,by grind⟩
  ·by_cases hn:c.row=[]
   ·rw [if_pos hn]
    have e:(c.tri 0).v=c.b:=by
     unfold Crv.tri
     rw [Crv.arn_str hn]
     show c.b+c.s * 0=_
     grind
    obtain ⟨d1,d2,d3⟩:=dv.all ok 0
    refine ⟨e ▸ (h.vl 0 onG.zero).2.1,?_,?_⟩ <;> grind
   ·rw [if_neg hn];exact ⟨onG.zero,by grind,by grind⟩
 ·obtain ⟨w,hw,hx⟩:=List.mem_flatMap.mp hx
  have hn:c.row≠[]:=fun z=>by rw [z] at hw;cases hw
  have hpt:=(ok.ok hn).pt w hw
  have a0:=Rat.not_lt.mp hpt.lo
  have a1:=hpt.hi
  obtain ⟨n,hnl,rfl⟩:=row_at hw
  have q1:=h.am hn n
  obtain ⟨q2,q3,q4⟩:=h.vl _ q1
  obtain ⟨⟨d1,d2⟩,⟨d3,d4⟩,d5,d6⟩:=dv.all ok (c.at n).a
  rw [crv_tri_at ok hn] at d1 d2 d3 d4 d5 d6 q2 q3 q4
  dsimp only at d1 d2 d3 d4 d5 d6 q2 q3 q4
  have m1:=Rat.mul_le_mul_of_nonneg_left a0 (Rat.le_of_lt s0)
  have m2:=Rat.mul_le_mul_of_nonneg_left (Rat.le_of_lt a1) (Rat.le_of_lt s0)
  have:x=(c.at n).a\/x=(c.at n).l\/x=(c.at n).v\/x=(c.at n).r:=by simpa using hx
  rcases this with rfl | rfl | rfl | rfl
  ·exact ⟨q1.G (by omega),by grind,by grind⟩
  ·exact ⟨q2,by grind,by grind⟩
  ·exact ⟨q3,by grind,by grind⟩
  ·exact ⟨q4,by grind,by grind⟩
end
section
variable {a b c d a' b':Crv} {J K:Nat} {B B' p M:Rat}
theorem Sv.mono {p':Rat} (h:Sv J K B p c) (h4:p<=p'):Sv J K B p' c:=⟨h.ok,h.am,h.vl,h.dv,Rat.le_trans h.pp h4⟩
structure Sm (n:Nat) (c:Crv):Prop where
 gd:c.Gd
 sv:Sv 10 4 (648582 * n) (22394880000000 * 60 ^ (n - 1)) c
 s:c.s=n
theorem Sm.one (h:LwC 2 c):Sm 1 c:=⟨(lw_ft h).gd,by
 have:=(lw_ft h).sv
 have e1:(648582 * ((1:Nat):Rat))=648582:=by decide +kernel
 have e2:(22394880000000 * (60:Rat) ^ (1 - 1))=22394880000000:=by decide +kernel
 rw [e1,e2];exact this,h.s⟩
end
section
variable {a b c d:Crv}
def addT (t s:Tri):Tri:=⟨t.l+s.l,t.v+s.v,t.r+s.r⟩
end
end DL
namespace DL
open PySem PySem.Spec PyProof.Rows L2 Mt
def RgA (M M':Mem):Prop:=∃ L,AllL L/\RgL M L M'
theorem RgA.of {M M':Mem} (g:RgL M [] M'):RgA M M':=⟨[],.nil,g⟩
theorem RgA.at {M M':Mem}:RgA M M'->RgAt M' M.length | ⟨_,_,g⟩=>g.at
theorem RgA.app {M M':Mem} {xs:List D}:RgA M M'->RgA M (M' ++ [some (.lst xs)]) | ⟨_,h,g⟩=>⟨_,h.app .one,g.app⟩
theorem RgA.lt {M M':Mem}:RgA M M'->M.length < M'.length | ⟨_,_,g⟩=>by rw [g.len];omega
structure Tri.sz (t:Tri) (n:Nat):Prop where
 l:qs t.l<=n
 v:qs t.v<=n
 r:qs t.r<=n
theorem Tri.sz.add {t u:Tri} {n:Nat} (h:t.sz n) (g:u.sz 12000):(addT t u).sz (n+12001):=by
 have h1:=h.l;have h2:=h.v;have h3:=h.r;have g1:=g.l;have g2:=g.v;have g3:=g.r
 have a1:=qs_add t.l u.l;have a2:=qs_add t.v u.v;have a3:=qs_add t.r u.r
 exact ⟨by show qs (t.l+u.l)<=_;omega,by show qs (t.v+u.v)<=_;omega,by show qs (t.r+u.r)<=_;omega⟩
noncomputable def rndF (u o x:Rat):Rat:=o+((lowN u o x:Int):Rat) * u
noncomputable def rndC (u o x:Rat):Rat:=o+((if (x - o) / u - (lowN u o x:Rat)=0 then lowN u o x else lowN u o x+1:Int):Rat) * u
noncomputable def rndN (t:Str) (u o x:Rat):Rat:=o+((nrN t (lowN u o x) ((x - o) / u - (lowN u o x:Rat)) 0:Int):Rat) * u
noncomputable def jv1 (w:Str) (a b:Rat):Rat:=if w="sum" then a+b else if w="least" then (if b < a then b else a) else (if a < b then b else a)
noncomputable def joinV (w:Str):List Rat->Rat
 | []=>0
 | a :: r=>r.foldl (jv1 w) a
def Vs:Nat:=400000
inductive VStep (T:Str->Option D) (P:D->Rat->Rat->Prop):D->Rat->Rat->Prop where
 | shift {a x:Rat}:Fr12 a->VStep T P (.tup [.str "shift",qD a]) x (x+a)
 | scale {a x:Rat}:Fr12 a->VStep T P (.tup [.str "scale",qD a]) x (x * a)
 | use {z:Str} {d:D} {x y:Rat}:T z=some d->P d x y->VStep T P (.tup [.str "use",.str z]) x y
 | floor {u o x:Rat}:Fr12 u->0 < u->Fr12 o->VStep T P (.tup [.str "floor",qD u,qD o]) x (rndF u o x)
 | ceiling {u o x:Rat}:Fr12 u->0 < u->Fr12 o->VStep T P (.tup [.str "ceiling",qD u,qD o]) x (rndC u o x)
 | nearest {u o x:Rat} {t:Str}:Fr12 u->0 < u->Fr12 o->(t="up"\/t="down"\/t="even")->VStep T P (.tup [.str "nearest",qD u,qD o,.str t]) x (rndN t u o x)
 | join {w:Str} {ps:List D} {f:D->Rat} {x:Rat}:(w="sum"\/w="least"\/w="greatest")->2<=ps.length->ps.length<=4->(∀ p∈ps,P p x (f p))->VStep T P (.tup (.str w :: ps)) x (joinV w (ps.map f))
def VRun (S:D->Rat->Rat->Prop):List D->Rat->Rat->Prop
 | [],x,y=>x=y/\qs x<=Vs
 | s :: r,x,y=>qs x<=Vs/\∃ z,S s x z/\VRun S r z y
def VPipe (T:Str->Option D):Nat->D->Rat->Rat->Prop
 | 0,_,_,_=>False
 | n+1,d,x,y=>∃ ss,d = .tup ss/\ss.length<=12/\VRun (VStep T (VPipe T n)) ss x y
theorem VRun.fst {S:D->Rat->Rat->Prop}:∀ {ss:List D} {x y:Rat},VRun S ss x y->qs x<=Vs
 | [],_,_,h=>h.2
 | _ :: _,_,_,h=>h.1
theorem VRun.lst {S:D->Rat->Rat->Prop}:∀ {ss:List D} {x y:Rat},VRun S ss x y->qs y<=Vs
 | [],_,_,h=>h.1 ▸ h.2
 | _ :: _,_,_,h=>by obtain ⟨_,z,_,h⟩:=h;exact h.lst
theorem VPipe.sz {T:Str->Option D} {n:Nat} {d:D} {x y:Rat} (h:VPipe T n d x y):qs x<=Vs/\qs y<=Vs:=by
 cases n with
 | zero=>exact h.elim
 | succ n=>obtain ⟨ss,_,_,h⟩:=h;exact ⟨h.fst,h.lst⟩
theorem VStep.mono {T:Str->Option D} {P P':D->Rat->Rat->Prop} (hP:∀ d x y,P d x y->P' d x y) {s:D} {x y:Rat} (h:VStep T P s x y):VStep T P' s x y:=by
 cases h with
 | shift a=>exact .shift a
 | scale a=>exact .scale a
 | use a b=>exact .use a (hP _ _ _ b)
 | floor a b c=>exact .floor a b c
 | ceiling a b c=>exact .ceiling a b c
 | nearest a b c d=>exact .nearest a b c d
 | join a b c d=>exact .join a b c fun p hp=>hP _ _ _ (d p hp)
theorem VRun.mono {S S':D->Rat->Rat->Prop} (hS:∀ s x y,S s x y->S' s x y):∀ {ss:List D} {x y:Rat},VRun S ss x y->VRun S' ss x y
 | [],_,_,h=>h
 | _ :: _,_,_,⟨a,z,b,c⟩=>⟨a,z,hS _ _ _ b,c.mono hS⟩
theorem VPipe.up {T:Str->Option D}:∀ {n:Nat} {d:D} {x y:Rat},VPipe T n d x y->VPipe T (n+1) d x y
 | n+1,d,x,y,⟨ss,e,l,h⟩=>⟨ss,e,l,h.mono fun s x y k=>k.mono fun d x y q=>VPipe.up q⟩
theorem VPipe.mono {T:Str->Option D} {n m:Nat} {d:D} {x y:Rat} (h:VPipe T n d x y) (hm:n<=m):VPipe T m d x y:=by
 induction hm with
 | refl=>exact h
 | step _ ih=>exact ih.up
theorem VRun.app {S:D->Rat->Rat->Prop}:∀ {ss tt:List D} {x y z:Rat},VRun S ss x y->VRun S tt y z->VRun S (ss ++ tt) x z
 | [],_,_,_,_,h,k=>by rw [List.nil_append,h.1];exact k
 | _ :: _,_,_,_,_,⟨a,w,b,c⟩,k=>⟨a,w,b,c.app k⟩
structure Vz (N A J:Nat) (x:Rat):Prop where
 g:onG (N * 12 ^ J) x
 lo:-((A * 4 ^ J:Nat):Rat)<=x
 hi:x<=((A * 4 ^ J:Nat):Rat)
section
variable {N A J J':Nat} {x y:Rat}
theorem Vz.up (h:Vz N A J x) (hj:J<=J'):Vz N A J' x:=by
 have e:A * 4 ^ J<=A * 4 ^ J':=Nat.mul_le_mul_left _ (Nat.pow_le_pow_right (by decide) hj)
 have e:=Rat.natCast_le_natCast.mpr e
 exact ⟨h.g.dvd (Nat.mul_dvd_mul_left _ (Nat.pow_dvd_pow _ hj)),by have:=h.lo;grind,by have:=h.hi;grind⟩
theorem pow16 (J:Nat):12 ^ J<=2 ^ (4 * J):=by
 rw [Nat.pow_mul]
 exact Nat.pow_le_pow_left (by decide) _
theorem pow4 (J:Nat):4 ^ J=2 ^ (2 * J):=by rw [Nat.pow_mul]
theorem Vz.qs (h:Vz N A J x) (hN0:0 < N) (hN:N<=2 ^ 100) (hA:A<=2 ^ 100) (hJ:J<=3000):Mt.qs x<=Vs:=by
 have h0:0 < N * 12 ^ J:=Nat.mul_pos hN0 (Nat.pow_pos (by decide))
 have h1:N * 12 ^ J<=2 ^ (100+4 * J):=by
  rw [Nat.pow_add];exact Nat.mul_le_mul hN (pow16 J)
 have h2:A * 4 ^ J<=2 ^ (100+2 * J):=by
  rw [Nat.pow_add,pow4];exact Nat.mul_le_mul_right _ hA
 have h3:(A * 4 ^ J) * (N * 12 ^ J)<=2 ^ ((100+2 * J)+(100+4 * J)):=by
  rw [Nat.pow_add];exact Nat.mul_le_mul h2 h1
 have hn:(100+2 * J)+(100+4 * J) < Vs:=by show _ < 400000;omega
 refine onG_qs h0 h.g h.lo h.hi (Nat.lt_of_le_of_lt h1 (Nat.pow_lt_pow_right (by decide) (by omega))) ?_
 have:=Nat.lt_of_le_of_lt h3 (Nat.pow_lt_pow_right (a:=2) (by decide) hn)
 have:=Rat.natCast_lt_natCast.mpr this
 rwa [Rat.natCast_mul] at this
theorem Vz.pow (J:Nat):((A * 4 ^ (J+1):Nat):Rat)=4 * ((A * 4 ^ J:Nat):Rat):=by
 rw [show A * 4 ^ (J+1)=4 * (A * 4 ^ J) by rw [Nat.pow_succ];grind,Rat.natCast_mul];rfl
theorem Vz.six (hA:6<=A) (J:Nat):(6:Rat)<=((A * 4 ^ J:Nat):Rat):=by
 have:6 * 1<=A * 4 ^ J:=Nat.mul_le_mul hA (Nat.pow_pos (n:=J) (show 0 < 4 by decide))
 have:=Rat.natCast_le_natCast.mpr this
 have e:((6 * 1:Nat):Rat)=6:=rfl
 rwa [e] at this
theorem on12 (hN:12 ∣ N) (h:∃ z:Int,12 * x=z):onG (N * 12 ^ J) x:=by
 have:onG 12 x:=h
 exact this.dvd (Nat.dvd_trans hN (Nat.dvd_mul_right _ _))
theorem Vz.shift (h:Vz N A J x) (hN:12 ∣ N) (hA:6<=A) {o:Rat} (ho:Of o):Vz N A (J+1) (x+o):=by
 have h6:=Vz.six hA J
 have e:=Vz.pow (A:=A) J
 have:=h.lo;have:=h.hi;have:=ho.lo;have:=ho.hi
 exact ⟨(h.up (Nat.le_succ J)).g.add (on12 hN ho.i),by grind,by grind⟩
structure Sl (u:Rat):Prop where
 pos:0 < u
 j:∃ z:Int,12 * u=z
 hi:u<=4
theorem Un.sl {u:Rat} (h:Un u):Sl u:=⟨h.pos,h.i,h.hi⟩
theorem Vz.scale (h:Vz N A J x) {u:Rat} (hu:Sl u):Vz N A (J+1) (x * u):=by
 have e:=Vz.pow (A:=A) J
 have h1:=h.lo;have h2:=h.hi;have u0:=hu.pos;have u4:=hu.hi
 have g:onG (N * 12 ^ J * 12) (x * u):=h.g.mul hu.j
 have a0:(0:Rat)<=((A * 4 ^ J:Nat):Rat):=by exact_mod_cast Nat.zero_le _
 have m1:x * u<=((A * 4 ^ J:Nat):Rat) * u:=Rat.mul_le_mul_of_nonneg_right h2 (Rat.le_of_lt u0)
 have m2:((A * 4 ^ J:Nat):Rat) * u<=((A * 4 ^ J:Nat):Rat) * 4:=Rat.mul_le_mul_of_nonneg_left u4 a0
 have m3:-((A * 4 ^ J:Nat):Rat) * u<=x * u:=Rat.mul_le_mul_of_nonneg_right h1 (Rat.le_of_lt u0)
 exact ⟨by rw [Nat.pow_succ,<- Nat.mul_assoc];exact g,by grind,by grind⟩
end
section
variable {N A J:Nat}
theorem jv_in {w:Str} {B:Rat} {g:Nat} (B0:0<=B):∀ (r:List Rat) (a:Rat) (m:Nat),onG g a->(∀ y∈r,onG g y)->-((m:Rat) * B)<=a->a<=(m:Rat) * B->1<=m->(∀ y∈r,-B<=y/\y<=B) ->
  onG g (r.foldl (jv1 w) a)/\-(((m+r.length:Nat):Rat) * B)<=r.foldl (jv1 w) a/\r.foldl (jv1 w) a<=((m+r.length:Nat):Rat) * B
 | [],a,m,ga,_,l,h,_,_=>⟨ga,l,h⟩
 | y :: r,a,m,ga,gr,l,h,m1,hr=>by
  obtain ⟨y1,y2⟩:=hr y (List.mem_cons_self ..)
  have gy:=gr y (List.mem_cons_self ..)
  have mB:B<=(m:Rat) * B:=by
   have:((1:Nat):Rat)<=(m:Rat):=Rat.natCast_le_natCast.mpr m1
   have:=Rat.mul_le_mul_of_nonneg_right this B0
   rwa [show ((1:Nat):Rat)=1 from rfl,Rat.one_mul] at this
  have e:((m+1:Nat):Rat) * B=(m:Rat) * B+B:=by
   rw [Rat.natCast_add,show ((1:Nat):Rat)=1 from rfl];grind
  have step:onG g (jv1 w a y)/\-(((m+1:Nat):Rat) * B)<=jv1 w a y/\jv1 w a y<=((m+1:Nat):Rat) * B:=by
   rw [e]
   unfold jv1
   split
   ·exact ⟨ga.add gy,by grind,by grind⟩
   ·split
    ·split
     ·exact ⟨gy,by grind,by grind⟩
     ·exact ⟨ga,by grind,by grind⟩
    ·split
     ·exact ⟨gy,by grind,by grind⟩
     ·exact ⟨ga,by grind,by grind⟩
  have:=jv_in (w:=w) B0 r (jv1 w a y) (m+1) step.1 (fun z hz=>gr z (List.mem_cons_of_mem _ hz)) step.2.1 step.2.2 (by omega) (fun z hz=>hr z (List.mem_cons_of_mem _ hz))
  rw [List.length_cons,show m+(r.length+1)=m+1+r.length by omega]
  exact this
theorem Vz.join {w:Str} {ys:List Rat} (h:∀ y∈ys,Vz N A J y) (h1:1<=ys.length) (h4:ys.length<=4):Vz N A (J+1) (joinV w ys):=by
 cases ys with
 | nil=>cases h1
 | cons a r =>
  have a0:(0:Rat)<=((A * 4 ^ J:Nat):Rat):=by exact_mod_cast Nat.zero_le _
  have ha:=h a (List.mem_cons_self ..)
  have hr:∀ y∈r,Vz N A J y:=fun y hy=>h y (List.mem_cons_of_mem _ hy)
  obtain ⟨g,l,u⟩:=jv_in (w:=w) (g:=N * 12 ^ J) a0 r a 1 ha.g (fun y hy=>(hr y hy).g) (by have:=ha.lo;rw [show ((1:Nat):Rat)=1 from rfl,Rat.one_mul];exact this) (by have:=ha.hi;rw [show ((1:Nat):Rat)=1 from rfl,Rat.one_mul];exact this) (by decide) (fun y hy=>⟨(hr y hy).lo,(hr y hy).hi⟩)
  have e:=Vz.pow (A:=A) J
  have m:((1+r.length:Nat):Rat) * ((A * 4 ^ J:Nat):Rat)<=4 * ((A * 4 ^ J:Nat):Rat):=by
   have:((1+r.length:Nat):Rat)<=((4:Nat):Rat):=Rat.natCast_le_natCast.mpr (by rw [List.length_cons] at h4;omega)
   exact Rat.mul_le_mul_of_nonneg_right this a0
  exact ⟨g.dvd (Nat.mul_dvd_mul_left _ (Nat.pow_dvd_pow _ (Nat.le_succ _))),by show _<=r.foldl (jv1 w) a;grind,by show r.foldl (jv1 w) a<=_;grind⟩
def Gv (N A:Nat) (T:Str->Option D) (n L:Nat) (d:D):Prop:=∀ (J:Nat) (x:Rat),J+L<=3000->Vz N A J x->∃ y,VPipe T n d x y/\Vz N A (J+L) y
variable {T:Str->Option D} {nm:Str->Prop} {n L k:Nat}
theorem Gv.mono {n n' L L':Nat} {d:D} (h:Gv N A T n L d) (hn:n<=n') (hL:L<=L'):Gv N A T n' L' d:=fun J x hJ hx=>by
 obtain ⟨y,h1,h2⟩:=h J x (by omega) hx
 exact ⟨y,h1.mono hn,h2.up (by omega)⟩
end
inductive NErr where
 | cyc (z:Str) | unk (z:Str)
def NErr.ex (K:PySem.W.Frag):NErr->Exn
 | .cyc z=>⟨He.ga K "Cycle",[("name",.str z),("code",.str "Cycle")]⟩
 | .unk z=>⟨He.ga K "UnknownName",[("name",.str z),("code",.str "UnknownName")]⟩
def NErr.row:NErr->D
 | .cyc z=>.tup [.str "no",.str "Cycle",.str z]
 | .unk z=>.tup [.str "no",.str "UnknownName",.str z]
theorem NErr.hb (K:PySem.W.Frag) (e:NErr) (n:Nat):D.hbs n ((e.ex K).fs.map (·.2))=true:=by cases e <;> rfl
theorem nd_len {α:Type}:∀ {l k:List α},l.Nodup->(∀ x∈l,x∈k)->l.length<=k.length
 | [],_,_,_=>Nat.zero_le _
 | a :: l,k,h,hs=>by
  obtain ⟨h1,h2⟩:=List.nodup_cons.mp h
  have ha:=hs a (List.mem_cons_self ..)
  obtain ⟨s,t,rfl⟩:=List.append_of_mem ha
  have:=nd_len (k:=s ++ t) h2 fun x hx=>by
   have:=hs x (List.mem_cons_of_mem _ hx)
   rw [List.mem_append,List.mem_cons] at this
   rw [List.mem_append]
   rcases this with h | rfl | h
   ·exact .inl h
   ·exact absurd hx h1
   ·exact .inr h
  rw [List.length_append] at this
  rw [List.length_cons,List.length_append,List.length_cons]
  omega
structure Fw (T:Str->Option D) (KS:List Str) (n:Nat) (path dn:List Str):Prop where
 pn:path.Nodup
 pk:∀ z∈path,z∈KS
 nn:dn.Nodup
 dk:∀ z∈dn,z∈KS
 fu:KS.length < path.length+n
theorem Fw.pos {T:Str->Option D} {KS:List Str} {n:Nat} {path dn:List Str} (h:Fw T KS n path dn):0 < n:=by
 have:=nd_len h.pn h.pk
 have:=h.fu
 omega
def Fq12 (q:Rat):Prop:=q.num.natAbs < 10 ^ 12/\q.den < 10 ^ 12
inductive TStep (nm:Str->Prop) (P:D->Prop):D->Prop where
 | shift {a:Rat}:Fq12 a->TStep nm P (.tup [.str "shift",qD a])
 | scale {a:Rat}:Fq12 a->0 < a->TStep nm P (.tup [.str "scale",qD a])
 | use {z:Str}:nm z->TStep nm P (.tup [.str "use",.str z])
 | floor {u o:Rat}:Fq12 u->0 < u->Fq12 o->TStep nm P (.tup [.str "floor",qD u,qD o])
 | ceiling {u o:Rat}:Fq12 u->0 < u->Fq12 o->TStep nm P (.tup [.str "ceiling",qD u,qD o])
 | nearest {u o:Rat} {t:Str}:Fq12 u->0 < u->Fq12 o->(t="up"\/t="down"\/t="even")->TStep nm P (.tup [.str "nearest",qD u,qD o,.str t])
 | join {w:Str} {ps:List D}:(w="sum"\/w="least"\/w="greatest")->2<=ps.length->ps.length<=4->(∀ p∈ps,P p)->TStep nm P (.tup (.str w :: ps))
def TPipe (nm:Str->Prop):Nat->D->Prop
 | 0,_=>False
 | n+1,d=>∃ ss,d = .tup ss/\ss.length<=12/\∀ s∈ss,TStep nm (TPipe nm n) s
theorem fr_12 {q:Rat} (h:Fr12 q):Fq12 q:=h.b
theorem PStep.t {nm:Str->Prop} {P P':D->Prop} (hP:∀ d,P d->P' d) {d:D} (h:PStep nm P d):TStep nm P' d:=by
 cases h with
 | shift a=>exact .shift (fr_12 a)
 | scale a b=>exact .scale (fr_12 a) b
 | use a=>exact .use a
 | floor a b c=>exact .floor (fr_12 a) b (fr_12 c)
 | ceiling a b c=>exact .ceiling (fr_12 a) b (fr_12 c)
 | nearest a b c d=>exact .nearest (fr_12 a) b (fr_12 c) d
 | join a b c d=>exact .join a b c fun p hp=>hP p (d p hp)
theorem PPipe.t {nm:Str->Prop}:∀ {n:Nat} {d:D},PPipe nm n d->TPipe nm n d
 | n+1,d,⟨ss,e,l,h⟩=>⟨ss,e,l,fun s hs=>(h s hs).t fun _ q=>PPipe.t q⟩
theorem TStep.mono {nm:Str->Prop} {P P':D->Prop} (hP:∀ d,P d->P' d) {d:D} (h:TStep nm P d):TStep nm P' d:=by
 cases h with
 | shift a=>exact .shift a
 | scale a b=>exact .scale a b
 | use a=>exact .use a
 | floor a b c=>exact .floor a b c
 | ceiling a b c=>exact .ceiling a b c
 | nearest a b c d=>exact .nearest a b c d
 | join a b c d=>exact .join a b c fun p hp=>hP p (d p hp)
theorem TPipe.up {nm:Str->Prop}:∀ {n:Nat} {d:D},TPipe nm n d->TPipe nm (n+1) d
 | n+1,d,⟨ss,e,l,h⟩=>⟨ss,e,l,fun s hs=>(h s hs).mono fun _ q=>TPipe.up q⟩
theorem TPipe.mono {nm:Str->Prop} {n m:Nat} {d:D} (h:TPipe nm n d) (hm:n<=m):TPipe nm m d:=by
 induction hm with
 | refl=>exact h
 | step _ ih=>exact ih.up
def dpt (c:Nat):Int:=(if c=40 then 1 else 0) - (if c=41 then 1 else 0)
def Bal (e:Int):Int->List Nat->Prop
 | d,[]=>d=e
 | d,c :: r=>0<=d+dpt c/\Bal e (d+dpt c) r
def NoC (x:Nat):Int->List Nat->Prop
 | _,[]=>True
 | d,c :: r=>(d+dpt c=0->c≠x)/\NoC x (d+dpt c) r
def Mx (k:Int):Int->List Nat->Prop
 | _,[]=>True
 | d,c :: r=>d+dpt c<=k/\Mx k (d+dpt c) r
theorem Bal.app {e f:Int}:∀ {l m:List Nat} {d:Int},Bal e d l->Bal f e m->Bal f d (l ++ m)
 | [],m,d,h,k=>by cases (show d=e from h);exact k
 | c :: r,m,d,h,k=>⟨h.1,Bal.app h.2 k⟩
theorem NoC.app {x:Nat} {e:Int}:∀ {l m:List Nat} {d:Int},Bal e d l->NoC x d l->NoC x e m->NoC x d (l ++ m)
 | [],m,d,h,_,k=>by cases (show d=e from h);exact k
 | c :: r,m,d,h,g,k=>⟨g.1,NoC.app h.2 g.2 k⟩
theorem Mx.app {k e:Int}:∀ {l m:List Nat} {d:Int},Bal e d l->Mx k d l->Mx k e m->Mx k d (l ++ m)
 | [],m,d,h,_,q=>by cases (show d=e from h);exact q
 | c :: r,m,d,h,g,q=>⟨g.1,Mx.app h.2 g.2 q⟩
theorem Mx.mono {k k':Int} (h:k<=k'):∀ {l:List Nat} {d:Int},Mx k d l->Mx k' d l
 | [],_,_=>trivial
 | c :: r,d,g=>⟨Int.le_trans g.1 h,Mx.mono h g.2⟩
def Wd (l:List Nat):Prop:=∀ c∈l,c≠32/\c≠40/\c≠41/\c≠59/\c≠124
def Sgn (l:List Nat):Prop:=∀ c∈l,c≠40/\c≠41/\c≠59/\c≠124
theorem dpt_0 {c:Nat} (h1:c≠40) (h2:c≠41):dpt c=0:=by unfold dpt;rw [if_neg h1,if_neg h2];rfl
theorem Sgn.all {l:List Nat} (h:Sgn l) {x:Nat} (hx:x=59\/x=124) {k:Int} (hk:0<=k):Bal 0 0 l/\NoC x 0 l/\Mx k 0 l:=by
 induction l with
 | nil=>exact ⟨rfl,trivial,trivial⟩
 | cons c r ih =>
  obtain ⟨h1,h2,h3,h4⟩:=h c (List.mem_cons_self ..)
  obtain ⟨i1,i2,i3⟩:=ih fun c hc=>h c (List.mem_cons_of_mem _ hc)
  have e:(0:Int)+dpt c=0:=by rw [dpt_0 h1 h2];rfl
  refine ⟨⟨by rw [e];decide,by rw [e];exact i1⟩,⟨fun _=>by rcases hx with rfl | rfl <;> assumption,by rw [e];exact i2⟩,⟨by rw [e];exact hk,by rw [e];exact i3⟩⟩
theorem Wd.sp {l:List Nat} (h:Wd l):Sgn l:=fun c hc=>(h c hc).2
theorem Sgn.app {l m:List Nat} (h:Sgn l) (k:Sgn m):Sgn (l ++ m):=fun c hc=>(List.mem_append.mp hc).elim (h c) (k c)
theorem TStep.hb {nm:Str->Prop} {P:D->Prop} {m:Nat} (hP:∀ d,P d->D.hb m d=true) {d:D} (h:TStep nm P d):D.hb m d=true:=by
 cases h with
 | @join w ps hw h2 h4 hp =>
  exact hbs_all (l:=.str w :: ps) fun x hx=>by
   rcases List.mem_cons.mp hx with rfl | hx
   ·rfl
   ·exact hP x (hp x hx)
 | _=>rfl
theorem TPipe.hb {nm:Str->Prop} {m:Nat}:∀ {n:Nat} {d:D},TPipe nm n d->D.hb m d=true
 | n+1,d,⟨ss,e,l,h⟩=>by
  subst e
  exact hbs_all (l:=ss) fun s hs=>(h s hs).hb fun d hd=>TPipe.hb hd
theorem TStep.of {nm:Str->Prop} {P P':D->Prop} (hP:∀ d,P d->P' d) {d:D} (h:PStep nm P d):TStep nm P' d:=h.t hP
mutual
def pt:D->Bool
 | .int _=>true
 | .str z=>PyData.strOk z
 | .tup xs=>pts xs
 | _=>false
def pts:List D->Bool
 | []=>true
 | x :: xs=>pt x && pts xs
end
theorem pts_all:∀ {l:List D},(∀ d∈l,pt d=true)->pts l=true
 | [],_=>rfl
 | d :: r,h=>by
  show (pt d && pts r)=true
  rw [h d (List.mem_cons_self ..),pts_all fun x hx=>h x (List.mem_cons_of_mem _ hx)];rfl
theorem TStep.pt {nm:Str->Prop} {P:D->Prop} (hn:∀ z,nm z->PyData.strOk z=true) (hP:∀ d,P d->DL.pt d=true) {d:D} (h:TStep nm P d):DL.pt d=true:=by
 cases h with
 | shift a=>show (PyData.strOk "shift" && (true && true))=true;decide +kernel
 | scale a b=>show (PyData.strOk "scale" && (true && true))=true;decide +kernel
 | @use z hz =>
  show (PyData.strOk "use" && (PyData.strOk z && true))=true
  rw [hn z hz];decide +kernel
 | floor a b c=>show (PyData.strOk "floor" && (true && (true && true)))=true;decide +kernel
 | ceiling a b c=>show (PyData.strOk "ceiling" && (true && (true && true)))=true;decide +kernel
 | @nearest u o t a b c ht =>
  show (PyData.strOk "nearest" && (true && (true && (PyData.strOk t && true))))=true
  rcases ht with rfl | rfl | rfl <;> decide +kernel
 | @join w ps hw h2 h4 hp =>
  have h1:=pts_all fun x hx=>hP x (hp x hx)
  show (PyData.strOk w && pts ps)=true
  rw [h1]
  rcases hw with rfl | rfl | rfl <;> decide +kernel
theorem TPipe.pt {nm:Str->Prop} (hn:∀ z,nm z->PyData.strOk z=true):∀ {n:Nat} {d:D},TPipe nm n d->DL.pt d=true
 | n+1,d,⟨ss,e,l,h⟩=>by
  subst e
  exact pts_all fun s hs=>(h s hs).pt hn fun d hd=>TPipe.pt hn hd
theorem pus_mem:∀ {xs:List D} {x:D},pus xs=true->x∈xs->pu x=true
 | y :: ys,x,h,hx=>by
  have h:(pu y && pus ys)=true:=h
  rw [Bool.and_eq_true] at h
  rcases List.mem_cons.mp hx with rfl | hx
  ·exact h.1
  ·exact pus_mem h.2 hx
theorem pus_of:∀ {xs:List D},(∀ x∈xs,pu x=true)->pus xs=true
 | [],_=>rfl
 | y :: ys,h=>by
  show (pu y && pus ys)=true
  rw [h y (List.mem_cons_self ..),pus_of fun x hx=>h x (List.mem_cons_of_mem _ hx)];rfl
theorem pu_tp {xs:List D} (h:pu (.tup xs)=true):xs.length<=sizeLine/\∀ x∈xs,pu x=true:=by
 obtain ⟨h1,h2⟩:=pu_seq h
 exact ⟨h1,fun x hx=>pus_mem h2 hx⟩
theorem pu_mk {xs:List D} (h:xs.length<=sizeLine) (h2:∀ x∈xs,pu x=true):pu (.tup xs)=true:=by
 show (decide (xs.length<=sizeLine) && pus xs)=true
 rw [decide_eq_true h,pus_of h2];rfl
def SS:List Str:=["shift","scale","use","floor","ceiling","nearest","sum","least","greatest","up","down","even","ab","a","","Up"]
def lf:D->Bool
 | .non=>true
 | .int i=>decide (i.natAbs<=10 ^ 12)
 | .str z=>decide (z∈SS)
 | _=>false
def Pn:Nat->D->Bool
 | n+1,.tup xs=>xs.all (Pn n)
 | _,d=>lf d
theorem Pn.tup {n:Nat} {xs:List D}:Pn (n+1) (.tup xs)=xs.all (Pn n):=rfl
theorem Pn.lf {n:Nat} {d:D} (h:lf d=true):Pn n d=true:=by
 cases n with
 | zero=>cases d <;> first | exact h | cases h
 | succ n=>cases d <;> first | exact h | cases h
theorem Pn.cases {n:Nat} {d:D} (h:Pn n d=true):DL.lf d=true\/∃ m xs,n=m+1/\d = .tup xs/\∀ x∈xs,Pn m x=true:=by
 unfold Pn at h
 split at h
 ·rename_i m xs
  exact .inr ⟨m,xs,rfl,rfl,List.all_eq_true.mp h⟩
 ·exact .inl h
theorem Pn.up:∀ {n:Nat} {d:D},Pn n d=true->Pn (n+1) d=true
 | n,d,h=>by
  rcases Pn.cases h with h | ⟨m,xs,rfl,rfl,h3⟩
  ·exact Pn.lf h
  ·rw [Pn.tup,List.all_eq_true]
   exact fun x hx=>Pn.up (h3 x hx)
theorem Pn.mono {n m:Nat} {d:D} (h:Pn n d=true) (hm:n<=m):Pn m d=true:=by
 induction hm with
 | refl=>exact h
 | step _ ih=>exact Pn.up ih
theorem ss_len {z:Str} (h:z∈SS):z.length<=8:=by
 have:∀ z∈SS,z.length<=8:=by decide +kernel
 exact this z h
def PlD (d:D):Prop:=pu d=true/\Pn 30 d=true
theorem PlD.tp {xs:List D} (h:PlD (.tup xs)):xs.length<=sizeLine/\∀ x∈xs,PlD x:=by
 obtain ⟨h1,h2⟩:=h
 obtain ⟨h3,h4⟩:=pu_tp h1
 refine ⟨h3,fun x hx=>⟨h4 x hx,?_⟩⟩
 rcases Pn.cases h2 with h | ⟨k,ys,hk,e,h⟩
 ·cases h
 ·cases e;exact Pn.mono (h x hx) (by omega)
theorem PlD.str {z:Str} (h:PlD (.str z)):z.length<=sizeLine:=by
 obtain ⟨_,h2⟩:=h
 exact Nat.le_trans (ss_len (of_decide_eq_true h2)) (by decide)
theorem pzs_of:∀ {xs:List D},(∀ x∈xs,pz x=true)->pzs xs=true
 | [],_=>rfl
 | y :: ys,h=>by
  show (pz y && pzs ys)=true
  rw [h y (List.mem_cons_self ..),pzs_of fun x hx=>h x (List.mem_cons_of_mem _ hx)];rfl
theorem dps_of {k:Nat}:∀ {xs:List D},(∀ x∈xs,dp x<=k)->dps xs<=k
 | [],_=>Nat.zero_le _
 | y :: ys,h=>Nat.max_le.mpr ⟨h y (List.mem_cons_self ..),dps_of fun x hx=>h x (List.mem_cons_of_mem _ hx)⟩
theorem Pn.pz:∀ {n:Nat} {d:D},Pn n d=true->DL.pz d=true/\dp d<=n
 | n,d,h=>by
  rcases Pn.cases h with h | ⟨m,xs,rfl,rfl,h3⟩
  ·have hs:∀ z∈SS,PyData.strOk z=true:=by decide +kernel
   cases d with
   | str z=>exact ⟨hs z (of_decide_eq_true h),Nat.zero_le _⟩
   | non=>exact ⟨rfl,Nat.zero_le _⟩
   | int i=>exact ⟨rfl,Nat.zero_le _⟩
   | _=>cases h
  ·exact ⟨pzs_of fun x hx=>(Pn.pz (h3 x hx)).1,Nat.succ_le_succ (dps_of fun x hx=>(Pn.pz (h3 x hx)).2)⟩
mutual
def wt:D->Nat
 | .tup xs=>1+wts xs
 | _=>1
def wts:List D->Nat
 | []=>0
 | x :: xs=>wt x+wts xs
end
theorem wt_pos (d:D):1<=wt d:=by cases d <;> first | exact Nat.le_refl _ | exact Nat.le_add_right _ _
theorem len_wts:∀ (l:List D),l.length<=wts l
 | []=>Nat.le_refl _
 | x :: l=>by
  have:=wt_pos x
  have:=len_wts l
  show l.length+1<=wt x+wts l
  omega
theorem wt_mem:∀ {l:List D} {x:D},x∈l->wt x<=wts l
 | y :: l,x,h=>by
  show wt x<=wt y+wts l
  rcases List.mem_cons.mp h with rfl | h
  ·omega
  ·have:=wt_mem h;omega
theorem Pn.pu:∀ {n:Nat} {d:D},Pn n d=true->wt d<=sizeLine->DL.pu d=true
 | n,d,h,hw=>by
  rcases Pn.cases h with h | ⟨m,xs,rfl,rfl,h3⟩
  ·cases d <;> first | rfl | cases h
  ·have hw:1+wts xs<=sizeLine:=hw
   have hl:=len_wts xs
   exact pu_mk (by omega) fun x hx=>Pn.pu (h3 x hx) (by have:=wt_mem hx;omega)
theorem Pn.hb:∀ {n:Nat} {d:D},Pn n d=true->∀ k,d.hb k=true
 | n,d,h,k=>by
  rcases Pn.cases h with h | ⟨m,xs,rfl,rfl,h3⟩
  ·cases d <;> first | rfl | cases h
  ·exact hbs_all fun x hx=>Pn.hb (h3 x hx) k
theorem PlD.of {n:Nat} {d:D} (h:Pn n d=true) (hn:n<=30) (hw:wt d<=3000):PlD d:=⟨Pn.pu h (by have:sizeLine=16777216:=rfl;omega),Pn.mono h hn⟩
def Od (d:D):Prop:=Pn 3 d=true/\wt d<=8
instance {d:D}:Decidable (Od d):=inferInstanceAs (Decidable (_/\_))
structure Vx (N a:Nat) (x:Rat):Prop where
 g:onG N x
 lo:-((2 ^ a:Nat):Rat)<=x
 hi:x<=((2 ^ a:Nat):Rat)
theorem Vx.qs {N a e:Nat} {x:Rat} (h:Vx N a x) (h0:0 < N) (hN:N<=2 ^ e) (hs:e+a+2<=Vs):Mt.qs x<=Vs:=by
 refine onG_qs h0 h.g h.lo h.hi (Nat.lt_of_le_of_lt hN (Nat.pow_lt_pow_right (by decide) (by omega))) ?_
 have:2 ^ a * N < 2 ^ Vs:=by
  refine Nat.lt_of_le_of_lt (Nat.mul_le_mul_left _ hN) ?_
  rw [<- Nat.pow_add]
  exact Nat.pow_lt_pow_right (by decide) (by omega)
 have:=Rat.natCast_lt_natCast.mpr this
 rwa [Rat.natCast_mul] at this
theorem Vx.up {N a b:Nat} {x:Rat} (h:Vx N a x) (hb:a<=b):Vx N b x:=by
 have:=Rat.natCast_le_natCast.mpr (Nat.pow_le_pow_right (show 0 < 2 by decide) hb)
 exact ⟨h.g,by have:=h.lo;grind,by have:=h.hi;grind⟩
theorem fr_v {a:Rat} (h:Fr12 a):0 < a.den/\a.den<=2 ^ 40/\Vx a.den 40 a:=by
 obtain ⟨h1,h2⟩:=h.b
 have hd:=a.den_pos
 have hdr:(1:Rat)<=(a.den:Rat):=by exact_mod_cast hd
 have hx:a * (a.den:Rat)=(a.num:Rat):=by
  have hd0:(a.den:Rat)≠0:=fun z=>by rw [z] at hdr;exact absurd hdr (by decide +kernel)
  have h1:(a.num:Rat) / (a.den:Rat) * (a.den:Rat)=(a.num:Rat):=Rat.div_mul_cancel hd0
  have h2:(a.num:Rat) / ((a.den:Int):Rat)=a:=by rw [<- Rat.divInt_eq_div,Rat.num_divInt_den]
  rw [Rat.intCast_natCast] at h2
  rwa [h2] at h1
 have h4:(a.num:Rat)<=((2 ^ 40:Nat):Rat)/\-((2 ^ 40:Nat):Rat)<=(a.num:Rat):=by
  have u:a.num<=((2 ^ 40:Nat):Int):=by omega
  have v:-((2 ^ 40:Nat):Int)<=a.num:=by omega
  have u:=Rat.intCast_le_intCast.mpr u
  have v:=Rat.intCast_le_intCast.mpr v
  rw [Rat.intCast_natCast] at u
  rw [Rat.intCast_neg,Rat.intCast_natCast] at v
  exact ⟨u,v⟩
 have a0:(0:Rat)<=((2 ^ 40:Nat):Rat):=by exact_mod_cast Nat.zero_le _
 refine ⟨hd,by omega,⟨a.num,by rw [Rat.mul_comm];exact hx⟩,?_,?_⟩
 ·by_cases ha:0<=a
  ·grind
  ·have:=Rat.mul_le_mul_of_nonneg_right hdr (show (0:Rat)<=-a by grind)
   grind
 ·by_cases ha:0<=a
  ·have:=Rat.mul_le_mul_of_nonneg_right hdr ha
   grind
  ·grind
theorem pw_add (a b:Nat) (h:40<=b):((2 ^ (a+41):Nat):Rat)=2 * ((2 ^ (a+40):Nat):Rat):=by
 rw [show a+41=a+40+1 by omega,Nat.pow_succ,Nat.mul_comm,Rat.natCast_mul];rfl
theorem pw_mul (a b:Nat):((2 ^ (a+b):Nat):Rat)=((2 ^ a:Nat):Rat) * ((2 ^ b:Nat):Rat):=by rw [Nat.pow_add,Rat.natCast_mul]
theorem pw_le {a b:Nat} (h:a<=b):((2 ^ a:Nat):Rat)<=((2 ^ b:Nat):Rat):=Rat.natCast_le_natCast.mpr (Nat.pow_le_pow_right (by decide) h)
theorem pw_pos (a:Nat):(0:Rat) < ((2 ^ a:Nat):Rat):=by exact_mod_cast (Nat.pow_pos (n:=a) (show 0 < 2 by decide))
theorem Vx.shift {N a:Nat} {x o:Rat} (h:Vx N a x) (ho:Fr12 o):Vx (N * o.den) (a+41) (x+o):=by
 obtain ⟨_,_,v⟩:=fr_v ho
 have e:=pw_add a 40 (Nat.le_refl _)
 have h1:=pw_le (show a<=a+40 by omega)
 have h2:=pw_le (show 40<=a+40 by omega)
 have:=h.lo;have:=h.hi;have:=v.lo;have:=v.hi
 exact ⟨(h.g.dvd (Nat.dvd_mul_right _ _)).add (v.g.dvd (Nat.dvd_mul_left _ _)),by grind,by grind⟩
theorem Vx.scale {N a:Nat} {x u:Rat} (h:Vx N a x) (hu:Fr12 u):Vx (N * u.den) (a+41) (x * u):=by
 obtain ⟨_,_,v⟩:=fr_v hu
 have e:=pw_mul a 40
 have p1:=pw_pos a
 have p2:=pw_pos 40
 have h3:=pw_le (show a+40<=a+41 by omega)
 have x1:=h.lo;have x2:=h.hi;have u1:=v.lo;have u2:=v.hi
 generalize ((2 ^ a:Nat):Rat)=A at *
 generalize ((2 ^ 40:Nat):Rat)=B at *
 generalize ((2 ^ (a+40):Nat):Rat)=C at *
 have key:-(A * B)<=x * u/\x * u<=A * B:=by
  have m1:=Rat.mul_nonneg (show 0<=A - x by grind) (show 0<=B - u by grind)
  have m2:=Rat.mul_nonneg (show 0<=A+x by grind) (show 0<=B+u by grind)
  have m3:=Rat.mul_nonneg (show 0<=A - x by grind) (show 0<=B+u by grind)
  have m4:=Rat.mul_nonneg (show 0<=A+x by grind) (show 0<=B - u by grind)
  constructor <;> grind
 exact ⟨h.g.mul v.g,by grind,by grind⟩
mutual
def szB:D->Bool
 | .str z=>decide (z.length<=sizeLine)
 | .tup xs=>szBs xs
 | .int _=>true
 | .non=>true
 | _=>false
def szBs:List D->Bool
 | []=>true
 | x :: xs=>szB x && szBs xs
end
theorem slBs_mem:∀ {xs:List D} {x:D},szBs xs=true->x∈xs->szB x=true
 | y :: ys,x,h,hx=>by
  have h:(szB y && szBs ys)=true:=h
  rw [Bool.and_eq_true] at h
  rcases List.mem_cons.mp hx with rfl | hx
  ·exact h.1
  ·exact slBs_mem h.2 hx
theorem slBs_of:∀ {xs:List D},(∀ x∈xs,szB x=true)->szBs xs=true
 | [],_=>rfl
 | y :: ys,h=>by
  show (szB y && szBs ys)=true
  rw [h y (List.mem_cons_self ..),slBs_of fun x hx=>h x (List.mem_cons_of_mem _ hx)];rfl
def PlS (d:D):Prop:=pu d=true/\szB d=true
theorem PlS.tp {xs:List D} (h:PlS (.tup xs)):xs.length<=sizeLine/\∀ x∈xs,PlS x:=by
 obtain ⟨h1,h2⟩:=pu_tp h.1
 exact ⟨h1,fun x hx=>⟨h2 x hx,slBs_mem h.2 hx⟩⟩
theorem PlS.str {z:Str} (h:PlS (.str z)):z.length<=sizeLine:=of_decide_eq_true h.2
theorem PlS.mk {xs:List D} (h:xs.length<=sizeLine) (h2:∀ x∈xs,PlS x):PlS (.tup xs):=⟨pu_mk h fun x hx=>(h2 x hx).1,slBs_of fun x hx=>(h2 x hx).2⟩
mutual
theorem sz_hb:∀ (d:D),szB d=true->∀ k,d.hb k=true
 | .str _,_,_=>rfl
 | .int _,_,_=>rfl
 | .non,_,_=>rfl
 | .tup xs,h,k=>szs_hb xs h k
 | .bl _,h,_ | .lst _,h,_ | .rol _,h,_ | .mt _,h,_ | .obj _ _ _,h,_ | .dk _ _,h,_ | .ty _,h,_ | .exc _ _ _,h,_ | .dt _ _,h,_ | .ref _,h,_ | .lam _ _,h,_=>by cases h
theorem szs_hb:∀ (xs:List D),szBs xs=true->∀ k,D.hbs k xs=true
 | [],_,_=>rfl
 | x :: xs,h,k=>by
  have h:(szB x && szBs xs)=true:=h
  rw [Bool.and_eq_true] at h
  show (D.hb k x && D.hbs k xs)=true
  rw [sz_hb x h.1 k,szs_hb xs h.2 k];rfl
end
theorem PlS.hb {d:D} (h:PlS d) (k:Nat):d.hb k=true:=sz_hb d h.2 k
end DL
namespace LW
open PySem PySem.Spec PyProof.Rows L2 DL Mt
def top (i:Nat):Stmt:=PySem.Challenge.pw_roundmaps_k60_strings_that_are_no_texts.main.body.getD i (.Pass ⟨0,0,0,0⟩)
section
variable {P:Program} {w:World} {K:PySem.W.Frag} {mg:Str->Option Value} {base:Heap} {Tb:List (Addr×Str)}
abbrev s_InvalidTextu_initu:Stmt:=inClass (top 4) 0
abbrev s__law_told:Stmt:=top 67
abbrev s_is_name:Stmt:=top 45
abbrev s__law_fields:Stmt:=top 66
abbrev s__law_begin:Stmt:=top 62
abbrev s__law_fraction_words:Stmt:=top 79
abbrev s__law_step_text:Stmt:=top 80
abbrev s__law_text:Stmt:=top 81
abbrev s__law_draw:Stmt:=top 63
abbrev s__law_pick:Stmt:=top 64
abbrev s__law_lowest:Stmt:=top 68
abbrev s__law_small:Stmt:=top 72
abbrev s__law_unit:Stmt:=top 71
abbrev s__law_rounding:Stmt:=top 75
abbrev s__law_plain:Stmt:=top 76
abbrev s__law_times:Stmt:=top 69
abbrev s__law_slope:Stmt:=top 77
abbrev s__law_over:Stmt:=top 70
abbrev s__law_pipeline:Stmt:=top 78
abbrev s__law_word:Stmt:=top 73
abbrev s__law_names:Stmt:=top 74
abbrev s__law_split:Stmt:=top 83
abbrev s__law_is_word:Stmt:=top 82
abbrev s__law_number:Stmt:=top 84
abbrev s__law_read_step:Stmt:=top 85
abbrev s__law_read:Stmt:=top 86
abbrev s__law_same:Stmt:=top 65
abbrev s_depth_of:Stmt:=top 59
abbrev s_split_outside:Stmt:=top 55
abbrev s_parse_integer:Stmt:=top 29
abbrev s_fraction_text:Stmt:=top 28
abbrev s_is_integer:Stmt:=top 27
abbrev s_common_divisor:Stmt:=top 16
abbrev s_is_fraction:Stmt:=top 26
abbrev s_parse_fraction:Stmt:=top 30
abbrev s_read_thing:Stmt:=top 56
abbrev s_read_step:Stmt:=top 57
abbrev s_read:Stmt:=top 58
abbrev s_written_step:Stmt:=top 54
abbrev s_written:Stmt:=top 53
abbrev s_is_positive:Stmt:=top 46
abbrev s_is_step:Stmt:=top 47
abbrev s_is_deep_pipeline:Stmt:=top 48
abbrev s_is_pipeline:Stmt:=top 49
abbrev s_parse_pipeline:Stmt:=top 60
abbrev s_law:Stmt:=top 87
end
def dd_is_name:He.DefE:=⟨fun K=>He.fAd K ("is_name",none),"is_name","is_name",defArgs s_is_name,defBody s_is_name,defScope s_is_name,[],[]⟩
def dd__law_fields:He.DefE:=⟨fun K=>He.fAd K ("_law_fields",none),"_law_fields","_law_fields",defArgs s__law_fields,defBody s__law_fields,defScope s__law_fields,[],[]⟩
def dd__law_begin:He.DefE:=⟨fun K=>He.fAd K ("_law_begin",none),"_law_begin","_law_begin",defArgs s__law_begin,defBody s__law_begin,defScope s__law_begin,[],[]⟩
def dd__law_fraction_words:He.DefE:=⟨fun K=>He.fAd K ("_law_fraction_words",none),"_law_fraction_words","_law_fraction_words",defArgs s__law_fraction_words,defBody s__law_fraction_words,defScope s__law_fraction_words,[],[]⟩
def dd__law_step_text:He.DefE:=⟨fun K=>He.fAd K ("_law_step_text",none),"_law_step_text","_law_step_text",defArgs s__law_step_text,defBody s__law_step_text,defScope s__law_step_text,[],[]⟩
def dd__law_text:He.DefE:=⟨fun K=>He.fAd K ("_law_text",none),"_law_text","_law_text",defArgs s__law_text,defBody s__law_text,defScope s__law_text,[],[]⟩
def dd__law_draw:He.DefE:=⟨fun K=>He.fAd K ("_law_draw",none),"_law_draw","_law_draw",defArgs s__law_draw,defBody s__law_draw,defScope s__law_draw,[],[]⟩
def dd__law_pick:He.DefE:=⟨fun K=>He.fAd K ("_law_pick",none),"_law_pick","_law_pick",defArgs s__law_pick,defBody s__law_pick,defScope s__law_pick,[],[]⟩
def dd__law_lowest:He.DefE:=⟨fun K=>He.fAd K ("_law_lowest",none),"_law_lowest","_law_lowest",defArgs s__law_lowest,defBody s__law_lowest,defScope s__law_lowest,[],[]⟩
def dd__law_small:He.DefE:=⟨fun K=>He.fAd K ("_law_small",none),"_law_small","_law_small",defArgs s__law_small,defBody s__law_small,defScope s__law_small,[],[]⟩
def dd__law_unit:He.DefE:=⟨fun K=>He.fAd K ("_law_unit",none),"_law_unit","_law_unit",defArgs s__law_unit,defBody s__law_unit,defScope s__law_unit,[],[]⟩
def dd__law_rounding:He.DefE:=⟨fun K=>He.fAd K ("_law_rounding",none),"_law_rounding","_law_rounding",defArgs s__law_rounding,defBody s__law_rounding,defScope s__law_rounding,[],[]⟩
def dd__law_plain:He.DefE:=⟨fun K=>He.fAd K ("_law_plain",none),"_law_plain","_law_plain",defArgs s__law_plain,defBody s__law_plain,defScope s__law_plain,[],[]⟩
def dd__law_times:He.DefE:=⟨fun K=>He.fAd K ("_law_times",none),"_law_times","_law_times",defArgs s__law_times,defBody s__law_times,defScope s__law_times,[],[]⟩
def dd__law_slope:He.DefE:=⟨fun K=>He.fAd K ("_law_slope",none),"_law_slope","_law_slope",defArgs s__law_slope,defBody s__law_slope,defScope s__law_slope,[],[]⟩
def dd__law_over:He.DefE:=⟨fun K=>He.fAd K ("_law_over",none),"_law_over","_law_over",defArgs s__law_over,defBody s__law_over,defScope s__law_over,[],[]⟩
def dd__law_pipeline:He.DefE:=⟨fun K=>He.fAd K ("_law_pipeline",none),"_law_pipeline","_law_pipeline",defArgs s__law_pipeline,defBody s__law_pipeline,defScope s__law_pipeline,[],[]⟩
def dd__law_word:He.DefE:=⟨fun K=>He.fAd K ("_law_word",none),"_law_word","_law_word",defArgs s__law_word,defBody s__law_word,defScope s__law_word,[],[]⟩
def dd__law_names:He.DefE:=⟨fun K=>He.fAd K ("_law_names",none),"_law_names","_law_names",defArgs s__law_names,defBody s__law_names,defScope s__law_names,[],[]⟩
def dd__law_split:He.DefE:=⟨fun K=>He.fAd K ("_law_split",none),"_law_split","_law_split",defArgs s__law_split,defBody s__law_split,defScope s__law_split,[],[]⟩
def dd__law_is_word:He.DefE:=⟨fun K=>He.fAd K ("_law_is_word",none),"_law_is_word","_law_is_word",defArgs s__law_is_word,defBody s__law_is_word,defScope s__law_is_word,[],[]⟩
def dd__law_number:He.DefE:=⟨fun K=>He.fAd K ("_law_number",none),"_law_number","_law_number",defArgs s__law_number,defBody s__law_number,defScope s__law_number,[],[]⟩
def dd__law_read_step:He.DefE:=⟨fun K=>He.fAd K ("_law_read_step",none),"_law_read_step","_law_read_step",defArgs s__law_read_step,defBody s__law_read_step,defScope s__law_read_step,[],[]⟩
def dd__law_read:He.DefE:=⟨fun K=>He.fAd K ("_law_read",none),"_law_read","_law_read",defArgs s__law_read,defBody s__law_read,defScope s__law_read,[],[]⟩
def dd__law_same:He.DefE:=⟨fun K=>He.fAd K ("_law_same",none),"_law_same","_law_same",defArgs s__law_same,defBody s__law_same,defScope s__law_same,[],[]⟩
def dd_depth_of:He.DefE:=⟨fun K=>He.fAd K ("depth_of",none),"depth_of","depth_of",defArgs s_depth_of,defBody s_depth_of,defScope s_depth_of,[],[]⟩
def dd_split_outside:He.DefE:=⟨fun K=>He.fAd K ("split_outside",none),"split_outside","split_outside",defArgs s_split_outside,defBody s_split_outside,defScope s_split_outside,[],[]⟩
def dd_parse_integer:He.DefE:=⟨fun K=>He.fAd K ("parse_integer",none),"parse_integer","parse_integer",defArgs s_parse_integer,defBody s_parse_integer,defScope s_parse_integer,[],[]⟩
def dd_fraction_text:He.DefE:=⟨fun K=>He.fAd K ("fraction_text",none),"fraction_text","fraction_text",defArgs s_fraction_text,defBody s_fraction_text,defScope s_fraction_text,[],[]⟩
def dd_is_integer:He.DefE:=⟨fun K=>He.fAd K ("is_integer",none),"is_integer","is_integer",defArgs s_is_integer,defBody s_is_integer,defScope s_is_integer,[],[]⟩
def dd_common_divisor:He.DefE:=⟨fun K=>He.fAd K ("common_divisor",none),"common_divisor","common_divisor",defArgs s_common_divisor,defBody s_common_divisor,defScope s_common_divisor,[],[]⟩
def dd_is_fraction:He.DefE:=⟨fun K=>He.fAd K ("is_fraction",none),"is_fraction","is_fraction",defArgs s_is_fraction,defBody s_is_fraction,defScope s_is_fraction,[],[]⟩
def dd_parse_fraction:He.DefE:=⟨fun K=>He.fAd K ("parse_fraction",none),"parse_fraction","parse_fraction",defArgs s_parse_fraction,defBody s_parse_fraction,defScope s_parse_fraction,[],[]⟩
def dd_read_thing:He.DefE:=⟨fun K=>He.fAd K ("read_thing",none),"read_thing","read_thing",defArgs s_read_thing,defBody s_read_thing,defScope s_read_thing,[],[]⟩
def dd_read_step:He.DefE:=⟨fun K=>He.fAd K ("read_step",none),"read_step","read_step",defArgs s_read_step,defBody s_read_step,defScope s_read_step,[],[]⟩
def dd_read:He.DefE:=⟨fun K=>He.fAd K ("read",none),"read","read",defArgs s_read,defBody s_read,defScope s_read,[],[]⟩
def dd_written_step:He.DefE:=⟨fun K=>He.fAd K ("written_step",none),"written_step","written_step",defArgs s_written_step,defBody s_written_step,defScope s_written_step,[],[]⟩
def dd_written:He.DefE:=⟨fun K=>He.fAd K ("written",none),"written","written",defArgs s_written,defBody s_written,defScope s_written,[],[]⟩
def dd_is_positive:He.DefE:=⟨fun K=>He.fAd K ("is_positive",none),"is_positive","is_positive",defArgs s_is_positive,defBody s_is_positive,defScope s_is_positive,[],[]⟩
def dd_is_step:He.DefE:=⟨fun K=>He.fAd K ("is_step",none),"is_step","is_step",defArgs s_is_step,defBody s_is_step,defScope s_is_step,[],[]⟩
def dd_is_deep_pipeline:He.DefE:=⟨fun K=>He.fAd K ("is_deep_pipeline",none),"is_deep_pipeline","is_deep_pipeline",defArgs s_is_deep_pipeline,defBody s_is_deep_pipeline,defScope s_is_deep_pipeline,[],[]⟩
def dd_is_pipeline:He.DefE:=⟨fun K=>He.fAd K ("is_pipeline",none),"is_pipeline","is_pipeline",defArgs s_is_pipeline,defBody s_is_pipeline,defScope s_is_pipeline,[],[]⟩
def dd_parse_pipeline:He.DefE:=⟨fun K=>He.fAd K ("parse_pipeline",none),"parse_pipeline","parse_pipeline",defArgs s_parse_pipeline,defBody s_parse_pipeline,defScope s_parse_pipeline,[],[]⟩
def dd_law:He.DefE:=⟨fun K=>He.fAd K ("law",none),"law","law",defArgs s_law,defBody s_law,defScope s_law,[],[]⟩
def dd__law_told:He.DefE:=⟨fun K=>He.fAd K ("_law_told",none),"_law_told","_law_told",defArgs s__law_told,defBody s__law_told,defScope s__law_told,[],[]⟩
def dd_InvalidTextu_initu:He.DefE:=⟨fun K=>He.fAd K ("InvalidText",some "__init__"),"__init__","InvalidText.__init__",defArgs s_InvalidTextu_initu,defBody s_InvalidTextu_initu,defScope s_InvalidTextu_initu,[],[]⟩
def tf:List He.Defn:=[("law",none)]
def fn:List He.DefE:=[dd_is_name,dd__law_fields,dd__law_begin,dd__law_fraction_words,dd__law_step_text,dd__law_text,dd__law_draw,dd__law_pick,dd__law_lowest,dd__law_small,dd__law_unit,dd__law_rounding,dd__law_plain,dd__law_times,dd__law_slope,dd__law_over,dd__law_pipeline,dd__law_word,dd__law_names,dd__law_split,dd__law_is_word,dd__law_number,dd__law_read_step,dd__law_read,dd__law_same,dd_depth_of,dd_split_outside,dd_parse_integer,dd_fraction_text,dd_is_integer,dd_common_divisor,dd_is_fraction,dd_parse_fraction,dd_read_thing,dd_read_step,dd_read,dd_written_step,dd_written,dd_is_positive,dd_is_step,dd_is_deep_pipeline,dd_is_pipeline,dd_parse_pipeline,dd_law,dd__law_told,dd_InvalidTextu_initu]
def fa:List He.Fa:=[.glo "is_name",.glo "_law_fields",.glo "_law_begin",.glo "_law_fraction_words",.glo "_law_step_text",.glo "_law_text",.glo "_law_draw",.glo "_law_pick",.glo "_law_lowest",.glo "_law_small",.glo "_law_unit",.glo "_law_rounding",.glo "_law_plain",.glo "_law_times",.glo "_law_slope",.glo "_law_over",.glo "_law_pipeline",.glo "_law_word",.glo "_law_names",.glo "_law_split",.glo "_law_is_word",.glo "_law_number",.glo "_law_read_step",.glo "_law_read",.glo "_law_same",.glo "depth_of",.glo "split_outside",.glo "parse_integer",.glo "fraction_text",.glo "is_integer",.glo "common_divisor",.glo "is_fraction",.glo "parse_fraction",.glo "read_thing",.glo "read_step",.glo "read",.glo "written_step",.glo "written",.glo "is_positive",.glo "is_step",.glo "is_deep_pipeline",.glo "is_pipeline",.glo "parse_pipeline",.glo "law",.glo "_law_told",.free "all",.free "len",.str "LETTERS" "abcdefghijklmnopqrstuvwxyz",.free "list",.free "str",.free "isinstance",.free "abs",.glo "__builtins__",.free "range",.free "tuple",.free "int",.free "bool",.free "max",.int "MAX_FIGURES" 12,.int "MAX_NUMBER" 1000000000000,.glo "InvalidText",.str "SAME" "same",.str "BETWEEN" " | ",.glo "JOINS",.int "MAX_STEPS" 12,.int "MAX_PARTS" 4,.glo "Curve",.int "MAX_DEPTH" 4,.glo "RoundError",.glo "Missing",.glo "NothingLeft"]
def exl (K:PySem.W.Frag):List Bool:=[seerB K,xcB K "InvalidText" ["code"],He.tupB K "JOINS" [.str "sum",.str "least",.str "greatest"],cloB K (He.ga K "Curve"),cvTB K "Curve" "TIES" [.str "up",.str "down",.str "even"],xfaB K "InvalidText" []]
def exB (K:PySem.W.Frag):Bool:=(exl K).all _root_.id
abbrev R:PySem.W.OpenRow:=PySem.W.OpenLaw.row PySem.Challenge.rw_roundmaps_k60_strings_that_are_no_texts
def as_:List Addr:=[1,0,4,2,3,6,4,21,38,58,77,96,115,134,153,172,192,196,197,204,212,219,226,233,240,247,254,261,266,271,278,285,290,297,302,309,316,321,326,333,532,537,542,549,554,559,566,571,576,583] ++ [590,595,600,607,614,621,628,635,640,647,654,661,668,675,682,689,694,699,706,713,720,727,734,739,744,749,756,761,766,771,778,0,20,37,57,76,95,114,133,152,171,191,203,211,205,218,265,270,277,284] ++ [289,296,531,541,548,553,558,565,570,575,582,589,594,599,606,613,620,627,634,639,646,653,660,667,674,681,688,693,698,705,712,719,726,733,738,743,748,755,760,765,770,777,15,16,55,56,74,75,93,94] ++ [331,341,349,354,365,376,34,54,73,92,111,130]
abbrev hk:PySem.W.Hook:=He.hookZ as_ fa fn tf exB
def ob (s:PySem.W.SharedT):He.AlYX:=He.obsZ as_ fa fn tf exB (HandSHeadRun.getT s)
open PySem.W in
theorem run1 (w:World):He.LookEq R 8000 w (fun s=>(HandSHeadRun.looksF R.prog (boot_heap (w).params) s.abs,HandSHeadRun.seenQ (PySem.W.view R.prog [87]) ("_wall" :: "common_divisor" :: "fraction" :: "add" :: "subtract" :: "multiply" :: "divide" :: "times" :: "compare" :: "floor_of" :: "ordered" :: "is_fraction" :: "is_integer" :: "fraction_text" :: "parse_integer" :: "parse_fraction" :: "moved" :: "slope_between" :: "check_points" :: "true_points" :: "repeats" :: "equal_parts" :: "is_name" :: "is_positive" :: "is_step" :: "is_deep_pipeline" :: "is_pipeline" :: "written" :: "written_step" :: "split_outside" :: "read_thing" :: "read_step" :: "read" :: "depth_of" :: "parse_pipeline" :: "_law_begin" :: "_law_draw" :: "_law_pick" :: "_law_same" :: "_law_fields" :: "_law_told" :: "_law_lowest" :: "_law_times" :: "_law_over" :: "_law_unit" :: "_law_small" :: "_law_word" :: "_law_names" :: "_law_rounding" :: "_law_plain" :: "_law_slope" :: "_law_pipeline" :: "_law_fraction_words" :: "_law_step_text" :: "_law_text" :: "_law_is_word" :: "_law_split" :: "_law_number" :: "_law_read_step" :: "_law_read" :: "ZERO" :: "ONE" :: "MAX_FIGURES" :: "MAX_NUMBER" :: "MAX_STEPS" :: "MAX_PARTS" :: "MAX_DEPTH" :: "JOINS" :: "LETTERS" :: "SAME" :: "BETWEEN" :: "RoundError" :: "InvalidFraction" :: "InvalidText" :: "InvalidCurve" :: "InvalidStep" :: "TooMany" :: "TooLong" :: "Missing" :: "NothingLeft" :: "Curve" :: []) (importedModules R.prog.main.body) (fun s=>xlAt (PySem.W.view R.prog [87]) [] s && recOk R.toRowW.records s) s.abs)) (true,openGood (PySem.W.view R.prog [87]) ("_wall" :: "common_divisor" :: "fraction" :: "add" :: "subtract" :: "multiply" :: "divide" :: "times" :: "compare" :: "floor_of" :: "ordered" :: "is_fraction" :: "is_integer" :: "fraction_text" :: "parse_integer" :: "parse_fraction" :: "moved" :: "slope_between" :: "check_points" :: "true_points" :: "repeats" :: "equal_parts" :: "is_name" :: "is_positive" :: "is_step" :: "is_deep_pipeline" :: "is_pipeline" :: "written" :: "written_step" :: "split_outside" :: "read_thing" :: "read_step" :: "read" :: "depth_of" :: "parse_pipeline" :: "_law_begin" :: "_law_draw" :: "_law_pick" :: "_law_same" :: "_law_fields" :: "_law_told" :: "_law_lowest" :: "_law_times" :: "_law_over" :: "_law_unit" :: "_law_small" :: "_law_word" :: "_law_names" :: "_law_rounding" :: "_law_plain" :: "_law_slope" :: "_law_pipeline" :: "_law_fraction_words" :: "_law_step_text" :: "_law_text" :: "_law_is_word" :: "_law_split" :: "_law_number" :: "_law_read_step" :: "_law_read" :: "ZERO" :: "ONE" :: "MAX_FIGURES" :: "MAX_NUMBER" :: "MAX_STEPS" :: "MAX_PARTS" :: "MAX_DEPTH" :: "JOINS" :: "LETTERS" :: "SAME" :: "BETWEEN" :: "RoundError" :: "InvalidFraction" :: "InvalidText" :: "InvalidCurve" :: "InvalidStep" :: "TooMany" :: "TooLong" :: "Missing" :: "NothingLeft" :: "Curve" :: [])):=by
 intro os
 kernel_rfl
open PySem.W in
theorem run2a (w:World):He.LookEq R 8000 w (fun s=>(fa.all fun f=>f.ok (He.frT (HandSHeadRun.getT s) as_)) && He.tabsB (HandSHeadRun.getT s) tf (He.frT (HandSHeadRun.getT s) as_)) true:=by
 intro os
 kernel_rfl
open PySem.W in
theorem run2b (w:World):He.LookEq R 8000 w (fun s=>((fn.all fun d=>d.ok (He.frT (HandSHeadRun.getT s) as_)),fn.map fun d=>He.fnE (He.frT (HandSHeadRun.getT s) as_) (d.at_ (He.frT (HandSHeadRun.getT s) as_)))) (true,fn.map He.DefE.val):=by
 intro os
 kernel_rfl
open PySem.W in
theorem run2c (w:World):He.LookEq R 8000 w (fun s=>exB (He.frT (HandSHeadRun.getT s) as_)) true:=by
 intro os
 kernel_rfl
theorem run2 (w:World):He.LookEq R 8000 w ob (hk.val w):=He.LookEq.obsZ (run2a w) (run2b w) (run2c w)
theorem run (w:World):HandSHeadRun.RunEq R (PySem.W.view R.prog [87]) hk ob 8000 ("_wall" :: "common_divisor" :: "fraction" :: "add" :: "subtract" :: "multiply" :: "divide" :: "times" :: "compare" :: "floor_of" :: "ordered" :: "is_fraction" :: "is_integer" :: "fraction_text" :: "parse_integer" :: "parse_fraction" :: "moved" :: "slope_between" :: "check_points" :: "true_points" :: "repeats" :: "equal_parts" :: "is_name" :: "is_positive" :: "is_step" :: "is_deep_pipeline" :: "is_pipeline" :: "written" :: "written_step" :: "split_outside" :: "read_thing" :: "read_step" :: "read" :: "depth_of" :: "parse_pipeline" :: "_law_begin" :: "_law_draw" :: "_law_pick" :: "_law_same" :: "_law_fields" :: "_law_told" :: "_law_lowest" :: "_law_times" :: "_law_over" :: "_law_unit" :: "_law_small" :: "_law_word" :: "_law_names" :: "_law_rounding" :: "_law_plain" :: "_law_slope" :: "_law_pipeline" :: "_law_fraction_words" :: "_law_step_text" :: "_law_text" :: "_law_is_word" :: "_law_split" :: "_law_number" :: "_law_read_step" :: "_law_read" :: "ZERO" :: "ONE" :: "MAX_FIGURES" :: "MAX_NUMBER" :: "MAX_STEPS" :: "MAX_PARTS" :: "MAX_DEPTH" :: "JOINS" :: "LETTERS" :: "SAME" :: "BETWEEN" :: "RoundError" :: "InvalidFraction" :: "InvalidText" :: "InvalidCurve" :: "InvalidStep" :: "TooMany" :: "TooLong" :: "Missing" :: "NothingLeft" :: "Curve" :: []) w:=by
 intro os
 have h1:=run1 w os
 have h2:=run2 w os
 generalize HandSHeadRun.endF _ _ _ _ _=x at h1 h2 ⊢
 cases x with
 | none=>cases h1
 | some s =>
  have h1:=Option.some.inj h1
  have h2:=Option.some.inj h2
  exact congrArg some (Prod.ext (Prod.mk.inj h1).1 (Prod.ext (Prod.mk.inj h1).2 h2))
end LW
open PySem PySem.W PySem.Calls PyProof.Rows
namespace DL
open PySem PySem.Spec PyProof.Rows L2
def Al.cut (al:Al) (n:Nat):Al:=⟨al.a.take n,al.h⟩
theorem SqTz.sq {K:PySem.W.Frag} {al:Al} {M:Mem} {H:Hp} {a:Addr} {xs:List V} (h:SqTz K al M H a xs):SqT K H a xs:=by
 rcases h with ⟨h,_⟩ | h
 ·exact .inl (.inl h)
 ·rcases h with (h | ⟨o,h⟩) | h
  ·cases h
  ·cases h
  ·exact .inr h
theorem SqLz.sq {K:PySem.W.Frag} {al:Al} {M:Mem} {H:Hp} {a:Addr} {xs:List V} (h:SqLz K al M H a xs):SqL K H a xs:=by
 rcases h with ⟨h,_⟩ | h
 ·exact .inl h
 ·rcases h with (h | ⟨o,h⟩) | h
  ·cases h
  ·cases h
  ·exact .inr h
theorem Stp.refl (al:Al) (M:Mem) (H:Hp):Stp al M H al M H:=⟨fun _ _ h=>h,fun _ _ h _ f=>⟨h,f⟩,rfl,fun _ _=>rfl⟩
section
variable {K:PySem.W.Frag} {al:Al} {M:Mem} {H:Hp}
theorem Rps.get:∀ {ds:List D} {xs:List V} {i:Nat} {d:D},Rps K al M H ds xs->ds[i]?=some d->∃ x,xs[i]?=some x/\Rp K al M H d x
 | [],_,_,_,_,e=>by simp at e
 | d :: ds,_,0,_,h,e=>by
  obtain ⟨x,r,q,t,_⟩:=h
  subst q
  simp at e
  subst e
  exact ⟨x,rfl,t⟩
 | d :: ds,_,i+1,_,h,e=>by
  obtain ⟨x,r,q,_,t⟩:=h
  subst q
  obtain ⟨y,h1,h2⟩:=Rps.get (i:=i) t (by simpa using e)
  exact ⟨y,by simpa using h1,h2⟩
end
theorem RpS.wipe1 {K:PySem.W.Frag} {al:Al} {M:Mem} {H:Hp} {σ:L2.St} {rho:Rho} (h:RpS K al M H σ rho) (i:Nat) {v:Option V}:RpS K al M H (σ.set i v) (rho.set i none):=by
 refine ⟨by simpa using h.1,fun j e q=>?_⟩
 by_cases hj:i=j
 ·subst hj
  rw [List.getElem?_set] at q
  simp at q
 ·rw [List.getElem?_set_ne hj] at q ⊢
  exact h.2 j e q
abbrev TTD:=XD->Rho->Mem->(Bool->Mem->Prop)->Prop
abbrev TAD:=XD->Rho->Mem->(List D->Mem->Prop)->Prop
abbrev TSD:=XD->DEnds->Rho->Mem->Prop
def lift (K:PySem.W.Frag) (Tb:List (Addr×Str)) (EV:XK) (t:TED):TE:=fun σ H QV=>∃ al rho M E Q,At K Tb EV al σ H rho M E/\t E rho M Q/\PostV K Tb al M H Q QV
def liftT (K:PySem.W.Frag) (Tb:List (Addr×Str)) (EV:XK) (t:TTD):TT:=fun σ H QV=>∃ al rho M E Q,At K Tb EV al σ H rho M E/\t E rho M Q/\PostT K Tb al M H Q QV
def liftA (K:PySem.W.Frag) (Tb:List (Addr×Str)) (EV:XK) (t:TAD):TA:=fun σ H QV=>∃ al rho M E Q,At K Tb EV al σ H rho M E/\t E rho M Q/\PostA K Tb al M H Q QV
def liftS (K:PySem.W.Frag) (Tb:List (Addr×Str)) (EV:XK) (t:TSD):TS:=fun DV σ H=>∃ al rho M E DD,At K Tb EV al σ H rho M E/\t E DD rho M/\PostE K Tb al M H DD DV
section
variable {X:Cx} {Tb:List (Addr×Str)} {EV:XK}
abbrev PD (X:Cx) (Tb:List (Addr×Str)) (EV:XK) (e:Expr) (t:TED):Prop:=PE X e (lift X.K Tb EV t)
abbrev PDT (X:Cx) (Tb:List (Addr×Str)) (EV:XK) (e:Expr) (t:TTD):Prop:=PT X e (liftT X.K Tb EV t)
abbrev PDA (X:Cx) (Tb:List (Addr×Str)) (EV:XK) (es:List Expr) (t:TAD):Prop:=PA X es (liftA X.K Tb EV t)
abbrev PDS (X:Cx) (Tb:List (Addr×Str)) (EV:XK) (st:Stmt) (t:TSD):Prop:=PS X st (liftS X.K Tb EV t)
abbrev PDSs (X:Cx) (Tb:List (Addr×Str)) (EV:XK) (st:List Stmt) (t:TSD):Prop:=PSs X st (liftS X.K Tb EV t)
theorem pe_imp {e:Expr} {t t':TE} (h:PE X e t) (w:∀ σ H Q,t' σ H Q->t σ H Q):PE X e t':=⟨fun pins s σ H Q I q=>h.run pins s σ H Q I (w σ H Q q)⟩
theorem pt_imp {e:Expr} {t t':TT} (h:PT X e t) (w:∀ σ H Q,t' σ H Q->t σ H Q):PT X e t':=⟨fun pins s σ H Q I q=>h.run pins s σ H Q I (w σ H Q q)⟩
theorem pw_imp {e:Expr} {t t':TT} (h:PW X e t) (w:∀ σ H Q,t' σ H Q->t σ H Q):PW X e t':=⟨fun wh pins s σ H Q I q=>h.run wh pins s σ H Q I (w σ H Q q)⟩
theorem pa_imp {e:List Expr} {t t':TA} (h:PA X e t) (w:∀ σ H Q,t' σ H Q->t σ H Q):PA X e t':=⟨fun pos pins s σ H Q I q=>h.run pos pins s σ H Q I (w σ H Q q)⟩
theorem ps_imp {e:Stmt} {t t':TS} (h:PS X e t) (w:∀ D σ H,t' D σ H->t D σ H):PS X e t':=⟨fun pins s σ H D I q=>h.run pins s σ H D I (w D σ H q)⟩
theorem pss_imp {e:List Stmt} {t t':TS} (h:PSs X e t) (w:∀ D σ H,t' D σ H->t D σ H):PSs X e t':=⟨fun pins s σ H D I q=>h.run pins s σ H D I (w D σ H q)⟩
end
mutual
theorem hideRp {K:PySem.W.Frag} {al al':Al} {M:Mem} {H H':Hp} (fz:∀ b o,H b=some o->Fz al M b->Fz al' M b) (up:∀ b o,H b=some o->Fz al M b->H' b=some o) (ha:al'.a=al.a:=by rfl):∀ (d:D) (v:V),Rp K al M H d v->Rp K al' M H' d v
 | .non,_,h=>h
 | .bl _,_,h=>h
 | .int _,_,h=>h
 | .str _,_,h=>h
 | .ty _,_,h=>h
 | .lam _ _,_,h=>⟨h.1,fun x hx=>⟨up _ _ (h.2 x hx).1 (h.2 x hx).2,fz _ _ (h.2 x hx).1 (h.2 x hx).2⟩⟩
 | .ref _,_,h=>h
 | .mt i,_,h=>by
  obtain ⟨a,e,q⟩:=h
  exact ⟨a,by rw [ha];exact e,q⟩
 | .tup ds,_,h=>by
  obtain ⟨a,xs,e,q,r⟩:=h
  refine ⟨a,xs,e,?_,hideRps fz up ha _ _ r⟩
  rcases q with ⟨q,f⟩ | q
  ·exact .inl ⟨up _ _ q f,fz _ _ q f⟩
  ·exact .inr q
 | .rol ds,_,h=>by
  obtain ⟨a,xs,e,q,r⟩:=h
  refine ⟨a,xs,e,?_,hideRps fz up ha _ _ r⟩
  rcases q with ⟨q | ⟨o,q⟩,f⟩ | q
  ·exact .inl ⟨.inl (up _ _ q f),fz _ _ q f⟩
  ·exact .inl ⟨.inr ⟨o,up _ _ q f⟩,fz _ _ q f⟩
  ·exact .inr q
 | .lst ds,_,h=>by
  obtain ⟨a,xs,e,q,f,r⟩:=h
  exact ⟨a,xs,e,up _ _ q f,fz _ _ q f,hideRps fz up ha _ _ r⟩
 | .obj C ns ds,_,h=>by
  obtain ⟨a,dx,xs,e,q,f,l,r⟩:=h
  exact ⟨a,dx,xs,e,up _ _ q f,fz _ _ q f,l,hideRps fz up ha _ _ r⟩
 | .dk C ds,_,h=>by
  obtain ⟨a,dx,xs,e,q,f,l,r⟩:=h
  exact ⟨a,dx,xs,e,up _ _ q f,fz _ _ q f,l,hideRps fz up ha _ _ r⟩
 | .dt C ds,_,h=>by
  obtain ⟨a,dx,xs,e,q,f,l,r⟩:=h
  exact ⟨a,dx,xs,e,up _ _ q f,fz _ _ q f,l,hideRps fz up ha _ _ r⟩
 | .exc C ns ds,_,h=>by
  obtain ⟨a,dx,xs,e,q,f,q2,f2,l,r⟩:=h
  exact ⟨a,dx,xs,e,up _ _ q f,fz _ _ q f,up _ _ q2 f2,fz _ _ q2 f2,l,hideRps fz up ha _ _ r⟩
theorem hideRps {K:PySem.W.Frag} {al al':Al} {M:Mem} {H H':Hp} (fz:∀ b o,H b=some o->Fz al M b->Fz al' M b) (up:∀ b o,H b=some o->Fz al M b->H' b=some o) (ha:al'.a=al.a:=by rfl):∀ (d:List D) (v:List V),Rps K al M H d v->Rps K al' M H' d v
 | [],_,h=>h
 | d :: ds,_,h=>by
  obtain ⟨x,r,e,q,t⟩:=h
  exact ⟨x,r,e,hideRp fz up ha d x q,hideRps fz up ha ds r t⟩
end
section
variable {K:PySem.W.Frag} {Tb:List (Addr×Str)} {al:Al} {M:Mem} {H:Hp} {p a:Addr}
theorem stp_new (w:Wf K Tb al H M) (hp:H p=none) (u:HO):Stp al M H al M (upd H p u) :=
 ⟨fun _ _ h=>h,fun b o h _ f=>⟨by rw [upd_ne (ne_of_none h hp)];exact h,f⟩,rfl,fun b hb=>upd_ne fun z=>w.nohid hp (z ▸ hb)⟩
theorem wf_new (w:Wf K Tb al H M) (hp:H p=none) (u:HO):Wf K Tb al (upd H p u) M :=
 ⟨w.len,w.nd,fun i b mo h1 h2=>(w.rep i b mo h1 h2).mono (stp_new w hp u) fun o h=>by rw [upd_ne (ne_of_none h hp)];exact h,
  fun i b h=>let ⟨o,h1,h2⟩:=w.there i b h;⟨o,by rw [upd_ne (ne_of_none h1 hp)];exact h1,h2⟩,w.tb.ext fun b o h=>by rw [upd_ne (ne_of_none h hp)];exact h,
  fun b hb=>let ⟨xs,h,z⟩:=w.hth b hb;⟨xs,by rw [upd_ne (ne_of_none h hp)];exact h,z⟩,w.hdis⟩
theorem rp_tup (w:Wf K Tb al H M) (hp:H p=none) {ds:List D} {xs:List V} (r:Rps K al M H ds xs):Rp K al M (upd H p (.tup xs)) (.tup ds) (.ref p) :=
 ⟨p,xs,rfl,.inl ⟨upd_same,w.fresh hp⟩,r.mono (stp_new w hp _)⟩
theorem rp_lst (w:Wf K Tb al H M) (hp:H p=none) {ds:List D} {xs:List V} (r:Rps K al M H ds xs):Rp K al M (upd H p (.lst xs)) (.lst ds) (.ref p) :=
 ⟨p,xs,rfl,upd_same,w.fresh hp,r.mono (stp_new w hp _)⟩
theorem stp_mut (w:Wf K Tb al H M) (hp:H p=none) (u:HO) (mo:MO):Stp al M H (al.push p) (M ++ [some mo]) (upd H p u):=by
 refine ⟨fun i b h=>by show (al.a ++ [p])[i]?=_;rw [List.getElem?_append_left (List.getElem?_eq_some_iff.mp h).1];exact h,fun b o h _ f=>⟨by rw [upd_ne (ne_of_none h hp)];exact h,f.1,fun i m e1 e2=>?_⟩,rfl,fun b hb=>upd_ne fun z=>w.nohid hp (z ▸ hb)⟩
 have e1:(al.a ++ [p])[i]?=some b:=e1
 by_cases hi:i < al.a.length
 ·rw [List.getElem?_append_left hi] at e1
  rw [List.getElem?_append_left (by rw [<- w.len];exact hi)] at e2
  exact f.2 i m e1 e2
 ·rw [List.getElem?_append_right (by omega)] at e1
  have:b=p:=by
   cases hk:i - al.a.length with
   | zero=>rw [hk] at e1;simpa using e1.symm
   | succ k=>rw [hk] at e1;simp at e1
  subst this
  rw [hp] at h;cases h
theorem push_cases {i:Nat} {b:Addr} (e:(al.push p).a[i]?=some b):(i < al.a.length/\al.a[i]?=some b)\/(i=al.a.length/\b=p):=by
 have e:(al.a ++ [p])[i]?=some b:=e
 by_cases hi:i < al.a.length
 ·rw [List.getElem?_append_left hi] at e
  exact .inl ⟨hi,e⟩
 ·have hi':i=al.a.length:=by
   have:=(List.getElem?_eq_some_iff.mp e).1
   simp at this;omega
  subst hi'
  simp at e
  exact .inr ⟨rfl,e.symm⟩
theorem wf_mut (w:Wf K Tb al H M) (hp:H p=none) {u:HO} {mo:MO} (hu:∀ ps,u≠.tbl ps) (r:RpM K (al.push p) (M ++ [some mo]) (upd H p u) p mo):Wf K Tb (al.push p) (upd H p u) (M ++ [some mo]):=by
 have hn:p ∉ al.a:=fun hm=>by
  obtain ⟨i,hi⟩:=List.getElem?_of_mem hm
  obtain ⟨o,h,_⟩:=w.there i p hi
  rw [hp] at h;cases h
 refine ⟨by simp [w.len,Al.push],?_,fun i b m e1 e2=>?_,fun i b e1=>?_,w.tb.ext fun b o h=>by rw [upd_ne (ne_of_none h hp)];exact h,fun b hb=>?_,fun i b m e1 e2=>?_⟩
 ·show (al.a ++ [p]).Nodup
  rw [List.nodup_append]
  exact ⟨w.nd,by simp,fun x hx y hy=>by simp at hy;subst hy;exact fun z=>hn (z ▸ hx)⟩
 ·rcases push_cases e1 with ⟨hi,e1⟩ | ⟨hi,rfl⟩
  ·rw [List.getElem?_append_left (by rw [<- w.len];exact hi)] at e2
   exact (w.rep i b m e1 e2).mono (stp_mut w hp u mo) fun o h=>by rw [upd_ne (ne_of_none h hp)];exact h
  ·subst hi
   rw [w.len] at e2
   simp at e2
   subst e2
   exact r
 ·rcases push_cases e1 with ⟨hi,e1⟩ | ⟨hi,rfl⟩
  ·obtain ⟨o,h1,h2⟩:=w.there i b e1
   exact ⟨o,by rw [upd_ne (ne_of_none h1 hp)];exact h1,h2⟩
  ·exact ⟨u,upd_same,hu⟩
 ·obtain ⟨xs,h,z⟩:=w.hth b hb
  exact ⟨xs,by rw [upd_ne (ne_of_none h hp)];exact h,z⟩
 ·rcases push_cases e1 with ⟨hi,e1⟩ | ⟨hi,rfl⟩
  ·rw [List.getElem?_append_left (by rw [<- w.len];exact hi)] at e2
   exact w.hdis i b m e1 e2
  ·exact w.nohid hp
theorem al_last (w:Wf K Tb al H M):(al.push p).a[M.length]?=some p:=by show (al.a ++ [p])[M.length]?=some p;rw [<- w.len];simp
theorem stp_set (w:Wf K Tb al H M) {i:Nat} {mo mo':MO} (hi:al.a[i]?=some a) (hm:M[i]?=some (some mo)) (u:HO):Stp al M H al (M.set i (some mo')) (upd H a u):=by
 refine ⟨fun _ _ h=>h,fun b o h _ f=>?_,rfl,fun b hb=>upd_ne fun z=>w.hdis i a mo hi hm (z ▸ hb)⟩
 have hb:b≠a:=fun z=>by subst z;exact f.2 i mo hi hm
 refine ⟨by rw [upd_ne hb];exact h,f.1,fun j m e1 e2=>?_⟩
 by_cases hj:i=j
 ·subst hj
  rw [hi] at e1
  exact hb (Option.some.inj e1).symm
 ·rw [List.getElem?_set_ne hj] at e2
  exact f.2 j m e1 e2
theorem wf_set (w:Wf K Tb al H M) {i:Nat} {mo mo':MO} (hi:al.a[i]?=some a) (hm:M[i]?=some (some mo)) {u:HO} (hu:∀ ps,u≠.tbl ps) (r:RpM K al (M.set i (some mo')) (upd H a u) a mo') (ht:∀ c q,H a≠some (LamX.CodeO c q)) :
  Wf K Tb al (upd H a u) (M.set i (some mo')):=by
 obtain ⟨oa,hoa,hoa'⟩:=w.there i a hi
 refine ⟨by simp [w.len],w.nd,fun j b m e1 e2=>?_,fun j b e1=>?_,fun q hq=>?_,fun b hb=>?_,fun j b m e1 e2=>?_⟩
 ·by_cases hj:i=j
  ·subst hj
   rw [hi] at e1;cases e1
   rw [List.getElem?_set_self (List.getElem?_eq_some_iff.mp hm).1] at e2
   cases e2
   exact r
  ·rw [List.getElem?_set_ne hj] at e2
   have hb:b≠a:=fun z=>by
    subst z
    exact hj ((List.getElem?_inj (List.getElem?_eq_some_iff.mp hi).1 w.nd).mp (hi.trans e1.symm))
   exact (w.rep j b m e1 e2).mono (stp_set w hi hm u) fun o h=>by rw [upd_ne hb];exact h
 ·by_cases hb:b=a
  ·subst hb;exact ⟨u,upd_same,hu⟩
  ·obtain ⟨o,h1,h2⟩:=w.there j b e1
   exact ⟨o,by rw [upd_ne hb];exact h1,h2⟩
 ·obtain ⟨ps,h1,h2,h3⟩:=w.tb q hq
  refine ⟨ps,?_,h2,fun pos cv hc=>?_⟩
  ·rw [upd_ne fun z=>?_]
   ·exact h1
   ·rw [z,hoa] at h1
    exact hoa' ps (Option.some.inj h1)
  ·obtain ⟨c,e1,e2⟩:=h3 pos cv hc
   refine ⟨c,e1,?_⟩
   rw [upd_ne fun z=>?_]
   ·exact e2
   ·rw [z] at e2
    exact ht _ _ e2
 ·obtain ⟨xs,h,hz⟩:=w.hth b hb
  exact ⟨xs,by rw [upd_ne (fun (z:b=a)=>w.hdis i a mo hi hm (z ▸ hb))];exact h,hz⟩
 ·by_cases hj:i=j
  ·subst hj
   rw [hi] at e1;cases e1
   exact w.hdis _ _ _ hi hm
  ·rw [List.getElem?_set_ne hj] at e2
   exact w.hdis j b m e1 e2
def Al.hide (al:Al) (p:Addr):Al:=⟨al.a,p :: al.h⟩
theorem hide_stp (w:Wf K Tb al H M) (hp:H p=none) (u:HO) (hu:HidO p u):Wf K Tb (al.hide p) (upd H p u) M/\(∀ (d:D) (v:V),Rp K al M H d v->Rp K (al.hide p) M (upd H p u) d v):=by
 have fz':∀ b o,H b=some o->Fz al M b->Fz (al.hide p) M b:=fun b o h f=>⟨fun hm=>by
  rcases List.mem_cons.mp hm with z | z
  ·exact absurd (z ▸ h) (by rw [hp];intro q;cases q)
  ·exact f.1 z,f.2⟩
 have up:∀ b o,H b=some o->upd H p u b=some o:=fun b o h=>by rw [upd_ne (ne_of_none h hp)];exact h
 have all:(∀ (d:D) (v:V),Rp K al M H d v->Rp K (al.hide p) M (upd H p u) d v):=hideRp fz' fun b o h _=>up b o h
 have alls:(∀ (d:List D) (v:List V),Rps K al M H d v->Rps K (al.hide p) M (upd H p u) d v):=hideRps fz' fun b o h _=>up b o h
 refine ⟨⟨w.len,w.nd,fun i b mo e1 e2=>?_,fun i b e=>?_,w.tb.ext up,fun b hb=>?_,fun i b mo e1 e2 hm=>?_⟩,all⟩
 ·have r:=w.rep i b mo e1 e2
  cases mo with
  | lst ds=>obtain ⟨ys,h1,h2⟩:=r;exact ⟨ys,up _ _ h1,alls _ _ h2⟩
  | dK kvs=>obtain ⟨ys,h1,h2⟩:=r;exact ⟨ys,up _ _ h1,h2.1,alls _ _ h2.2⟩
  | dT ks ds=>obtain ⟨ys,h1,h2⟩:=r;exact ⟨ys,up _ _ h1,h2.1,alls _ _ h2.2⟩
  | ins C fs=>obtain ⟨dx,ys,h1,h2⟩:=r;exact ⟨dx,ys,up _ _ h1,h2.1,alls _ _ h2.2⟩
 ·obtain ⟨o,h1,h2⟩:=w.there i b e
  exact ⟨o,up _ _ h1,h2⟩
 ·rcases List.mem_cons.mp hb with z | z
  ·exact ⟨u,by rw [z];exact upd_same,z ▸ hu⟩
  ·obtain ⟨ys,h,q⟩:=w.hth b z
   exact ⟨ys,up _ _ h,q⟩
 ·rcases List.mem_cons.mp hm with z | z
  ·obtain ⟨o,h,_⟩:=w.there i b e1
   rw [z,hp] at h;cases h
  ·exact w.hdis i b mo e1 e2 z
end
section
variable {K:PySem.W.Frag} {Tb:List (Addr×Str)} {EV:XK} {al:Al} {σ:L2.St} {H:Hp} {rho:Rho} {M:Mem} {E:XD}
theorem seq1 {ta:TED} {R:VD} {RV:VK} (a:At K Tb EV al σ H rho M E) (h:ta E rho M R)
  (k:∀ al1 x M1 vx H1,Stp al M H al1 M1 H1->At K Tb EV al1 σ H1 rho M1 E->Rp K al1 M1 H1 x vx->R x M1->RV vx H1):lift K Tb EV ta σ H RV :=
 ⟨al,rho,M,E,R,a,h,fun al' d M' v H' s w r q=>k al' d M' v H' s (a.go s w) r q⟩
theorem seqT {ta:TTD} {R:Bool->Mem->Prop} {RV:Bool->Hp->Prop} (a:At K Tb EV al σ H rho M E) (h:ta E rho M R)
  (k:∀ al1 b M1 H1,Stp al M H al1 M1 H1->At K Tb EV al1 σ H1 rho M1 E->R b M1->RV b H1):liftT K Tb EV ta σ H RV :=
 ⟨al,rho,M,E,R,a,h,fun al' d M' H' s w q=>k al' d M' H' s (a.go s w) q⟩
theorem seqA {ta:TAD} {R:List D->Mem->Prop} {RV:List V->Hp->Prop} (a:At K Tb EV al σ H rho M E) (h:ta E rho M R)
  (k:∀ al1 x M1 vx H1,Stp al M H al1 M1 H1->At K Tb EV al1 σ H1 rho M1 E->Rps K al1 M1 H1 x vx->R x M1->RV vx H1):liftA K Tb EV ta σ H RV :=
 ⟨al,rho,M,E,R,a,h,fun al' d M' v H' s w r q=>k al' d M' v H' s (a.go s w) r q⟩
end
def dVar (i:Nat):TED:=fun _ rho M Q=>match rho[i]? with
 | some (some d)=>Q d M
 | _=>False
abbrev dC (d:D):TED:=fun _ _ M Q=>Q d M
section
variable {X:Cx} {Tb:List (Addr×Str)} {EV:XK}
theorem dv_var (i:Nat) {x:Str} {pos:Pos} (hN:X.N[i]?=some x:=by rfl) (hv:Vis X.env.scope x:=by first | exact Or.inl rfl | exact Or.inr (Or.inl rfl) | exact Or.inr (Or.inr rfl)) (hd:(x == ("__debug__":Str))=false:=by decide)
  (hcd:(x == ("__classdict__":Str))=false:=by decide):PD X Tb EV (.Name x pos) (dVar i):=pe_imp (pe_var (i:=i) hN hv hd hcd) fun σ H QV h=>by
 obtain ⟨al,rho,M,E,Q,a,t,p⟩:=h
 unfold dVar at t
 split at t
 ·rename_i d e
  obtain ⟨v,e1,r⟩:=a.sl.2 i d e
  exact ⟨v,e1,p al d M v H (Stp.refl ..) a.wf r t⟩
 ·exact t.elim
theorem dv_of_tC {e:Expr} {v:V} {d:D} (h:PE X e (tC v)) (r:∀ al M H,Rp X.K al M H d v):PD X Tb EV e (dC d):=pe_imp h fun σ H QV q=>by
 obtain ⟨al,rho,M,E,Q,a,t,p⟩:=q
 exact p al d M v H (Stp.refl ..) a.wf (r _ _ _) t
theorem dv_int {i:Int} {j pos}:PD X Tb EV (.Constant (.int i) j pos) (dC (.int i)):=dv_of_tC pe_int fun _ _ _=>rfl
theorem dv_bl {b:Bool} {j pos}:PD X Tb EV (.Constant (.bool b) j pos) (dC (.bl b)):=dv_of_tC pe_bl fun _ _ _=>rfl
theorem dv_non {j pos}:PD X Tb EV (.Constant .none j pos) (dC .non):=dv_of_tC pe_non fun _ _ _=>rfl
theorem dv_str {x:Str} {j pos}:PD X Tb EV (.Constant (.str x) j pos) (dC (.str x)):=dv_of_tC pe_str fun _ _ _=>rfl
theorem dv_glob {x:Str} {v:V} {u:Value} {d:D} {pos:Pos} (hg:Gl X x) (hm:X.mg x=some u) (rv:RelV v u) (r:∀ al M H,Rp X.K al M H d v) (hd:(x == ("__debug__":Str))=false:=by decide):PD X Tb EV (.Name x pos) (dC d):=dv_of_tC (pe_glob hg hm rv hd) r
theorem dv_bltn {x:Str} {v:V} {u:Value} {d:D} {pos:Pos} (hg:Gl X x) (hm:X.mg x=none) (hv:bootBuiltins x=some u) (rv:RelV v u) (r:∀ al M H,Rp X.K al M H d v) (hn:x≠"__name__":=by decide) (hd:(x == ("__debug__":Str))=false:=by decide):PD X Tb EV (.Name x pos) (dC d):=dv_of_tC (pe_bltn hg hm hv rv hn hd) r
end
abbrev RD2:=D->D->Mem->VD->Prop
def RefOp (K:PySem.W.Frag) (Tb:List (Addr×Str)) (r:R2) (rD:RD2):Prop :=
 ∀ al M H x y dx dy Q QV,Wf K Tb al H M->Rp K al M H dx x->Rp K al M H dy y->rD dx dy M Q->PostV K Tb al M H Q QV->r x y H QV
abbrev dOp (rD:RD2) (ta tb:TED):TED:=fun E rho M Q=>ta E rho M fun x M1=>tb E rho M1 fun y M2=>rD x y M2 Q
section
variable {X:Cx} {Tb:List (Addr×Str)} {EV:XK} {a b c:Expr} {ta tb tc:TED} {pos:Pos}
theorem op_lift {r:R2} {rD:RD2} (hr:RefOp X.K Tb r rD) {σ:L2.St} {H:Hp} {QV:VK} (h:lift X.K Tb EV (dOp rD ta tb) σ H QV):tOp r (lift X.K Tb EV ta) (lift X.K Tb EV tb) σ H QV:=by
 obtain ⟨al,rho,M,E,Q,a,t,p⟩:=h
 refine seq1 a t fun al1 x M1 vx H1 s1 a1 r1 q1=>seq1 a1 q1 fun al2 y M2 vy H2 s2 a2 r2 q2=>?_
 exact hr al2 M2 H2 vx vy x y Q QV a2.wf (r1.mono s2) r2 q2 (p.mono (s1.trans s2))
theorem dv_op {op:Operator} {r:R2} {rD:RD2} (ho:OpR X (binaryOp op) r) (hr:RefOp X.K Tb r rD) (ha:PD X Tb EV a ta) (hb:PD X Tb EV b tb):PD X Tb EV (.BinOp a op b pos) (dOp rD ta tb) :=
 pe_imp (pe_op ho ha hb) fun _ _ _ h=>op_lift hr h
theorem dv_cmp {op:CmpOp} {r:R2} {rD:RD2} (ho:OpR X (compareOp op) r) (hr:RefOp X.K Tb r rD) (ha:PD X Tb EV a ta) (hb:PD X Tb EV b tb) (hm:behindInMarks op b=false):PD X Tb EV (.Compare a [op] [b] pos) (dOp rD ta tb) :=
 pe_imp (pe_cmpR ho ha hb hm) fun _ _ _ h=>op_lift hr h
abbrev dB (t:TED):TTD:=fun E rho M Q=>t E rho M fun x M1=>match x with
 | .bl k=>Q k M1
 | _=>False
theorem dt_cmp {op:CmpOp} {r:R2} {rD:RD2} (ho:OpR X (compareOp op) r) (hr:RefOp X.K Tb r rD) (ha:PD X Tb EV a ta) (hb:PD X Tb EV b tb) (hm:behindInMarks op b=false):PDT X Tb EV (.Compare a [op] [b] pos) (dB (dOp rD ta tb)) :=
 pt_imp (pt_cmpR ho ha hb hm) fun σ H QV h=>by
  obtain ⟨al,rho,M,E,Q,a,t,p⟩:=h
  refine op_lift hr ⟨al,rho,M,E,_,a,t,fun al' d M' v H' s w r q=>?_⟩
  cases d with
  | bl k=>exact ⟨k,r,p _ _ _ _ s w q⟩
  | _=>exact (show False from q).elim
end
def CDivX (j:Int):Prop:=j≠0/\j.natAbs.log2 < 9000
theorem op_fdivX {X:Cx}:OpR X (binaryOp .FloorDiv) (rI (fun _ j=>CDivX j) fun i j=>.int (i.fdiv j)):=opI fun _ _ _ _ _ _ _ hc q=>floordiv_int hc.1 q (.inl (PyProof.noPylong_of_log2 hc.2))
theorem op_mulO {X:Cx}:OpR X (binaryOp .Mult) (rI IntMulOk fun i j=>.int (i * j)):=opI fun _ _ _ _ _ _ _ hc q=>mul_int q hc
def rIntD (C:Int->Int->Prop) (g:Int->Int->D):RD2:=fun x y M Q=>match x,y with
 | .int i,.int j=>C i j/\Q (g i j) M
 | _,_=>False
abbrev rInt0D (g:Int->Int->D):RD2:=fun x y M Q=>match x,y with
 | .int i,.int j=>Q (g i j) M
 | _,_=>False
section
variable {X:Cx} {Tb:List (Addr×Str)} {K:PySem.W.Frag}
theorem ref_int {C:Int->Int->Prop} {g:Int->Int->V} {gD:Int->Int->D} (hg:∀ i j al M H,Rp K al M H (gD i j) (g i j)):RefOp K Tb (rI C g) (rIntD C gD):=by
 intro al M H x y dx dy Q QV w rx ry h p
 unfold rIntD at h
 split at h
 ·rename_i i j
  exact ⟨i,j,rx,ry,h.1,p al _ M _ H (Stp.refl ..) w (hg i j al M H) h.2⟩
 ·exact h.elim
theorem ref_int0 {g:Int->Int->V} {gD:Int->Int->D} (hg:∀ i j al M H,Rp K al M H (gD i j) (g i j)):RefOp K Tb (rI0 g) (rInt0D gD):=by
 intro al M H x y dx dy Q QV w rx ry h p
 unfold rInt0D at h
 split at h
 ·rename_i i j
  exact ⟨i,j,rx,ry,p al _ M _ H (Stp.refl ..) w (hg i j al M H) h⟩
 ·exact h.elim
end
abbrev rSub_:RD2:=rInt0D fun i j=>.int (i - j)
abbrev rMul_:RD2:=rIntD IntMulOk fun i j=>.int (i * j)
abbrev rDiv_:RD2:=rIntD (fun _ j=>CDivX j) fun i j=>.int (i.fdiv j)
abbrev rMod_:RD2:=rIntD (fun _ j=>j≠0) fun i j=>.int (i.fmod j)
abbrev rPow_:RD2:=rIntD CPow fun i j=>.int (i ^ j.toNat)
abbrev rLt_:RD2:=rInt0D fun i j=>.bl (decide (i < j))
abbrev rGt_:RD2:=rInt0D fun i j=>.bl (decide (j < i))
abbrev rGe_:RD2:=rInt0D fun i j=>.bl (decide (j<=i))
section
variable {X:Cx} {Tb:List (Addr×Str)} {EV:XK} {a b c:Expr} {ta tb tc:TED} {pos:Pos}
theorem dv_sub (ha:PD X Tb EV a ta) (hb:PD X Tb EV b tb):PD X Tb EV (.BinOp a .Sub b pos) (dOp rSub_ ta tb):=dv_op op_sub (ref_int0 fun _ _ _ _ _=>rfl) ha hb
theorem dv_mul (ha:PD X Tb EV a ta) (hb:PD X Tb EV b tb):PD X Tb EV (.BinOp a .Mult b pos) (dOp rMul_ ta tb):=dv_op op_mulO (ref_int fun _ _ _ _ _=>rfl) ha hb
theorem dv_fdiv (ha:PD X Tb EV a ta) (hb:PD X Tb EV b tb):PD X Tb EV (.BinOp a .FloorDiv b pos) (dOp rDiv_ ta tb):=dv_op op_fdivX (ref_int fun _ _ _ _ _=>rfl) ha hb
theorem dv_mod (ha:PD X Tb EV a ta) (hb:PD X Tb EV b tb):PD X Tb EV (.BinOp a .Mod b pos) (dOp rMod_ ta tb):=dv_op op_modN (ref_int fun _ _ _ _ _=>rfl) ha hb
theorem dv_pow (ha:PD X Tb EV a ta) (hb:PD X Tb EV b tb):PD X Tb EV (.BinOp a .Pow b pos) (dOp rPow_ ta tb):=dv_op op_pow (ref_int fun _ _ _ _ _=>rfl) ha hb
theorem dt_lt (ha:PD X Tb EV a ta) (hb:PD X Tb EV b tb):PDT X Tb EV (.Compare a [.Lt] [b] pos) (dB (dOp rLt_ ta tb)):=dt_cmp op_lt (ref_int0 fun _ _ _ _ _=>rfl) ha hb (nomark _)
theorem dt_gt (ha:PD X Tb EV a ta) (hb:PD X Tb EV b tb):PDT X Tb EV (.Compare a [.Gt] [b] pos) (dB (dOp rGt_ ta tb)):=dt_cmp op_gt (ref_int0 fun _ _ _ _ _=>rfl) ha hb (nomark _)
theorem dt_ge (ha:PD X Tb EV a ta) (hb:PD X Tb EV b tb):PDT X Tb EV (.Compare a [.GtE] [b] pos) (dB (dOp rGe_ ta tb)):=dt_cmp op_ge (ref_int0 fun _ _ _ _ _=>rfl) ha hb (nomark _)
theorem dv_gt (ha:PD X Tb EV a ta) (hb:PD X Tb EV b tb):PD X Tb EV (.Compare a [.Gt] [b] pos) (dOp rGt_ ta tb):=dv_cmp op_gt (ref_int0 fun _ _ _ _ _=>rfl) ha hb (nomark _)
abbrev dNeg (ta:TED):TED:=fun E rho M Q=>ta E rho M fun x M1=>match x with
 | .int i=>Q (.int (-i)) M1
 | _=>False
theorem dv_neg (ha:PD X Tb EV a ta):PD X Tb EV (.UnaryOp .USub a pos) (dNeg ta):=pe_imp (pe_un un_neg ha) fun σ H QV h=>by
 obtain ⟨al,rho,M,E,Q,a,t,p⟩:=h
 refine seq1 a t fun al1 x M1 vx H1 s1 a1 r1 q1=>?_
 cases x with
 | int i=>exact ⟨i,r1,p _ (.int (-i)) _ _ _ s1 a1.wf rfl q1⟩
 | _=>exact (show False from q1).elim
abbrev dNot (t:TTD):TTD:=fun E rho M Q=>t E rho M fun k M1=>Q (!k) M1
abbrev dAnd (t u:TTD):TTD:=fun E rho M Q=>t E rho M fun k M1=>if k=true then u E rho M1 Q else Q false M1
abbrev dOr (t u:TTD):TTD:=fun E rho M Q=>t E rho M fun k M1=>if k=true then Q true M1 else u E rho M1 Q
variable {tA tB':TTD} {rest:List Expr}
abbrev PDW (X:Cx) (Tb:List (Addr×Str)) (EV:XK) (e:Expr) (t:TTD):Prop:=PW X e (liftT X.K Tb EV t)
theorem dt_not (h:PDT X Tb EV a tA):PDT X Tb EV (.UnaryOp .Not a pos) (dNot tA):=pt_imp (pt_not h) fun σ H QV h=>by
 obtain ⟨al,rho,M,E,Q,a,t,p⟩:=h
 exact seqT a t fun al1 k M1 H1 s1 a1 q1=>p _ _ _ _ s1 a1.wf q1
theorem dw_and1 (h:PDT X Tb EV a tA):PDW X Tb EV (.BoolOp .And [a] pos) tA:=pw_and1 h
theorem dw_or1 (h:PDT X Tb EV a tA):PDW X Tb EV (.BoolOp .Or [a] pos) tA:=pw_or1 h
theorem dw_and (ha:PDT X Tb EV a tA) (hb:PDW X Tb EV (.BoolOp .And (b :: rest) pos) tB'):PDW X Tb EV (.BoolOp .And (a :: b :: rest) pos) (dAnd tA tB'):=pw_imp (pw_and ha hb) fun σ H QV h=>by
 obtain ⟨al,rho,M,E,Q,a,t,p⟩:=h
 refine seqT a t fun al1 k M1 H1 s1 a1 q1=>?_
 cases k with
 | true=>exact ⟨al1,rho,M1,E,Q,a1,q1,p.mono s1⟩
 | false=>exact p _ _ _ _ s1 a1.wf q1
theorem dw_or (ha:PDT X Tb EV a tA) (hb:PDW X Tb EV (.BoolOp .Or (b :: rest) pos) tB'):PDW X Tb EV (.BoolOp .Or (a :: b :: rest) pos) (dOr tA tB'):=pw_imp (pw_or ha hb) fun σ H QV h=>by
 obtain ⟨al,rho,M,E,Q,a,t,p⟩:=h
 refine seqT a t fun al1 k M1 H1 s1 a1 q1=>?_
 cases k with
 | true=>exact p _ _ _ _ s1 a1.wf q1
 | false=>exact ⟨al1,rho,M1,E,Q,a1,q1,p.mono s1⟩
theorem dt_w {e:Expr} (h:PDW X Tb EV e tA):PDT X Tb EV e tA:=h.pt
abbrev dAndV (t u:TED):TED:=fun E rho M Q=>t E rho M fun x M1=>match x with
 | .bl k=>if k=true then u E rho M1 Q else Q (.bl false) M1
 | _=>False
abbrev dNotV (t:TED):TED:=fun E rho M Q=>t E rho M fun x M1=>match x with
 | .bl k=>Q (.bl (!k)) M1
 | _=>False
theorem dv_one {op} (h:PD X Tb EV a ta):PD X Tb EV (.BoolOp op [a] pos) ta:=pe_one h
theorem dv_and (ha:PD X Tb EV a ta) (hb:PD X Tb EV (.BoolOp .And (b :: rest) pos) tb):PD X Tb EV (.BoolOp .And (a :: b :: rest) pos) (dAndV ta tb):=pe_imp (pe_and ha hb) fun σ H QV h=>by
 obtain ⟨al,rho,M,E,Q,a,t,p⟩:=h
 refine seq1 a t fun al1 x M1 vx H1 s1 a1 r1 q1=>?_
 cases x with
 | bl k =>
  refine ⟨k,r1,?_⟩
  cases k with
  | true=>exact ⟨al1,rho,M1,E,Q,a1,q1,p.mono s1⟩
  | false=>exact p _ (.bl false) _ _ _ s1 a1.wf rfl q1
 | _=>exact (show False from q1).elim
theorem dv_not (ha:PD X Tb EV a ta):PD X Tb EV (.UnaryOp .Not a pos) (dNotV ta):=pe_imp (pe_not ha) fun σ H QV h=>by
 obtain ⟨al,rho,M,E,Q,a,t,p⟩:=h
 refine seq1 a t fun al1 x M1 vx H1 s1 a1 r1 q1=>?_
 cases x with
 | bl k=>exact ⟨k,r1,p _ (.bl (!k)) _ _ _ s1 a1.wf rfl q1⟩
 | _=>exact (show False from q1).elim
abbrev dIf (t:TTD) (ta tb:TED):TED:=fun E rho M Q=>t E rho M fun k M1=>if k=true then ta E rho M1 Q else tb E rho M1 Q
theorem dv_if (hc:PDT X Tb EV c tA) (ha:PD X Tb EV a ta) (hb:PD X Tb EV b tb):PD X Tb EV (.IfExp c a b pos) (dIf tA ta tb):=pe_imp (pe_ifExp hc ha hb) fun σ H QV h=>by
 obtain ⟨al,rho,M,E,Q,a,t,p⟩:=h
 refine seqT a t fun al1 k M1 H1 s1 a1 q1=>?_
 cases k with
 | true=>exact ⟨al1,rho,M1,E,Q,a1,q1,p.mono s1⟩
 | false=>exact ⟨al1,rho,M1,E,Q,a1,q1,p.mono s1⟩
def dChain (r r':RD2) (ta tb tc:TED):TED:=fun E rho M Q=>ta E rho M fun x M1=>tb E rho M1 fun y M2=>r x y M2 fun z M3=>match z with
 | .bl k=>if k=true then tc E rho M3 fun w M4=>r' y w M4 Q else Q (.bl false) M3
 | _=>False
theorem chain_lift {r r':R2} {rD rD':RD2} (hr:RefOp X.K Tb r rD) (hr':RefOp X.K Tb r' rD') {σ:L2.St} {H:Hp} {QV:VK} (h:lift X.K Tb EV (dChain rD rD' ta tb tc) σ H QV):tChain r r' (lift X.K Tb EV ta) (lift X.K Tb EV tb) (lift X.K Tb EV tc) σ H QV:=by
 obtain ⟨al,rho,M,E,Q,a,t,p⟩:=h
 refine seq1 a t fun al1 x M1 vx H1 s1 a1 r1 q1=>seq1 a1 q1 fun al2 y M2 vy H2 s2 a2 r2 q2=>?_
 refine hr al2 M2 H2 vx vy x y _ _ a2.wf (r1.mono s2) r2 q2 fun al3 z M3 vz H3 s3 w3 r3 q3=>?_
 cases z with
 | bl k =>
  refine ⟨k,r3,?_⟩
  cases k with
  | true =>
   rw [if_pos rfl]
   refine seq1 (a2.go s3 w3) q3 fun al4 u M4 vu H4 s4 a4 r4 q4=>?_
   exact hr' al4 M4 H4 vy vu y u Q QV a4.wf (r2.mono (s3.trans s4)) r4 q4 (p.mono (((s1.trans s2).trans s3).trans s4))
  | false=>exact p _ (.bl false) _ _ _ ((s1.trans s2).trans s3) w3 rfl q3
 | _=>exact (show False from q3).elim
theorem dv_chain {op op':CmpOp} {r r':R2} {rD rD':RD2} (ho:OpR X (compareOp op) r) (hr:RefOp X.K Tb r rD) (ho':OpR X (compareOp op') r') (hr':RefOp X.K Tb r' rD') (ha:PD X Tb EV a ta) (hb:PD X Tb EV b tb) (hc:PD X Tb EV c tc)
  (hm:lastMarks [op,op'] [b,c]=false:=by with_unfolding_all rfl):PD X Tb EV (.Compare a [op,op'] [b,c] pos) (dChain rD rD' ta tb tc):=pe_imp (pe_chain ho ho' ha hb hc hm) fun _ _ _ h=>chain_lift hr hr' h
theorem dt_chain {op op':CmpOp} {r r':R2} {rD rD':RD2} (ho:OpR X (compareOp op) r) (hr:RefOp X.K Tb r rD) (ho':OpR X (compareOp op') r') (hr':RefOp X.K Tb r' rD') (ha:PD X Tb EV a ta) (hb:PD X Tb EV b tb) (hc:PD X Tb EV c tc)
  (hm:lastMarks [op,op'] [b,c]=false:=by with_unfolding_all rfl):PDT X Tb EV (.Compare a [op,op'] [b,c] pos) (dB (dChain rD rD' ta tb tc)):=pt_imp (pt_chain ho ho' ha hb hc hm) fun σ H QV h=>by
 obtain ⟨al,rho,M,E,Q,a,t,p⟩:=h
 refine chain_lift hr hr' ⟨al,rho,M,E,_,a,t,fun al' d M' v H' s w r q=>?_⟩
 cases d with
 | bl k=>exact ⟨k,r,p _ _ _ _ s w q⟩
 | _=>exact (show False from q).elim
end
theorem ifd {p:Prop} [Decidable p] {A B:Prop} (h1:p->A) (h2:¬ p->B):if decide p=true then A else B:=by
 by_cases h:p
 ·rw [decide_eq_true h];exact h1 h
 ·rw [decide_eq_false h];exact h2 h
theorem ifn {p:Prop} [Decidable p] {A B:Prop} (h1:¬ p->A) (h2:p->B):if (!decide p)=true then A else B:=by
 by_cases h:p
 ·rw [decide_eq_true h];exact h2 h
 ·rw [decide_eq_false h];exact h1 h
theorem ifb {b:Bool} {A B:Prop} (h1:b=true->A) (h2:b=false->B):if b=true then A else B:=by
 cases b
 ·exact h2 rfl
 ·exact h1 rfl
def memL (M:Mem) (i:Nat):Option (List D):=match M[i]? with
 | some (some (.lst xs))=>some xs
 | _=>none
def asL (M:Mem):D->Option (List D)
 | .lst xs=>some xs
 | .mt i=>memL M i
 | _=>none
def seqD (M:Mem):D->Option (List D)
 | .tup xs=>some xs
 | .lst xs=>some xs
 | .rol xs=>some xs
 | .mt i=>memL M i
 | _=>none
section
variable {K:PySem.W.Frag} {Tb:List (Addr×Str)} {al:Al} {M:Mem} {H:Hp}
theorem memL_ok (w:Wf K Tb al H M) {i:Nat} {ds:List D} (h:memL M i=some ds) {v:V} (r:Rp K al M H (.mt i) v):∃ a xs,v = .ref a/\al.a[i]?=some a/\M[i]?=some (some (.lst ds))/\H a=some (.lst xs)/\Rps K al M H ds xs:=by
 obtain ⟨a,e,rfl⟩:=r
 unfold memL at h
 split at h
 ·rename_i xs e2
  cases h
  obtain ⟨ys,h1,h2⟩:=w.rep i a _ e e2
  exact ⟨a,ys,rfl,e,e2,h1,h2⟩
 ·cases h
theorem asL_ok (w:Wf K Tb al H M) {d:D} {ds:List D} (h:asL M d=some ds) {v:V} (r:Rp K al M H d v):∃ a xs,v = .ref a/\H a=some (.lst xs)/\Rps K al M H ds xs:=by
 cases d with
 | lst xs =>
  cases h
  obtain ⟨a,ys,e,h1,_,h2⟩:=r
  exact ⟨a,ys,e,h1,h2⟩
 | mt i =>
  obtain ⟨a,xs,e,_,_,h1,h2⟩:=memL_ok w h r
  exact ⟨a,xs,e,h1,h2⟩
 | _=>cases h
theorem seqD_ok (w:Wf K Tb al H M) {d:D} {ds:List D} (h:seqD M d=some ds) {v:V} (r:Rp K al M H d v):∃ a xs,v = .ref a/\(SqL K H a xs\/SqT K H a xs)/\Rps K al M H ds xs:=by
 cases d with
 | tup xs =>
  cases h
  obtain ⟨a,ys,e,h1,h2⟩:=r
  exact ⟨a,ys,e,.inr h1.sq,h2⟩
 | lst xs =>
  cases h
  obtain ⟨a,ys,e,h1,_,h2⟩:=r
  exact ⟨a,ys,e,.inl (SqL.of h1),h2⟩
 | rol xs =>
  cases h
  obtain ⟨a,ys,e,h1,h2⟩:=r
  exact ⟨a,ys,e,.inl h1.sq,h2⟩
 | mt i =>
  obtain ⟨a,xs,e,_,_,h1,h2⟩:=memL_ok w h r
  exact ⟨a,xs,e,.inl (SqL.of h1),h2⟩
 | _=>cases h
theorem Rps.atI {ds:List D} {xs:List V} {i:Int} {d:D} (r:Rps K al M H ds xs) (h:L2.atI ds i=some d):∃ v,L2.atI xs i=some v/\Rp K al M H d v:=by
 unfold L2.atI at h ⊢
 rw [r.length] at h
 cases e:ixN xs.length i with
 | none=>rw [e] at h;cases h
 | some j =>
  rw [e] at h
  exact r.get h
end
abbrev dNil:TAD:=fun _ _ M Q=>Q [] M
abbrev dCons (t:TED) (u:TAD):TAD:=fun E rho M Q=>t E rho M fun x M1=>u E rho M1 fun xs M2=>Q (x :: xs) M2
abbrev dTup (t:TAD):TED:=fun E rho M Q=>t E rho M fun xs M1=>xs.length<=sizeLine/\Q (.tup xs) M1
abbrev dLst (t:TAD):TED:=fun E rho M Q=>t E rho M fun xs M1=>xs.length<=sizeLine/\Q (.lst xs) M1
abbrev dLstM (t:TAD):TED:=fun E rho M Q=>t E rho M fun xs M1=>xs.length<=sizeLine/\Q (.mt M1.length) (M1 ++ [some (.lst xs)])
section
variable {X:Cx} {Tb:List (Addr×Str)} {EV:XK} {e:Expr} {es:List Expr} {te:TED} {t:TAD} {pos:Pos}
theorem da_nil:PDA X Tb EV [] dNil:=pa_imp pa_nil fun σ H QV h=>by
 obtain ⟨al,rho,M,E,Q,a,t,p⟩:=h
 exact p _ [] _ _ _ (Stp.refl ..) a.wf rfl t
theorem da_cons (ha:PD X Tb EV e te) (hr:PDA X Tb EV es t) (hs:starEach (e :: es) X.env=(false,eval e X.env) :: starEach es X.env:=by rfl):PDA X Tb EV (e :: es) (dCons te t):=pa_imp (pa_cons ha hr hs) fun σ H QV h=>by
 obtain ⟨al,rho,M,E,Q,a,t,p⟩:=h
 refine seq1 a t fun al1 x M1 vx H1 s1 a1 r1 q1=>seqA a1 q1 fun al2 xs M2 vs H2 s2 a2 r2 q2=>?_
 exact p _ (x :: xs) _ _ _ (s1.trans s2) a2.wf ⟨vx,vs,rfl,r1.mono s2,r2⟩ q2
theorem dv_tup {x1} (h:PDA X Tb EV es t):PD X Tb EV (.Tuple es x1 pos) (dTup t):=pe_imp (pe_tup h) fun σ H QV h=>by
 obtain ⟨al,rho,M,E,Q,a,t,p⟩:=h
 refine seqA a t fun al1 xs M1 vs H1 s1 a1 r1 q1=>⟨by rw [<- r1.length];exact q1.1,fun b hb=>?_⟩
 exact p _ _ _ _ _ (s1.trans (stp_new a1.wf hb _)) (wf_new a1.wf hb _) (rp_tup a1.wf hb r1) q1.2
theorem dv_lst (h:PDA X Tb EV es t):PD X Tb EV (.List es pos) (dLst t):=pe_imp (pe_lst h) fun σ H QV h=>by
 obtain ⟨al,rho,M,E,Q,a,t,p⟩:=h
 refine seqA a t fun al1 xs M1 vs H1 s1 a1 r1 q1=>⟨by rw [<- r1.length];exact q1.1,fun b hb=>?_⟩
 exact p _ _ _ _ _ (s1.trans (stp_new a1.wf hb _)) (wf_new a1.wf hb _) (rp_lst a1.wf hb r1) q1.2
theorem mut_lst {K:PySem.W.Frag} {al:Al} {M:Mem} {H:Hp} {p:Addr} {ds:List D} {xs:List V} (w:Wf K Tb al H M) (hp:H p=none) (r:Rps K al M H ds xs) :
  Stp al M H (al.push p) (M ++ [some (.lst ds)]) (upd H p (.lst xs))/\Wf K Tb (al.push p) (upd H p (.lst xs)) (M ++ [some (.lst ds)])/\Rp K (al.push p) (M ++ [some (.lst ds)]) (upd H p (.lst xs)) (.mt M.length) (.ref p) :=
 have s:=stp_mut w hp (.lst xs) (.lst ds)
 ⟨s,wf_mut w hp (fun _ z=>by cases z) ⟨xs,upd_same,r.mono s⟩,⟨p,al_last w,rfl⟩⟩
theorem dv_lstM (h:PDA X Tb EV es t):PD X Tb EV (.List es pos) (dLstM t):=pe_imp (pe_lst h) fun σ H QV h=>by
 obtain ⟨al,rho,M,E,Q,a,t,p⟩:=h
 refine seqA a t fun al1 xs M1 vs H1 s1 a1 r1 q1=>⟨by rw [<- r1.length];exact q1.1,fun b hb=>?_⟩
 obtain ⟨h1,h2,h3⟩:=mut_lst a1.wf hb r1
 exact p _ _ _ _ _ (s1.trans h1) h2 h3 q1.2
end
def rAdd_:RD2:=fun x y M Q=>match x,y with
 | .int i,.int j=>Q (.int (i+j)) M
 | .str i,.str j=>i.length+j.length<=sizeLine/\Q (.str (i ++ j)) M
 | .tup xs,.tup ys=>xs.length+ys.length<=sizeLine/\Q (.tup (xs ++ ys)) M
 | x,y=>match asL M x,asL M y with
  | some xs,some ys=>xs.length+ys.length<=sizeLine/\Q (.lst (xs ++ ys)) M
  | _,_=>False
section
variable {X:Cx} {Tb:List (Addr×Str)} {EV:XK} {a b c:Expr} {ta tb tc:TED} {pos:Pos}
theorem Rps.nil_of {K:PySem.W.Frag} {al:Al} {M:Mem} {H:Hp} {ds:List D} {xs:List V} (r:Rps K al M H ds xs):ds=[] ↔ xs=[]:=by
 have:=r.length
 constructor
 ·rintro rfl;cases xs with | nil=>rfl | cons=>simp at this
 ·rintro rfl;cases ds with | nil=>rfl | cons=>simp at this
theorem ref_add:RefOp X.K Tb (fun x y H Q=>(rI0 fun i j=>V.int (i+j)) x y H Q\/(∃ i j,x = .str i/\y = .str j/\i.length+j.length<=sizeLine/\Q (.str (i ++ j)) H)\/rCatA X.K x y H Q\/rCat x y H Q) rAdd_:=by
 intro al M H x y dx dy Q QV w rx ry h p
 unfold rAdd_ at h
 split at h
 ·rename_i i j
  exact .inl ⟨i,j,rx,ry,p al (.int (i+j)) M _ H (Stp.refl ..) w rfl h⟩
 ·rename_i i j
  exact .inr (.inl ⟨i,j,rx,ry,h.1,p al (.str (i ++ j)) M _ H (Stp.refl ..) w rfl h.2⟩)
 ·rename_i xs ys
  obtain ⟨a,us,rfl,h1,h2⟩:=rx
  obtain ⟨b,ws,rfl,h3,h4⟩:=ry
  refine .inr (.inr (.inl ⟨a,b,us,ws,rfl,rfl,h1.sq,h3.sq,by rw [<- h2.length,<- h4.length];exact h.1,fun e=>?_,fun _ e=>?_,fun _ _ q hq=>?_⟩))
  ·have e':=h2.nil_of.mpr e
   subst e'
   exact p al (.tup ys) M _ H (Stp.refl ..) w ⟨b,ws,rfl,h3,h4⟩ (by simpa using h.2)
  ·have e':=h4.nil_of.mpr e
   subst e'
   exact p al (.tup xs) M _ H (Stp.refl ..) w ⟨a,us,rfl,h1,h2⟩ (by simpa using h.2)
  ·exact p _ _ _ _ _ (stp_new w hq _) (wf_new w hq _) (rp_tup w hq (h2.append h4)) h.2
 ·split at h
  ·rename_i xs ys e1 e2
   obtain ⟨a,us,rfl,h1,h2⟩:=asL_ok w e1 rx
   obtain ⟨b,ws,rfl,h3,h4⟩:=asL_ok w e2 ry
   exact .inr (.inr (.inr ⟨a,b,us,ws,rfl,rfl,h1,h3,by rw [<- h2.length,<- h4.length];exact h.1,fun q hq=>p _ _ _ _ _ (stp_new w hq _) (wf_new w hq _) (rp_lst w hq (h2.append h4)) h.2⟩))
  ·exact h.elim
theorem dv_add (ha:PD X Tb EV a ta) (hb:PD X Tb EV b tb):PD X Tb EV (.BinOp a .Add b pos) (dOp rAdd_ ta tb):=dv_op (op_add.or (op_add_str.or (op_catA.or op_cat))) ref_add ha hb
def rIx_:RD2:=fun x y M Q=>match y with
 | .int i=>match seqD M x with
  | some ds=>(match L2.atI ds i with
   | some d=>Q d M
   | none=>False)
  | none=>match x with
   | .str z=>z.length<=sizeLine/\(match L2.atI z.cps.toList i with
    | some c=>Q (.str ⟨#[c]⟩) M
    | none=>False)
   | _=>False
 | _=>False
theorem ref_ix:RefOp X.K Tb (rIx X.K) rIx_:=by
 intro al M H x y dx dy Q QV w rx ry h p
 unfold rIx_ at h
 split at h
 ·rename_i i
  split at h
  ·rename_i ds e
   split at h
   ·rename_i d e2
    obtain ⟨a,xs,rfl,hq,r⟩:=seqD_ok w e rx
    obtain ⟨v,e3,rv⟩:=r.atI e2
    rcases hq with hq | hq
    ·exact .inl ⟨a,xs,i,v,rfl,ry,hq,e3,p _ _ _ _ _ (Stp.refl ..) w rv h⟩
    ·exact .inr (.inl ⟨a,xs,i,v,rfl,ry,hq,e3,p _ _ _ _ _ (Stp.refl ..) w rv h⟩)
   ·exact h.elim
  ·split at h
   ·rename_i z _
    obtain ⟨h1,h⟩:=h
    split at h
    ·rename_i c e2
     exact .inr (.inr ⟨z,i,c,rx,ry,h1,e2,p _ (.str ⟨#[c]⟩) _ _ _ (Stp.refl ..) w rfl h⟩)
    ·exact h.elim
   ·exact h.elim
 ·exact h.elim
theorem dv_ix (ha:PD X Tb EV a ta) (hb:PD X Tb EV b tb) (hs:PlainIx b:=by intro _ _;rfl):PD X Tb EV (.Subscript a b pos) (dOp rIx_ ta tb):=pe_imp (pe_ix ix_seq ha hb hs) fun _ _ _ h=>op_lift ref_ix h
end
abbrev TOD:=XD->Rho->Mem->(Option Int->Mem->Prop)->Prop
def liftO (K:PySem.W.Frag) (Tb:List (Addr×Str)) (EV:XK) (t:TOD):TO:=fun σ H QV=>∃ al rho M E Q,At K Tb EV al σ H rho M E/\t E rho M Q/\∀ al' o M' H',Stp al M H al' M' H'->Wf K Tb al' H' M'->Q o M'->QV o H'
abbrev oNone:TOD:=fun _ _ M Q=>Q none M
abbrev oSome (t:TED):TOD:=fun E rho M Q=>t E rho M fun x M1=>match x with
 | .int i=>Q (some i) M1
 | _=>False
def cutL {α:Type} (xs:List α) (lo hi:Option Int):List α:=(xs.drop (HT.sIx xs.length 0 lo)).take (HT.sIx xs.length xs.length hi - HT.sIx xs.length 0 lo)
theorem Rps.cut {K:PySem.W.Frag} {al:Al} {M:Mem} {H:Hp} {ds:List D} {xs:List V} (r:Rps K al M H ds xs) (lo hi:Option Int):Rps K al M H (cutL ds lo hi) (cutV xs lo hi):=by
 unfold cutL cutV
 rw [r.length]
 exact (r.drop _).take _
def rSl_ (x:D) (lo hi:Option Int) (M:Mem) (Q:VD):Prop:=match x with
 | .str z=>z.length<=sizeLine/\Q (.str (cutS z lo hi)) M
 | .tup xs=>Q (.tup (cutL xs lo hi)) M
 | .rol xs=>Q (.lst (cutL xs lo hi)) M
 | x=>match asL M x with
  | some xs=>Q (.lst (cutL xs lo hi)) M
  | none=>False
abbrev dSl (te:TED) (tl th:TOD):TED:=fun E rho M Q=>te E rho M fun x M1=>tl E rho M1 fun l M2=>th E rho M2 fun u M3=>rSl_ x l u M3 Q
section
variable {X:Cx} {Tb:List (Addr×Str)} {EV:XK} {e:Expr} {lo hi:Option Expr} {te:TED} {tl th:TOD} {pos p2:Pos}
theorem do_none:PO X none (liftO X.K Tb EV oNone):=⟨fun pins s σ H Q I h=>by
 obtain ⟨al,rho,M,E,Q',a,t,p⟩:=h
 exact po_none.run pins s σ H Q I (p _ _ _ _ (Stp.refl ..) a.wf t)⟩
theorem do_some (h:PD X Tb EV e te):PO X (some e) (liftO X.K Tb EV (oSome te)):=⟨fun pins s σ H Q I q=>by
 obtain ⟨al,rho,M,E,Q',a,t,p⟩:=q
 refine (po_some h).run pins s σ H Q I (seq1 a t fun al1 x M1 vx H1 s1 a1 r1 q1=>?_)
 cases x with
 | int i=>exact ⟨i,r1,p _ _ _ _ s1 a1.wf q1⟩
 | _=>exact (show False from q1).elim⟩
theorem dv_slice (he:PD X Tb EV e te) (hl:PO X lo (liftO X.K Tb EV tl)) (hu:PO X hi (liftO X.K Tb EV th)):PD X Tb EV (.Subscript e (.Slice lo hi none p2) pos) (dSl te tl th) :=
 pe_imp (pe_slice (sl_list.or (sl_tupA.or sl_str)) he hl hu) fun σ H QV h=>by
  obtain ⟨al,rho,M,E,Q,a,t,p⟩:=h
  refine seq1 a t fun al1 x M1 vx H1 s1 a1 r1 q1=>⟨al1,rho,M1,E,_,a1,q1,fun al2 l M2 H2 s2 w2 q2=>⟨al2,rho,M2,E,_,a1.go s2 w2,q2,fun al3 u M3 H3 s3 w3 q3=>?_⟩⟩
  have r3:=r1.mono (s2.trans s3)
  have p3:=p.mono (s1.trans (s2.trans s3))
  unfold rSl_ at q3
  split at q3
  ·rename_i z
   exact .inr (.inr ⟨z,r3,q3.1,p3 _ (.str (cutS z l u)) _ _ _ (Stp.refl ..) w3 rfl q3.2⟩)
  ·rename_i xs
   obtain ⟨b,ys,rfl,h1,h2⟩:=r3
   refine .inr (.inl ⟨b,ys,rfl,h1.sq,fun hw=>?_,fun hw q hq=>p3 _ _ _ _ _ (stp_new w3 hq _) (wf_new w3 hq _) (rp_tup w3 hq (h2.cut l u)) q3⟩)
   have e:cutL xs l u=xs:=by
    unfold cutL
    rw [h2.length,hw.1,hw.2]
    simp [<- h2.length]
   rw [e] at q3
   exact p3 _ (.tup xs) _ _ _ (Stp.refl ..) w3 ⟨b,ys,rfl,h1,h2⟩ q3
  ·rename_i xs
   obtain ⟨b,ys,rfl,h1,h2⟩:=r3
   exact .inl ⟨b,ys,rfl,h1.sq,fun q hq=>p3 _ _ _ _ _ (stp_new w3 hq _) (wf_new w3 hq _) (rp_lst w3 hq (h2.cut l u)) q3⟩
  ·split at q3
   ·rename_i xs e1
    obtain ⟨b,ys,rfl,h1,h2⟩:=asL_ok w3 e1 r3
    exact .inl ⟨b,ys,rfl,SqL.of h1,fun q hq=>p3 _ _ _ _ _ (stp_new w3 hq _) (wf_new w3 hq _) (rp_lst w3 hq (h2.cut l u)) q3⟩
   ·exact q3.elim
end
mutual
def toPy:D->Option PyData
 | .non=>some .none
 | .bl b=>some (.bool b)
 | .int i=>some (.int i)
 | .str x=>some (.str x)
 | .tup xs=>(toPys xs).map .tuple
 | .lst xs=>(toPys xs).map .list
 | .rol xs=>(toPys xs).map .list
 | _=>none
def toPys:List D->Option (List PyData)
 | []=>some []
 | x :: xs=>match toPy x,toPys xs with
  | some p,some ps=>some (p :: ps)
  | _,_=>none
end
def toPyM (M:Mem):D->Option PyData
 | .mt i=>match memL M i with
  | some xs=>(toPys xs).map .list
  | none=>none
 | d=>toPy d
section
variable {K:PySem.W.Frag} {Tb:List (Addr×Str)} {al:Al} {M:Mem} {H:Hp}
mutual
theorem toPy_ok:∀ {d:D} {p:PyData} {v:V},toPy d=some p->Rp K al M H d v->Dp K H v p
 | .non,_,_,e,r=>by cases e;cases (show _=_ from r);exact .non
 | .bl b,_,_,e,r=>by cases e;cases (show _=_ from r);exact .bl b
 | .int i,_,_,e,r=>by cases e;cases (show _=_ from r);exact .int i
 | .str x,_,_,e,r=>by cases e;cases (show _=_ from r);exact .str x
 | .tup xs,_,_,e,r=>by
  obtain ⟨a,ys,rfl,h1,h2⟩:=r
  unfold toPy at e
  cases q:toPys xs with
  | none=>rw [q] at e;cases e
  | some ps=>rw [q] at e;cases e;exact .tup h1.sq (toPys_ok q h2)
 | .lst xs,_,_,e,r=>by
  obtain ⟨a,ys,rfl,h1,_,h2⟩:=r
  unfold toPy at e
  cases q:toPys xs with
  | none=>rw [q] at e;cases e
  | some ps=>rw [q] at e;cases e;exact .lst (SqL.of h1) (toPys_ok q h2)
 | .rol xs,_,_,e,r=>by
  obtain ⟨a,ys,rfl,h1,h2⟩:=r
  unfold toPy at e
  cases q:toPys xs with
  | none=>rw [q] at e;cases e
  | some ps=>rw [q] at e;cases e;exact .lst h1.sq (toPys_ok q h2)
 | .ty _,_,_,e,_=>by cases e
 | .obj _ _ _,_,_,e,_=>by cases e
 | .exc _ _ _,_,_,e,_=>by cases e
 | .dk _ _,_,_,e,_=>by cases e
 | .dt _ _,_,_,e,_=>by cases e
 | .ref _,_,_,e,_=>by cases e
 | .lam _ _,_,_,e,_=>by cases e
 | .mt _,_,_,e,_=>by cases e
theorem toPys_ok:∀ {ds:List D} {ps:List PyData} {xs:List V},toPys ds=some ps->Rps K al M H ds xs->DpAll K H xs ps
 | [],_,_,e,r=>by cases e;cases (show _=[] from r);exact .nil
 | d :: ds,_,_,e,r=>by
  obtain ⟨x,xs,rfl,h1,h2⟩:=r
  unfold toPys at e
  split at e
  ·rename_i p ps e1 e2
   cases e
   exact .cons (toPy_ok e1 h1) (toPys_ok e2 h2)
  ·cases e
end
theorem toPyM_ok (w:Wf K Tb al H M) {d:D} {p:PyData} {v:V} (e:toPyM M d=some p) (r:Rp K al M H d v):Dp K H v p:=by
 unfold toPyM at e
 split at e
 ·rename_i i
  split at e
  ·rename_i xs e1
   obtain ⟨a,ys,rfl,_,_,h1,h2⟩:=memL_ok w e1 r
   cases q:toPys xs with
   | none=>rw [q] at e;cases e
   | some ps=>rw [q] at e;cases e;exact .lst (SqL.of h1) (toPys_ok q h2)
  ·cases e
 ·exact toPy_ok e r
end
def scalD:D->D->Option Bool
 | .int i,.int j=>some (decide (i=j))
 | .str x,.str y=>some (decide (x=y))
 | .bl a,.bl b=>some (decide (a=b))
 | .non,.non=>some true
 | .non,.int _=>some false | .int _,.non=>some false | .non,.bl _=>some false | .bl _,.non=>some false | .non,.str _=>some false | .str _,.non=>some false
 | .int _,.str _=>some false | .str _,.int _=>some false | .bl _,.str _=>some false | .str _,.bl _=>some false
 | _,_=>none
theorem scalD_ok {K:PySem.W.Frag} {al:Al} {M:Mem} {H:Hp} {dx dy:D} {x y:V} {b:Bool} (e:scalD dx dy=some b) (rx:Rp K al M H dx x) (ry:Rp K al M H dy y):scal x y=true/\decide (x=y)=b:=by
 cases dx <;> cases dy <;> first | (cases (show (none:Option Bool)=some b from e)) | skip
 all_goals
  cases (show _=_ from rx)
  cases (show _=_ from ry)
  have e':=Option.some.inj e
  subst e'
  exact ⟨rfl,by simp⟩
def rEq_:RD2:=fun x y M Q=>match scalD x y with
 | some b=>Q (.bl b) M
 | none=>match toPyM M x,toPyM M y with
  | some p,some q=>SeqAt.shaped p=true/\SeqAt.shaped q=true/\Q (.bl (PyData.eqv p q)) M
  | _,_=>False
def rNe_:RD2:=fun x y M Q=>match scalD x y with
 | some b=>Q (.bl (!b)) M
 | none=>match toPyM M x,toPyM M y with
  | some p,some q=>SeqAt.shaped p=true/\SeqAt.shaped q=true/\Q (.bl (!PyData.eqv p q)) M
  | _,_=>False
section
variable {X:Cx} {Tb:List (Addr×Str)} {EV:XK} {a b c:Expr} {ta tb tc:TED} {pos:Pos}
theorem ref_eq:RefOp X.K Tb (fun x y H Q=>rEq x y H Q\/L2.rEqD X.K x y H Q) rEq_:=by
 intro al M H x y dx dy Q QV w rx ry h p
 unfold rEq_ at h
 split at h
 ·rename_i b e
  obtain ⟨h1,h2⟩:=scalD_ok e rx ry
  exact .inl ⟨h1,by rw [h2];exact p _ (.bl b) _ _ _ (Stp.refl ..) w rfl (by simpa using h)⟩
 ·split at h
  ·rename_i p1 p2 e1 e2
   exact .inr ⟨p1,p2,toPyM_ok w e1 rx,toPyM_ok w e2 ry,h.1,h.2.1,p _ (.bl _) _ _ _ (Stp.refl ..) w rfl (by simpa using h.2.2)⟩
  ·exact h.elim
theorem ref_ne:RefOp X.K Tb (fun x y H Q=>rNe x y H Q\/L2.rNeD X.K x y H Q) rNe_:=by
 intro al M H x y dx dy Q QV w rx ry h p
 unfold rNe_ at h
 split at h
 ·rename_i b e
  obtain ⟨h1,h2⟩:=scalD_ok e rx ry
  exact .inl ⟨h1,by rw [h2];exact p _ (.bl (!b)) _ _ _ (Stp.refl ..) w rfl (by simpa using h)⟩
 ·split at h
  ·rename_i p1 p2 e1 e2
   exact .inr ⟨p1,p2,toPyM_ok w e1 rx,toPyM_ok w e2 ry,h.1,h.2.1,p _ (.bl _) _ _ _ (Stp.refl ..) w rfl (by simpa using h.2.2)⟩
  ·exact h.elim
theorem dv_eq (hu:X.A.units+64 < cLine) (ha:PD X Tb EV a ta) (hb:PD X Tb EV b tb):PD X Tb EV (.Compare a [.Eq] [b] pos) (dOp rEq_ ta tb):=dv_cmp (op_eq.or (op_eqD hu)) ref_eq ha hb (nomark _)
theorem dt_eq (hu:X.A.units+64 < cLine) (ha:PD X Tb EV a ta) (hb:PD X Tb EV b tb):PDT X Tb EV (.Compare a [.Eq] [b] pos) (dB (dOp rEq_ ta tb)):=dt_cmp (op_eq.or (op_eqD hu)) ref_eq ha hb (nomark _)
theorem dt_ne (hu:X.A.units+64 < cLine) (ha:PD X Tb EV a ta) (hb:PD X Tb EV b tb):PDT X Tb EV (.Compare a [.NotEq] [b] pos) (dB (dOp rNe_ ta tb)):=dt_cmp (op_ne.or (op_neD hu)) ref_ne ha hb (nomark _)
def isNon:D->Bool
 | .non=>true
 | _=>false
def rIs_:RD2:=fun x y M Q=>match y with
 | .non=>Q (.bl (isNon x)) M
 | _=>False
def rIsNot_:RD2:=fun x y M Q=>match y with
 | .non=>Q (.bl (!isNon x)) M
 | _=>False
theorem isNon_ok {K:PySem.W.Frag} {al:Al} {M:Mem} {H:Hp} {d:D} {v:V} (r:Rp K al M H d v):decide (v = .non)=isNon d:=by
 cases d with
 | non=>cases (show _=_ from r);rfl
 | bl=>cases (show _=_ from r);rfl
 | int=>cases (show _=_ from r);rfl
 | str=>cases (show _=_ from r);rfl
 | ty=>cases (show _=_ from r);rfl
 | ref=>cases (show _=_ from r);rfl
 | tup=>obtain ⟨_,_,rfl,_⟩:=r;rfl
 | lst=>obtain ⟨_,_,rfl,_⟩:=r;rfl
 | rol=>obtain ⟨_,_,rfl,_⟩:=r;rfl
 | obj=>obtain ⟨_,_,_,rfl,_⟩:=r;rfl
 | dk=>obtain ⟨_,_,_,rfl,_⟩:=r;rfl
 | dt=>obtain ⟨_,_,_,rfl,_⟩:=r;rfl
 | exc=>obtain ⟨_,_,_,rfl,_⟩:=r;rfl
 | lam=>obtain ⟨rfl,_⟩:=r;rfl
 | mt=>obtain ⟨_,_,rfl⟩:=r;rfl
theorem ref_is:RefOp X.K Tb (fun x y H Q=>y = .non/\Q (.bl (decide (x = .non))) H) rIs_:=by
 intro al M H x y dx dy Q QV w rx ry h p
 unfold rIs_ at h
 split at h
 ·exact ⟨ry,by rw [isNon_ok rx];exact p _ (.bl _) _ _ _ (Stp.refl ..) w rfl (by simpa using h)⟩
 ·exact h.elim
theorem ref_isnot:RefOp X.K Tb (fun x y H Q=>y = .non/\Q (.bl (!decide (x = .non))) H) rIsNot_:=by
 intro al M H x y dx dy Q QV w rx ry h p
 unfold rIsNot_ at h
 split at h
 ·exact ⟨ry,by rw [isNon_ok rx];exact p _ (.bl _) _ _ _ (Stp.refl ..) w rfl (by simpa using h)⟩
 ·exact h.elim
theorem dt_is (ha:PD X Tb EV a ta) (hb:PD X Tb EV b tb):PDT X Tb EV (.Compare a [.Is] [b] pos) (dB (dOp rIs_ ta tb)):=dt_cmp op_isN ref_is ha hb (nomark _)
theorem dv_is (ha:PD X Tb EV a ta) (hb:PD X Tb EV b tb):PD X Tb EV (.Compare a [.Is] [b] pos) (dOp rIs_ ta tb):=dv_cmp op_isN ref_is ha hb (nomark _)
theorem dv_isnot (ha:PD X Tb EV a ta) (hb:PD X Tb EV b tb):PD X Tb EV (.Compare a [.IsNot] [b] pos) (dOp rIsNot_ ta tb):=dv_cmp op_notN ref_isnot ha hb (nomark _)
abbrev truD (x:D) (M:Mem) (Q:Bool->Mem->Prop):Prop:=match x with
 | .bl k=>Q k M
 | .int i=>Q (i != 0) M
 | .non=>Q false M
 | .str z=>z.length<=sizeLine/\Q ((z.length:Int) != 0) M
 | x=>match seqD M x with
  | some xs=>Q (!xs.isEmpty) M
  | none=>False
abbrev dTru (t:TED):TTD:=fun E rho M Q=>t E rho M fun x M1=>truD x M1 Q
theorem dt_tru (ha:PD X Tb EV a ta) (he:∀ whole,isTrue a X.env whole=(do let v <- whole;standAt a.pos;holding [v] (truthy v)):=by intro _;rfl):PDT X Tb EV a (dTru ta):=pt_imp (pt_truth ha he) fun σ H QV h=>by
 obtain ⟨al,rho,M,E,Q,a,t,p⟩:=h
 refine seq1 a t fun al1 x M1 vx H1 s1 a1 r1 q1=>?_
 unfold truD at q1
 split at q1
 ·rename_i k;cases (show _=_ from r1);exact ⟨k,rfl,p _ _ _ _ s1 a1.wf q1⟩
 ·rename_i i;cases (show _=_ from r1);exact ⟨_,rfl,p _ _ _ _ s1 a1.wf q1⟩
 ·cases (show _=_ from r1);exact ⟨_,rfl,p _ _ _ _ s1 a1.wf q1⟩
 ·rename_i z;cases (show _=_ from r1);exact ⟨_,⟨q1.1,rfl⟩,p _ _ _ _ s1 a1.wf q1.2⟩
 ·split at q1
  ·rename_i xs e
   obtain ⟨b,ys,rfl,hq,r⟩:=seqD_ok a1.wf e r1
   have hz:(!ys.isEmpty)=!xs.isEmpty:=by
    have:=r.length
    cases xs <;> cases ys <;> simp_all
   refine ⟨!ys.isEmpty,?_,by rw [hz];exact p _ _ _ _ s1 a1.wf q1⟩
   rcases hq with hq | hq
   ·exact .inl ⟨ys,hq,rfl⟩
   ·exact .inr (.inl ⟨ys,hq,rfl⟩)
  ·exact q1.elim
end
section
variable {K:PySem.W.Frag} {Tb:List (Addr×Str)} {al:Al} {M:Mem} {H:Hp}
theorem Wf.okM (w:Wf K Tb al H M):okM M.length M:=fun i mo hi e=>by
 obtain ⟨a,ha⟩:∃ a,al.a[i]?=some a:=by rw [List.getElem?_eq_some_iff.mpr ⟨by rw [w.len];exact hi,rfl⟩];exact ⟨_,rfl⟩
 have r:=w.rep i a mo ha e
 rw [<- w.len]
 cases mo with
 | lst xs=>obtain ⟨_,_,r⟩:=r;exact r.hb
 | dK kvs=>obtain ⟨_,_,r⟩:=r;exact r.2.hb
 | dT ks ds=>obtain ⟨_,_,r⟩:=r;exact r.2.hb
 | ins C fs=>obtain ⟨_,_,_,r⟩:=r;exact r.2.hb
theorem cut_lt {n i:Nat} {a:Addr} (e:(al.cut n).a[i]?=some a):i < n/\al.a[i]?=some a:=by
 have e:(al.a.take n)[i]?=some a:=e
 have hi:i < n:=by
  have:=(List.getElem?_eq_some_iff.mp e).1
  simp at this;omega
 rw [List.getElem?_take_of_lt hi] at e
 exact ⟨hi,e⟩
theorem lt_cut {n i:Nat} {a:Addr} (hi:i < n) (e:al.a[i]?=some a):(al.cut n).a[i]?=some a:=by
 show (al.a.take n)[i]?=some a
 rw [List.getElem?_take_of_lt hi];exact e
theorem Fz.cut {n:Nat} {a:Addr} (f:Fz al M a):Fz (al.cut n) (M.take n) a:=⟨f.1,fun i mo e1 e2=>by
 obtain ⟨hi,e1⟩:=cut_lt e1
 rw [List.getElem?_take_of_lt hi] at e2
 exact f.2 i mo e1 e2⟩
mutual
theorem Rp.cutH {n:Nat}:∀ {d:D} {v:V},Rp K al M H d v->D.hb n d=true->Rp K (al.cut n) (M.take n) H d v
 | .mt i,_,h,b=>by
  obtain ⟨a,e,q⟩:=h
  have hi:i < n:=of_decide_eq_true b
  exact ⟨a,lt_cut hi e,q⟩
 | .tup xs,_,h,b=>by
  obtain ⟨a,ys,e,q,r⟩:=h
  refine ⟨a,ys,e,?_,Rps.cutH r b⟩
  rcases q with ⟨q,f⟩ | q
  ·exact .inl ⟨q,f.cut⟩
  ·exact .inr q
 | .lst xs,_,h,b=>by
  obtain ⟨a,ys,e,q,f,r⟩:=h
  exact ⟨a,ys,e,q,f.cut,Rps.cutH r b⟩
 | .rol xs,_,h,b=>by
  obtain ⟨a,ys,e,q,r⟩:=h
  refine ⟨a,ys,e,?_,Rps.cutH r b⟩
  rcases q with ⟨q,f⟩ | q
  ·exact .inl ⟨q,f.cut⟩
  ·exact .inr q
 | .obj _ _ xs,_,h,b=>by
  obtain ⟨a,dx,ys,e,q,f,l,r⟩:=h
  exact ⟨a,dx,ys,e,q,f.cut,l,Rps.cutH r b⟩
 | .dk _ xs,_,h,b=>by
  obtain ⟨a,dx,ys,e,q,f,l,r⟩:=h
  exact ⟨a,dx,ys,e,q,f.cut,l,Rps.cutH r b⟩
 | .dt _ xs,_,h,b=>by
  obtain ⟨a,dx,ys,e,q,f,l,r⟩:=h
  exact ⟨a,dx,ys,e,q,f.cut,l,Rps.cutH r b⟩
 | .exc _ _ xs,_,h,b=>by
  obtain ⟨a,dx,ys,e,q,f,q2,f2,l,r⟩:=h
  exact ⟨a,dx,ys,e,q,f.cut,q2,f2.cut,l,Rps.cutH r b⟩
 | .non,_,h,_=>h
 | .bl _,_,h,_=>h
 | .int _,_,h,_=>h
 | .str _,_,h,_=>h
 | .ty _,_,h,_=>h
 | .lam _ _,_,h,_=>⟨h.1,fun x hx=>⟨(h.2 x hx).1,(h.2 x hx).2.cut⟩⟩
 | .ref _,_,h,_=>h
theorem Rps.cutH {n:Nat}:∀ {ds:List D} {vs:List V},Rps K al M H ds vs->D.hbs n ds=true->Rps K (al.cut n) (M.take n) H ds vs
 | [],_,h,_=>h
 | d :: ds,_,h,b=>by
  obtain ⟨x,r,e,q,t⟩:=h
  have b':(D.hb n d && D.hbs n ds)=true:=b
  rw [Bool.and_eq_true] at b'
  exact ⟨x,r,e,Rp.cutH q b'.1,Rps.cutH t b'.2⟩
end
theorem Rpk.cutH {κ:Type} {n:Nat} {ds:List (κ×D)} {xs:List (κ×V)} (h:Rpk K al M H ds xs) (b:D.hbs n (ds.map (·.2))=true):Rpk K (al.cut n) (M.take n) H ds xs:=⟨h.1,h.2.cutH b⟩
theorem Rpd.cutH {n:Nat} {ks:List (List Int)} {ds:List D} {L:Ents} (h:Rpd K al M H ks ds L) (b:D.hbs n ds=true):Rpd K (al.cut n) (M.take n) H ks ds L:=⟨h.1,h.2.cutH b⟩
theorem wf_cut {n:Nat} (w:Wf K Tb al H M) (ok:DL.okM n M):Wf K Tb (al.cut n) H (M.take n):=by
 refine ⟨by simp [w.len,Al.cut],w.nd.sublist (List.take_sublist _ _),fun i a mo e1 e2=>?_,fun i a e1=>?_,w.tb,w.hth,fun i a mo e1 e2=>?_⟩
 ·obtain ⟨hi,e1⟩:=cut_lt e1
  rw [List.getElem?_take_of_lt hi] at e2
  have r:=w.rep i a mo e1 e2
  have b:=ok i mo hi e2
  cases mo with
  | lst xs=>obtain ⟨ys,h1,h2⟩:=r;exact ⟨ys,h1,h2.cutH b⟩
  | dK kvs=>obtain ⟨ys,h1,h2⟩:=r;exact ⟨ys,h1,h2.cutH b⟩
  | dT ks ds=>obtain ⟨ys,h1,h2⟩:=r;exact ⟨ys,h1,h2.cutH b⟩
  | ins C fs=>obtain ⟨dx,ys,h1,h2⟩:=r;exact ⟨dx,ys,h1,h2.cutH b⟩
 ·obtain ⟨hi,e1⟩:=cut_lt e1
  exact w.there i a e1
 ·obtain ⟨hi,e1⟩:=cut_lt e1
  rw [List.getElem?_take_of_lt hi] at e2
  exact w.hdis i a mo e1 e2
theorem stp_cut {al':Al} {M':Mem} {H':Hp} {m:Nat} (w:Wf K Tb al H M) (hm:M.length<=m) (s:Stp al M H al' M' H'):Stp al M H (al'.cut m) (M'.take m) H' :=
 ⟨fun i a e=>lt_cut (Nat.lt_of_lt_of_le (by rw [<- w.len];exact (List.getElem?_eq_some_iff.mp e).1) hm) (s.pre i a e),fun a o h n f=>⟨(s.fz a o h n f).1,(s.fz a o h n f).2.cut⟩,s.hh,s.hid⟩
end
theorem Cut.same {Q:VD} {d:D} {M:Mem} (h:d.hb M.length=true) (ok:okM M.length M) (q:Q d M):Cut M.length Q d M:=⟨M.length,Nat.le_refl _,h,ok,by rw [List.take_length];exact q⟩
theorem CutX.same {E:XD} {x:Exn} {M:Mem} (h:D.hbs M.length (x.fs.map (·.2))=true) (ok:okM M.length M) (q:E x M):CutX M.length E x M:=⟨h,ok,by rw [List.take_length];exact q⟩
abbrev dCall (dsp:DSp) (t:TAD):TED:=fun E rho M Q=>t E rho M fun ds M1=>dsp ds M1 Q E
section
variable {X:Cx} {Tb:List (Addr×Str)} {EV:XK} {k:Nat} {f:Addr} {fd:FuncData} {ps:List Str} {dsp:DSp} {x:Str} {p pos:Pos} {e:Expr} {es:List Expr} {t:TAD}
theorem call_lift {σ:L2.St} {H:Hp} {QV:VK} (h:lift X.K Tb EV (dCall dsp t) σ H QV):tCall (liftSp X.K Tb dsp) [] EV (liftA X.K Tb EV t) σ H QV:=by
 obtain ⟨al,rho,M,E,Q,a,t,p⟩:=h
 refine seqA a t fun al1 ds M1 vs H1 s1 a1 r1 q1=>?_
 rw [List.append_nil]
 exact ⟨al1,M1,ds,Q,E,a1.wf,r1,q1,p.mono s1,a1.ex⟩
theorem dv_call (F:FnD X.prog X.w X.K X.mg X.base Tb k f fd ps dsp) (hr:Room k X.A) (hg:Gl X x) (hm:X.mg x=some (.ref f)) (hk:PySem.W.keepIn X.K (.ref f)=true) (hb:Binds X.K fd ps []) (hx:Passes (L2.CX X.prog X.w) X EV)
  (ha:PDA X Tb EV (e :: es) t) (hdb:(x == ("__debug__":Str))=false:=by decide) (he:starEach (e :: es) X.env=(false,eval e X.env) :: starEach es X.env:=by rfl) (hpl:(backTo pos (starEach es X.env)).any (·.1)=false:=by rfl) :
  PD X Tb EV (.Call (.Name x p) (e :: es) [] pos) (dCall dsp t):=pe_imp (pe_call F.ok hr hg hm hk hb .nil hx ha hdb he hpl) fun _ _ _ h=>call_lift h
end
def startD (N:List Str) (ds:List D):Rho:=ds.map some ++ List.replicate (N.length - ds.length) none
theorem start_ok {K:PySem.W.Frag} {al:Al} {M:Mem} {H:Hp} {N:List Str} {ds:List D} {vs:List V} (r:Rps K al M H ds vs):RpS K al M H (L2.start N vs) (startD N ds):=by
 have hl:=r.length
 unfold L2.start startD
 refine ⟨by simp [hl],fun i d e=>?_⟩
 by_cases hi:i < ds.length
 ·rw [List.getElem?_append_left (by simpa using hi),List.getElem?_map] at e
  cases q:ds[i]? with
  | none=>rw [q] at e;cases e
  | some d' =>
   rw [q] at e;cases e
   obtain ⟨v,e2,rv⟩:=r.get q
   exact ⟨v,by rw [List.getElem?_append_left (by rw [List.length_map,<- hl];exact hi),List.getElem?_map,e2];rfl,rv⟩
 ·rw [List.getElem?_append_right (by simpa using hi),List.getElem?_replicate] at e
  split at e <;> cases e
section
variable {P:Program} {w:World} {K:PySem.W.Frag} {mg:Str->Option Value} {base:Heap} {Tb:List (Addr×Str)}
theorem fnD_of {x qual:Str} {params:Arguments} {body:List Stmt} {scope:Scope} {dvs:List V} {kws:List (Str×V)} {f:Addr} {fd:FuncData} {N ps:List Str} {k:Nat} {dsp:DSp} (tb:TSD) (F:FunD K x qual params body scope dvs kws f fd) (S:FnScope N ps scope)
  (len:∀ ds M Q E,dsp ds M Q E->ds.length=ps.length)
  (hbody:∀ (cdv:Value) (A:Around) (outer:List Env) (s:Shared) (H:Hp) (EV:XK),Room k (A.deeper (envOfC qual scope s.heap.objs.size f cdv))->PDSs (cxOf (L2.CX P w) P w K mg base N qual scope f cdv A outer s H EV) Tb EV body tb)
  (hq:∀ ds M Q E,okM M.length M->D.hbs M.length ds=true->dsp ds M Q E->tb (CutX M.length E) { nx:=fun _ M'=>Cut M.length Q .non M',rt:=Cut M.length Q } (startD N ds) M):FnD P w K mg base Tb (k+1) f fd ps dsp:=by
 refine ⟨F.ok S (fun vs H Q E h=>?_) fun cdv A outer s H vs QV EV hr h=>?_⟩
 ·obtain ⟨al,M,ds,Q,E,wf,r,q,_⟩:=h
  rw [<- r.length];exact len _ _ _ _ q
 ·obtain ⟨al,M,ds,Q,E,wf,r,q,p,px⟩:=h
  have pv:PostV K Tb al M H (Cut M.length Q) QV:=fun al' d M' v H' s' w' r' q' =>
   let ⟨m,hm,q1,q2,q3⟩:=q';p _ _ _ _ _ (stp_cut wf hm s') (wf_cut w' q2) (r'.cutH q1) q3
  refine ⟨_,hbody cdv A outer s H EV hr,al,startD N ds,M,CutX M.length E,_,⟨wf,start_ok r,fun al' y M' cls dct H' s' w' r' q'=>?_⟩,hq ds M Q E wf.okM (by rw [<- wf.len];exact r.hb) q,?_⟩
  ·obtain ⟨e1,dx,ys,e2,h1,h2⟩:=r'
   exact px _ y _ cls dct _ (stp_cut wf (Nat.le_refl _) s') (wf_cut w' q'.2.1) ⟨e1,dx,ys,e2,h1,h2.cutH q'.1⟩ q'.2.2
  ·refine ⟨fun al' rho' M' σ' H' s' w' _ q'=>?_,pv,fun _ _ _ _ _ _ _ _ q'=>q'.elim,fun _ _ _ _ _ _ _ _ q'=>q'.elim⟩
   exact pv al' .non M' .non H' s' w' rfl q'
end
abbrev dNext:TSD:=fun _ DD rho M=>DD.nx rho M
def dSeq (t u:TSD):TSD:=fun E DD rho M=>t E { DD with nx:=u E DD } rho M
abbrev dDrop (te:TED):TSD:=fun E DD rho M=>te E rho M fun _ M1=>DD.nx rho M1
abbrev dRet (te:TED):TSD:=fun E DD rho M=>te E rho M DD.rt
abbrev dIfS (c:TTD) (t u:TSD):TSD:=fun E DD rho M=>c E rho M fun b M1=>if b=true then t E DD rho M1 else u E DD rho M1
section
variable {X:Cx} {Tb:List (Addr×Str)} {EV:XK} {st:Stmt} {rest:List Stmt} {t u:TSD} {e:Expr} {te:TED} {pos:Pos}
theorem ds_nil:PDSs X Tb EV [] dNext:=pss_imp pss_nil fun DV σ H h=>by
 obtain ⟨al,rho,M,E,DD,a,t,p⟩:=h
 exact p.nx _ _ _ _ _ (Stp.refl ..) a.wf a.sl t
theorem ds_cons (h1:PDS X Tb EV st t) (h2:PDSs X Tb EV rest u):PDSs X Tb EV (st :: rest) (dSeq t u):=pss_imp (pss_cons h1 h2) fun DV σ H h=>by
 obtain ⟨al,rho,M,E,DD,a,t,p⟩:=h
 exact ⟨al,rho,M,E,_,a,t,⟨fun al' rho' M' σ' H' s w r q=>⟨al',rho',M',E,DD,⟨w,r,a.ex.mono s⟩,q,p.mono s⟩,p.rt,p.bk,p.ct⟩⟩
theorem ds_one (h1:PDS X Tb EV st t):PDSs X Tb EV [st] t:=pss_one h1
theorem dp_expr (he:PD X Tb EV e te) (hs:swapsWith e none pos.line X.env=pure false:=by rfl):PDS X Tb EV (.Expr e pos) (dDrop te):=ps_imp (ps_expr he hs) fun DV σ H h=>by
 obtain ⟨al,rho,M,E,DD,a,t,p⟩:=h
 exact seq1 a t fun al1 x M1 vx H1 s1 a1 r1 q1=>p.nx _ _ _ _ _ s1 a1.wf a1.sl q1
theorem dp_ret (he:PD X Tb EV e te):PDS X Tb EV (.Return (some e) pos) (dRet te):=ps_imp (ps_ret he) fun DV σ H h=>by
 obtain ⟨al,rho,M,E,DD,a,t,p⟩:=h
 exact ⟨al,rho,M,E,DD.rt,a,t,p.rt⟩
theorem dp_if {c:Expr} {ss us:List Stmt} {tc:TTD} (hc:PDT X Tb EV c tc) (ha:PDSs X Tb EV ss t) (hb:PDSs X Tb EV us u):PDS X Tb EV (.If c ss us pos) (dIfS tc t u):=ps_imp (ps_if hc ha hb) fun DV σ H h=>by
 obtain ⟨al,rho,M,E,DD,a,t,p⟩:=h
 refine seqT a t fun al1 k M1 H1 s1 a1 q1=>?_
 cases k with
 | true=>exact ⟨al1,rho,M1,E,DD,a1,q1,p.mono s1⟩
 | false=>exact ⟨al1,rho,M1,E,DD,a1,q1,p.mono s1⟩
end
abbrev TGD:=D->XD->Rho->Mem->(Rho->Mem->Prop)->Prop
abbrev TGsD:=List D->XD->Rho->Mem->(Rho->Mem->Prop)->Prop
def liftG (K:PySem.W.Frag) (Tb:List (Addr×Str)) (EV:XK) (t:TGD):TG:=fun v σ H QS=>∃ al rho M E d Q,At K Tb EV al σ H rho M E/\Rp K al M H d v/\t d E rho M Q/\PostS K Tb al M H Q QS
def liftGs (K:PySem.W.Frag) (Tb:List (Addr×Str)) (EV:XK) (t:TGsD):TGs:=fun vs σ H QS=>∃ al rho M E ds Q,At K Tb EV al σ H rho M E/\Rps K al M H ds vs/\t ds E rho M Q/\PostS K Tb al M H Q QS
abbrev PDG (X:Cx) (Tb:List (Addr×Str)) (EV:XK) (e:Expr) (t:TGD):Prop:=PG X e (liftG X.K Tb EV t)
abbrev PDGs (X:Cx) (Tb:List (Addr×Str)) (EV:XK) (es:List Expr) (t:TGsD):Prop:=PGs X es (liftGs X.K Tb EV t)
abbrev hName (i:Nat):TGD:=fun d _ rho M Q=>Q (rho.set i (some d)) M
abbrev hNil:TGsD:=fun ds _ rho M Q=>match ds with
 | []=>Q rho M
 | _=>False
abbrev hCons (t:TGD) (u:TGsD):TGsD:=fun ds E rho M Q=>match ds with
 | d :: r=>t d E rho M fun rho' M'=>u r E rho' M' Q
 | []=>False
def hTup (n:Nat) (t:TGsD):TGD:=fun d E rho M Q=>match d with
 | .tup xs=>xs.length=n/\t xs E rho M Q
 | _=>False
abbrev dAsg (te:TED) (g:TGD):TSD:=fun E DD rho M=>te E rho M fun x M1=>g x E rho M1 DD.nx
section
variable {X:Cx} {Tb:List (Addr×Str)} {EV:XK} {pos:Pos}
theorem dg_name (i:Nat) {x:Str} (hN:X.N.Nodup) (hi:X.N[i]?=some x:=by rfl) (hx:Loc X.env.scope x:=by first | exact Or.inl rfl | exact Or.inr rfl) (hf:X.fn x=true\/X.env.scope.names.lookup x=some .local:=by first | exact .inl rfl | exact .inr rfl | assumption):PDG X Tb EV (.Name x pos) (hName i):=by
 refine ⟨fun pins s σ H v u Q I r h=>(pg_name hN hi hx hf).run pins s σ H v u Q I r ?_⟩
 obtain ⟨al,rho,M,E,d,Q',a,rd,t,p⟩:=h
 exact p _ _ _ _ _ (Stp.refl ..) a.wf (a.sl.set i rd) t
theorem dgs_nil:PDGs X Tb EV [] hNil:=by
 refine ⟨fun pins s σ H vs us Q I r h=>pgs_nil.run pins s σ H vs us Q I r ?_⟩
 obtain ⟨al,rho,M,E,d,Q',a,rd,t,p⟩:=h
 unfold hNil at t
 split at t
 ·exact ⟨rd,p _ _ _ _ _ (Stp.refl ..) a.wf a.sl t⟩
 ·exact t.elim
theorem dgs_cons {e:Expr} {es:List Expr} {t:TGD} {u:TGsD} (h1:PDG X Tb EV e t) (h2:PDGs X Tb EV es u)
  (hs:(assignEach (e :: es) X.env).map (·.2)=assign e X.env :: (assignEach es X.env).map (·.2):=by rfl):PDGs X Tb EV (e :: es) (hCons t u):=by
 refine ⟨fun pins s σ H vs us Q I r h=>(pgs_cons h1 h2 hs).run pins s σ H vs us Q I r ?_⟩
 obtain ⟨al,rho,M,E,ds,Q',a,rd,t,p⟩:=h
 unfold hCons at t
 split at t
 ·obtain ⟨x,xs,rfl,rx,rxs⟩:=rd
  exact ⟨x,xs,rfl,al,rho,M,E,_,_,a,rx,t,fun al' rho' M' σ' H' s w r q=>⟨al',rho',M',E,_,Q',⟨w,r,a.ex.mono s⟩,rxs.mono s,q,p.mono s⟩⟩
 ·exact t.elim
theorem dg_tup {es:List Expr} {k:Nat} {t:TGsD} {n:Nat} (hc:X.calm=true) (hg:PDGs X Tb EV es t)
  (hn:(assignEach es X.env).length=n:=by rfl) (hst:(assignEach es X.env).findIdx? (·.1)=none:=by rfl):PDG X Tb EV (.Tuple es k pos) (hTup n t):=by
 refine ⟨fun pins s σ H v u Q I r h=>(pg_tup hc hg hn hst).run pins s σ H v u Q I r ?_⟩
 obtain ⟨al,rho,M,E,d,Q',a,rd,t,p⟩:=h
 unfold hTup at t
 split at t
 ·obtain ⟨b,ys,rfl,q1,q2⟩:=rd
  exact ⟨b,ys,rfl,q1.sq,by rw [<- q2.length];exact t.1,al,rho,M,E,_,Q',a,q2,t.2,p⟩
 ·exact t.elim
theorem dp_asg {tg e:Expr} {te:TED} {g:TGD} (he:PD X Tb EV e te) (hg:PDG X Tb EV tg g) (hs:swapsWithSole [tg] e pos.line X.env=pure false:=by rfl) (hw:swappedStores [tg] e X.env=pure none:=by rfl)
  (h1:(assignEach [tg] X.env).map (·.2)=[assign tg X.env]:=by rfl):PDS X Tb EV (.Assign [tg] e pos) (dAsg te g):=ps_imp (ps_asg he hg hs hw h1) fun DV σ H h=>by
 obtain ⟨al,rho,M,E,DD,a,t,p⟩:=h
 exact seq1 a t fun al1 x M1 vx H1 s1 a1 r1 q1=>⟨al1,rho,M1,E,x,_,a1,r1,q1,p.nx.mono s1⟩
theorem dp_set (i:Nat) {x:Str} {e:Expr} {te:TED} {pos':Pos} (hN:X.N.Nodup) (he:PD X Tb EV e te) (hi:X.N[i]?=some x:=by rfl) (hx:Loc X.env.scope x:=by first | exact Or.inl rfl | exact Or.inr rfl) (hs:swapsWith e (some (.Name x pos')) pos.line X.env=pure false:=by rfl) (hf:X.fn x=true\/X.env.scope.names.lookup x=some .local:=by first | exact .inl rfl | exact .inr rfl | assumption) :
  PDS X Tb EV (.Assign [.Name x pos'] e pos) (dAsg te (hName i)):=ps_imp (ps_set hN hi hx he hs hf) fun DV σ H h=>by
 obtain ⟨al,rho,M,E,DD,a,t,p⟩:=h
 exact seq1 a t fun al1 x M1 vx H1 s1 a1 r1 q1=>p.nx _ _ _ _ _ s1 a1.wf (a1.sl.set i r1) q1
abbrev dPar (i j:Nat) (ta:TAD):TSD:=fun E DD rho M=>ta E rho M fun ds M1=>match ds with
 | [d,d']=>DD.nx ((rho.set i (some d)).set j (some d')) M1
 | _=>False
theorem dp_par (i j:Nat) {x y:Str} {a b:Expr} {ta:TAD} {px py pt:Pos} {kt k2 pt2} (hc:X.calm=true) (hN:X.N.Nodup) (ha:PDA X Tb EV [a,b] ta)
  (hw:swappedStores [.Tuple [.Name x px,.Name y py] kt pt] (.Tuple [a,b] k2 pt2) X.env=pure (some [x,y])) (hi:X.N[i]?=some x:=by rfl) (hj:X.N[j]?=some y:=by rfl) (hij:i≠j:=by decide)
  (hx:X.env.scope.names.lookup x=some .local:=by rfl) (hy:X.env.scope.names.lookup y=some .local:=by rfl)
  (hs:swapsWithSole [.Tuple [.Name x px,.Name y py] kt pt] (.Tuple [a,b] k2 pt2) pos.line X.env=pure false:=by rfl) :
  PDS X Tb EV (.Assign [.Tuple [.Name x px,.Name y py] kt pt] (.Tuple [a,b] k2 pt2) pos) (dPar i j ta):=ps_imp (ps_par hc hN hi hj hij hx hy ha hw hs) fun DV σ H h=>by
 obtain ⟨al,rho,M,E,DD,a,t,p⟩:=h
 refine seqA a t fun al1 ds M1 vs H1 s1 a1 r1 q1=>?_
 split at q1
 ·rename_i d d'
  obtain ⟨v,r,rfl,rv,v',r',rfl,rv',e⟩:=r1
  cases (show _=[] from e)
  exact ⟨v,v',rfl,p.nx _ _ _ _ _ s1 a1.wf ((a1.sl.set i rv).set j rv') q1⟩
 ·exact q1.elim
def dAug (i:Nat) (te:TED) (r:RD2):TSD:=fun E DD rho M=>match rho[i]? with
 | some (some x)=>te E rho M fun y M1=>r x y M1 fun z M2=>DD.nx (rho.set i (some z)) M2
 | _=>False
theorem dp_aug (i:Nat) {x:Str} {e:Expr} {te:TED} {op:Operator} {r:R2} {rD:RD2} {pos':Pos} (hN:X.N.Nodup) (he:PD X Tb EV e te) (ho:OpR X (inplaceOp op) r) (hr:RefOp X.K Tb r rD) (hi:X.N[i]?=some x:=by rfl) (hx:Loc X.env.scope x:=by first | exact Or.inl rfl | exact Or.inr rfl) (hf:X.fn x=true\/X.env.scope.names.lookup x=some .local:=by first | exact .inl rfl | exact .inr rfl | assumption) :
  PDS X Tb EV (.AugAssign (.Name x pos') op e pos) (dAug i te rD):=ps_imp (ps_aug (ti:=r) hN hi hx he ho hf) fun DV σ H h=>by
 obtain ⟨al,rho,M,E,DD,a,t,p⟩:=h
 unfold dAug at t
 split at t
 ·rename_i d e
  obtain ⟨v,e1,rv⟩:=a.sl.2 i d e
  refine ⟨v,e1,seq1 a t fun al1 y M1 vy H1 s1 a1 r1 q1=>hr _ _ _ _ _ _ _ _ _ a1.wf (rv.mono s1) r1 q1 fun al2 z M2 vz H2 s2 w2 r2 q2=>?_⟩
  exact p.nx _ _ _ _ _ (s1.trans s2) w2 ((a1.sl.mono s2).set i r2) q2
 ·exact t.elim
theorem dp_augAdd (i:Nat) {x:Str} {e:Expr} {te:TED} {pos':Pos} (hN:X.N.Nodup) (he:PD X Tb EV e te) (hi:X.N[i]?=some x:=by rfl) (hx:Loc X.env.scope x:=by first | exact Or.inl rfl | exact Or.inr rfl) (hf:X.fn x=true\/X.env.scope.names.lookup x=some .local:=by first | exact .inl rfl | exact .inr rfl | assumption) :
  PDS X Tb EV (.AugAssign (.Name x pos') .Add e pos) (dAug i te (rInt0D fun i j=>.int (i+j))):=dp_aug i hN he iop_add (ref_int0 fun _ _ _ _ _=>rfl) hi hx hf
def hSub (to ti:TED):TGD:=fun d E rho M Q=>to E rho M fun o M1=>ti E rho M1 fun i M2=>match o,i with
 | .mt n,.int k=>match memL M2 n with
  | some xs=>(match ixN xs.length k with
   | some j=>Q rho (M2.set n (some (.lst (xs.set j d))))
   | none=>False)
  | none=>False
 | _,_=>False
theorem lst_not_code {xs:List V} {c:Addr} {q:Str}:HO.lst xs≠LamX.CodeO c q:=fun z=>by unfold LamX.CodeO at z;cases z
theorem set_lst {K:PySem.W.Frag} {al:Al} {M:Mem} {H:Hp} {a:Addr} {n:Nat} {ds:List D} {xs ys:List V} {es:List D} (w:Wf K Tb al H M) (hi:al.a[n]?=some a) (hm:M[n]?=some (some (.lst ds))) (hH:H a=some (.lst xs)) (r:Rps K al M H es ys) :
  Stp al M H al (M.set n (some (.lst es))) (upd H a (.lst ys))/\Wf K Tb al (upd H a (.lst ys)) (M.set n (some (.lst es))) :=
 have s:Stp al M H al (M.set n (some (.lst es))) (upd H a (.lst ys)):=stp_set w hi hm _
 ⟨s,wf_set w hi hm (fun _ z=>by cases z) ⟨ys,upd_same,r.mono s⟩ fun c q z=>lst_not_code (Option.some.inj (hH.symm.trans z))⟩
theorem dg_sub {o i:Expr} {to ti:TED} (ho:PD X Tb EV o to) (hi:PD X Tb EV i ti)
  (ha:∀ v,assign (.Subscript o i pos) X.env v=(do
   let ov <- holding [v] (eval o X.env)
   let iv <- holding [v,ov] (eval i X.env)
   standAt pos
   holding [v,ov,iv] (setItem ov iv v)
   release [v,ov,iv] []):=by intro _;rfl):PDG X Tb EV (.Subscript o i pos) (hSub to ti):=by
 refine ⟨fun pins s σ H v u Q I r h=>(pg_sub ho hi set_list ha).run pins s σ H v u Q I r ?_⟩
 obtain ⟨al,rho,M,E,d,Q',a,rd,t,p⟩:=h
 refine seq1 a t fun al1 o M1 vo H1 s1 a1 r1 q1=>seq1 a1 q1 fun al2 i M2 vi H2 s2 a2 r2 q2=>?_
 split at q2
 ·rename_i n k
  split at q2
  ·rename_i xs e1
   split at q2
   ·rename_i j e2
    obtain ⟨b,ys,rfl,hb,hm,hH,rr⟩:=memL_ok a2.wf e1 (r1.mono s2)
    obtain ⟨g1,g2⟩:=set_lst a2.wf hb hm hH (rr.set j (rd.mono (s1.trans s2)))
    exact ⟨b,ys,k,j,rfl,r2,hH,by rw [<- rr.length];exact e2,p _ _ _ _ _ ((s1.trans s2).trans g1) g2 (a2.sl.mono g1) q2⟩
   ·exact q2.elim
  ·exact q2.elim
 ·exact q2.elim
end
def whU (c:TTD) (tb:TSD):Nat->TSD
 | 0=>fun _ _ _ _=>False
 | n+1=>fun E DD rho M=>c E rho M fun b M1=>if b=true then tb E { DD with nx:=whU c tb n E DD,ct:=whU c tb n E DD,bk:=DD.nx } rho M1 else DD.nx rho M1
def dWhile (c:TTD) (tb:TSD):TSD:=fun E DD rho M=>∃ n,whU c tb n E DD rho M
theorem dp_while {X:Cx} {Tb:List (Addr×Str)} {EV:XK} {pos:Pos} {c:Expr} {body:List Stmt} {tc:TTD} {tb:TSD} (hp:PassesOwn (model X.prog X.w) X.A X.env X.xe) (hc:PDT X Tb EV c tc) (hb:PDSs X Tb EV body tb):PDS X Tb EV (.While c body [] pos) (dWhile tc tb):=ps_imp (ps_while hp hc hb) fun DV σ H h=>by
 obtain ⟨al,rho,M,E,DD,a,⟨n,t⟩,p⟩:=h
 refine ⟨fun m σ' H'=>∃ al' rho' M',Stp al M H al' M' H'/\At X.K Tb EV al' σ' H' rho' M' E/\whU tc tb m E DD rho' M',⟨n,al,rho,M,Stp.refl ..,a,t⟩,?_⟩
 rintro m σ' H' ⟨al',rho',M',s',a',t'⟩
 cases m with
 | zero=>exact t'.elim
 | succ m =>
  refine seqT a' t' fun al1 k M1 H1 s1 a1 q1=>?_
  cases k with
  | true =>
   refine ⟨fun σ2 H2=>∃ al2 rho2 M2,Stp al M H al2 M2 H2/\At X.K Tb EV al2 σ2 H2 rho2 M2 E/\whU tc tb m E DD rho2 M2,fun σ2 H2 h2=>⟨m,Nat.lt_succ_self m,h2⟩,al1,rho',M1,E,_,a1,q1,?_⟩
   have st:=s'.trans s1
   exact ⟨fun al2 rho2 M2 σ2 H2 s2 w2 r2 q2=>⟨al2,rho2,M2,st.trans s2,⟨w2,r2,a1.ex.mono s2⟩,q2⟩,p.rt.mono st,p.nx.mono st,fun al2 rho2 M2 σ2 H2 s2 w2 r2 q2=>⟨al2,rho2,M2,st.trans s2,⟨w2,r2,a1.ex.mono s2⟩,q2⟩⟩
  | false=>exact p.nx _ _ _ _ _ (s'.trans s1) a1.wf a1.sl q1
structure Stw (al:Al) (M:Mem) (H:Hp) (al':Al) (M':Mem) (H':Hp):Prop where
 pre:∀ (i:Nat) (a:Addr),al.a[i]?=some a->al'.a[i]?=some a
 fz:∀ a o,H a=some o->(∀ ps,o≠.tbl ps)->Fz al M a->H' a=some o/\Fz al' M' a
 hid:∀ a∈al.h,a∈al'.h/\H' a=H a
theorem Stp.stw {al al':Al} {M M':Mem} {H H':Hp} (s:Stp al M H al' M' H'):Stw al M H al' M' H':=⟨s.pre,s.fz,fun a ha=>⟨by rw [s.hh];exact ha,s.hid a ha⟩⟩
theorem Stw.stp {al al1 al2:Al} {M M1 M2:Mem} {H H1 H2:Hp} (a:Stw al M H al1 M1 H1) (b:Stp al1 M1 H1 al2 M2 H2):Stw al M H al2 M2 H2 :=
 ⟨fun i x h=>b.pre i x (a.pre i x h),fun x o h n f=>b.fz x o (a.fz x o h n f).1 n (a.fz x o h n f).2,fun x hx=>⟨by rw [b.hh];exact (a.hid x hx).1,(b.hid x (a.hid x hx).1).trans (a.hid x hx).2⟩⟩
theorem SqTz.monow {K:PySem.W.Frag} {al al':Al} {M M':Mem} {H H':Hp} {a:Addr} {xs:List V} (s:Stw al M H al' M' H') (h:SqTz K al M H a xs):SqTz K al' M' H' a xs:=by
 rcases h with ⟨h,f⟩ | h
 ·exact .inl ⟨(s.fz _ _ h (fun _ z=>by cases z) f).1,(s.fz _ _ h (fun _ z=>by cases z) f).2⟩
 ·exact .inr h
theorem SqLz.monow {K:PySem.W.Frag} {al al':Al} {M M':Mem} {H H':Hp} {a:Addr} {xs:List V} (s:Stw al M H al' M' H') (h:SqLz K al M H a xs):SqLz K al' M' H' a xs:=by
 rcases h with ⟨h | ⟨o,h⟩,f⟩ | h
 ·exact .inl ⟨.inl (s.fz _ _ h (fun _ z=>by cases z) f).1,(s.fz _ _ h (fun _ z=>by cases z) f).2⟩
 ·exact .inl ⟨.inr ⟨o,(s.fz _ _ h (fun _ z=>by cases z) f).1⟩,(s.fz _ _ h (fun _ z=>by cases z) f).2⟩
 ·exact .inr h
mutual
theorem Rp.monow {K:PySem.W.Frag} {al al':Al} {M M':Mem} {H H':Hp} (s:Stw al M H al' M' H'):∀ {d:D} {v:V},Rp K al M H d v->Rp K al' M' H' d v
 | .non,_,h=>h
 | .bl _,_,h=>h
 | .int _,_,h=>h
 | .str _,_,h=>h
 | .ty _,_,h=>h
 | .tup ds,_,h=>by
  obtain ⟨a,xs,e,q,r⟩:=h
  exact ⟨a,xs,e,q.monow s,Rps.monow s r⟩
 | .lst ds,_,h=>by
  obtain ⟨a,xs,e,q,f,r⟩:=h
  exact ⟨a,xs,e,(s.fz _ _ q (fun _ z=>by cases z) f).1,(s.fz _ _ q (fun _ z=>by cases z) f).2,Rps.monow s r⟩
 | .rol ds,_,h=>by
  obtain ⟨a,xs,e,q,r⟩:=h
  exact ⟨a,xs,e,q.monow s,Rps.monow s r⟩
 | .obj C ns ds,_,h=>by
  obtain ⟨a,dx,xs,e,q,f,l,r⟩:=h
  exact ⟨a,dx,xs,e,(s.fz _ _ q (fun _ z=>by cases z) f).1,(s.fz _ _ q (fun _ z=>by cases z) f).2,l,Rps.monow s r⟩
 | .dk C ds,_,h=>by
  obtain ⟨a,dx,xs,e,q,f,l,r⟩:=h
  exact ⟨a,dx,xs,e,(s.fz _ _ q (fun _ z=>by cases z) f).1,(s.fz _ _ q (fun _ z=>by cases z) f).2,l,Rps.monow s r⟩
 | .dt C ds,_,h=>by
  obtain ⟨a,dx,xs,e,q,f,l,r⟩:=h
  exact ⟨a,dx,xs,e,(s.fz _ _ q (fun _ z=>by cases z) f).1,(s.fz _ _ q (fun _ z=>by cases z) f).2,l,Rps.monow s r⟩
 | .exc C ns ds,_,h=>by
  obtain ⟨a,dx,xs,e,q,f,q2,f2,l,r⟩:=h
  exact ⟨a,dx,xs,e,(s.fz _ _ q (fun _ z=>by cases z) f).1,(s.fz _ _ q (fun _ z=>by cases z) f).2,(s.fz _ _ q2 (fun _ z=>by cases z) f2).1,(s.fz _ _ q2 (fun _ z=>by cases z) f2).2,l,Rps.monow s r⟩
 | .lam _ _,_,h=>⟨h.1,fun x hx=>s.fz _ _ (h.2 x hx).1 (fun _ z=>by cases z) (h.2 x hx).2⟩
 | .ref _,_,h=>h
 | .mt i,_,h=>by
  obtain ⟨a,e,q⟩:=h
  exact ⟨a,s.pre _ _ e,q⟩
theorem Rps.monow {K:PySem.W.Frag} {al al':Al} {M M':Mem} {H H':Hp} (s:Stw al M H al' M' H'):∀ {ds:List D} {xs:List V},Rps K al M H ds xs->Rps K al' M' H' ds xs
 | [],_,h=>h
 | d :: ds,_,h=>by
  obtain ⟨x,r,e,q,t⟩:=h
  exact ⟨x,r,e,Rp.monow s q,Rps.monow s t⟩
end
structure ItOk (K:PySem.W.Frag) (Tb:List (Addr×Str)) (al:Al) (M:Mem) (H:Hp) (J:It) (ds:List D):Prop where
 stop:∀ al1 M1 H1,Stw al M H al1 M1 H1->Wf K Tb al1 H1 M1->J.stop ds.length H1
 go:∀ al1 M1 H1,Stw al M H al1 M1 H1->Wf K Tb al1 H1 M1->∀ (i:Nat) (d:D),ds[i]?=some d->J.go i H1
 yld:∀ al1 M1 H1,Stw al M H al1 M1 H1->Wf K Tb al1 H1 M1->∀ (i:Nat) (d:D) x H2,ds[i]?=some d->J.yld i H1 x H2->Stp al1 M1 H1 al1 M1 H2/\Wf K Tb al1 H2 M1/\Rp K al1 M1 H2 d x
abbrev TID:=XD->Rho->Mem->(List D->Mem->Prop)->Prop
def liftI (K:PySem.W.Frag) (Tb:List (Addr×Str)) (EV:XK) (t:TID):TI:=fun σ H R=>∃ al rho M E Q,At K Tb EV al σ H rho M E/\t E rho M Q /\
 ∀ al' ds M' H' J,Stp al M H al' M' H'->Wf K Tb al' H' M'->ItOk K Tb al' M' H' J ds->Q ds M'->R J H'
abbrev PDI (X:Cx) (Tb:List (Addr×Str)) (EV:XK) (tg iter:Expr) (t:TID):Prop:=PI X tg iter (liftI X.K Tb EV t)
section
variable {K:PySem.W.Frag} {Tb:List (Addr×Str)} {al:Al} {M:Mem} {H:Hp}
theorem it_list {a:Addr} {ds:List D} {xs:List V} (h:SqLz K al M H a xs) (r:Rps K al M H ds xs):ItOk K Tb al M H (Itl K a) ds where
 stop:=fun al1 M1 H1 s w=>⟨xs,(h.monow s).sq,by rw [r.length];exact Nat.le_refl _⟩
 go:=fun al1 M1 H1 s w i d e=>by
  obtain ⟨x,ex,_⟩:=r.get e
  exact ⟨xs,x,(h.monow s).sq,ex⟩
 yld:=fun al1 M1 H1 s w i d x H2 e y=>by
  obtain ⟨rfl,y⟩:=y
  obtain ⟨z,ez,rz⟩:=r.get e
  have:=(y xs (h.monow s).sq).symm.trans ez
  cases this
  exact ⟨Stp.refl ..,w,rz.monow s⟩
theorem it_tup {a:Addr} {ds:List D} {xs:List V} (h:SqTz K al M H a xs) (r:Rps K al M H ds xs):ItOk K Tb al M H (Itt K a) ds where
 stop:=fun al1 M1 H1 s w=>⟨xs,(h.monow s).sq,by rw [r.length];exact Nat.le_refl _⟩
 go:=fun al1 M1 H1 s w i d e=>by
  obtain ⟨x,ex,_⟩:=r.get e
  exact ⟨xs,x,(h.monow s).sq,ex⟩
 yld:=fun al1 M1 H1 s w i d x H2 e y=>by
  obtain ⟨rfl,y⟩:=y
  obtain ⟨z,ez,rz⟩:=r.get e
  have:=(y xs (h.monow s).sq).symm.trans ez
  cases this
  exact ⟨Stp.refl ..,w,rz.monow s⟩
def rangeD (lo:Int) (n:Nat):List D:=(List.range n).map fun i=>D.int (lo+(i:Nat))
theorem it_range {lo:Int} {n:Nat}:ItOk K Tb al M H (Itr lo n) (rangeD lo n) where
 stop:=fun al1 M1 H1 s w=>by show n<=(rangeD lo n).length;simp [rangeD]
 go:=fun al1 M1 H1 s w i d e=>by
  have:=(List.getElem?_eq_some_iff.mp e).1
  show i < n
  simpa [rangeD] using this
 yld:=fun al1 M1 H1 s w i d x H2 e y=>by
  obtain ⟨rfl,rfl⟩:=y
  refine ⟨Stp.refl ..,w,?_⟩
  have hi:=(List.getElem?_eq_some_iff.mp e).1
  simp [rangeD] at hi
  simp [rangeD,hi] at e
  subst e
  rfl
theorem it_str {z:Str}:ItOk K Tb al M H (Its z) (signsD z) where
 stop:=fun al1 M1 H1 s w=>by show z.cps.size<=(signsD z).length;simp [signsD]
 go:=fun al1 M1 H1 s w i d e=>by
  have:=(List.getElem?_eq_some_iff.mp e).1
  show i < z.cps.size
  simpa [signsD] using this
 yld:=fun al1 M1 H1 s w i d x H2 e y=>by
  obtain ⟨rfl,c,ec,rfl⟩:=y
  refine ⟨Stp.refl ..,w,?_⟩
  simp [signsD,ec] at e
  subst e
  rfl
end
abbrev iSeq (t:TED):TID:=fun E rho M Q=>t E rho M fun x M1=>match x with
 | .lst xs=>Q xs M1
 | .rol xs=>Q xs M1
 | .tup xs=>Q xs M1
 | .str z=>Q (signsD z) M1
 | _=>False
def iRange1 (t:TAD):TID:=fun E rho M Q=>t E rho M fun ds M1=>match ds with
 | [.int j]=>(-(2 ^ 62)<=j/\j < 2 ^ 62)/\Q (rangeD 0 j.toNat) M1
 | _=>False
section
variable {X:Cx} {Tb:List (Addr×Str)} {EV:XK} {tg:Expr}
theorem di_seq {l:Expr} {tl:TED} (hl:PD X Tb EV l tl):PDI X Tb EV tg l (iSeq tl):=by
 refine ⟨fun pins s σ H R I h=>?_⟩
 obtain ⟨al,rho,M,E,Q,a,t,p⟩:=h
 refine thn (hl.run pins s σ H _ I (seq1 a t fun al1 x M1 vx H1 s1 a1 r1 q1=>(show (∃ z,vx = .str z/\R (Its z) H1)\/∃ a,vx = .ref a/\(((∃ xs,SqL X.K H1 a xs)/\R (Itl X.K a) H1)\/((∃ xs,SqT X.K H1 a xs)/\R (Itt X.K a) H1)) from ?_))) fun v s1 ⟨x,H1,I1,r1,q1⟩=>?_
 ·split at q1
  ·obtain ⟨b,ys,rfl,h1,h2,h3⟩:=r1
   exact .inr ⟨b,rfl,.inl ⟨⟨ys,SqL.of h1⟩,p _ _ _ _ _ s1 a1.wf (it_list (.inl ⟨.inl h1,h2⟩) h3) q1⟩⟩
  ·obtain ⟨b,ys,rfl,h1,h3⟩:=r1
   exact .inr ⟨b,rfl,.inl ⟨⟨ys,h1.sq⟩,p _ _ _ _ _ s1 a1.wf (it_list h1 h3) q1⟩⟩
  ·obtain ⟨b,ys,rfl,h1,h3⟩:=r1
   exact .inr ⟨b,rfl,.inr ⟨⟨ys,h1.sq⟩,p _ _ _ _ _ s1 a1.wf (it_tup h1 h3) q1⟩⟩
  ·rename_i z
   exact .inl ⟨z,r1,p _ _ _ _ _ s1 a1.wf it_str q1⟩
  ·exact q1.elim
 ·rcases q1 with ⟨z,e,q⟩ | ⟨a,e,⟨⟨xs,hq⟩,q⟩ | ⟨⟨xs,hq⟩,q⟩⟩
  ·subst e
   obtain ⟨t,rfl⟩:=r1
   cases ha:z.cps.all (· < 128)
   ·exact wpAny_pyIter_wide ha (pi_one (tk:=s1.toks) I1 _ (turn_str _ z t "str_iterator" (.inr rfl)) ⟨_,Heap.get?_push_size _ rfl,rfl,rfl⟩ q)
   ·exact wpAny_pyIter_ascii ha (pi_one (tk:=s1.toks) I1 _ (turn_str _ z t "str_ascii_iterator" (.inl rfl)) ⟨_,Heap.get?_push_size _ rfl,rfl,rfl⟩ q)
  ·subst e
   cases r1
   obtain ⟨its,rv,p,hz⟩:=I1.list hq
   refine wpAny_pyIter_list p.isList ?_
   refine ⟨s1.heap.objs.size,[s1.heap.objs.size],_,_,H1,rfl,I1.kept (t':=s1.toks) fun b o e=>Heap.get?_push_of_some _ e,turn_list a _,⟨_,Heap.get?_push_size _ rfl,rfl,rfl⟩,fun b hb=>?_,q⟩
   have e:b=s1.heap.objs.size:=by simpa using hb
   subst e
   exact I1.fpOk (Nat.le_refl _) (I1.hok.fresh (Nat.le_refl _))
  ·subst e
   cases r1
   obtain ⟨its,rv,p,hz⟩:=I1.tuple hq
   refine wpAny_pyIter_tuple (show s1.heap.IsTuple a its.toArray from p) ?_
   refine ⟨s1.heap.objs.size,[s1.heap.objs.size],_,_,H1,rfl,I1.kept (t':=s1.toks) fun b o e=>Heap.get?_push_of_some _ e,turn_tuple a _,⟨_,Heap.get?_push_size _ rfl,rfl,rfl⟩,fun b hb=>?_,q⟩
   have e:b=s1.heap.objs.size:=by simpa using hb
   subst e
   exact I1.fpOk (Nat.le_refl _) (I1.hok.fresh (Nat.le_refl _))
theorem pi_imp {iter:Expr} {t t':TI} (h:PI X tg iter t) (w:∀ σ H R,t' σ H R->t σ H R):PI X tg iter t':=⟨fun pins s σ H R I q=>h.run pins s σ H R I (w σ H R q)⟩
theorem Rps.two {K:PySem.W.Frag} {al:Al} {M:Mem} {H:Hp} {d d':D} {vs:List V} (r:Rps K al M H [d,d'] vs):∃ v v',vs=[v,v']/\Rp K al M H d v/\Rp K al M H d' v':=by
 obtain ⟨v,w,rfl,r,r2⟩:=r
 obtain ⟨v',rfl,r3⟩:=r2.one
 exact ⟨v,v',rfl,r,r3⟩
theorem di_range1 {a:Expr} {ta:TAD} {p pos:Pos} (hg:Gl X "range") (hm:X.mg "range"=none) (ha:PDA X Tb EV [a] ta) (hs:starEach [a] X.env=[(false,eval a X.env)]:=by rfl):PDI X Tb EV tg (.Call (.Name "range" p) [a] [] pos) (iRange1 ta) :=
 pi_imp (pi_range1 hg hm ha hs) fun σ H R h=>by
  obtain ⟨al,rho,M,E,Q,a,t,p⟩:=h
  refine seqA a t fun al1 ds M1 vs H1 s1 a1 r1 q1=>?_
  split at q1
  ·rename_i j
   obtain ⟨v,rfl,rfl⟩:=r1.one
   exact ⟨j,rfl,q1.1.1,q1.1.2,p _ _ _ _ _ s1 a1.wf it_range q1.2⟩
  ·exact q1.elim
end
def forU (g:TGD) (tb:TSD):List D->TSD
 | []=>fun _ DD rho M=>DD.nx rho M
 | d :: r=>fun E DD rho M=>g d E rho M fun rho' M'=>tb E { DD with nx:=forU g tb r E DD,ct:=forU g tb r E DD,bk:=DD.nx } rho' M'
abbrev dFor (it:TID) (g:TGD) (tb:TSD):TSD:=fun E DD rho M=>it E rho M fun ds M1=>forU g tb ds E DD rho M1
theorem dp_for {X:Cx} {Tb:List (Addr×Str)} {EV:XK} {tg iter:Expr} {body:List Stmt} {it:TID} {g:TGD} {tb:TSD} {pos:Pos} (hp:PassesOwn (model X.prog X.w) X.A X.env X.xe) (hc:X.calm=true) (hi:PDI X Tb EV tg iter it) (hg:PDG X Tb EV tg g) (hb:PDSs X Tb EV body tb)
  (hs:∀ x,foldedSetIterable iter X.env x=pure x:=by intro _;rfl):PDS X Tb EV (.For tg iter body [] pos) (dFor it g tb):=ps_imp (ps_for hp hc hi hg hb hs) fun DV σ H h=>by
 obtain ⟨al,rho,M,E,DD,a,t,p⟩:=h
 refine ⟨al,rho,M,E,_,a,t,fun al0 ds M0 H0 J s0 w0 ok q=>?_⟩
 refine ⟨fun i m σ1 H1=>m=ds.length - i/\i<=ds.length/\∃ al1 rho1 M1,Stp al0 M0 H0 al1 M1 H1/\At X.K Tb EV al1 σ1 H1 rho1 M1 E/\forU g tb (ds.drop i) E DD rho1 M1,⟨ds.length,by simp,Nat.zero_le _,al0,rho,M0,Stp.refl ..,a.go s0 w0,by simpa using q⟩,?_⟩
 rintro i m σ1 H1 ⟨rfl,hi,al1,rho1,M1,s1,a1,t1⟩
 by_cases hlt:i < ds.length
 ·have e:ds[i]?=some ds[i]:=by simp [hlt]
  have ed:ds.drop i=ds[i] :: ds.drop (i+1):=List.drop_eq_getElem_cons hlt
  rw [ed] at t1
  refine .inr ⟨ok.go _ _ _ s1.stw a1.wf i _ e,fun σ2 H2=>∃ al2 rho2 M2,Stp al0 M0 H0 al2 M2 H2/\At X.K Tb EV al2 σ2 H2 rho2 M2 E/\forU g tb (ds.drop (i+1)) E DD rho2 M2,fun σ2 H2 h2=>⟨ds.length - (i+1),by omega,rfl,hlt,h2⟩,fun x H2 y=>?_⟩
  obtain ⟨s2,w2,r2⟩:=ok.yld _ _ _ s1.stw a1.wf i _ x H2 e y
  have a2:=a1.go s2 w2
  have st:=s0.trans (s1.trans s2)
  refine ⟨al1,rho1,M1,E,_,_,a2,r2,t1,fun al3 rho3 M3 σ3 H3 s3 w3 r3 q3=>⟨al3,rho3,M3,E,_,⟨w3,r3,a2.ex.mono s3⟩,q3,?_⟩⟩
  have st3:=st.trans s3
  exact ⟨fun al4 rho4 M4 σ4 H4 s4 w4 r4 q4=>⟨al4,rho4,M4,(s1.trans s2).trans (s3.trans s4),⟨w4,r4,(a2.ex.mono s3).mono s4⟩,q4⟩,p.rt.mono st3,p.nx.mono st3,fun al4 rho4 M4 σ4 H4 s4 w4 r4 q4=>⟨al4,rho4,M4,(s1.trans s2).trans (s3.trans s4),⟨w4,r4,(a2.ex.mono s3).mono s4⟩,q4⟩⟩
 ·have e:i=ds.length:=by omega
  subst e
  refine .inl ⟨ok.stop _ _ _ s1.stw a1.wf,?_⟩
  simp [forU] at t1
  exact p.nx _ _ _ _ _ (s0.trans s1) a1.wf a1.sl t1
def wipeD (rho:Rho):List Nat->Rho
 | []=>rho
 | v :: vs=>(wipeD rho vs).set v none
theorem wipe_ok {K:PySem.W.Frag} {al:Al} {M:Mem} {H:Hp} {σ:L2.St} {rho:Rho} (h:RpS K al M H σ rho):∀ vs:List Nat,RpS K al M H (wipe σ vs) (wipeD rho vs)
 | []=>h
 | v :: vs=>by
  show RpS K al M H ((wipe σ vs).set v none) ((wipeD rho vs).set v none)
  exact (wipe_ok h vs).wipe1 v
theorem wipe_in {σ:L2.St} {i:Nat}:∀ {vs:List Nat},i∈vs->i < σ.length->(wipe σ vs)[i]?=some none
 | v :: vs,h,hl=>by
  show ((wipe σ vs).set v none)[i]?=some none
  by_cases e:v=i
  ·subst e
   rw [List.getElem?_set_self (by rw [wipe_length];exact hl)]
  ·rw [List.getElem?_set_ne e]
   exact wipe_in ((List.mem_cons.mp h).resolve_left fun z=>e z.symm) hl
theorem wipe_set {σ:L2.St} {i:Nat} {v:Option V} {vs:List Nat} (hi:i∈vs):wipe (σ.set i v) vs=wipe σ vs:=by
 apply List.ext_getElem?
 intro j
 by_cases hj:j∈vs
 ·by_cases hl:j < σ.length
  ·rw [wipe_in hj (by simpa using hl),wipe_in hj hl]
  ·rw [List.getElem?_eq_none (by rw [wipe_length];simp;omega),List.getElem?_eq_none (by rw [wipe_length];omega)]
 ·rw [wipe_out hj,wipe_out hj,List.getElem?_set_ne (fun (z:i=j)=>hj (z ▸ hi))]
theorem wipe_wipe {σ:L2.St}:∀ {vs ws:List Nat},(∀ i∈ws,i∈vs)->wipe (wipe σ ws) vs=wipe σ vs
 | vs,[],_=>rfl
 | vs,w :: ws,h=>by
  show wipe ((wipe σ ws).set w none) vs=wipe σ vs
  rw [wipe_set (h w (by simp)),wipe_wipe fun i hi=>h i (by simp [hi])]
def TgN (K:PySem.W.Frag) (gV:TG) (gD:TGD) (vs:List Nat):Prop:=∀ al rho M E d x σ H Q QS,RpS K al M H σ rho->Rp K al M H d x->gD d E rho M Q->(∀ σ' rho',wipe σ' vs=wipe σ vs->RpS K al M H σ' rho'->Q rho' M->QS σ' H)->gV x σ H QS
theorem tgn_name {K:PySem.W.Frag} {i:Nat} {vs:List Nat} (hi:i∈vs):TgN K (gName i) (hName i) vs:=fun al rho M E d x σ H Q QS a r t k =>
 k _ _ (wipe_set hi) (a.set i r) t
def lcU (g:TGD) (tt:TTD) (te:TED) (vs:List Nat):List D->List D->Rho->Mem->VD->Prop
 | [],acc=>fun _ M Q=>Q (.lst acc) M
 | d :: r,acc=>fun rho M Q=>g d noE (wipeD rho vs) M fun rho' M1=>tt noE rho' M1 fun b M2=>if b=true then te noE rho' M2 (fun y M3=>acc.length < sizeLine/\lcU g tt te vs r (acc ++ [y]) rho M3 Q) else lcU g tt te vs r acc rho M2 Q
abbrev dLc (it:TID) (g:TGD) (tt:TTD) (te:TED) (vs:List Nat):TED:=fun E rho M Q=>it E rho M fun ds M1=>lcU g tt te vs ds [] rho M1 Q
abbrev dYes:TTD:=fun _ _ M Q=>Q true M
section
variable {K:PySem.W.Frag} {Tb:List (Addr×Str)} {al:Al} {M:Mem} {H:Hp} {D0:Addr}
theorem Al.eta {al:Al} {p:Addr} {l:List Addr} (h:al.h=p :: l):al=Al.hide ⟨al.a,l⟩ p:=by
 obtain ⟨a,h'⟩:=al
 cases h
 rfl
theorem fz_unhide {a:Addr} (f:Fz (al.hide D0) M a):a≠D0/\Fz al M a:=⟨fun z=>f.1 (by rw [z];exact List.mem_cons_self),fun hm=>f.1 (List.mem_cons_of_mem _ hm),f.2⟩
theorem hid_set (w:Wf K Tb (al.hide D0) H M) (u:HO) (hu:HidO D0 u):Wf K Tb (al.hide D0) (upd H D0 u) M/\(∀ (d:D) (v:V),Rp K (al.hide D0) M H d v->Rp K (al.hide D0) M (upd H D0 u) d v)/\(∀ (d:List D) (v:List V),Rps K (al.hide D0) M H d v->Rps K (al.hide D0) M (upd H D0 u) d v):=by
 obtain ⟨xs0,hD,hz⟩:=w.hth D0 List.mem_cons_self
 have up:∀ b o,H b=some o->Fz (al.hide D0) M b->upd H D0 u b=some o:=fun b o h f=>by rw [upd_ne (fz_unhide f).1];exact h
 have all:=hideRp (K:=K) (al:=al.hide D0) (al':=al.hide D0) (M:=M) (fun _ _ _ f=>f) up
 have alls:=hideRps (K:=K) (al:=al.hide D0) (al':=al.hide D0) (M:=M) (fun _ _ _ f=>f) up
 have live:∀ (i:Nat) (b:Addr) (mo:MO),al.a[i]?=some b->M[i]?=some (some mo)->b≠D0:=fun i b mo e1 e2 z=>w.hdis i b mo e1 e2 (by rw [z];exact List.mem_cons_self)
 refine ⟨⟨w.len,w.nd,fun i b mo e1 e2=>?_,fun i b e=>?_,fun q hq=>?_,fun b hb=>?_,w.hdis⟩,all,alls⟩
 ·have r:=w.rep i b mo e1 e2
  have ne:=live i b mo e1 e2
  cases mo with
  | lst ds=>obtain ⟨zs,h1,h2⟩:=r;exact ⟨zs,by rw [upd_ne ne];exact h1,alls _ _ h2⟩
  | dK kvs=>obtain ⟨zs,h1,h2⟩:=r;exact ⟨zs,by rw [upd_ne ne];exact h1,h2.1,alls _ _ h2.2⟩
  | dT ks ds=>obtain ⟨zs,h1,h2⟩:=r;exact ⟨zs,by rw [upd_ne ne];exact h1,h2.1,alls _ _ h2.2⟩
  | ins C fs=>obtain ⟨dx,zs,h1,h2⟩:=r;exact ⟨dx,zs,by rw [upd_ne ne];exact h1,h2.1,alls _ _ h2.2⟩
 ·by_cases hb:b=D0
  ·exact ⟨_,by rw [hb];exact upd_same,hu.tbl⟩
  ·obtain ⟨o,h1,h2⟩:=w.there i b e
   exact ⟨o,by rw [upd_ne hb];exact h1,h2⟩
 ·obtain ⟨ps,h1,h2,h3⟩:=w.tb q hq
  refine ⟨ps,?_,h2,fun pos cv hc=>?_⟩
  ·rw [upd_ne (fun (z:q.1=D0)=>by rw [z,hD] at h1;exact hz.tbl _ (Option.some.inj h1))]
   exact h1
  ·obtain ⟨c,e1,e2⟩:=h3 pos cv hc
   refine ⟨c,e1,?_⟩
   rw [upd_ne (fun (z:c=D0)=>by rw [z,hD] at e2;exact hz.code _ _ (Option.some.inj e2))]
   exact e2
 ·by_cases hbD:b=D0
  ·exact ⟨u,by rw [hbD];exact upd_same,hbD ▸ hu⟩
  ·obtain ⟨zs,h,q⟩:=w.hth b hb
   exact ⟨zs,by rw [upd_ne hbD];exact h,q⟩
theorem unhide (w:Wf K Tb (al.hide D0) H M):Wf K Tb al H M/\(∀ (d:D) (v:V),Rp K (al.hide D0) M H d v->Rp K al M H d v)/\(∀ (d:List D) (v:List V),Rps K (al.hide D0) M H d v->Rps K al M H d v):=by
 have all:=hideRp (K:=K) (al:=al.hide D0) (al':=al) (M:=M) (H:=H) (H':=H) (fun _ _ _ f=>(fz_unhide f).2) fun _ _ h _=>h
 have alls:=hideRps (K:=K) (al:=al.hide D0) (al':=al) (M:=M) (H:=H) (H':=H) (fun _ _ _ f=>(fz_unhide f).2) fun _ _ h _=>h
 refine ⟨⟨w.len,w.nd,fun i b mo e1 e2=>?_,w.there,w.tb,fun b hb=>w.hth b (List.mem_cons_of_mem _ hb),fun i b mo e1 e2 hm=>w.hdis i b mo e1 e2 (List.mem_cons_of_mem _ hm)⟩,all,alls⟩
 have r:=w.rep i b mo e1 e2
 cases mo with
 | lst ds=>obtain ⟨zs,h1,h2⟩:=r;exact ⟨zs,h1,alls _ _ h2⟩
 | dK kvs=>obtain ⟨zs,h1,h2⟩:=r;exact ⟨zs,h1,h2.1,alls _ _ h2.2⟩
 | dT ks ds=>obtain ⟨zs,h1,h2⟩:=r;exact ⟨zs,h1,h2.1,alls _ _ h2.2⟩
 | ins C fs=>obtain ⟨dx,zs,h1,h2⟩:=r;exact ⟨dx,zs,h1,h2.1,alls _ _ h2.2⟩
end
theorem lc_lift {K:PySem.W.Frag} {Tb:List (Addr×Str)} {EV:XK} {it:TID} {gV:TG} {g:TGD} {tt:TTD} {te:TED} {vs:List Nat} (hN:TgN K gV g vs) {σ:L2.St} {H:Hp} {QV:VK} (h:lift K Tb EV (dLc it g tt te vs) σ H QV) :
  tLc (liftI K Tb EV it) gV (liftT K Tb E0 tt) (lift K Tb E0 te) vs σ H QV:=by
 obtain ⟨al,rho,M,E,Q,a,t,p⟩:=h
 refine ⟨al,rho,M,E,_,a,t,fun al0 ds M0 H0 J s0 w0 ok q D0 hD0=>?_⟩
 have a0:=a.go s0 w0
 refine ⟨fun i m H1=>m=ds.length - i/\i<=ds.length/\∃ (l1:List Addr) (M1:Mem) (acc:List D) (ys:List V),Stw al0 M0 H0 (Al.hide ⟨l1,al0.h⟩ D0) M1 H1/\Wf K Tb (Al.hide ⟨l1,al0.h⟩ D0) H1 M1/\RpS K (Al.hide ⟨l1,al0.h⟩ D0) M1 H1 σ rho /\
   Rps K (Al.hide ⟨l1,al0.h⟩ D0) M1 H1 acc ys/\H1 D0=some (.lst ys)/\lcU g tt te vs (ds.drop i) acc rho M1 Q,⟨ds.length,by simp,Nat.zero_le _,al0.a,M0,[],[],?_⟩,?_⟩
 ·obtain ⟨w1,r1⟩:=hide_stp w0 hD0 (.lst []) (.inl ⟨_,rfl⟩)
  refine ⟨⟨fun _ _ h=>h,fun b o h _ f=>⟨by rw [upd_ne (ne_of_none h hD0)];exact h,fun hm=>?_,f.2⟩,fun b hb=>⟨List.mem_cons_of_mem _ hb,upd_ne fun z=>w0.nohid hD0 (z ▸ hb)⟩⟩,w1,⟨a0.sl.1,fun i d e=>let ⟨v,e1,r⟩:=a0.sl.2 i d e;⟨v,e1,r1 _ _ r⟩⟩,rfl,upd_same,by simpa using q⟩
  rcases List.mem_cons.mp hm with z | z
  ·exact absurd (z ▸ h) (by rw [hD0];intro q;cases q)
  ·exact f.1 z
 ·rintro i m H1 ⟨rfl,hi,l1,M1,acc,ys,s1,w1,sl1,racc,hD1,t1⟩
  by_cases hlt:i < ds.length
  ·have e:ds[i]?=some ds[i]:=by simp [hlt]
   have ed:ds.drop i=ds[i] :: ds.drop (i+1):=List.drop_eq_getElem_cons hlt
   rw [ed] at t1
   refine .inr ⟨ok.go _ _ _ s1 w1 i _ e,fun H2=>∃ (l2:List Addr) (M2:Mem) (acc:List D) (ys:List V),Stw al0 M0 H0 (Al.hide ⟨l2,al0.h⟩ D0) M2 H2/\Wf K Tb (Al.hide ⟨l2,al0.h⟩ D0) H2 M2/\RpS K (Al.hide ⟨l2,al0.h⟩ D0) M2 H2 σ rho /\
    Rps K (Al.hide ⟨l2,al0.h⟩ D0) M2 H2 acc ys/\H2 D0=some (.lst ys)/\lcU g tt te vs (ds.drop (i+1)) acc rho M2 Q,fun H2 h2=>⟨ds.length - (i+1),by omega,rfl,hlt,h2⟩,fun x H2 y=>?_⟩
   obtain ⟨s2,w2,r2⟩:=ok.yld _ _ _ s1 w1 i _ x H2 e y
   have sl2:=sl1.mono s2
   refine hN _ _ _ _ _ _ _ _ _ _ (wipe_ok sl2 vs) r2 t1 fun σ' rho' ew sl' t2=>⟨by rw [ew];exact wipe_wipe fun _ h=>h,?_⟩
   have aB:At K Tb E0 (Al.hide ⟨l1,al0.h⟩ D0) σ' H2 rho' M1 noE:=⟨w2,sl',fun _ _ _ _ _ _ _ _ _ z=>z⟩
   have hD2:H2 D0=some (.lst ys):=(s2.hid D0 List.mem_cons_self).trans hD1
   refine seqT aB t2 fun al3 b M3 H3 s3 a3 q3=>?_
   have hh3:al3=Al.hide ⟨al3.a,al0.h⟩ D0:=Al.eta (show al3.h=D0 :: al0.h from s3.hh)
   have hD3:H3 D0=some (.lst ys):=(s3.hid D0 List.mem_cons_self).trans hD2
   cases b with
   | false =>
    rw [if_neg Bool.false_ne_true]
    refine ⟨al3.a,M3,acc,ys,?_,?_,?_,?_,hD3,q3⟩
    ·rw [<- hh3];exact (s1.stp s2).stp s3
    ·rw [<- hh3];exact a3.wf
    ·rw [<- hh3];exact sl2.mono s3
    ·rw [<- hh3];exact (racc.mono s2).mono s3
   | true =>
    rw [if_pos rfl]
    refine seq1 a3 q3 fun al4 d4 M4 v4 H4 s4 a4 r4 q4=>?_
    have hh4:al4=Al.hide ⟨al4.a,al0.h⟩ D0:=Al.eta (show al4.h=D0 :: al0.h from s4.hh.trans s3.hh)
    have hm3:D0∈al3.h:=by rw [hh3];exact List.mem_cons_self
    have hD4:H4 D0=some (.lst ys):=(s4.hid D0 hm3).trans hD3
    have S4:=((s1.stp s2).stp s3).stp s4
    have W4:=a4.wf
    have L4:=(sl2.mono s3).mono s4
    have R4:=((racc.mono s2).mono s3).mono s4
    rw [hh4] at S4 W4 L4 R4 r4
    obtain ⟨w5,u1,u2⟩:=hid_set W4 (.lst (ys ++ [v4])) (.inl ⟨_,rfl⟩)
    refine ⟨ys,hD4,by rw [<- racc.length];exact q4.1,al4.a,M4,acc ++ [d4],ys ++ [v4],⟨S4.pre,fun b o h n f=>⟨?_,(S4.fz b o h n f).2⟩,fun b hb=>⟨(S4.hid b hb).1,?_⟩⟩,w5,⟨L4.1,fun i d e=>let ⟨v,e1,r⟩:=L4.2 i d e;⟨v,e1,u1 _ _ r⟩⟩,u2 _ _ (R4.append ⟨v4,[],rfl,r4,rfl⟩),upd_same,q4.2⟩
    ·rw [upd_ne (ne_of_none h hD0)];exact (S4.fz b o h n f).1
    ·rw [upd_ne (fun (z:b=D0)=>w0.nohid hD0 (z ▸ hb))];exact (S4.hid b hb).2
  ·have e:i=ds.length:=by omega
   subst e
   refine .inl ⟨ok.stop _ _ _ s1 w1,?_⟩
   simp [lcU] at t1
   obtain ⟨w2,u1,u2⟩:=unhide w1
   refine p ⟨l1,al0.h⟩ (.lst acc) M1 _ H1 (s0.trans ⟨s1.pre,fun b o h n f=>⟨(s1.fz b o h n f).1,(fz_unhide (s1.fz b o h n f).2).2⟩,rfl,fun b hb=>(s1.hid b hb).2⟩) w2 ⟨D0,ys,rfl,hD1,⟨fun hm=>?_,fun j mo e1 e2=>w1.hdis j D0 mo e1 e2 List.mem_cons_self⟩,u2 _ _ racc⟩ t1
   exact w0.nohid hD0 hm
section
variable {X:Cx} {Tb:List (Addr×Str)} {EV:XK} {elt tg iter:Expr} {ifs:List Expr} {scope:Scope} {own:List (Str×Nat)} {pos:Pos} {it:TID} {gV:TG} {g:TGD} {tt:TTD} {te:TED}
theorem dv_lc (hc:X.calm=true) (hN:X.N.Nodup) (hi:PDI X Tb EV tg iter it) (ok:BlkOk X.N X.env.scope scope own) (hT:TgN X.K gV g (own.map (·.2)))
  (hg:∀ (s:Shared) (H:Hp) (C:Addr) (cl:List (Str×Addr)) (fp:List Addr),PG (X.blk s H scope (compEnvC scope cl C X.env) fp) tg gV) (ht:∀ (s:Shared) (H:Hp) (C:Addr) (cl:List (Str×Addr)) (fp:List Addr),PTs (X.blk s H scope (compEnvC scope cl C X.env) fp) ifs (liftT X.K Tb E0 tt))
  (he:∀ (s:Shared) (H:Hp) (C:Addr) (cl:List (Str×Addr)) (fp:List Addr),PD (X.blk s H scope (compEnvC scope cl C X.env) fp) Tb E0 elt te) (hs:∀ x,foldedSetIterable iter X.env x=pure x:=by intro _;rfl) :
  PD X Tb EV (.ListComp elt [⟨tg,iter,ifs,0⟩] scope pos) (dLc it g tt te (own.map (·.2))):=pe_imp (pe_lc hc hN hi ok hg ht he hs) fun _ _ _ h=>lc_lift hT h
theorem dp_setLc (i:Nat) {y:Str} {py spos:Pos} (hc:X.calm=true) (hN:X.N.Nodup) (hi:PDI X Tb EV tg iter it) (ok:BlkOk X.N X.env.scope scope own) (hT:TgN X.K gV g (own.map (·.2)))
  (hg:∀ (s:Shared) (H:Hp) (C:Addr) (cl:List (Str×Addr)) (fp:List Addr),PG (X.blk s H scope (compEnvC scope cl C X.env) fp) tg gV) (ht:∀ (s:Shared) (H:Hp) (C:Addr) (cl:List (Str×Addr)) (fp:List Addr),PTs (X.blk s H scope (compEnvC scope cl C X.env) fp) ifs (liftT X.K Tb E0 tt))
  (he:∀ (s:Shared) (H:Hp) (C:Addr) (cl:List (Str×Addr)) (fp:List Addr),PD (X.blk s H scope (compEnvC scope cl C X.env) fp) Tb E0 elt te)
  (hsw:swapsWith (.ListComp elt [⟨tg,iter,ifs,0⟩] scope pos) (some (.Name y py)) spos.line X.env=pure true) (hy:X.N[i]?=some y:=by rfl) (hyl:X.env.scope.names.lookup y=some .local:=by rfl) (hs:∀ x,foldedSetIterable iter X.env x=pure x:=by intro _;rfl) :
  PDS X Tb EV (.Assign [.Name y py] (.ListComp elt [⟨tg,iter,ifs,0⟩] scope pos) spos) (dAsg (dLc it g tt te (own.map (·.2))) (hName i)):=ps_imp (ps_setLc hc hN hy hyl hsw hi ok hg ht he hs) fun DV σ H h=>by
 obtain ⟨al,rho,M,E,DD,a,t,p⟩:=h
 refine lc_lift hT ⟨al,rho,M,E,_,a,t,fun al' d M' v H' s w r q=>?_⟩
 exact p.nx _ _ _ _ _ s w ((a.sl.mono s).set i r) q
theorem dts_nil {X:Cx} {K:PySem.W.Frag} {EV:XK}:PTs X [] (liftT K Tb EV dYes):=⟨fun pins s σ H Q I h=>pts_nil.run pins s σ H Q I (by
 obtain ⟨al,rho,M,E,Q',a,t,p⟩:=h
 exact p _ _ _ _ (Stp.refl ..) a.wf t)⟩
end
abbrev RDC:=List D->Mem->VD->Prop
def RefC (K:PySem.W.Frag) (Tb:List (Addr×Str)) (r:List V->Hp->VK->Prop) (rD:RDC):Prop :=
 ∀ al M H xs ds Q QV,Wf K Tb al H M->Rps K al M H ds xs->rD ds M Q->PostV K Tb al M H Q QV->r xs H QV
abbrev dCB (rD:RDC) (t:TAD):TED:=fun E rho M Q=>t E rho M fun ds M1=>rD ds M1 Q
section
variable {X:Cx} {Tb:List (Addr×Str)} {EV:XK} {x:Str} {p pos:Pos} {e:Expr} {es:List Expr} {t:TAD} {id T:String} {r:List V->Hp->VK->Prop} {rD:RDC}
theorem cb_lift (hr:RefC X.K Tb r rD) {σ:L2.St} {H:Hp} {QV:VK} (h:lift X.K Tb EV (dCB rD t) σ H QV):tCB r (liftA X.K Tb EV t) σ H QV:=by
 obtain ⟨al,rho,M,E,Q,a,t,p⟩:=h
 exact seqA a t fun al1 ds M1 vs H1 s1 a1 r1 q1=>hr _ _ _ _ _ _ _ a1.wf r1 q1 (p.mono s1)
theorem dv_callB (hc:CallR X (.builtin id) r) (hr:RefC X.K Tb r rD) (hg:Gl X x) (hm:X.mg x=none) (hv:bootBuiltins x=some (.builtin id)) (ha:PDA X Tb EV (e :: es) t) (hn:x≠"__name__":=by decide) (hdb:(x == ("__debug__":Str))=false:=by decide)
  (he:starEach (e :: es) X.env=(false,eval e X.env) :: starEach es X.env:=by rfl) (hpl:(backTo pos (starEach es X.env)).any (·.1)=false:=by rfl):PD X Tb EV (.Call (.Name x p) (e :: es) [] pos) (dCB rD t):=pe_imp (pe_callB hc hg hm hv ha hn hdb he hpl) fun _ _ _ h=>cb_lift hr h
theorem dv_callTy (hc:CallR X (.type T) r) (hr:RefC X.K Tb r rD) (hg:Gl X x) (hm:X.mg x=none) (hv:bootBuiltins x=some (.type T)) (ha:PDA X Tb EV (e :: es) t) (hn:x≠"__name__":=by decide) (hdb:(x == ("__debug__":Str))=false:=by decide)
  (he:starEach (e :: es) X.env=(false,eval e X.env) :: starEach es X.env:=by rfl) (hpl:(backTo pos (starEach es X.env)).any (·.1)=false:=by rfl):PD X Tb EV (.Call (.Name x p) (e :: es) [] pos) (dCB rD t):=pe_imp (pe_callTy hc hg hm hv ha hn hdb he hpl) fun _ _ _ h=>cb_lift hr h
end
def rLen_:RDC:=fun ds M Q=>match ds with
 | [x]=>(match seqD M x with
  | some xs=>Q (.int xs.length) M
  | none=>match x with
   | .str z=>z.length<=sizeLine/\Q (.int z.length) M
   | _=>False)
 | _=>False
def rAbs_:RDC:=fun ds M Q=>match ds with
 | [.int i]=>Q (.int i.natAbs) M
 | _=>False
def rList_:RDC:=fun ds M Q=>match ds with
 | [x]=>(match seqD M x with
  | some xs=>Q (.lst xs) M
  | none=>False)
 | _=>False
def rTuple_:RDC:=fun ds M Q=>match ds with
 | [x]=>(match seqD M x with
  | some xs=>Q (.tup xs) M
  | none=>False)
 | _=>False
def rInt_:RDC:=fun ds M Q=>match ds with
 | [.int i]=>Q (.int i) M
 | [.bl k]=>Q (.int (if k then 1 else 0)) M
 | [.str a]=>(match PySem.intText? a with
  | some n=>a.length<=640/\Q (.int n) M
  | none=>False)
 | _=>False
def rStr_:RDC:=fun ds M Q=>match ds with
 | [.int i]=>i.natAbs.log2 < 1920/\Q (.str (toString i)) M
 | _=>False
def bls:List D->Option (List Bool)
 | []=>some []
 | .bl b :: r=>(bls r).map (b :: ·)
 | _=>none
def rAll_:RDC:=fun ds M Q=>match ds with
 | [x]=>(match asL M x with
  | some xs=>(match bls xs with
   | some bs=>Q (.bl (bs.all _root_.id)) M
   | none=>False)
  | none=>False)
 | _=>False
section
variable {K:PySem.W.Frag} {Tb:List (Addr×Str)} {al:Al} {M:Mem} {H:Hp}
theorem bls_ok:∀ {ds:List D} {bs:List Bool} {xs:List V},bls ds=some bs->Rps K al M H ds xs->xs=bs.map V.bl
 | [],_,_,e,r=>by cases e;exact r
 | .bl b :: ds,_,_,e,r=>by
  obtain ⟨x,ys,rfl,rx,ry⟩:=r
  unfold bls at e
  cases q:bls ds with
  | none=>rw [q] at e;cases e
  | some bs' =>
   rw [q] at e;cases e
   cases (show x = .bl b from rx)
   rw [bls_ok q ry];rfl
 | .non :: _,_,_,e,_=>by cases e
 | .int _ :: _,_,_,e,_=>by cases e
 | .str _ :: _,_,_,e,_=>by cases e
 | .ty _ :: _,_,_,e,_=>by cases e
 | .tup _ :: _,_,_,e,_=>by cases e
 | .lst _ :: _,_,_,e,_=>by cases e
 | .rol _ :: _,_,_,e,_=>by cases e
 | .obj _ _ _ :: _,_,_,e,_=>by cases e
 | .exc _ _ _ :: _,_,_,e,_=>by cases e
 | .dk _ _ :: _,_,_,e,_=>by cases e
 | .dt _ _ :: _,_,_,e,_=>by cases e
 | .ref _ :: _,_,_,e,_=>by cases e
 | .lam _ _ :: _,_,_,e,_=>by cases e
 | .mt _ :: _,_,_,e,_=>by cases e
theorem ref_len {X:Cx}:RefC X.K Tb (fun xs H Q=>∃ x n,xs=[x]/\LenV X.K x H n/\Q (.int n) H) rLen_:=by
 intro al M H xs ds Q QV w r h p
 unfold rLen_ at h
 split at h
 ·rename_i x
  obtain ⟨v,rfl,rv⟩:=r.one
  split at h
  ·rename_i ys e
   obtain ⟨a,zs,rfl,hq,rz⟩:=seqD_ok w e rv
   refine ⟨_,ys.length,rfl,?_,p _ (.int ys.length) _ _ _ (Stp.refl ..) w rfl h⟩
   rcases hq with hq | hq
   ·exact .inl ⟨zs,hq,rz.length⟩
   ·exact .inr ⟨zs,hq,rz.length⟩
  ·split at h
   ·rename_i z _
    cases (show _=_ from rv)
    exact ⟨_,z.length,rfl,⟨h.1,rfl⟩,p _ (.int z.length) _ _ _ (Stp.refl ..) w rfl h.2⟩
   ·exact h.elim
 ·exact h.elim
theorem ref_abs:RefC K Tb (fun xs H Q=>∃ i,xs=[.int i]/\Q (.int (if i < 0 then -i else i)) H) rAbs_:=by
 intro al M H xs ds Q QV w r h p
 unfold rAbs_ at h
 split at h
 ·rename_i i
  obtain ⟨v,rfl,rfl⟩:=r.one
  refine ⟨i,rfl,?_⟩
  have e:(if i < 0 then -i else i)=(i.natAbs:Int):=by split <;> omega
  rw [e]
  exact p _ (.int i.natAbs) _ _ _ (Stp.refl ..) w rfl h
 ·exact h.elim
theorem ref_list {X:Cx}:RefC X.K Tb (fun xs H Q=>∃ p ys,xs=[.ref p]/\(SqL X.K H p ys\/SqT X.K H p ys)/\∀ l,H l=none->Q (.ref l) (upd H l (.lst ys))) rList_:=by
 intro al M H xs ds Q QV w r h p
 unfold rList_ at h
 split at h
 ·obtain ⟨v,rfl,rv⟩:=r.one
  split at h
  ·rename_i ys e
   obtain ⟨a,zs,rfl,hq,rz⟩:=seqD_ok w e rv
   exact ⟨a,zs,rfl,hq,fun l hl=>p _ _ _ _ _ (stp_new w hl _) (wf_new w hl _) (rp_lst w hl rz) h⟩
  ·exact h.elim
 ·exact h.elim
theorem ref_tuple {X:Cx}:RefC X.K Tb (fun xs H Q=>∃ p ys,xs=[.ref p]/\((SqL X.K H p ys/\∀ l,H l=none->Q (.ref l) (upd H l (.tup ys)))\/(SqT X.K H p ys/\Q (.ref p) H))) rTuple_:=by
 intro al M H xs ds Q QV w r h p
 unfold rTuple_ at h
 split at h
 ·rename_i d
  obtain ⟨v,rfl,rv⟩:=r.one
  split at h
  ·rename_i ys e
   by_cases ht:∃ zs,d = .tup zs
   ·obtain ⟨zs,rfl⟩:=ht
    cases e
    obtain ⟨a,us,rfl,h1,h2⟩:=rv
    exact ⟨a,us,rfl,.inr ⟨h1.sq,p _ (.tup ys) _ _ _ (Stp.refl ..) w ⟨a,us,rfl,h1,h2⟩ h⟩⟩
   ·have hL:∃ a zs,v = .ref a/\SqL X.K H a zs/\Rps X.K al M H ys zs:=by
     cases d with
     | tup zs=>exact absurd ⟨zs,rfl⟩ ht
     | lst zs=>cases e;obtain ⟨a,us,rfl,h1,_,h2⟩:=rv;exact ⟨a,us,rfl,SqL.of h1,h2⟩
     | rol zs=>cases e;obtain ⟨a,us,rfl,h1,h2⟩:=rv;exact ⟨a,us,rfl,h1.sq,h2⟩
     | mt i=>obtain ⟨a,us,rfl,_,_,h1,h2⟩:=memL_ok w e rv;exact ⟨a,us,rfl,SqL.of h1,h2⟩
     | _=>cases e
    obtain ⟨a,zs,rfl,hq,rz⟩:=hL
    exact ⟨a,zs,rfl,.inl ⟨hq,fun l hl=>p _ _ _ _ _ (stp_new w hl _) (wf_new w hl _) (rp_tup w hl rz) h⟩⟩
  ·exact h.elim
 ·exact h.elim
theorem ref_int1:RefC K Tb (fun xs H Q=>((∃ i,xs=[.int i]/\Q (.int i) H)\/∃ k,xs=[.bl k]/\Q (.int (if k then 1 else 0)) H)\/∃ a n,xs=[.str a]/\PySem.intText? a=some n/\a.length<=640/\Q (.int n) H) rInt_:=by
 intro al M H xs ds Q QV w r h p
 unfold rInt_ at h
 split at h
 ·rename_i i
  obtain ⟨v,rfl,rfl⟩:=r.one
  exact .inl (.inl ⟨i,rfl,p _ (.int i) _ _ _ (Stp.refl ..) w rfl h⟩)
 ·rename_i k
  obtain ⟨v,rfl,rfl⟩:=r.one
  exact .inl (.inr ⟨k,rfl,p _ (.int _) _ _ _ (Stp.refl ..) w rfl h⟩)
 ·rename_i a
  obtain ⟨v,rfl,rfl⟩:=r.one
  split at h
  ·rename_i n e
   exact .inr ⟨a,n,rfl,e,h.1,p _ (.int n) _ _ _ (Stp.refl ..) w rfl h.2⟩
  ·exact h.elim
 ·exact h.elim
theorem ref_str:RefC K Tb (fun xs H Q=>∃ i,xs=[.int i]/\i.natAbs.log2 < 1920/\Q (.str (toString i)) H) rStr_:=by
 intro al M H xs ds Q QV w r h p
 unfold rStr_ at h
 split at h
 ·rename_i i
  obtain ⟨v,rfl,rfl⟩:=r.one
  exact ⟨i,rfl,h.1,p _ (.str _) _ _ _ (Stp.refl ..) w rfl h.2⟩
 ·exact h.elim
theorem ref_all {X:Cx}:RefC X.K Tb (L2.rAll X.K) rAll_:=by
 intro al M H xs ds Q QV w r h p
 unfold rAll_ at h
 split at h
 ·obtain ⟨v,rfl,rv⟩:=r.one
  split at h
  ·rename_i ys e
   split at h
   ·rename_i bs e2
    obtain ⟨a,zs,rfl,h1,h2⟩:=asL_ok w e rv
    have:=bls_ok e2 h2
    subst this
    exact ⟨a,bs,rfl,SqL.of h1,p _ (.bl _) _ _ _ (Stp.refl ..) w rfl h⟩
   ·exact h.elim
  ·exact h.elim
 ·exact h.elim
end
def tyM:Option (Option MO)->Option String
 | some (some (.lst _))=>some "list"
 | some (some (.dK _))=>some "dict"
 | _=>none
def tyN (M:Mem):D->Option String
 | .non=>some "NoneType"
 | .bl _=>some "bool"
 | .int _=>some "int"
 | .str _=>some "str"
 | .tup _=>some "tuple"
 | .lst _=>some "list"
 | .rol _=>some "list"
 | .mt i=>tyM M[i]?
 | _=>none
theorem tyN_ok {K:PySem.W.Frag} {Tb:List (Addr×Str)} {al:Al} {M:Mem} {H:Hp} (w:Wf K Tb al H M) {d:D} {v:V} {n:String} (e:tyN M d=some n) (r:Rp K al M H d v):TyX K H v (.type n):=by
 cases d with
 | non=>cases e;cases (show _=_ from r);exact .base .non
 | bl b=>cases e;cases (show _=_ from r);exact .base (.bl b)
 | int i=>cases e;cases (show _=_ from r);exact .base (.int i)
 | str x=>cases e;cases (show _=_ from r);exact .base (.str x)
 | tup xs =>
  cases e
  obtain ⟨a,ys,rfl,h,_⟩:=r
  rcases h with ⟨h,_⟩ | (h | ⟨o,h⟩) | ⟨o,its,n,h1,h2,_⟩
  ·exact .base (.tup h)
  ·cases h
  ·cases h
  ·exact .kTuple h1 h2
 | lst xs =>
  cases e
  obtain ⟨a,ys,rfl,h,_⟩:=r
  exact .base (.lst h)
 | rol xs =>
  cases e
  obtain ⟨a,ys,rfl,h,_⟩:=r
  rcases h with ⟨h | ⟨o,h⟩,_⟩ | (h | ⟨o,h⟩) | ⟨o,its,n,h1,h2,_⟩
  ·exact .base (.lst h)
  ·exact .base (.frz h)
  ·cases h
  ·cases h
  ·exact .kList h1 h2
 | mt i =>
  obtain ⟨a,ea,rfl⟩:=r
  have e:tyM M[i]?=some n:=e
  unfold tyM at e
  split at e
  ·rename_i xs em
   cases e
   obtain ⟨ys,h,_⟩:=w.rep i a _ ea em
   exact .base (.lst h)
  ·rename_i xs em
   cases e
   obtain ⟨ys,h,_⟩:=w.rep i a _ ea em
   exact .base (.dK h)
  ·cases e
 | _=>cases e
def tyTab:List String:=["NoneType","bool","int","str","tuple","list","dict"]
def isTab (t u:String):Bool:=t == u || (t == "bool" && u == "int")
theorem kit_tab:(tyTab.all fun t=>["bool","int","str","tuple","list","dict"].all fun u=>kitB t u == some (isTab t u))=true:=by decide +kernel
theorem tyN_tab {M:Mem} {d:D} {n:String} (e:tyN M d=some n):n∈tyTab:=by
 cases d with
 | mt i =>
  have e:tyM M[i]?=some n:=e
  unfold tyM at e
  split at e <;> first | (cases e;decide) | cases e
 | _=>first | (cases e;decide) | cases e
def clTab:List String:=["bool","int","str","tuple","list","dict"]
theorem kit_at {K:PySem.W.Frag} {t u:String} (ht:t∈tyTab) (hu:clTab.contains u=true):PySem.W.kitOne K (.type t) (.type u)=some (isTab t u):=by
 have h:=List.all_eq_true.mp (List.all_eq_true.mp kit_tab t ht) u (List.contains_iff_mem.mp hu)
 exact kit_ty (by simpa using h)
def tyNames:List D->Option (List String)
 | []=>some []
 | .ty n :: r=>(tyNames r).map (n :: ·)
 | _=>none
def rIsi_:RDC:=fun ds M Q=>match ds with
 | [x,.ty u]=>(match tyN M x with
  | some t=>clTab.contains u=true/\Q (.bl (isTab t u)) M
  | none=>False)
 | [x,.tup cs]=>(match tyN M x,tyNames cs with
  | some t,some us=>us.all clTab.contains=true/\Q (.bl (us.any (isTab t))) M
  | _,_=>False)
 | _=>False
theorem tyNames_ok {K:PySem.W.Frag} {al:Al} {M:Mem} {H:Hp}:∀ {ds:List D} {us:List String} {xs:List V},tyNames ds=some us->Rps K al M H ds xs->xs=us.map V.ty
 | [],_,_,e,r=>by cases e;exact r
 | .ty b :: ds,_,_,e,r=>by
  obtain ⟨x,ys,rfl,rx,ry⟩:=r
  unfold tyNames at e
  cases q:tyNames ds with
  | none=>rw [q] at e;cases e
  | some bs' =>
   rw [q] at e;cases e
   cases (show x = .ty b from rx)
   rw [tyNames_ok q ry];rfl
 | .non :: _,_,_,e,_=>by cases e
 | .int _ :: _,_,_,e,_=>by cases e
 | .str _ :: _,_,_,e,_=>by cases e
 | .bl _ :: _,_,_,e,_=>by cases e
 | .tup _ :: _,_,_,e,_=>by cases e
 | .lst _ :: _,_,_,e,_=>by cases e
 | .rol _ :: _,_,_,e,_=>by cases e
 | .obj _ _ _ :: _,_,_,e,_=>by cases e
 | .exc _ _ _ :: _,_,_,e,_=>by cases e
 | .dk _ _ :: _,_,_,e,_=>by cases e
 | .dt _ _ :: _,_,_,e,_=>by cases e
 | .ref _ :: _,_,_,e,_=>by cases e
 | .lam _ _ :: _,_,_,e,_=>by cases e
 | .mt _ :: _,_,_,e,_=>by cases e
theorem clsV_all:∀ us:List String,Paired ClsV (us.map V.ty) (us.map Value.type)
 | []=>.nil
 | u :: us=>.cons (.ty u) (clsV_all us)
theorem kitAny_tab {K:PySem.W.Frag} {t:String} (ht:t∈tyTab):∀ us:List String,us.all clTab.contains=true->PySem.W.kitAny K (.type t) (us.map Value.type)=some (us.any (isTab t))
 | [],_=>kitAny_nil
 | u :: us,h=>by
  simp only [List.all_cons,Bool.and_eq_true] at h
  refine kitAny_cons (kit_at ht h.1) (fun e=>?_) fun e=>?_
  ·rw [kitAny_tab ht us h.2]
   simp [e]
  ·simp [e]
theorem ref_isi {X:Cx} {Tb:List (Addr×Str)}:RefC X.K Tb (fun xs H Q=>L2.rIsi X.K xs H Q\/L2.rIsiT X.K xs H Q\/L2.rIsiK X.K xs H Q) rIsi_:=by
 intro al M H xs ds Q QV w r h p
 unfold rIsi_ at h
 split at h
 ·rename_i x u
  obtain ⟨v,v',rfl,rv,rfl⟩:=r.two
  split at h
  ·rename_i t e
   exact .inl ⟨v,.ty u,.type t,.type u,isTab t u,rfl,.ty u,tyN_ok w e rv,kit_at (tyN_tab e) h.1,p _ (.bl _) _ _ _ (Stp.refl ..) w rfl h.2⟩
  ·exact h.elim
 ·rename_i x cs
  obtain ⟨v,v',rfl,rv,rt⟩:=r.two
  split at h
  ·rename_i t us e1 e2
   obtain ⟨a,ys,rfl,hq,ry⟩:=rt
   have ey:=tyNames_ok e2 ry
   subst ey
   have K1:=kitAny_tab (K:=X.K) (tyN_tab e1) us h.1
   rcases hq with ⟨hq,_⟩ | (hq | ⟨o,hq⟩) | ⟨o,its,n,h1,h2,h3,h4,h5⟩
   ·exact .inr (.inl ⟨v,a,us.map V.ty,.type t,us.map Value.type,_,rfl,hq,clsV_all us,tyN_ok w e1 rv,K1,p _ (.bl _) _ _ _ (Stp.refl ..) w rfl h.2⟩)
   ·cases hq
   ·cases hq
   ·have ei:=ClsV.all (clsV_all us) h5
    obtain ⟨oc,od,dt,sl⟩:=o
    simp only at h2 h3
    subst h2 h3
    have ej:its=(us.map Value.type).toArray:=by rw [<- ei]
    subst ej
    exact .inr (.inr ⟨v,a,od,us.map Value.type,n,sl,.type t,_,rfl,h1,tyN_ok w e1 rv,K1,p _ (.bl _) _ _ _ (Stp.refl ..) w rfl h.2⟩)
  ·exact h.elim
 ·exact h.elim
def vOf:D->Option V
 | .non=>some .non
 | .bl b=>some (.bl b)
 | .int i=>some (.int i)
 | .str z=>some (.str z)
 | _=>none
def vsOf:List D->Option (List V)
 | []=>some []
 | d :: r=>match vOf d,vsOf r with
  | some v,some vs=>some (v :: vs)
  | _,_=>none
theorem vOf_ok {K:PySem.W.Frag} {al:Al} {M:Mem} {H:Hp} {d:D} {v u:V} (e:vOf d=some u) (r:Rp K al M H d v):v=u/\L2.flatV u=true:=by
 cases d <;> first | (cases e;exact ⟨r,rfl⟩) | cases e
theorem vsOf_ok {K:PySem.W.Frag} {al:Al} {M:Mem} {H:Hp}:∀ {ds:List D} {vs us:List V},vsOf ds=some us->Rps K al M H ds vs->vs=us/\us.all L2.flatV=true
 | [],_,_,e,r=>by cases e;exact ⟨r,rfl⟩
 | d :: ds,_,_,e,r=>by
  obtain ⟨x,ys,rfl,rx,ry⟩:=r
  unfold vsOf at e
  split at e
  ·rename_i v vs h1 h2
   cases e
   obtain ⟨rfl,f1⟩:=vOf_ok h1 rx
   obtain ⟨rfl,f2⟩:=vsOf_ok h2 ry
   exact ⟨rfl,by simp [f1,f2]⟩
  ·cases e
def rInX (neg:Bool):RD2:=fun x y M Q=>match x,y with
 | .str c,.str z=>(match c.cps.toList with
  | [k]=>Q (.bl (if neg then !decide (k∈z.cps.toList) else decide (k∈z.cps.toList))) M
  | _=>False)
 | x,y=>(match seqD M y with
  | some ds=>(match vOf x,vsOf ds with
   | some v,some vs=>Q (.bl (if neg then !L2.inV v vs else L2.inV v vs)) M
   | _,_=>False)
  | none=>False)
abbrev rIn_:RD2:=rInX false
section
variable {X:Cx} {Tb:List (Addr×Str)} {EV:XK} {a b c:Expr} {ta tb tc:TED} {pos:Pos}
theorem str_one {c:Str} {k:Nat} (h:c.cps.toList=[k]):c=⟨#[k]⟩:=by
 obtain ⟨⟨l⟩⟩:=c
 have:l=[k]:=h
 subst this
 rfl
theorem ref_inX {neg:Bool}:RefOp X.K Tb (fun x y H Q=>(∃ (c:Nat) (z:Str),x = .str ⟨#[c]⟩/\y = .str z/\Q (.bl (if neg then !decide (c∈z.cps.toList) else decide (c∈z.cps.toList))) H)\/L2.rIn X.K neg x y H Q) (rInX neg):=by
 intro al M H x y dx dy Q QV w rx ry h p
 unfold rInX at h
 split at h
 ·rename_i c z
  split at h
  ·rename_i k e
   rw [str_one e] at rx
   exact .inl ⟨k,z,rx,ry,p _ (.bl _) _ _ _ (Stp.refl ..) w rfl (by simpa using h)⟩
  ·exact h.elim
 ·split at h
  ·rename_i ds e
   split at h
   ·rename_i v vs h1 h2
    obtain ⟨a,xs,rfl,hq,r⟩:=seqD_ok w e ry
    obtain ⟨rfl,f1⟩:=vOf_ok h1 rx
    obtain ⟨rfl,f2⟩:=vsOf_ok h2 r
    exact .inr ⟨a,_,rfl,hq,f1,f2,p _ (.bl _) _ _ _ (Stp.refl ..) w rfl h⟩
   ·exact h.elim
  ·exact h.elim
theorem dv_in (ha:PD X Tb EV a ta) (hb:PD X Tb EV b tb) (hm:behindInMarks .In b=false:=by rfl):PD X Tb EV (.Compare a [.In] [b] pos) (dOp rIn_ ta tb):=dv_cmp (op_in_sign.or op_in_seq) (ref_inX (neg:=false)) ha hb hm
theorem dt_in (ha:PD X Tb EV a ta) (hb:PD X Tb EV b tb) (hm:behindInMarks .In b=false:=by rfl):PDT X Tb EV (.Compare a [.In] [b] pos) (dB (dOp rIn_ ta tb)):=dt_cmp (op_in_sign.or op_in_seq) (ref_inX (neg:=false)) ha hb hm
end
def strsD:List D->Option (List Str)
 | []=>some []
 | .str z :: r=>(strsD r).map (z :: ·)
 | _=>none
theorem strsD_ok {K:PySem.W.Frag} {al:Al} {M:Mem} {H:Hp}:∀ {ds:List D} {us:List Str} {xs:List V},strsD ds=some us->Rps K al M H ds xs->xs=us.map V.str
 | [],_,_,e,r=>by cases e;exact r
 | .str b :: ds,_,_,e,r=>by
  obtain ⟨x,ys,rfl,rx,ry⟩:=r
  unfold strsD at e
  cases q:strsD ds with
  | none=>rw [q] at e;cases e
  | some bs' =>
   rw [q] at e;cases e
   cases (show x = .str b from rx)
   rw [strsD_ok q ry];rfl
 | .non :: _,_,_,e,_=>by cases e
 | .int _ :: _,_,_,e,_=>by cases e
 | .ty _ :: _,_,_,e,_=>by cases e
 | .bl _ :: _,_,_,e,_=>by cases e
 | .tup _ :: _,_,_,e,_=>by cases e
 | .lst _ :: _,_,_,e,_=>by cases e
 | .rol _ :: _,_,_,e,_=>by cases e
 | .obj _ _ _ :: _,_,_,e,_=>by cases e
 | .exc _ _ _ :: _,_,_,e,_=>by cases e
 | .dk _ _ :: _,_,_,e,_=>by cases e
 | .dt _ _ :: _,_,_,e,_=>by cases e
 | .ref _ :: _,_,_,e,_=>by cases e
 | .lam _ _ :: _,_,_,e,_=>by cases e
 | .mt _ :: _,_,_,e,_=>by cases e
def tyB (T:String) (M:Mem):D->Bool
 | .str _=>T == "str"
 | .int _=>T == "int"
 | .lst _=>T == "list"
 | .rol _=>T == "list"
 | .mt i=>tyM M[i]? == some T
 | _=>false
abbrev RDM:=D->List D->Mem->VD->Prop
def RefM (K:PySem.W.Frag) (Tb:List (Addr×Str)) (r:V->List V->Hp->VK->Prop) (rD:RDM):Prop :=
 ∀ al M H x xs d ds Q QV,Wf K Tb al H M->Rp K al M H d x->Rps K al M H ds xs->rD d ds M Q->PostV K Tb al M H Q QV->r x xs H QV
abbrev dBM (T:String) (rD:RDM) (to:TED) (t:TAD):TED:=fun E rho M Q=>to E rho M fun x M1=>tyB T M1 x=true/\t E rho M1 fun ds M2=>rD x ds M2 Q
theorem tyB_ok {K:PySem.W.Frag} {Tb:List (Addr×Str)} {al:Al} {M:Mem} {H:Hp} (w:Wf K Tb al H M) {T:String} {d:D} {v:V} (h:tyB T M d=true) (r:Rp K al M H d v):tyV K T v H:=by
 cases d with
 | str z=>cases (show _=_ from r);exact eq_of_beq h
 | int z=>cases (show _=_ from r);exact eq_of_beq h
 | lst xs=>obtain ⟨a,ys,rfl,h1,_⟩:=r;exact .inl ⟨eq_of_beq h,ys,SqL.of h1⟩
 | rol xs=>obtain ⟨a,ys,rfl,h1,_⟩:=r;exact .inl ⟨eq_of_beq h,ys,h1.sq⟩
 | mt i =>
  obtain ⟨a,ea,rfl⟩:=r
  have e:tyM M[i]?=some T:=eq_of_beq h
  unfold tyM at e
  split at e
  ·rename_i xs em
   cases e
   obtain ⟨ys,h,_⟩:=w.rep i a _ ea em
   exact .inl ⟨rfl,ys,SqL.of h⟩
  ·rename_i xs em
   cases e
   obtain ⟨ys,h,_⟩:=w.rep i a _ ea em
   exact .inr (.inr (.inl ⟨rfl,.inl ⟨ys,h⟩⟩))
  ·cases e
 | _=>cases h
section
variable {X:Cx} {Tb:List (Addr×Str)} {EV:XK} {o e:Expr} {es:List Expr} {to:TED} {t:TAD} {name:Str} {apos cpos:Pos} {T id:String} {r:V->List V->Hp->VK->Prop} {rD:RDM}
theorem dv_bm (pa:PlainAttrs T) (slot:Slot T name id) (hty:typeOf (.builtin id)=pure (.type "method_descriptor")) (hm:MtR X id r) (hr:RefM X.K Tb r rD) (ho:PD X Tb EV o to) (ha:PDA X Tb EV (e :: es) t)
  (hbase:attributeBase o name X.env (eval o X.env)=eval o X.env:=by rfl)
  (hfew:((backTo cpos (starEach (e :: es) X.env)).all (fun x=>!x.1) && (backToKw cpos (keywordEach [] X.env)).all (fun x=>x.1.isSome)
   && decide ((e :: es).length+([]:List Keyword).length+(if ([]:List Keyword).isEmpty then 0 else 1) < 30))=true:=by rfl)
  (hline:(apos.endLine == cpos.line)=true:=by rfl) (hs:starEach (e :: es) X.env=(false,eval e X.env) :: starEach es X.env:=by rfl) (hplain:(backTo cpos (starEach es X.env)).any (·.1)=false:=by rfl) :
  PD X Tb EV (.Call (.Attribute o name apos) (e :: es) [] cpos) (dBM T rD to t):=pe_imp (pe_bm pa slot hty hm ho ha hbase hfew hline hs hplain) fun σ H QV h=>by
 obtain ⟨al,rho,M,E,Q,a,t,p⟩:=h
 refine seq1 a t fun al1 x M1 vx H1 s1 a1 r1 q1=>⟨tyB_ok a1.wf q1.1 r1,seqA a1 q1.2 fun al2 ds M2 vs H2 s2 a2 r2 q2=>?_⟩
 exact hr _ _ _ _ _ _ _ _ _ a2.wf (r1.mono s2) r2 q2 (p.mono (s1.trans s2))
end
def rJoin_:RDM:=fun x ds M Q=>match x,ds with
 | .str a,[y]=>(match seqD M y with
  | some ds=>(match strsD ds with
   | some ys=>(ys.map (·.length)).sum+ys.length * a.length<=16777216/\Q (.str (Txt.join a ys)) M
   | none=>False)
  | none=>False)
 | _,_=>False
def rApp_:RDM:=fun x ds M Q=>match x,ds with
 | .mt i,[y]=>(match memL M i with
  | some xs=>xs.length < sizeLine/\Q .non (M.set i (some (.lst (xs ++ [y]))))
  | none=>False)
 | _,_=>False
section
variable {X:Cx} {Tb:List (Addr×Str)} {EV:XK} {o e:Expr} {to te:TED} {t:TAD} {pos apos:Pos}
theorem ref_join:RefM X.K Tb (fun x xs H Q=>∃ a p,∃ ys:List Str,x = .str a/\xs=[.ref p]/\(SqL X.K H p (ys.map V.str)\/SqT X.K H p (ys.map V.str))/\(ys.map (·.length)).sum+ys.length * a.length<=16777216/\Q (.str (Txt.join a ys)) H) rJoin_:=by
 intro al M H x xs d ds Q QV w rx rs h p
 unfold rJoin_ at h
 split at h
 ·rename_i a y
  obtain ⟨v,rfl,rv⟩:=rs.one
  split at h
  ·rename_i zs e1
   split at h
   ·rename_i ys e2
    obtain ⟨b,us,rfl,hq,ru⟩:=seqD_ok w e1 rv
    have:=strsD_ok e2 ru
    subst this
    exact ⟨a,b,ys,rx,rfl,hq,h.1,p _ (.str _) _ _ _ (Stp.refl ..) w rfl h.2⟩
   ·exact h.elim
  ·exact h.elim
 ·exact h.elim
theorem ref_app:RefM X.K Tb rAppend rApp_:=by
 intro al M H x xs d ds Q QV w rx rs h p
 unfold rApp_ at h
 split at h
 ·rename_i i y
  obtain ⟨v,rfl,rv⟩:=rs.one
  split at h
  ·rename_i zs e1
   obtain ⟨b,us,rfl,hb,hm,hH,ru⟩:=memL_ok w e1 rx
   obtain ⟨g1,g2⟩:=set_lst w hb hm hH (ru.append (show Rps X.K al M H [y] [v] from ⟨v,[],rfl,rv,rfl⟩))
   exact ⟨b,us,v,rfl,rfl,hH,by rw [<- ru.length];exact h.1,p _ .non _ _ _ g1 g2 rfl h.2⟩
  ·exact h.elim
 ·exact h.elim
end
structure Cal (P:Program) (w:World) (K:PySem.W.Frag) (mg:Str->Option Value) (base:Heap) (Tb:List (Addr×Str)) (x qual:Str) (st:Stmt) (dvs:List V) (kws:List (Str×V)) (k:Nat) (ps:List Str) (dsp:DSp) where
 f:Addr
 fd:FuncData
 F:FunD K x qual (defArgs st) (defBody st) (defScope st) dvs kws f fd
 fn:FnD P w K mg base Tb k f fd ps dsp
 mgx:mg x=some (.ref f)
theorem hxF {P:Program} {w:World} {K:PySem.W.Frag} {mg:Str->Option Value} {base:Heap} {N:List Str} {qual:Str} {scope:Scope} {f:Addr} {cdv:Value} {A:Around} {outer:List Env} {s:Shared} {H:Hp} {EV:XK} :
  Passes (L2.CX P w) (cxOf (L2.CX P w) P w K mg base N qual scope f cdv A outer s H EV) EV:=passes_call (takes_of rfl rfl rfl rfl) fun _ _ _ _ h=>h
theorem boot_list:bootBuiltins "list"=some (.type "list"):=by decide +kernel
theorem boot_tuple:bootBuiltins "tuple"=some (.type "tuple"):=by decide +kernel
theorem boot_int:bootBuiltins "int"=some (.type "int"):=by decide +kernel
theorem boot_str:bootBuiltins "str"=some (.type "str"):=by decide +kernel
theorem boot_bool:bootBuiltins "bool"=some (.type "bool"):=by decide +kernel
theorem for_inv {g:TGD} {tb:TSD} {E:XD} {DD:DEnds} (Pv:List D->Rho->Mem->Prop)
  (hs:∀ d r rho M (N:Rho->Mem->Prop),Pv (d :: r) rho M->(∀ rho' M',Pv r rho' M'->N rho' M')->g d E rho M fun rho' M'=>tb E { DD with nx:=N,ct:=N,bk:=DD.nx } rho' M')
  (hd:∀ rho M,Pv [] rho M->DD.nx rho M):∀ ds rho M,Pv ds rho M->forU g tb ds E DD rho M
 | [],rho,M,h=>hd rho M h
 | d :: r,rho,M,h=>hs d r rho M _ h fun rho' M' h'=>for_inv Pv hs hd r rho' M' h'
theorem wh_inv {c:TTD} {tb:TSD} {E:XD} {DD:DEnds} (Pv:Rho->Mem->Prop) (mu:Rho->Mem->Nat)
  (hs:∀ rho M (N:Rho->Mem->Prop),Pv rho M->(∀ rho' M',Pv rho' M'->mu rho' M' < mu rho M->N rho' M')->c E rho M fun b M1=>if b=true then tb E { DD with nx:=N,ct:=N,bk:=DD.nx } rho M1 else DD.nx rho M1)
  (rho:Rho) (M:Mem) (h:Pv rho M):dWhile c tb E DD rho M:=by
 have key:∀ n rho M,mu rho M < n->Pv rho M->whU c tb n E DD rho M:=by
  intro n
  induction n with
  | zero=>intro rho M hl _;omega
  | succ n ih=>intro rho M hl h;exact hs rho M _ h fun rho' M' h' hm=>ih rho' M' (by omega) h'
 exact ⟨mu rho M+1,key _ _ _ (Nat.lt_succ_self _) h⟩
theorem lc_inv {g:TGD} {tt:TTD} {te:TED} {vs:List Nat} {rho:Rho} {Q:VD} (Pv:List D->List D->Mem->Prop)
  (hs:∀ d r acc M (N:List D->Mem->Prop),Pv (d :: r) acc M->(∀ acc' M',Pv r acc' M'->N acc' M')->g d noE (wipeD rho vs) M fun rho' M1=>tt noE rho' M1 fun b M2=>if b=true then te noE rho' M2 (fun y M3=>acc.length < sizeLine/\N (acc ++ [y]) M3) else N acc M2)
  (hd:∀ acc M,Pv [] acc M->Q (.lst acc) M):∀ ds acc M,Pv ds acc M->lcU g tt te vs ds acc rho M Q
 | [],acc,M,h=>hd acc M h
 | d :: r,acc,M,h=>hs d r acc M (fun acc M=>lcU g tt te vs r acc rho M Q) h fun acc' M' h'=>lc_inv Pv hs hd r acc' M' h'
def CcD (K:PySem.W.Frag) (mg:Str->Option Value) (x:Str) (d:D):Prop:=∃ (v:V) (u:Value),mg x=some u/\RelV v u/\∀ al M H,Rp K al M H d v
theorem dv_gl {X:Cx} {Tb:List (Addr×Str)} {EV:XK} {x:Str} {d:D} {pos:Pos} (c:CcD X.K X.mg x d) (hg:Gl X x) (hd:(x == ("__debug__":Str))=false:=by decide):PD X Tb EV (.Name x pos) (dC d):=by
 obtain ⟨v,u,hm,rv,r⟩:=c
 exact dv_glob hg hm rv r hd
end DL
namespace Mt
theorem fdiv_exact {a g c:Int} (hg:g≠0) (h:a=g * c):a.fdiv g=c:=by
 subst h
 exact Int.mul_fdiv_cancel_left c hg
theorem low_num (a b:Int) (hb:b≠0):a.fdiv (if b < 0 then -(Int.gcd a b:Int) else (Int.gcd a b:Int))=(Rat.divInt a b).num:=by
 have hg:(Int.gcd a b:Int)≠0:=by
  intro h
  have:Int.gcd a b=0:=by omega
  exact hb (Int.gcd_eq_zero_iff.mp this).2
 have hd:(Int.gcd a b:Int) ∣ a:=Int.gcd_dvd_left ..
 rw [Rat.num_divInt,Int.gcd_comm b a]
 obtain ⟨c,hc⟩:=hd
 by_cases hneg:b < 0
 ·rw [if_pos hneg,Int.sign_eq_neg_one_of_neg hneg]
  rw [fdiv_exact (c:=-c) (by omega) (by rw [Int.neg_mul_neg];exact hc)]
  have:-1 * a=(Int.gcd a b:Int) * (-c):=by rw [Int.mul_neg,<- hc];omega
  rw [this,Int.mul_ediv_cancel_left _ hg]
 ·have hp:0 < b:=by omega
  rw [if_neg hneg,Int.sign_eq_one_of_pos hp,Int.one_mul]
  rw [fdiv_exact (c:=c) hg hc]
  generalize (Int.gcd a b:Int)=g at hc hg
  subst hc
  rw [Int.mul_ediv_cancel_left _ hg]
theorem low_den (a b:Int) (hb:b≠0):b.fdiv (if b < 0 then -(Int.gcd a b:Int) else (Int.gcd a b:Int))=((Rat.divInt a b).den:Int):=by
 have hg:(Int.gcd a b:Int)≠0:=by
  intro h
  have:Int.gcd a b=0:=by omega
  exact hb (Int.gcd_eq_zero_iff.mp this).2
 have hd:(Int.gcd a b:Int) ∣ b:=Int.gcd_dvd_right ..
 rw [Rat.den_divInt,if_neg hb,Int.gcd_comm b a]
 obtain ⟨c,hc⟩:=hd
 have hg':0 < (Int.gcd a b:Int):=by omega
 by_cases hneg:b < 0
 ·rw [if_pos hneg]
  rw [fdiv_exact (c:=-c) (by omega) (by rw [Int.neg_mul_neg];exact hc)]
  have e:(b.natAbs:Int)=(Int.gcd a b:Int) * (-c):=by rw [Int.mul_neg,<- hc];omega
  rw [Int.natCast_ediv,e,Int.mul_ediv_cancel_left _ hg]
 ·rw [if_neg hneg]
  rw [fdiv_exact (c:=c) hg hc]
  have e:(b.natAbs:Int)=(Int.gcd a b:Int) * c:=by rw [<- hc];omega
  rw [Int.natCast_ediv,e,Int.mul_ediv_cancel_left _ hg]
end Mt
namespace DL
open PySem PySem.Spec PyProof.Rows L2 Mt
theorem mok_r {i j:Int} (h1:-(2 ^ 64) < j) (h2:j < 2 ^ 64):IntMulOk i j:=.of_right (intBits_le_64 h1 h2)
theorem mok_l {i j:Int} (h1:-(2 ^ 64) < i) (h2:i < 2 ^ 64):IntMulOk i j:=.of_left (intBits_le_64 h1 h2)
theorem log2_bs (n:Nat):n.log2<=bs n:=by
 unfold bs
 split
 ·subst_vars;decide
 ·omega
theorem mok_b {i j:Int} (h:bz i+bz j<=100000000):IntMulOk i j:=by
 have b:∀ x:Int,Builtin.Int.intBits x<=x.natAbs.log2+1:=fun x=>by
  unfold Builtin.Int.intBits
  split <;> omega
 have h1:=b i
 have h2:=b j
 have:=log2_bs i.natAbs
 have:=log2_bs j.natAbs
 unfold bz at h
 exact PyProof.Rows.mulOk_of_bits h1 h2 (by omega)
theorem cdx {j:Int} (h:j≠0) (hb:bz j<=8900):CDivX j:=⟨h,by
 have:=log2_bs j.natAbs
 unfold bz at hb
 omega⟩
theorem cdx_small {j:Int} (h:0 < j) (h2:j < 2 ^ 8000):CDivX j:=cdx (by omega) (by
 have:bz j<=8000:=bs_le (by
  have h3:((j.natAbs:Nat):Int) < ((2 ^ 8000:Nat):Int):=by
   rw [Int.natCast_pow]
   have:(j.natAbs:Int)=j:=by omega
   rw [this]
   exact h2
  exact Int.ofNat_lt.mp h3)
 omega)
theorem cpow {i j:Int} (h0:0<=j) (h1:j<=1000000) (h2:-(2 ^ 64) < i) (h3:i < 2 ^ 64):CPow i j:=⟨h0,h1,by omega⟩
theorem RgTo.refl {M:Mem} {i:Nat} (a:RgAt M i):RgTo M i M:=by
 obtain ⟨r,e,ok⟩:=a
 refine ⟨r,ok,?_⟩
 apply List.ext_getElem?
 intro j
 by_cases h:i=j
 ·subst h
  rw [List.getElem?_set_self (List.getElem?_eq_some_iff.mp e).1,e]
 ·rw [List.getElem?_set_ne h]
theorem RgTo.okM {M M':Mem} {i:Nat} (t:RgTo M i M') (ok:okM M.length M):DL.okM M.length M':=by
 obtain ⟨r,_,rfl⟩:=t
 exact ok.set (r.hb _)
theorem Cut.rg {Q:VD} {d:D} {M M':Mem} {i:Nat} (t:RgTo M i M') (h:d.hb M.length=true) (ok:okM M.length M) (q:Q d M'):Cut M.length Q d M' :=
 ⟨M.length,Nat.le_refl _,h,t.okM ok,by rw [List.take_of_length_le (by rw [t.len];exact Nat.le_refl _)];exact q⟩
theorem fmod_pos {a b:Int} (h:0 < b):0<=a.fmod b/\a.fmod b < b:=⟨Int.fmod_nonneg_of_pos a h,Int.fmod_lt_of_pos a h⟩
theorem fmod_nat (a b:Nat):(a:Int).fmod (b:Int)=((a % b:Nat):Int):=by
 rw [Int.fmod_eq_emod_of_nonneg _ (by omega)]
 rfl
def hSubC (o j:D):TGD:=hSub (dC o) (dC j)
section
variable {E:XD} {DD:DEnds} {rho:Rho} {M:Mem} {Q:VD} {ta tb tc:TED} {t u:TSD} {c c':TTD} {aa:TAD} {rD rD':RD2} {R:Bool->Mem->Prop} {N:Rho->Mem->Prop} {L:List D->Mem->Prop} {d d':D} {i n:Nat} {k k':Int} {xs ys:List D} {r:RDC}
theorem e_seq (h:t E { DD with nx:=u E DD } rho M):dSeq t u E DD rho M:=h
theorem e_var (e:rho[i]?=some (some d)) (h:Q d M):dVar i E rho M Q:=by
 unfold dVar;rw [e];exact h
theorem e_int {C:Int->Int->Prop} {g:Int->Int->D} (h1:C k k') (h2:Q (g k k') M):rIntD C g (.int k) (.int k') M Q:=⟨h1,h2⟩
theorem e_add (h:Q (.int (k+k')) M):rAdd_ (.int k) (.int k') M Q:=h
theorem e_ix (h1:seqD M d=some xs) (h2:L2.atI xs k=some d') (h:Q d' M):rIx_ d (.int k) M Q:=by
 unfold rIx_;simp only [h1,h2];exact h
theorem e_eqi (h:Q (.bl (decide (k=k'))) M):rEq_ (.int k) (.int k') M Q:=h
theorem e_nei (h:Q (.bl (!decide (k=k'))) M):rNe_ (.int k) (.int k') M Q:=h
theorem e_len (h1:seqD M d=some xs) (h:Q (.int xs.length) M):rLen_ [d] M Q:=by
 unfold rLen_;simp only [h1];exact h
theorem e_sub (h:ta E rho M fun o M1=>tb E rho M1 fun j M2=>hSubC o j d E rho M2 N):hSub ta tb d E rho M N:=h
theorem e_subc {j:Nat} (h1:M[i]?=some (some (.lst xs))) (h2:ixN xs.length k=some j) (h:∀ M',M'=M.set i (some (.lst (xs.set j d)))->M'[i]?=some (some (.lst (xs.set j d)))->N rho M'):hSubC (.mt i) (.int k) d E rho M N:=by
 show (match memL M i with
  | some xs=>(match ixN xs.length k with
   | some j=>N rho (M.set i (some (.lst (xs.set j d))))
   | none=>False)
  | none=>False)
 unfold memL
 rw [h1]
 simp only [h2]
 exact h _ rfl (by rw [List.getElem?_set_self (List.getElem?_eq_some_iff.mp h1).1])
theorem memL_at (h:M[i]?=some (some (.lst xs))):memL M i=some xs:=by unfold memL;rw [h]
theorem seq_at (h:M[i]?=some (some (.lst xs))):seqD M (.mt i)=some xs:=memL_at h
end
theorem Cut.new {Q:VD} {M:Mem} {o:MO} (ok:okM M.length M) (h:o.hb (M.length+1)=true) (q:Q (.mt M.length) (M ++ [some o])):Cut M.length Q (.mt M.length) (M ++ [some o]) :=
 ⟨M.length+1,Nat.le_succ _,decide_eq_true (Nat.lt_succ_self _),ok.app h,by rw [List.take_of_length_le (by simp)];exact q⟩
end DL
namespace DL
theorem nz {j:Int} (h:j≠0):j≠0:=h
end DL
namespace DL
theorem e_cut {t u:TSD} {E:XD} {DD:DEnds} {rho:Rho} {M:Mem} (I:Rho->Mem->Prop) (h2:∀ rho M,I rho M->u E DD rho M) (h1:∀ N:Rho->Mem->Prop,(∀ rho M,I rho M->N rho M)->t E { DD with nx:=N } rho M):dSeq t u E DD rho M:=h1 _ h2
end DL
namespace DL
theorem RgTo.same {M:Mem} {i:Nat} {o:Option MO} (e:M[i]?=some o):M=M.set i o:=by
 apply List.ext_getElem?
 intro j
 by_cases h:i=j
 ·subst h
  rw [List.getElem?_set_self (List.getElem?_eq_some_iff.mp e).1,e]
 ·rw [List.getElem?_set_ne h]
end DL
namespace DL
theorem cdx_d {j:Int} (h:(0 < j/\j < 1000000000000)):CDivX j:=cdx_small h.1 (Int.lt_trans h.2 (by decide +kernel))
end DL
namespace DL
open PySem PySem.Spec PyProof.Rows L2 Mt
theorem at_pos {α:Type} {xs:List α} {p:Int} (h0:0<=p) (h1:p < xs.length):L2.atI xs p=xs[p.toNat]?:=by
 unfold L2.atI L2.ixN
 rw [if_pos h0,if_pos h1]
 rfl
theorem at_ex {α:Type} {xs:List α} {p:Int} (h0:0<=p) (h1:p < xs.length):∃ x,L2.atI xs p=some x/\x∈xs:=by
 rw [at_pos h0 h1]
 have h:p.toNat < xs.length:=by omega
 exact ⟨xs[p.toNat],List.getElem?_eq_getElem h,List.getElem_mem h⟩
section
variable {E:XD} {DD:DEnds} {rho:Rho} {M:Mem} {Q:VD} {ta tb tc:TED} {t u:TSD} {c c':TTD} {aa:TAD} {rD rD':RD2} {R:Bool->Mem->Prop} {N:Rho->Mem->Prop} {L:List D->Mem->Prop} {d d':D} {i n:Nat} {k k':Int} {xs ys:List D} {r:RDC} {b b':Bool}
theorem e_is (h:Q (.bl (isNon d)) M):rIs_ d .non M Q:=h
theorem e_isn (h:Q (.bl (!isNon d)) M):rIsNot_ d .non M Q:=h
theorem e_eqb (h:Q (.bl (decide (b=b'))) M):rEq_ (.bl b) (.bl b') M Q:=h
theorem e_neb (h:Q (.bl (!decide (b=b'))) M):rNe_ (.bl b) (.bl b') M Q:=h
theorem e_rg1 {I:List D->Mem->Prop} (h:aa E rho M fun ds M1=>match ds with
 | [.int j]=>(-(2 ^ 62)<=j/\j < 2 ^ 62)/\I (rangeD 0 j.toNat) M1
 | _=>False):iRange1 aa E rho M I:=h
end
mutual
def smD:D->D->Bool
 | .tup xs,.tup ys=>smDs xs ys
 | .lst xs,.lst ys=>smDs xs ys
 | .lst xs,.rol ys=>smDs xs ys
 | .rol xs,.lst ys=>smDs xs ys
 | .rol xs,.rol ys=>smDs xs ys
 | .int i,.int j=>decide (i=j)
 | .str x,.str y=>decide (x=y)
 | .bl a,.bl b=>decide (a=b)
 | .non,.non=>true
 | _,_=>false
def smDs:List D->List D->Bool
 | [],[]=>true
 | x :: xs,y :: ys=>smD x y && smDs xs ys
 | _,_=>false
end
mutual
theorem smD_refl:∀ {d:D},pu d=true->smD d d=true
 | .non,_=>rfl
 | .bl _,_=>decide_eq_true rfl
 | .int _,_=>decide_eq_true rfl
 | .str _,_=>decide_eq_true rfl
 | .tup xs,h=>smDs_refl (ds:=xs) (by have h:(decide (xs.length<=sizeLine) && pus xs)=true:=h;rw [Bool.and_eq_true] at h;exact h.2)
 | .lst xs,h=>smDs_refl (ds:=xs) (by have h:(decide (xs.length<=sizeLine) && pus xs)=true:=h;rw [Bool.and_eq_true] at h;exact h.2)
 | .rol xs,h=>smDs_refl (ds:=xs) (by have h:(decide (xs.length<=sizeLine) && pus xs)=true:=h;rw [Bool.and_eq_true] at h;exact h.2)
theorem smDs_refl:∀ {ds:List D},pus ds=true->smDs ds ds=true
 | [],_=>rfl
 | x :: xs,h=>by
  have h:(pu x && pus xs)=true:=h
  rw [Bool.and_eq_true] at h
  show (smD x x && smDs xs xs)=true
  rw [smD_refl h.1,smDs_refl h.2];rfl
end
theorem pus_at:∀ {xs:List D} {j:Nat} {x:D},pus xs=true->xs[j]?=some x->pu x=true
 | [],_,_,_,e=>by simp at e
 | y :: ys,j,x,h,e=>by
  have h:(pu y && pus ys)=true:=h
  rw [Bool.and_eq_true] at h
  cases j with
  | zero=>simp at e;subst e;exact h.1
  | succ j=>exact pus_at h.2 (by simpa using e)
theorem dps_at:∀ {xs:List D} {j:Nat} {x:D},xs[j]?=some x->dp x<=dps xs
 | [],_,_,e=>by simp at e
 | y :: ys,j,x,e=>by
  show dp x<=max (dp y) (dps ys)
  cases j with
  | zero=>simp at e;subst e;omega
  | succ j=>have:=dps_at (xs:=ys) (j:=j) (x:=x) (by simpa using e);omega
theorem smDs_len:∀ {xs ys:List D},smDs xs ys=true->xs.length=ys.length
 | [],[],_=>rfl
 | x :: xs,y :: ys,h=>by
  have h:(smD x y && smDs xs ys)=true:=h
  rw [Bool.and_eq_true] at h
  simp [smDs_len h.2]
 | [],_ :: _,h=>by cases h
 | _ :: _,[],h=>by cases h
theorem smDs_zip:∀ {xs ys:List D},xs.length=ys.length->smDs xs ys=(List.zipWith smD xs ys).all _root_.id
 | [],[],_=>rfl
 | x :: xs,y :: ys,h=>by
  show (smD x y && smDs xs ys)=(smD x y && (List.zipWith smD xs ys).all _root_.id)
  rw [smDs_zip (by simpa using h)]
 | [],_ :: _,h=>by simp at h
 | _ :: _,[],h=>by simp at h
def isLst:D->Bool
 | .lst _=>true
 | .rol _=>true
 | _=>false
def isTup:D->Bool
 | .tup _=>true
 | _=>false
def isBl:D->Bool
 | .bl _=>true
 | _=>false
def isInt:D->Bool
 | .int _=>true
 | .bl _=>true
 | _=>false
def isStr:D->Bool
 | .str _=>true
 | _=>false
theorem isi_of {u:String} {b:Bool} {d:D} {M:Mem} {Q:VD} (t:String) (h1:tyN M d=some t) (h2:clTab.contains u=true) (h3:isTab t u=b) (h:Q (.bl b) M):rIsi_ [d,.ty u] M Q:=by
 unfold rIsi_;simp only [h1];exact ⟨h2,by rw [h3];exact h⟩
section
variable {d:D} {M:Mem} {Q:VD} (p:pu d=true)
include p
theorem isi_l (h:Q (.bl (isLst d)) M):rIsi_ [d,.ty "list"] M Q:=by
 cases d with
 | mt i=>cases p
 | obj _ _ _=>cases p
 | exc _ _ _=>cases p
 | dk _ _=>cases p
 | dt _ _=>cases p
 | ref _=>cases p
 | lam _ _=>cases p
 | ty _=>cases p
 | _=>first | exact isi_of (b:=false) _ rfl (by decide +kernel) (by decide +kernel) h | exact isi_of (b:=true) _ rfl (by decide +kernel) (by decide +kernel) h
theorem isi_t (h:Q (.bl (isTup d)) M):rIsi_ [d,.ty "tuple"] M Q:=by
 cases d with
 | mt i=>cases p
 | obj _ _ _=>cases p
 | exc _ _ _=>cases p
 | dk _ _=>cases p
 | dt _ _=>cases p
 | ref _=>cases p
 | lam _ _=>cases p
 | ty _=>cases p
 | _=>first | exact isi_of (b:=false) _ rfl (by decide +kernel) (by decide +kernel) h | exact isi_of (b:=true) _ rfl (by decide +kernel) (by decide +kernel) h
theorem isi_b (h:Q (.bl (isBl d)) M):rIsi_ [d,.ty "bool"] M Q:=by
 cases d with
 | mt i=>cases p
 | obj _ _ _=>cases p
 | exc _ _ _=>cases p
 | dk _ _=>cases p
 | dt _ _=>cases p
 | ref _=>cases p
 | lam _ _=>cases p
 | ty _=>cases p
 | _=>first | exact isi_of (b:=false) _ rfl (by decide +kernel) (by decide +kernel) h | exact isi_of (b:=true) _ rfl (by decide +kernel) (by decide +kernel) h
theorem isi_i (h:Q (.bl (isInt d)) M):rIsi_ [d,.ty "int"] M Q:=by
 cases d with
 | mt i=>cases p
 | obj _ _ _=>cases p
 | exc _ _ _=>cases p
 | dk _ _=>cases p
 | dt _ _=>cases p
 | ref _=>cases p
 | lam _ _=>cases p
 | ty _=>cases p
 | _=>first | exact isi_of (b:=false) _ rfl (by decide +kernel) (by decide +kernel) h | exact isi_of (b:=true) _ rfl (by decide +kernel) (by decide +kernel) h
theorem isi_s (h:Q (.bl (isStr d)) M):rIsi_ [d,.ty "str"] M Q:=by
 cases d with
 | mt i=>cases p
 | obj _ _ _=>cases p
 | exc _ _ _=>cases p
 | dk _ _=>cases p
 | dt _ _=>cases p
 | ref _=>cases p
 | lam _ _=>cases p
 | ty _=>cases p
 | _=>first | exact isi_of (b:=false) _ rfl (by decide +kernel) (by decide +kernel) h | exact isi_of (b:=true) _ rfl (by decide +kernel) (by decide +kernel) h
theorem isi_lt (h:Q (.bl (isLst d || isTup d)) M):rIsi_ [d,.tup [.ty "list",.ty "tuple"]] M Q:=by
 have key:∀ (t:String) (b:Bool),tyN M d=some t->(["list","tuple"].any (isTab t))=b->Q (.bl b) M->rIsi_ [d,.tup [.ty "list",.ty "tuple"]] M Q:=by
  intro t b h1 h3 h
  show (match tyN M d,tyNames [.ty "list",.ty "tuple"] with
   | some t,some us=>us.all clTab.contains=true/\Q (.bl (us.any (isTab t))) M
   | _,_=>False)
  rw [h1]
  exact ⟨by decide +kernel,by rw [h3];exact h⟩
 cases d with
 | mt i=>cases p
 | obj _ _ _=>cases p
 | exc _ _ _=>cases p
 | dk _ _=>cases p
 | dt _ _=>cases p
 | ref _=>cases p
 | lam _ _=>cases p
 | ty _=>cases p
 | _=>first | exact key _ false rfl (by decide +kernel) h | exact key _ true rfl (by decide +kernel) h
end
theorem bls_map:∀ bs:List Bool,bls (bs.map D.bl)=some bs
 | []=>rfl
 | b :: r=>by show (bls (r.map D.bl)).map (b :: ·)=_;rw [bls_map r];rfl
theorem e_all {bs:List Bool} {M:Mem} {Q:VD} (h:Q (.bl (bs.all _root_.id)) M):rAll_ [.lst (bs.map D.bl)] M Q:=by
 show (match bls (bs.map D.bl) with
   | some bs=>Q (.bl (bs.all _root_.id)) M
   | none=>False)
 rw [bls_map];exact h
theorem range_drop {n j:Nat} (h:j < n):(rangeD 0 n).drop j = .int (j:Int) :: (rangeD 0 n).drop (j+1):=by
 have hl:j < (rangeD 0 n).length:=by simp [rangeD];exact h
 rw [List.drop_eq_getElem_cons hl]
 congr 1
 simp [rangeD]
theorem lc_range {g:TGD} {tt:TTD} {te:TED} {vs:List Nat} {rho:Rho} {Q:VD} {n:Nat} {M:Mem} (Pv:Nat->List D->Mem->Prop) (h0:Pv 0 [] M)
  (hs:∀ j acc M (N:List D->Mem->Prop),j < n->Pv j acc M->(∀ acc' M',Pv (j+1) acc' M'->N acc' M')->g (.int (j:Int)) noE (wipeD rho vs) M fun rho' M1=>tt noE rho' M1 fun b M2=>if b=true then te noE rho' M2 (fun y M3=>acc.length < sizeLine/\N (acc ++ [y]) M3) else N acc M2)
  (hd:∀ acc M,Pv n acc M->Q (.lst acc) M):lcU g tt te vs (rangeD 0 n) [] rho M Q:=by
 refine lc_inv (fun ds acc M=>∃ j,j<=n/\ds=(rangeD 0 n).drop j/\Pv j acc M) ?_ ?_ _ _ _ ⟨0,Nat.zero_le _,rfl,h0⟩
 ·rintro d r acc M N ⟨j,hj,e,p⟩ hN
  have hj':j < n:=by
   rcases Nat.lt_or_ge j n with h | h
   ·exact h
   ·have:(rangeD 0 n).drop j=[]:=List.drop_of_length_le (by simp [rangeD];exact h)
    rw [this] at e;cases e
  rw [range_drop hj'] at e
  cases e
  exact hs j acc M N hj' p fun acc' M' q=>hN _ _ ⟨j+1,hj',rfl,q⟩
 ·rintro acc M ⟨j,hj,e,p⟩
  have:j=n:=by
   rcases Nat.lt_or_ge j n with h | h
   ·rw [range_drop h] at e;cases e
   ·omega
  subst this
  exact hd _ _ p
theorem for_range {g:TGD} {tb:TSD} {E:XD} {DD:DEnds} {n:Nat} {rho:Rho} {M:Mem} (Pv:Nat->Rho->Mem->Prop) (h0:Pv 0 rho M)
  (hs:∀ j rho M (N:Rho->Mem->Prop),j < n->Pv j rho M->(∀ rho' M',Pv (j+1) rho' M'->N rho' M')->g (.int (j:Int)) E rho M fun rho' M'=>tb E { DD with nx:=N,ct:=N,bk:=DD.nx } rho' M')
  (hd:∀ rho M,Pv n rho M->DD.nx rho M):forU g tb (rangeD 0 n) E DD rho M:=by
 refine for_inv (fun ds rho M=>∃ j,j<=n/\ds=(rangeD 0 n).drop j/\Pv j rho M) ?_ ?_ _ _ _ ⟨0,Nat.zero_le _,rfl,h0⟩
 ·rintro d r rho M N ⟨j,hj,e,p⟩ hN
  have hj':j < n:=by
   rcases Nat.lt_or_ge j n with h | h
   ·exact h
   ·have:(rangeD 0 n).drop j=[]:=List.drop_of_length_le (by simp [rangeD];exact h)
    rw [this] at e;cases e
  rw [range_drop hj'] at e
  cases e
  exact hs j rho M N hj' p fun rho' M' q=>hN _ _ ⟨j+1,hj',rfl,q⟩
 ·rintro rho M ⟨j,hj,e,p⟩
  have:j=n:=by
   rcases Nat.lt_or_ge j n with h | h
   ·rw [range_drop h] at e;cases e
   ·omega
  subst this
  exact hd _ _ p
theorem at_nat {α:Type} {xs:List α} {j:Nat} (h:j < xs.length):L2.atI xs (j:Int)=some xs[j]:=by
 rw [at_pos (by omega) (by omega)]
 simp [h]
theorem hbs_mem {n:Nat}:∀ {xs:List D} {d:D},D.hbs n xs=true->d∈xs->d.hb n=true
 | [],_,_,h=>by cases h
 | x :: xs,d,e,h=>by
  have e:(D.hb n x && D.hbs n xs)=true:=e
  rw [Bool.and_eq_true] at e
  cases h with
  | head=>exact e.1
  | tail _ h=>exact hbs_mem e.2 h
theorem seq_hb {n:Nat} {x:D} {xs:List D} (h:∀ M,seqD M x=some xs) (hx:x.hb n=true):∀ d∈xs,d.hb n=true:=fun d hd=>by
 cases x with
 | mt i=>have:=h [];cases this
 | tup ys=>cases h [];exact hbs_mem (xs:=xs) hx hd
 | lst ys=>cases h [];exact hbs_mem (xs:=xs) hx hd
 | rol ys=>cases h [];exact hbs_mem (xs:=xs) hx hd
 | _=>cases h []
theorem e_sz {xs:List D} {p:Prop} (h:Nat.ble xs.length sizeLine=true) (q:p):xs.length<=sizeLine/\p:=⟨Nat.le_of_ble_eq_true h,q⟩
theorem seq_case {f d:D} (pf:pu f=true) (pd:pu d=true) (h0:(isLst d || isTup d)=true) (h1:isLst f=isLst d) (h2:isTup f=isTup d) :
  ∃ xs ys:List D,(∀ M,seqD M f=some xs)/\(∀ M,seqD M d=some ys)/\pus xs=true/\pus ys=true/\xs.length<=sizeLine/\ys.length<=sizeLine/\dp d=dps ys+1/\smD f d=smDs xs ys:=by
 cases d with
 | tup ys =>
  cases f with
  | tup xs=>exact ⟨xs,ys,fun _=>rfl,fun _=>rfl,(pu_seq pf).2,(pu_seq pd).2,(pu_seq pf).1,(pu_seq pd).1,rfl,rfl⟩
  | _=>first | (cases h1;done) | (cases h2;done)
 | lst ys =>
  cases f with
  | lst xs=>exact ⟨xs,ys,fun _=>rfl,fun _=>rfl,(pu_seq pf).2,(pu_seq pd).2,(pu_seq pf).1,(pu_seq pd).1,rfl,rfl⟩
  | rol xs=>exact ⟨xs,ys,fun _=>rfl,fun _=>rfl,(pu_seq pf).2,(pu_seq pd).2,(pu_seq pf).1,(pu_seq pd).1,rfl,rfl⟩
  | _=>first | (cases h1;done) | (cases h2;done)
 | rol ys =>
  cases f with
  | lst xs=>exact ⟨xs,ys,fun _=>rfl,fun _=>rfl,(pu_seq pf).2,(pu_seq pd).2,(pu_seq pf).1,(pu_seq pd).1,rfl,rfl⟩
  | rol xs=>exact ⟨xs,ys,fun _=>rfl,fun _=>rfl,(pu_seq pf).2,(pu_seq pd).2,(pu_seq pf).1,(pu_seq pd).1,rfl,rfl⟩
  | _=>first | (cases h1;done) | (cases h2;done)
 | _=>cases h0
theorem sm_l {f d:D} (h:¬ isLst f=isLst d):smD f d=false:=by
 cases f <;> cases d <;> first | rfl | exact absurd rfl h
theorem sm_t {f d:D} (h:¬ isTup f=isTup d):smD f d=false:=by
 cases f <;> cases d <;> first | rfl | exact absurd rfl h
theorem sm_b {f d:D} (h:¬ isBl d=isBl f):smD f d=false:=by
 cases f <;> cases d <;> first | rfl | exact absurd rfl h
theorem sm_i {f d:D} (h:¬ isInt d=isInt f):smD f d=false:=by
 cases f <;> cases d <;> first | rfl | exact absurd rfl h
theorem sm_s {f d:D} (h:¬ isStr d=isStr f):smD f d=false:=by
 cases f <;> cases d <;> first | rfl | exact absurd rfl h
theorem sm_n1 {f d:D} (h1:isNon f=true) (h2:isNon d=true):smD f d=true:=by
 cases f <;> cases d <;> first | rfl | (cases h1;done) | (cases h2;done)
theorem sm_n2 {f d:D} (h1:isNon f=true) (h2:isNon d=false):smD f d=false:=by
 cases f <;> cases d <;> first | rfl | (cases h1;done) | (cases h2;done)
theorem sm_n3 {f d:D} (h1:isNon f=false) (h2:isNon d=true):smD f d=false:=by
 cases f <;> cases d <;> first | rfl | (cases h1;done) | (cases h2;done)
theorem sm_eq {f d:D} {M:Mem} {Q:VD} (pf:pu f=true) (pd:pu d=true) (h0:(isLst d || isTup d)=false) (n1:isNon f=false) (n2:isNon d=false) (h1:isBl d=isBl f) (h2:isInt d=isInt f) (h3:isStr d=isStr f) (h:Q (.bl (smD f d)) M):rEq_ f d M Q:=by
 cases f <;> cases d <;> first | exact h | (cases pf;done) | (cases pd;done) | (cases h0;done) | (cases n1;done) | (cases n2;done) | (cases h1;done) | (cases h2;done) | (cases h3;done)
def sm_sp (n:Nat):DSp:=fun ds M Q E=>∃ f d,ds=[f,d]/\pu f=true/\pu d=true/\dp d < n/\Q (.bl (smD f d)) M
end DL
namespace DL
theorem e_ift {A B:Prop} (h:A):if true=true then A else B:=h
theorem e_iff {A B:Prop} (h:B):if false=true then A else B:=h
end DL
namespace DL
open PySem PySem.Spec PyProof.Rows L2 Mt
theorem e_int1 {A B:Prop} (h:B):if (!true)=true then A else B:=h
theorem e_int2 {A B:Prop} (h:A):if (!false)=true then A else B:=h
theorem e_ib {k:Bool} {M:Mem} {Q:VD} (h:Q (.int (if k then 1 else 0)) M):rInt_ [.bl k] M Q:=h
theorem e_ii {k:Int} {M:Mem} {Q:VD} (h:Q (.int k) M):rInt_ [.int k] M Q:=h
def PkD (x:D) (xs:List D):Prop:=(∀ M,seqD M x=some xs)\/∃ z:Str,x = .str z/\z.length<=sizeLine/\xs=signsD z
theorem signs_len (z:Str):(signsD z).length=z.length:=by simp [signsD];rfl
theorem pk_len {x:D} {xs:List D} {M:Mem} {Q:VD} (h:PkD x xs) (q:Q (.int xs.length) M):rLen_ [x] M Q:=by
 rcases h with h | ⟨z,rfl,hz,rfl⟩
 ·exact e_len (h M) q
 ·rw [signs_len] at q
  exact ⟨hz,q⟩
theorem pk_ix {x d:D} {xs:List D} {M:Mem} {Q:VD} {k:Int} (h:PkD x xs) (e:L2.atI xs k=some d) (q:Q d M):rIx_ x (.int k) M Q:=by
 rcases h with h | ⟨z,rfl,hz,rfl⟩
 ·exact e_ix (h M) e q
 ·refine ⟨hz,?_⟩
  unfold signsD L2.atI at e
  rw [List.length_map] at e
  cases q2:L2.ixN z.cps.toList.length k with
  | none=>rw [q2] at e;cases e
  | some j =>
   rw [q2] at e
   have e:(z.cps.toList.map fun c=>D.str ⟨#[c]⟩)[j]?=some d:=e
   rw [List.getElem?_map] at e
   cases q3:z.cps.toList[j]? with
   | none=>rw [q3] at e;cases e
   | some c =>
    rw [q3] at e
    cases e
    have:L2.atI z.cps.toList k=some c:=by unfold L2.atI;rw [q2];exact q3
    rw [this]
    exact q
theorem pk_hb {n:Nat} {x:D} {xs:List D} (h:PkD x xs) (hx:x.hb n=true):∀ d∈xs,d.hb n=true:=by
 rcases h with h | ⟨z,rfl,hz,rfl⟩
 ·exact seq_hb h hx
 ·intro d hd
  obtain ⟨c,_,rfl⟩:=List.mem_map.mp hd
  rfl
theorem sign_ex {z:Str} {d:D} (h:d∈signsD z):∃ c∈z.cps.toList,d = .str ⟨#[c]⟩:=by
 obtain ⟨c,hc,rfl⟩:=List.mem_map.mp h
 exact ⟨c,hc,rfl⟩
section
variable {E:XD} {DD:DEnds} {rho:Rho} {M:Mem} {Q:VD} {ta tb tc to:TED} {aa:TAD} {r r':RD2} {tl th:TOD} {O:Option Int->Mem->Prop}
theorem e_chain (h:ta E rho M fun x M1=>tb E rho M1 fun y M2=>r x y M2 fun z M3=>match z with
 | .bl k=>if k=true then tc E rho M3 fun w M4=>r' y w M4 Q else Q (.bl false) M3
 | _=>False):dChain r r' ta tb tc E rho M Q:=h
theorem e_in {c:Nat} {z:Str} (h:Q (.bl (decide (c∈z.cps.toList))) M):rIn_ (.str ⟨#[c]⟩) (.str z) M Q:=h
theorem e_lenS {z:Str} (h0:z.length<=sizeLine) (h:Q (.int z.length) M):rLen_ [.str z] M Q:=⟨h0,h⟩
end
theorem lc_map {α:Type} {g:TGD} {te:TED} {vs:List Nat} {rho:Rho} {Q:VD} {M:Mem} (e f:α->D) (cs:List α) (hl:cs.length<=sizeLine)
  (h:∀ c∈cs,∀ N:VD,N (f c) M->g (e c) noE (wipeD rho vs) M fun rho' M1=>te noE rho' M1 N) (hq:Q (.lst (cs.map f)) M):lcU g dYes te vs (cs.map e) [] rho M Q:=by
 have key:∀ (r a:List α),cs=a ++ r->lcU g dYes te vs (r.map e) (a.map f) rho M Q:=by
  intro r
  induction r with
  | nil=>intro a ha;rw [List.append_nil] at ha;subst ha;exact hq
  | cons c r ih =>
   intro a ha
   refine h c (by rw [ha];simp) (fun y M3=>(a.map f).length < sizeLine/\lcU g dYes te vs (r.map e) (a.map f ++ [y]) rho M3 Q) ⟨?_,?_⟩
   ·rw [ha] at hl;simp at hl ⊢;omega
   ·have:=ih (a ++ [c]) (by rw [ha];simp)
    simpa using this
 exact key cs [] rfl
theorem e_allM {α:Type} {f:α->Bool} {cs:List α} {M:Mem} {Q:VD} (h:Q (.bl ((cs.map f).all _root_.id)) M):rAll_ [.lst (cs.map fun c=>D.bl (f c))] M Q:=by
 have:=e_all (bs:=cs.map f) h
 rwa [List.map_map] at this
theorem strsD_map:∀ ys:List Str,strsD (ys.map D.str)=some ys
 | []=>rfl
 | y :: r=>by show (strsD (r.map D.str)).map (y :: ·)=_;rw [strsD_map r];rfl
theorem e_join {a:Str} {ys:List Str} {M:Mem} {Q:VD} (h0:(ys.map (·.length)).sum+ys.length * a.length<=16777216) (h:Q (.str (Txt.join a ys)) M):rJoin_ (.str a) [.lst (ys.map D.str)] M Q:=by
 show (match strsD (ys.map D.str) with
   | some ys=>(ys.map (·.length)).sum+ys.length * a.length<=16777216/\Q (.str (Txt.join a ys)) M
   | none=>False)
 rw [strsD_map];exact ⟨h0,h⟩
theorem joinL_chars:∀ cs:List Nat,TL.joinL [] (cs.map fun c=>[c])=cs
 | []=>rfl
 | [c]=>rfl
 | c :: d :: r=>by
  show [c] ++ ([] ++ TL.joinL [] ((d :: r).map fun c=>[c]))=_
  rw [joinL_chars (d :: r)];rfl
theorem join_chars (cs:List Nat):Txt.join "" (cs.map fun c=>⟨#[c]⟩)=SX.S cs:=by
 have:=SX.join_S [] (cs.map fun c=>[c])
 rw [joinL_chars] at this
 rw [<- this,List.map_map]
 rfl
theorem cut_len (z:Str) (lo hi:Option Int):(cutS z lo hi).length<=z.length:=by
 unfold cutS
 show (List.toArray _).size<=z.cps.size
 simp
 omega
theorem e_adds {a b:Str} {M:Mem} {Q:VD} (h0:a.length+b.length<=sizeLine) (h:Q (.str (a ++ b)) M):rAdd_ (.str a) (.str b) M Q:=⟨h0,h⟩
theorem e_sls {z:Str} {lo hi:Option Int} {M:Mem} {Q:VD} (h0:z.length<=sizeLine) (h:Q (.str (cutS z lo hi)) M):rSl_ (.str z) lo hi M Q:=⟨h0,h⟩
theorem sum_ones (cs:List Nat):((cs.map fun c=>(⟨#[c]⟩:Str)).map (·.length)).sum=cs.length:=by
 induction cs with
 | nil=>rfl
 | cons c r ih=>simp at ih ⊢;rw [ih];show 1+_=_;omega
theorem e_tyS {z:Str} {M:Mem} {p:Prop} (h:p):tyB "str" M (.str z)=true/\p:=⟨by show ("str" == "str")=true;decide +kernel,h⟩
def drawSp:DSp:=fun ds M Q E=>∃ (i:Nat) (m:Int),ds=[.mt i,.int m]/\RgAt M i/\0 < m/\m < 2 ^ 8000/\∀ (k:Int) (M':Mem),RgTo M i M'->0<=k->k < m->Q (.int k) M'
def pickSp:DSp:=fun ds M Q E=>∃ (i:Nat) (x:D) (xs:List D),ds=[.mt i,x]/\RgAt M i/\PkD x xs/\xs≠[]/\xs.length<=sizeLine/\∀ (d:D) (M':Mem),RgTo M i M'->d∈xs->Q d M'
end DL
namespace DL
theorem fmod_abs {a b:Int} (h:b≠0):(a.fmod b).natAbs < b.natAbs:=by
 rcases Int.lt_or_gt_of_ne h with h | h
 ·have e:=Int.neg_fmod_neg (-a) (-b)
  rw [Int.neg_neg,Int.neg_neg] at e
  have h1:=Int.fmod_nonneg_of_pos (-a) (b:=-b) (by omega)
  have h2:=Int.fmod_lt_of_pos (-a) (b:=-b) (by omega)
  rw [e];omega
 ·have h1:=Int.fmod_nonneg_of_pos a h
  have h2:=Int.fmod_lt_of_pos a h
  omega
theorem fmod_gcd (a b:Int):Int.gcd b (a.fmod b)=Int.gcd a b:=by
 rw [Int.fmod_def,Int.gcd_sub_mul_left_right,Int.gcd_comm]
end DL
namespace DL
open PySem PySem.Spec PyProof.Rows L2 Mt
def lawSp:DSp:=fun ds M Q E=>∃ ns:List Int,ns.length<=63/\ds=[.rol (ns.map D.int)]/\Q (.bl true) M
theorem rps_ints {K:PySem.W.Frag} {al:Al} {M:Mem} {H:Hp}:∀ ns:List Int,Rps K al M H (ns.map D.int) (ns.map V.int)
 | []=>rfl
 | n :: r=>⟨_,_,rfl,rfl,rps_ints r⟩
theorem cx_false {P:Program} {w:World} (H:Hp) (s:Shared) (e:Value) (s':Shared) (h:L2.CX P w [] H s (fun _ _ _=>False) e s'):False:=by
 obtain ⟨_,_,_,_,_,_,_,_,_,_,_,_,z⟩:=h
 exact z
end DL
namespace DL
open PySem PySem.Spec PyProof.Rows L2
section
variable {K:PySem.W.Frag} {h:Heap} {mg:Str->Option Value}
theorem cc_str (X:K.In h) (G:h.Ns mainGlobals mg) {x z:Str} (c:(He.Fa.str x z).ok K=true):CcD K mg x (.str z):=by
 obtain ⟨t,e⟩:=He.str_ok X G c
 exact ⟨.str z,_,e,⟨t,rfl⟩,fun _ _ _=>rfl⟩
theorem cc_int (X:K.In h) (G:h.Ns mainGlobals mg) {x:Str} {i:Int} (c:(He.Fa.int x i).ok K=true):CcD K mg x (.int i):=by
 obtain ⟨t,e⟩:=He.int_ok X G c
 exact ⟨.int i,_,e,⟨t,rfl⟩,fun _ _ _=>rfl⟩
end
theorem exs_ok {P:Program} {w:World} {H:Hp} {h:Heap} {a:Addr} {cls:Value} {d:Option Addr} {oe:Obj} {vs:Array Value} (e:h.get? a=some oe) (z:Zc cls d oe) (hd:oe.data = .fields vs):ObjOk P w H h a (exs a cls d) :=
 ⟨⟨oe,vs,e,z,hd⟩,⟨oe,e⟩,fun _ _ ⟨o,v,q,r⟩ k=>⟨o,v,k o q,r⟩⟩
theorem exs_at {P:Program} {w:World} {H:Hp} {h:Heap} {a:Addr} {cls:Value} {d:Option Addr} (hok:HOk P w H h) (e:H a=some (exs a cls d)):∃ (oe:Obj) (vs:Array Value),h.get? a=some oe/\Zc cls d oe/\oe.data = .fields vs:=(hok a _ e).1
section
variable {X:Cx} {pins:List (Addr×Obj)} {σ:L2.St} {H:Hp} {s:Shared} {a:Addr} {oe:Obj} {vs:Array Value} {cls:Value} {d:Option Addr}
theorem inv_track (I:Inv X pins σ H s) (ha:s.heap.get? a=some oe) (hz:Zc cls d oe) (hd:oe.data = .fields vs) (na:H a=none) (nL:a≠X.env.locals) (n0:X.s_0.heap.get? a=none) (npin:∀ p∈X.pn ++ pins,p.1≠a):Inv X pins σ (upd H a (exs a cls d)) s:=by
 have ne:∀ {b:Addr} {u:HO},H b=some u->b≠a:=fun {b u} e z=>by rw [z,na] at e;cases e
 refine ⟨I.ok,I.os,I.bare,⟨I.base.keep,I.base.slot,fun b o e n hx=>?_,I.base.there,fun b xs e=>?_,fun b o u e=>?_,fun b ps e=>?_⟩,I.loc,I.cell,?_,fun x c e=>?_,fun p hp=>?_,?_,I.len⟩
 ·rw [upd_ne (fun z=>by rw [z,n0] at e;cases e)];exact I.base.free b o e n hx
 ·have q:=I.base.tups b xs e;rw [upd_ne (ne q)];exact q
 ·have q:=I.base.frzs b o u e;rw [upd_ne (ne q)];exact q
 ·obtain ⟨m,q⟩:=I.base.tbls b ps e;exact ⟨m,by rw [upd_ne (ne q)];exact q⟩
 ·rw [upd_ne (Ne.symm nL)];exact I.free
 ·rw [upd_ne (fun z=>?_)]
  ·exact I.freeC x c e
  ·obtain ⟨v,o,ho,hc⟩:=I.cell x c e
   rw [z,ha] at ho;cases ho;rw [hd] at hc;cases hc
 ·obtain ⟨h1,h2,h3⟩:=I.pin p hp
  exact ⟨h1,by rw [upd_ne (npin p hp)];exact h2,h3⟩
 ·exact I.hok.laidN (fun _ _ e=>e) na (exs_ok ha hz hd)
theorem inv_suite0 (I:Inv X pins σ H s) (a:Addr):Inv (X.suite a (X.pn ++ pins)) [] σ H s :=
 ⟨I.ok.suite _ _,I.os,I.bare,I.base,I.loc,I.cell,I.free,I.freeC,fun p hp=>I.pin p (by rw [List.append_nil] at hp;exact hp),I.hok,I.len⟩
theorem inv_unsuite0 {pn':List (Addr×Obj)} (I:Inv (X.suite a (X.pn ++ pins)) pn' σ H s) (ok:X.Ok):Inv X pins σ H s :=
 ⟨ok,I.os,I.bare,I.base,I.loc,I.cell,I.free,I.freeC,fun p hp=>I.pin p (List.mem_append_left _ hp),I.hok,I.len⟩
theorem flying_push {B h:Heap} {l:List Env} {Z:Obj->Prop} {h':Heap} (fl:HandSPX.FlyingZ B l a Z h) (k:∀ b o,h.get? b=some o->h'.get? b=some o):HandSPX.FlyingZ B l a Z h':=by
 obtain ⟨k1,k2,k3,oe,vs,T,oT,ts',he,hz,hd,h1,h2,h3,hT,hr⟩:=fl
 exact ⟨fun b o q=>k b o (k1 b o q),k2,k3.of_keeps fun b o q _=>⟨o,k b o q,rfl⟩,oe,vs,T,oT,ts',k _ _ he,hz,hd,h1,h2,h3,k _ _ hT,hr⟩
end
def wAsT (K:PySem.W.Frag) (n:Nat) (cs:List Value) (i:Nat) (ts:TS) (Wout:WX) (D:Ends):WX:=fun cls d σ H =>
 ∃ b,PySem.W.exmAny K cls cs=some b/\(b=true->σ.length=n->∀ a,H a=none->ts { nx:=fun σ' H'=>D.nx (σ'.set i none) H',rt:=D.rt,bk:=fun σ' H'=>D.bk (σ'.set i none) H',ct:=fun σ' H'=>D.ct (σ'.set i none) H' } (σ.set i (some (.ref a))) (upd H a (exs a cls d))) /\
  (b=false->Wout cls d σ H)
section
variable {X:Cx} {x1 x2 x3 n:Str} {c1 c2 c3:Value} {i:Nat} {body suite:List Stmt} {b₀:Stmt} {p1 p2 p3 tp pos pos':Pos} {kk:Nat} {tb:WX->TS} {ts:TS} {Wout:WX}
theorem name_ok {X:Cx} {pins:List (Addr×Obj)} {σ:L2.St} {H:Hp} {s:Shared} {x:Str} {c:Value} {np:Pos} {Q:Value->Shared->Prop} {E:Value->Shared->Prop} (I:Inv X pins σ H s) (hc:Names X x c) (q:Q c s):wpAny (model X.prog X.w) X.A (eval (.Name x np) X.env) Q E s:=by
 obtain ⟨hg,hdbg,hm | ⟨hm,hv,hnn⟩⟩:=hc
 ·exact ld_glob I hg hm q hdbg
 ·exact ld_blt I hg hm hv q hnn hdbg
theorem ps_try_asT (hex:X.ex=[]) (hs:X.stack=X.env :: X.outer) (hf:X.env.frame=some X.env.locals) (hN:X.N.Nodup) (hi:X.N[i]?=some n) (hln:X.env.kindOf n=some .local) (hc1:Names X x1 c1) (hc2:Names X x2 c2) (hc3:Names X x3 c3) (tk:Takes X Wout)
  (hb:∀ (W:WX) (pn:List (Addr×Obj)) (xe:Value->Shared->Prop),Takes (X.tr pn xe) W->PassesOwn (model X.prog X.w) X.A X.env xe->PSs (X.tr pn xe) body (tb W))
  (hsu:∀ (a:Addr) (pn:List (Addr×Obj)),PSs (X.suite a pn) (b₀ :: suite) ts) :
  PS X (.Try body [.ExceptHandler (some (.Tuple [.Name x1 p1,.Name x2 p2,.Name x3 p3] kk tp)) (some n) (b₀ :: suite) pos'] [] [] pos) (fun D σ H=>tb (wAsT X.K X.N.length [c1,c2,c3] i ts Wout D) D σ H):=by
 refine ⟨fun pins s σ H D I h=>?_⟩
 have ok:=I.ok
 have hfr:X.A.frames=some (X.env :: X.outer):=by rw [ok.frames,hs]
 have hloc:Loc X.env.scope n:=.inl hln
 refine wpAny_Try_except ?_
 refine wpAny_mono ((hb (wAsT X.K X.N.length [c1,c2,c3] i ts Wout D) (X.pn ++ pins) _ (fun u s' xx=>?_) PassesOwn.looking).run [] s σ H D (I.toTry _) h) (fun f s1 hsp=>?_) (fun e s1 he=>he)
 ·obtain ⟨a,B,sI,pins',σ',H',cls,d,rfl,J',nb,up,sky,na,os,ag,b,hb1,hyes,hno⟩:=xx
  have J:Inv X pins σ' H' sI:=J'.ofTry ok
  have sky':Sky B (X.env :: X.outer) a (Zc cls d) X.env.locals s'.heap:=by rw [<- hs];exact sky
  show wpAny (model X.prog X.w) X.A (noteFrame (.ref a) X.env) _ _ _
  refine Sky.land Zc.steady hfr hf sky' fun h3 fl3 up3=>?_
  have J3:Inv X pins σ' H' { s' with heap:=h3 }:=J.landed nb fl3.1 (up.trans up3) os ag
  obtain ⟨oe3,vs3,he3,hz3,hd3⟩:=fl3.there
  have nfr:a ∉ frs (X.env :: X.outer):=fun hm=>by
   obtain ⟨_,o',e',hnf⟩:=fl3.2.2.1.mem hm
   rw [he3] at e';cases e'
   exact hnf _ hd3
  have nL:a≠X.env.locals:=fun z=>nfr (List.mem_filterMap.mpr ⟨X.env,List.mem_cons_self,by rw [hf,z]⟩)
  have n0:X.s_0.heap.get? a=none:=by
   cases e:X.s_0.heap.get? a with
   | none=>rfl
   | some o =>
    obtain ⟨o',e'⟩:=J.base.there a o e (by rw [hex];exact fun z=>nomatch z)
    have:=nb a o' e' (by rw [hs];exact nfr)
    rw [fl3.2.1] at this;cases this
  have npin:∀ p∈X.pn ++ pins,p.1≠a:=fun p hp z=>by
   obtain ⟨e,_,l,f,_⟩:=J.pin p hp
   have:=nb p.1 p.2 e (by
    rw [hs]
    intro hm
    obtain ⟨en,he,q⟩:=List.mem_filterMap.mp hm
    rcases List.mem_cons.mp he with rfl | he
    ·rw [hf] at q;exact l (Option.some.inj q).symm
    ·exact f (List.mem_filterMap.mpr ⟨en,he,q⟩))
   rw [z,fl3.2.1] at this;cases this
  refine wpAny_handleBy_cons (codeAny_handlers_test ?_) (by intro q;cases q)
  have LT:PySem.W.Looks (model X.prog X.w) h3 (typeOf (.ref a)) cls:=fun A Q E s k q=>wpAny_typeOf_ref (k _ _ he3) (by rw [hz3.1];exact q)
  have S3:=inv_suite0 J3 a
  refine wpAny_Tuple ?_
  refine wpAny_items_cons (name_ok (X:=X.suite a (X.pn ++ pins)) S3 hc1 ?_)
  refine wpAny_items_cons (name_ok (X:=X.suite a (X.pn ++ pins)) S3 hc2 ?_)
  refine wpAny_items_cons (name_ok (X:=X.suite a (X.pn ++ pins)) S3 hc3 ?_)
  refine wpAny_items_nil ⟨by size_fits,?_⟩
  have kp:∀ q o,h3.get? q=some o->(h3.push { cls:=.type "tuple",data:=.seq [c1,c2,c3].toArray }).get? q=some o:=fun _ _ z=>Heap.get?_push_of_some _ z
  have LM:=PySem.W.exm_tup3 (M:=model X.prog X.w) (J3.kIn.keeps kp) (LT.keeps kp) (Heap.get?_push_size h3 rfl) hb1
  have fl3:=flying_push fl3 kp
  have up3:=up3.trans (Heap.UpToSlots.of_keeps kp)
  refine LM.here ?_
  generalize h3.push { cls:=.type "tuple",data:=.seq [c1,c2,c3].toArray }=h3 at fl3 up3 ⊢
  cases b with
  | true =>
   refine codeAny_handlers_suite_as ?_
   refine HandSPX.lands_againZ fl3 fun h4 fl4 up4=>?_
   have J4:Inv X pins σ' H' { s' with heap:=h4 }:=J.landed nb fl4.1 ((up.trans up3).trans up4) os ag
   obtain ⟨oe4,vs4,he4,hz4,hd4⟩:=fl4.there
   have S4:=inv_suite0 (inv_track J4 he4 hz4 hd4 na nL n0 npin) a
   refine store_ok (X:=X.suite a (X.pn ++ pins)) (v:=.ref a) S4 hN hi hloc rfl (fun s5 S5=>?_) (.inr hln)
   refine wpAny_mono ((hsu a (X.pn ++ pins)).run [] s5 _ _ _ S5 (hyes rfl J.len a na)) (fun f s6 hsp=>?_) (fun _ _ z=>False.elim z)
   have end_:∀ {σ6:L2.St} {H6:Hp} {Q:Shared->Prop},Inv (X.suite a (X.pn ++ pins)) [] σ6 H6 s6->(∀ s7,Inv X pins (σ6.set i none) H6 s7->Q s7) ->
     wpAny (model X.prog X.w) X.A (do bindName X.env n .none;unbindBehindTheSuite X.env n pos') (fun _ s7=>Q s7) X.xe s6:=fun {σ6 H6 Q} S6 hq=>gone_ok (inv_unsuite0 S6 ok) hN hi hln hq
   cases f with
   | next =>
    obtain ⟨σ6,H6,S6,q6⟩:=hsp
    exact end_ S6 fun s7 J7=>⟨_,_,J7,q6⟩
   | brk =>
    obtain ⟨σ6,H6,S6,q6⟩:=hsp
    exact end_ S6 fun s7 J7=>⟨_,_,J7,q6⟩
   | cont =>
    obtain ⟨σ6,H6,S6,q6⟩:=hsp
    exact end_ S6 fun s7 J7=>⟨_,_,J7,q6⟩
   | ret u =>
    obtain ⟨v6,σ6,H6,S6,r6,q6⟩:=hsp
    exact end_ S6 fun s7 J7=>⟨_,_,_,J7,r6,q6⟩
  | false =>
   show wpAny _ X.A (handleBy (.ref a) X.env []) _ _ _
   refine wpAny_handleBy_nil ?_
   obtain ⟨k1,k2,k3,oe,vs,T,oT,ts',he,hz,hd,h1,hr⟩:=_root_.id fl3
   unfold PySem.passOn
   refine wpAny_bind (wpAny_field he hd h1 ?_)
   rw [if_neg (show ¬ ((Value.ref T == Value.none)=true) from by simp)]
   have fin:wpAny (model X.prog X.w) X.A (setFlight (.ref a) X.env.frame) (fun _ s4=>wpAny (model X.prog X.w) X.A (throw (.ref a):Sem Flow) (SP X pins D) X.xe s4) X.xe { s' with heap:=h3 }:=by
    rw [hf]
    exact HandSPX.setFlight_upZ fl3 fun h4 hh4 up4=>wpAny_throw (tk _ _ ⟨a,B,sI,pins,σ',H',cls,d,rfl,J,nb,(up.trans up3).trans up4,.inr (.inr (by rw [hs];exact hh4)),na,os,ag,hno rfl⟩)
   first
    | exact wpAny_bind fin
    | exact wpAny_bind (wpAny_pure (wpAny_bind fin))
 ·cases f with
  | next =>
   obtain ⟨σ',H',J',q⟩:=hsp
   exact wpAny_execs_nil ⟨σ',H',J'.ofTry ok,q⟩
  | brk =>
   obtain ⟨σ',H',J',q⟩:=hsp
   exact ⟨σ',H',J'.ofTry ok,q⟩
  | cont =>
   obtain ⟨σ',H',J',q⟩:=hsp
   exact ⟨σ',H',J'.ofTry ok,q⟩
  | ret u =>
   obtain ⟨v,σ',H',J',r,q⟩:=hsp
   exact ⟨v,σ',H',J'.ofTry ok,r,q⟩
end
def tXs (K:PySem.W.Frag) (f:Str) (te:TE):TE:=fun σ H Q=>te σ H fun x H1=>∃ (a C dd:Addr) (fs:List (Str×V)) (v:V),x = .ref a/\H1 a=some (exs a (.ref C) (some dd))/\XfC K C/\PySem.W.findIn K (.ref C) f=some none/\H1 dd=some (.xd fs)/\fs.lookup f=some v/\Q v H1
theorem pe_xs {X:Cx} {e:Expr} {te:TE} {pos:Pos} {n:Str} (he:PE X e te) (hb:attributeBase e n X.env (eval e X.env)=eval e X.env:=by rfl):PE X (.Attribute e n pos) (tXs X.K n te):=by
 refine ⟨fun pins s σ H Q I h=>?_⟩
 refine attr_of hb (thn (he.run pins s σ H _ I h) fun u s1 hh=>?_)
 obtain ⟨x,H1,I1,rx,a,C,dd,fs,v,ex,e1,T,hno,ea,l,q⟩:=hh
 subst ex
 obtain rfl:u=Value.ref a:=rx
 obtain ⟨oe,vs,ha,hz,hd⟩:=exs_at I1.hok e1
 have hx:ObjOk X.prog X.w H1 s1.heap dd (.xd fs):=I1.hok dd _ ea
 obtain ⟨mA,hns,hr⟩:=hx
 obtain ⟨od,ho,hl⟩:=lookIn_ns hns
 obtain ⟨u,hu,ru⟩:=RelO.some_of (v:=v) (o:=mA n) (by rw [<- l];exact hr n)
 have J:PySem.W.InstAt s1.heap a oe C (some od):=⟨ha,hz.1,by unfold PySem.W.notCls;rw [hd] <;> rfl,by rw [hz.2];exact ho⟩
 exact HandSPX.exc_get I1.kIn J T.ga T.gg T.exC (PySem.W.findObj_own T.hdC hno rfl (by rw [hl,hu])) (handed_of ru) ⟨v,H1,I1.tok _,ru,q⟩
abbrev RoomH:=L2H.RoomH
theorem roomH_units {k:Nat} {A:Around} (r:RoomH k A):A.units+64 < cLine:=by have:=r.un;omega
structure FnC (P:Program) (w:World) (K:PySem.W.Frag) (mg:Str->Option Value) (base:Heap) (CX:CXT) (k:Nat) (f:Addr) (fd:FuncData) (ps:List Str) (sp:Sp):Prop where
 len:∀ vs H Q E,sp vs H Q E->vs.length=ps.length
 run:∀ (A:Around) (outer:List Env) (s:Shared) (H:Hp) (args:Args) (us:List Value) (vs:List V) (Q:VK) (E:XK),RoomH k A->Env0 P w K mg base A outer s H->BindsTo s fd args (ps.zip us)->Vals vs us->sp vs H Q E ->
  codeAny (model P w) A (.call (.ref f) args) (CR CX outer P w H s Q E) s
def cxC (CX:CXT) (P:Program) (w:World) (K:PySem.W.Frag) (mg:Str->Option Value) (base:Heap) (N:List Str) (qual:Str) (scope:Scope) (f:Addr) (cd:Value) (A:Around) (outer:List Env) (s:Shared) (H:Hp) (E:XK):Cx :=
 { cxOf CX P w K mg base N qual scope f cd A outer s H E with calm:=false }
theorem inv_startC {CX:CXT} {P:Program} {w:World} {K:PySem.W.Frag} {mg:Str->Option Value} {base:Heap} {N ps:List Str} {qual:Str} {scope:Scope} {f:Addr} {cd:Value} {A:Around} {outer:List Env} {s s1:Shared} {H:Hp} {E:XK} {us:List Value} {vs:List V}
  (S:FnScope N ps scope) (e0:Env0 P w K mg base A outer s H) (hl:vs.length=ps.length) (r:Vals vs us)
  (x:InCallC s s.heap.objs.size (bindL (envOfC qual scope s.heap.objs.size f cd).kindOf (ps.zip us) fun _=>none) (cellsFrom (s.heap.objs.size+1) scope.names []) (bindC (envOfC qual scope s.heap.objs.size f cd).kindOf (ps.zip us) fun _=>none) s1) :
  Inv (cxC CX P w K mg base N qual scope f cd A outer s H E) [] (L2.start N vs) H s1:=by
 have e1:Env0 P w K mg base ({ A with handled:=none }) outer s H:=⟨e0.frames,e0.mod,e0.bs,e0.bsz,e0.funs,e0.frf,e0.hok,e0.bare⟩
 have I:=inv_start (CX:=CX) (E:=E) S (A:={ A with handled:=none }) rfl e1 hl r x
 have o:=I.ok
 exact ⟨⟨o.mod,o.kind,o.glob,o.blt,o.above,o.inj,o.has,o.cab,(fun z=>Bool.noConfusion (show false=true from z)),Around.frames_deeper e0.frames,o.stk,o.exf,o.bs,o.bsz,o.noex,o.exfs,o.funs,o.frf⟩,I.os,I.bare,I.base,I.loc,I.cell,I.free,I.freeC,I.pin,I.hok,I.len⟩
section
variable {P:Program} {w:World} {K:PySem.W.Frag} {mg:Str->Option Value} {base:Heap} {x qual:Str} {params:Arguments} {body:List Stmt} {scope:Scope} {dvs:List V} {kws:List (Str×V)} {f:Addr} {fd:FuncData}
theorem fn_C {CX:CXT} {N ps:List Str} {k:Nat} {sp:Sp} (F:FunD K x qual params body scope dvs kws f fd) (S:FnScope N ps scope) (len:∀ vs H Q E,sp vs H Q E->vs.length=ps.length)
  (hbody:∀ (cdv:Value) (A:Around) (outer:List Env) (s:Shared) (H:Hp) (vs:List V) (Q:VK) (E:XK),RoomH k (A.deeper (envOfC qual scope s.heap.objs.size f cdv))->sp vs H Q E ->
   ∃ t,PSs (cxC CX P w K mg base N qual scope f cdv A outer s H E) body t/\t { nx:=fun _ H'=>Q .non H',rt:=Q } (L2.start N vs) H):FnC P w K mg base CX (k+1) f fd ps sp:=by
 obtain ⟨oc,od,dV,kV,doc,pm,an,cdv,ct,osl,rfl,lk,hcd,_,_⟩:=F.ex
 refine ⟨len,fun A outer s H args us vs Q E hr e0 hb r hsp=>?_⟩
 have hl:=len _ _ _ _ hsp
 have KX:K.In s.heap:=e0.mod.kin.keeps fun b o e=>(e0.bs b o e).1
 have lim:s.heap.NoLimit:=e0.mod.nolimit.keeps fun b o e=>(e0.bs b o e).1
 have hkind:∀ y∈ps.zip us,scope.names.lookup y.1=some .local\/(scope.names.lookup y.1=some .cell/\((cellsFrom (s.heap.objs.size+1) scope.names []).lookup y.1).isSome=true):=fun ⟨n,v⟩ hy=>by
  rcases S.par n (List.of_mem_zip hy).1 with q | q
  ·exact .inl q
  ·exact .inr ⟨q,PySem.W.cellsFrom_some _ _ _ (.inl q)⟩
 refine codeAny_call_function hr.depth (KX _ _ lk) rfl S.co S.gen rfl (PySem.W.codeRec_of KX hcd) (hb _ _ _ _ ?_)
 refine wpAny_newFunctionEnv_cells S.kind hkind fun env he s1 x=>?_
 subst he
 refine ⟨lim.keeps x.toInCall.keep,codeAny_func ?_⟩
 obtain ⟨t,ht,hq⟩:=hbody cdv A outer s H vs Q E (hr.deeper _) hsp
 have I:=inv_startC (CX:=CX) (E:=E) (P:=P) (w:=w) (K:=K) (mg:=mg) (base:=base) (A:=A) S e0 hl r x
 refine wpAny_mono (ht.run [] s1 (L2.start N vs) H _ I hq) (fun fl s' hs=>?_) fun e s' hs=>hs
 cases fl with
 | ret u =>
  obtain ⟨v,σ',H',J,rv,q⟩:=hs
  exact ⟨v,H',J.os,J.bare,J.base,J.hok,rv,q⟩
 | next =>
  obtain ⟨σ',H',J,q⟩:=hs
  exact ⟨V.non,H',J.os,J.bare,J.base,J.hok,rfl,q⟩
 | brk =>
  obtain ⟨_,_,_,q⟩:=hs
  exact False.elim q
 | cont =>
  obtain ⟨_,_,_,q⟩:=hs
  exact False.elim q
end
section
variable {X:Cx} {CX:CXT} {k:Nat} {f:Addr} {fd:FuncData} {ps:List Str} {sp:Sp} {E:XK} {x:Str} {p pos:Pos} {e:Expr} {es:List Expr} {t:TA}
theorem pe_callC (F:FnC X.prog X.w X.K X.mg X.base CX k f fd ps sp) (hr:RoomH k X.A) (hg:Gl X x) (hm:X.mg x=some (.ref f)) (hk:PySem.W.keepIn X.K (.ref f)=true) (hb:Binds X.K fd ps []) (hx:Passes CX X E)
  (ha:PA X (e :: es) t) (hdb:(x == ("__debug__":Str))=false:=by decide) (he:starEach (e :: es) X.env=(false,eval e X.env) :: starEach es X.env:=by rfl) (hpl:(backTo pos (starEach es X.env)).any (·.1)=false:=by rfl) :
  PE X (.Call (.Name x p) (e :: es) [] pos) (tCall sp [] E t):=by
 refine ⟨fun pins s σ H Q I h=>?_⟩
 refine wpAny_Call_Name_kw (ld_glob I hg hm ?_ hdb)
 refine PySem.W.callWith_K (h₀:=X.base) I.ok.mod.kin hk (thn (ha.run pos pins s σ H _ I h) fun us s1 ⟨vs,H1,I1,r,q⟩=>⟨I1.kIn,?_⟩) he hpl
 have q:sp (vs ++ []) H1 Q E:=q
 rw [List.append_nil] at q
 have hl:us.length=ps.length:=by rw [<- r.length];exact F.len _ _ _ _ q
 have b:=hb s1 us I1.kIn (by rw [List.append_nil];exact hl)
 rw [List.append_nil] at b
 refine wpAny_call (codeAny_mono (F.run X.A X.stack s1 H1 ⟨us,[]⟩ us vs Q E hr I1.env0 b r q) fun r s' hq=>?_)
 cases r with
 | error e=>exact hx pins σ H1 s1 e s' I1 hq
 | ok fl =>
  cases fl with
  | ret u=>exact I1.after hq
  | next=>exact False.elim hq
  | brk=>exact False.elim hq
  | cont=>exact False.elim hq
end
theorem oexB_ok {K:PySem.W.Frag} {C:Addr} (h:oexB K C=true):OexC K C:=by
 unfold oexB at h
 simp only [Bool.and_eq_true] at h
 obtain ⟨h0,h1,h2,h3,h4⟩:=h
 refine ⟨?_,of_decide_eq_true h1,of_decide_eq_true h2,of_decide_eq_true h3,h4⟩
 split at h0
 ·rename_i dd cd sl ho
  split at h0
  ·rename_i C' bm k0 k1 k2 k3 n k5 hm hs
   simp only [Bool.and_eq_true,beq_iff_eq,Bool.not_eq_true'] at h0
   obtain ⟨rfl,rfl,hdel,hdi,ht⟩:=h0
   obtain ⟨nm,bs,mro,ns,qn,hd,sn,sub,ab,col,del⟩:=cd
   dsimp only at hm hdel hdi
   subst hm hdel hdi
   have hsl:sl=#[k0,k1,k2,k3,some (.builtin "ValueError.__new__"),k5]:=by
    obtain ⟨l⟩:=sl
    simp only at hs
    rw [hs]
   subst hsl
   exact ⟨nm,qn,ns,bs,bm,sn,sub,ab,col,dd,k0,k1,k2,k3,k5,ho,ht⟩
  ·cases h0
 ·cases h0
def FSrc.d (ds:List D):FSrc->D
 | .k z=>.str z
 | .p i=>ds.getD i .non
def FL.d (fl:FL) (ds:List D):List (Str×D):=fl.map fun q=>(q.1,q.2.d ds)
theorem getD_rp {K:PySem.W.Frag} {al:Al} {M:Mem} {H:Hp}:∀ {ds:List D} {ws:List V} (i:Nat),Rps K al M H ds ws->Rp K al M H (ds.getD i .non) (ws.getD i .non)
 | [],_,_,h=>by cases (show _=[] from h);rfl
 | d :: ds,_,0,h=>by obtain ⟨x,r,rfl,q,t⟩:=h;exact q
 | d :: ds,_,i+1,h=>by obtain ⟨x,r,rfl,q,t⟩:=h;exact getD_rp (ds:=ds) (ws:=r) i t
theorem fl_rpk {K:PySem.W.Frag} {al:Al} {M:Mem} {H:Hp} {ds:List D} {ws:List V} (h:Rps K al M H ds ws):∀ fl:FL,Rpk K al M H (fl.d ds) (fl.v ws)
 | []=>Rpk.nil
 | (f,.k z) :: r=>Rpk.cons rfl (fl_rpk h r)
 | (f,.p i) :: r=>Rpk.cons (getD_rp i h) (fl_rpk h r)
def xH (H:Hp) (a C dx:Addr) (fs:List (Str×V)):Hp:=upd (upd H dx (exd dx fs)) a (exo a C (some dx))
def spX (C:Addr) (fl:FL) (n:Nat):Sp:=fun vs H Q E=>∃ a ws,vs = .ref a :: ws/\ws.length=n/\H a=some (exo a C none)/\∀ dx,H dx=none->dx≠a->Q .non (xH H a C dx (fl.v ws))
def EvT (σ:L2.St) (te:TE) (y:V):Prop:=∀ (H:Hp) (Q:VK),Q y H->te σ H Q
theorem ev_c {σ:L2.St} {v:V}:EvT σ (tC v) v:=fun _ _ h=>h
theorem ev_var {σ:L2.St} {i:Nat} {v:V} (h:σ[i]?=some (some v)):EvT σ (tVar i) v:=fun _ _ q=>⟨v,h,q⟩
section
variable {K:PySem.W.Frag} {C a dx:Addr} {f:Str} {to te:TE} {D:Ends} {σ:L2.St} {H:Hp} {y:V} {fs:List (Str×V)}
theorem init_first (T:OexC K C) (hf:PySem.W.findIn K (.ref C) f=some none) (h0:H a=some (exo a C none)) (ev:EvT σ te y) (es:EvT σ to (.ref a)) (k:∀ dx,H dx=none->dx≠a->D.nx σ (xH H a C dx [(f,y)])):tOst K f to te D σ H :=
 ev _ _ (es _ _ ⟨a,C,rfl,T,hf,.inl ⟨h0,k⟩⟩)
end
section
variable {X:Cx} {p pos:Pos}
theorem pmk_oex0 {CX:CXT} {x:Str} {C fI:Addr} {k:Nat} {fd:FuncData} {ps:List Str} {sp:Sp} (T:OexC X.K C) (iC:PySem.W.findIn X.K (.ref C) "__init__"=some (some (.ref fI))) (tI:PySem.W.typeIn X.K (.ref fI)=some (.type "function"))
  (F1:FnOk X.prog X.w X.K X.mg X.base CX k fI fd ps sp) (hr:Room (k+1) X.A) (hb:Binds X.K fd ps []) (hx:Passes CX X (fun _ _ _=>False)) (hg:Gl X x) (hm:X.mg x=some (.ref C))
  (hdb:(x == ("__debug__":Str))=false:=by decide):PMk X (.Call (.Name x p) [] [] pos) (tMkO C sp [] tNil):=by
 intro pins s σ H Q I h
 obtain ⟨nm,q,N,bs,bm,sn,sub,ab,col,dd,k0,k1,k2,k3,k5,hC,hbm⟩:=T.cls
 refine wpAny_Call_Name_kw (ld_glob I hg hm ?_ hdb)
 refine PySem.W.callWith_K0 I.kIn T.kC ?_
 obtain ⟨hz,q1⟩:=h
 obtain ⟨hp,g,dr,tk,os⟩:=s
 have hsz:hp.objs.size<=hp.objs.size+1:=Nat.le_succ _
 have hn:H (hp.objs.size+1)=none:=I.hok.fresh hsz
 have hq:=q1 (hp.objs.size+1) hn
 have kk:∀ b o,hp.get? b=some o->((hp.push (PySem.W.kdv_tup [])).push (PySem.HandSPX.excO C hp.objs.size)).get? b=some o:=fun b o e=>Heap.get?_push_of_some _ (Heap.get?_push_of_some _ e)
 have hget:((hp.push (PySem.W.kdv_tup [])).push (PySem.HandSPX.excO C hp.objs.size)).get? (hp.objs.size+1)=some (PySem.HandSPX.excO C hp.objs.size):=by heap_get
 have I2:Inv X pins σ (upd H (hp.objs.size+1) (exo (hp.objs.size+1) C none)) ⟨(hp.push (PySem.W.kdv_tup [])).push (PySem.HandSPX.excO C hp.objs.size),g,dr,tk,os⟩ :=
  I.laid (t':=tk) (a:=hp.objs.size+1) (o:=exo (hp.objs.size+1) C none) (h':=(hp.push (PySem.W.kdv_tup [])).push (PySem.HandSPX.excO C hp.objs.size)) kk hsz (exo_ok hget)
 have r2:Vals [V.ref (hp.objs.size+1)] [Value.ref (hp.objs.size+1)]:=.cons rfl .nil
 have hl:[Value.ref (hp.objs.size+1)].length=ps.length:=by
  have e:=F1.len _ _ _ _ hq
  exact e
 refine wpAny_call (PySem.HandSPX.call_own F.excBase_ValueError (fun Y=>PySem.HandSPX.refsVE_contains Y bm hbm) (I.kIn _ _ hC) (PySem.W.looks_findIn I.kIn iC) (fun self=>PySem.W.bind_fn I.kIn self tI) (show ([]:List Value).length<=sizeLine by decide)
  (codeAny_mono (F1.run _ X.stack _ _ ⟨[Value.ref (hp.objs.size+1)],[]⟩ [Value.ref (hp.objs.size+1)] _ _ (fun _ _ _=>False) (hr.make C [] []) (I2.env0.make C [] []) (by have:=hb _ [Value.ref (hp.objs.size+1)] I2.kIn hl;exact this) r2 hq) fun r s' hq'=>?_))
 cases r with
 | error er=>exact hx pins σ _ _ er s' I2 hq'
 | ok fl =>
  cases fl with
  | ret u =>
   obtain ⟨v,H2,os2,bare2,un2,hok2,rv,ev,d,fs,ea,ed,hd1,q2⟩:=hq'
   subst ev
   obtain ⟨h2,g2,d2,t2,os'⟩:=s'
   exact ⟨rv,mk_end (raises_own T.exC T.tyC) I hsz kk un2 hok2 os2 bare2 ea ed hd1 q2⟩
  | next=>exact False.elim hq'
  | brk=>exact False.elim hq'
  | cont=>exact False.elim hq'
end
structure XCal (P:Program) (w:World) (K:PySem.W.Frag) (mg:Str->Option Value) (base:Heap) (x:Str) (fl:FL) (n k:Nat) where
 T:OexC K (He.ga K x)
 fI:Addr
 fdI:FuncData
 psI:List Str
 iC:PySem.W.findIn K (.ref (He.ga K x)) "__init__"=some (some (.ref fI))
 tI:PySem.W.typeIn K (.ref fI)=some (.type "function")
 fn:FnOk P w K mg base (L2.CX P w) k fI fdI psI (spX (He.ga K x) fl n)
 bd:Binds K fdI psI []
 mgx:mg x=some (.ref (He.ga K x))
abbrev dRaise (C:Addr) (fl:FL) (n:Nat) (t:TAD):TSD:=fun E DD rho M=>t E rho M fun ds M1=>ds.length=n/\n<=1000/\E ⟨C,fl.d ds⟩ M1
section
variable {X:Cx} {Tb:List (Addr×Str)} {EV:XK} {x:Str} {fl:FL} {n k:Nat} {t:TAD} {e:Expr} {es:List Expr} {p pos pos':Pos}
theorem raise_lift {C:Addr} {σ:L2.St} {H:Hp} {DV:Ends} (h:∃ al rho M E DD,At X.K Tb EV al σ H rho M E/\dRaise C fl n t E DD rho M/\PostE X.K Tb al M H DD DV):tMkO C (spX C fl n) [] (liftA X.K Tb EV t) σ H (fun cls d H'=>EV cls d H'):=by
 obtain ⟨al,rho,M,E,DD,a,t,p⟩:=h
 refine seqA a t fun al1 ds M1 vs H1 s1 a1 r1 q1=>⟨by rw [<- r1.length,q1.1];exact q1.2.1,fun b hb=>?_⟩
 rw [List.append_nil]
 refine ⟨b,vs,rfl,by rw [<- r1.length];exact q1.1,upd_same,fun dx hdx hne=>⟨rfl,dx,fl.v vs,upd_same,by unfold xH;rw [upd_ne hne,upd_same],?_,?_⟩⟩
 ·rw [upd_ne hne] at hdx;exact hdx
 ·have hd1:H1 dx=none:=by rw [upd_ne hne] at hdx;exact hdx
  have e:upd (L2.del (xH (upd H1 b (exo b C none)) b C dx (fl.v vs)) b) dx (.xd (fl.v vs))=upd H1 dx (.xd (fl.v vs)):=by
   funext c
   by_cases h1:c=dx
   ·subst h1;rw [upd_same,upd_same]
   ·rw [upd_ne h1,upd_ne h1]
    by_cases h2:c=b
    ·subst h2;rw [del_same,hb]
    ·rw [del_ne h2]
     unfold xH
     rw [upd_ne h2,upd_ne h1,upd_ne h2]
  rw [e]
  exact a1.ex al1 ⟨C,fl.d ds⟩ M1 (.ref C) (some dx) _ (stp_new a1.wf hd1 _) (wf_new a1.wf hd1 _) ⟨rfl,dx,fl.v vs,rfl,upd_same,fl_rpk (r1.mono (stp_new a1.wf hd1 _)) fl⟩ q1.2.2
theorem dp_raise0 {K:PySem.W.Frag} (c:XCal X.prog X.w K X.mg X.base x fl n k) (hr:Room (k+1) X.A) (hc:X.calm=true) (tk:Takes X (fun cls d _ H=>EV cls d H)) (hx:Passes (L2.CX X.prog X.w) X (fun _ _ _=>False)) (hg:Gl X x) (hK:X.K=K:=by rfl)
  (hdb:(x == ("__debug__":Str))=false:=by decide) :
  PDS X Tb EV (.Raise (some (.Call (.Name x p) [] [] pos)) none pos') (dRaise (He.ga K x) fl n dNil):=by
 subst hK
 exact ps_imp (ps_raise hc tk (pmk_oex0 c.T c.iC c.tI c.fn hr c.bd hx hg c.mgx hdb)) fun DV σ H h=>by
  obtain ⟨al,rho,M,E,DD,a,t,p⟩:=h
  exact raise_lift (t:=dNil) (X:=X) (Tb:=Tb) ⟨al,rho,M,E,DD,a,t,p⟩ |> fun z=>by
   obtain ⟨al',rho',M',E',Q',a',t',p'⟩:=z
   exact p' al' [] M' [] H (Stp.refl ..) a'.wf rfl t'
end
def dXf (K:PySem.W.Frag) (f:Str) (t:TED):TED:=fun E rho M Q=>t E rho M fun x M1=>match x with
 | .exc C ns xs=>XfC K C/\PySem.W.findIn K (.ref C) f=some none/\(match (ns.zip xs).lookup f with
  | some d=>Q d M1
  | none=>False)
 | _=>False
theorem rps_lookup {K:PySem.W.Frag} {al:Al} {M:Mem} {H:Hp} {f:Str}:∀ {ns:List Str} {ds:List D} {vs:List V} {d:D},Rps K al M H ds vs->(ns.zip ds).lookup f=some d->∃ v,(ns.zip vs).lookup f=some v/\Rp K al M H d v
 | [],_,_,_,_,e=>by simp at e
 | n :: ns,[],_,_,_,e=>by simp at e
 | n :: ns,d' :: ds,_,d,r,e=>by
  obtain ⟨x,ys,rfl,rx,ry⟩:=r
  rw [List.zip_cons_cons,List.lookup_cons] at e ⊢
  split at e
  ·cases e;exact ⟨x,rfl,rx⟩
  ·exact rps_lookup ry e
theorem dv_xf {X:Cx} (K:PySem.W.Frag) {Tb:List (Addr×Str)} {EV:XK} {e:Expr} {te:TED} {pos:Pos} {f:Str} (he:PD X Tb EV e te) (hK:X.K=K:=by rfl) (hb:attributeBase e f X.env (eval e X.env)=eval e X.env:=by rfl):PD X Tb EV (.Attribute e f pos) (dXf K f te):=pe_imp (pe_xs he hb) fun σ H QV h=>by
 subst hK
 obtain ⟨al,rho,M,E,Q,a,t,p⟩:=h
 refine seq1 a t fun al1 x M1 vx H1 s1 a1 r1 q1=>?_
 cases x with
 | exc C ns xs =>
  obtain ⟨b,dx,vs,rfl,h1,f1,h2,f2,hl,r⟩:=r1
  obtain ⟨T,hn,q⟩:=q1
  split at q
  ·rename_i d e
   obtain ⟨v,ev,rv⟩:=rps_lookup r e
   exact ⟨b,C,dx,ns.zip vs,v,rfl,h1,T,hn,h2,ev,p _ _ _ _ _ s1 a1.wf rv q⟩
  ·exact q.elim
 | _=>exact (show False from q1).elim
structure FnDC (P:Program) (w:World) (K:PySem.W.Frag) (mg:Str->Option Value) (base:Heap) (Tb:List (Addr×Str)) (k:Nat) (f:Addr) (fd:FuncData) (ps:List Str) (dsp:DSp):Prop where
 ok:FnC P w K mg base (L2.CX P w) k f fd ps (liftSp K Tb dsp)
theorem fnDC_of {P:Program} {w:World} {K:PySem.W.Frag} {mg:Str->Option Value} {base:Heap} {Tb:List (Addr×Str)} {x qual:Str} {params:Arguments} {body:List Stmt} {scope:Scope} {dvs:List V} {kws:List (Str×V)} {f:Addr} {fd:FuncData} {N ps:List Str} {k:Nat} {dsp:DSp} (tb:TSD) (F:FunD K x qual params body scope dvs kws f fd) (S:FnScope N ps scope)
  (len:∀ ds M Q E,dsp ds M Q E->ds.length=ps.length)
  (hbody:∀ (cdv:Value) (A:Around) (outer:List Env) (s:Shared) (H:Hp) (EV:XK),RoomH k (A.deeper (envOfC qual scope s.heap.objs.size f cdv))->PDSs (cxC (L2.CX P w) P w K mg base N qual scope f cdv A outer s H EV) Tb EV body tb)
  (hq:∀ ds M Q E,okM M.length M->D.hbs M.length ds=true->dsp ds M Q E->tb (CutX M.length E) { nx:=fun _ M'=>Cut M.length Q .non M',rt:=Cut M.length Q } (startD N ds) M):FnDC P w K mg base Tb (k+1) f fd ps dsp:=by
 refine ⟨fn_C F S (fun vs H Q E h=>?_) fun cdv A outer s H vs QV EV hr h=>?_⟩
 ·obtain ⟨al,M,ds,Q,E,wf,r,q,_⟩:=h
  rw [<- r.length];exact len _ _ _ _ q
 ·obtain ⟨al,M,ds,Q,E,wf,r,q,p,px⟩:=h
  have pv:PostV K Tb al M H (Cut M.length Q) QV:=fun al' d M' v H' s' w' r' q' =>
   let ⟨m,hm,q1,q2,q3⟩:=q';p _ _ _ _ _ (stp_cut wf hm s') (wf_cut w' q2) (r'.cutH q1) q3
  refine ⟨_,hbody cdv A outer s H EV hr,al,startD N ds,M,CutX M.length E,_,⟨wf,start_ok r,fun al' y M' cls dct H' s' w' r' q'=>?_⟩,hq ds M Q E wf.okM (by rw [<- wf.len];exact r.hb) q,?_⟩
  ·obtain ⟨e1,dx,ys,e2,h1,h2⟩:=r'
   exact px _ y _ cls dct _ (stp_cut wf (Nat.le_refl _) s') (wf_cut w' q'.2.1) ⟨e1,dx,ys,e2,h1,h2.cutH q'.1⟩ q'.2.2
  ·refine ⟨fun al' rho' M' σ' H' s' w' _ q'=>?_,pv,fun _ _ _ _ _ _ _ _ q'=>q'.elim,fun _ _ _ _ _ _ _ _ q'=>q'.elim⟩
   exact pv al' .non M' .non H' s' w' rfl q'
theorem dv_callC {X:Cx} {Tb:List (Addr×Str)} {EV:XK} {k:Nat} {f:Addr} {fd:FuncData} {ps:List Str} {dsp:DSp} {x:Str} {p pos:Pos} {e:Expr} {es:List Expr} {t:TAD} (F:FnDC X.prog X.w X.K X.mg X.base Tb k f fd ps dsp) (hr:RoomH k X.A) (hg:Gl X x) (hm:X.mg x=some (.ref f)) (hk:PySem.W.keepIn X.K (.ref f)=true) (hb:Binds X.K fd ps []) (hx:Passes (L2.CX X.prog X.w) X EV)
  (ha:PDA X Tb EV (e :: es) t) (hdb:(x == ("__debug__":Str))=false:=by decide) (he:starEach (e :: es) X.env=(false,eval e X.env) :: starEach es X.env:=by rfl) (hpl:(backTo pos (starEach es X.env)).any (·.1)=false:=by rfl) :
  PD X Tb EV (.Call (.Name x p) (e :: es) [] pos) (dCall dsp t):=pe_imp (pe_callC F.ok hr hg hm hk hb hx ha hdb he hpl) fun _ _ _ h=>call_lift h
end DL
namespace DL
open PySem PySem.Spec PyProof.Rows L2 LamX
def Exn.d (x:Exn):D:=.exc x.C (x.fs.map (·.1)) (x.fs.map (·.2))
theorem zip_unzip {α β:Type}:∀ l:List (α×β),(l.map (·.1)).zip (l.map (·.2))=l
 | []=>rfl
 | (a,b) :: r=>by rw [List.map_cons,List.map_cons,List.zip_cons_cons,zip_unzip r]
def toldX (K:PySem.W.Frag) (cs:List Value) (dspF:DSp) (Q:VD):XD:=fun x M=>PySem.W.exmAny K (.ref x.C) cs=some true/\XfC K x.C/\PySem.W.findIn K (.ref x.C) "code"=some none /\
 ∃ z:Str,x.fs.lookup ("code":Str)=some (.str z)/\dspF [x.d] M (fun d M'=>rAdd_ (.tup [.str "no",.str z]) d M' Q) fun _ _=>False
abbrev toldD (K:PySem.W.Frag) (cs:List Value) (dspF:DSp) (tl:XD->Mem->VD->Prop) (M:Mem) (Q:VD):Prop:=tl (toldX K cs dspF Q) M fun d M'=>Q (.tup [.str "told",d]) M'
def TTd (K:PySem.W.Frag) (Tb:List (Addr×Str)) (TT:(XD->Mem->VD->Prop)->Mem->VD->Prop):(XK->Hp->VK->Prop)->Hp->VK->Prop:=fun tl H Q =>
 ∃ al M QD tlD,Wf K Tb al H M/\PostV K Tb al M H QD Q/\(∀ E EV Q' QV',PostX K Tb al M H E EV->PostV K Tb al M H Q' QV'->tlD E M Q'->tl EV H QV')/\TT tlD M QD
theorem rp_exn {K:PySem.W.Frag} {Tb:List (Addr×Str)} {al:Al} {M:Mem} {H:Hp} {x:Exn} {cls:Value} {d:Option Addr} {a:Addr} (w:Wf K Tb al H M) (r:RpX K al M H x cls d) (ha:H a=none) :
  Rp K al M (upd H a (exs a cls d)) x.d (.ref a):=by
 obtain ⟨rfl,dx,ys,rfl,h1,h2⟩:=r
 have hne:dx≠a:=ne_of_none h1 ha
 have fz:Fz al M dx:=by
  refine ⟨fun hm=>?_,fun i mo e1 e2=>?_⟩
  ·obtain ⟨xs,e,z⟩:=w.hth dx hm
   rw [h1] at e;exact z.xd _ (Option.some.inj e).symm
  ·have q:=w.rep i dx mo e1 e2
   cases mo with
   | lst xs=>obtain ⟨_,e,_⟩:=q;rw [h1] at e;cases e
   | dK kvs=>obtain ⟨_,e,_⟩:=q;rw [h1] at e;cases e
   | dT ks ds=>obtain ⟨_,e,_⟩:=q;rw [h1] at e;cases e
   | ins C fs=>obtain ⟨_,_,e,_⟩:=q;rw [h1] at e;cases e
 have hk:x.fs.map (·.1)=ys.map (·.1):=h2.1
 refine ⟨a,dx,ys.map (·.2),rfl,upd_same,w.fresh ha,?_,fz,?_,h2.2.mono (stp_new w ha _)⟩
 ·rw [upd_ne hne,hk,zip_unzip];exact h1
 ·have:=congrArg List.length hk;simpa using this
section
variable {X:Cx} {Tb:List (Addr×Str)}
theorem told_gives (K:PySem.W.Frag) (hK:X.K=K) {x:Str} {sg:Scope} {g fF:Addr} {fdF:FuncData} {psF:List Str} {cdg:Value} {q:Str} {dspF:DSp} {kF:Nat} {c1 c2 c3:Addr} {j1 j2 k1 k2 k3:Nat} {p1 p2 p3 p4 p5 p6 p7 p8 p9 q1 q2 q3 q4 q5 q6 q7 q8 q9 tp1 tp2:Pos}
  (nE:sg.names.lookup ("_law_e":Str)=some .local) (nA:Vis sg "_law_ask") (n1:sg.names.lookup ("RoundError":Str)=some .globalImplicit) (n2:sg.names.lookup ("Missing":Str)=some .globalImplicit) (n3:sg.names.lookup ("NothingLeft":Str)=some .globalImplicit) (nF:sg.names.lookup ("_law_fields":Str)=some .globalImplicit)
  (m1:X.mg "RoundError"=some (.ref c1)) (m2:X.mg "Missing"=some (.ref c2)) (m3:X.mg "NothingLeft"=some (.ref c3)) (mF:X.mg "_law_fields"=some (.ref fF))
  (F:FnDC X.prog X.w X.K X.mg X.base Tb kF fF fdF psF dspF) (kpF:PySem.W.keepIn X.K (.ref fF)=true) (bF:Binds X.K fdF psF []) (hr:Room (kF+1) X.A) :
  GivesTo X ["_law_ask","_law_e"] x sg g cdg [.Try [.Return (some (.Tuple [.Constant (.str "told") j1 p1,.Call (.Name "_law_ask" p2) [] [] p3] k1 p4)) p5]
   [.ExceptHandler (some (.Tuple [.Name "RoundError" p6,.Name "Missing" p7,.Name "NothingLeft" p8] k2 p9)) (some "_law_e")
    [.Return (some (.BinOp (.Tuple [.Constant (.str "no") j2 q1,.Attribute (.Name "_law_e" q2) "code" q3] k3 q4) .Add (.Call (.Name "_law_fields" q5) [.Name "_law_e" q6] [] q7) q8)) q9] tp1] [] [] tp2] "_law_ask" q (TTd X.K Tb (toldD K [.ref c1,.ref c2,.ref c3] dspF)):=by
 subst hK
 intro f c' s H Q tl act hc h
 obtain ⟨al,M,QD,tlD,wf,pv,rel,h⟩:=h
 let X1:Cx:=(cxOf C8.CX0 X.prog X.w X.K X.mg X.base ["_law_ask","_law_e"] x sg g cdg X.A X.stack s H C8.E0).nox
 let tsD:TSD:=dRet (dOp rAdd_ (dTup (dCons (dC (.str "no")) (dCons (dXf X.K "code" (dVar 1)) dNil))) (dCall dspF (dCons (dVar 1) dNil)))
 have hsu:∀ (a:Addr) (pn:List (Addr×Obj)),PDSs (X1.suite a pn) Tb (fun _ _ _=>False) [.Return (some (.BinOp (.Tuple [.Constant (.str "no") j2 q1,.Attribute (.Name "_law_e" q2) "code" q3] k3 q4) .Add (.Call (.Name "_law_fields" q5) [.Name "_law_e" q6] [] q7) q8)) q9] tsD:=fun a pn =>
  ds_one (dp_ret (dv_add (dv_tup (da_cons dv_str (da_cons (dv_xf X.K (dv_var 1 rfl (.inl nE))) da_nil))) (dv_callC F ⟨(hr.deeper (envOfC x sg s.heap.objs.size g cdg)).dp,(hr.deeper (envOfC x sg s.heap.objs.size g cdg)).un⟩ nF mF kpF bF (fun _ _ _ _ _ _ _ z=>by obtain ⟨_,_,_,_,_,_,_,_,_,_,_,_,z⟩:=z;exact z) (da_cons (dv_var 1 rfl (.inl nE)) da_nil))))
 let ts:TS:=fun DV σ H=>∃ al rho M E DD,At X.K Tb (fun _ _ _=>False) al σ H rho M E/\tsD E DD rho M/\PostE X.K Tb al M H DD DV
 let Dq:Ends:={ nx:=fun _ H'=>Q .non H',rt:=Q }
 refine ⟨_,pss_one (ps_try_asT (X:=X1) (i:=1) (c1:=.ref c1) (c2:=.ref c2) (c3:=.ref c3) (ts:=ts) (Wout:=fun _ _ _ _=>False)
   (tb:=fun W D σ H=>∃ Ech:XK,(∀ cls d σ' H',Ech cls d H'->W cls d σ' H')/\σ[0]?=some (some (.ref f))/\H c'=some (CodeO c' q)/\tl Ech H fun v H1=>[V.str "told",v].length<=sizeLine/\∀ p,H1 p=none->D.rt (.ref p) (upd H1 p (.tup [.str "told",v])))
   rfl rfl rfl (show (["_law_ask","_law_e"]:List Str).Nodup by decide) rfl nE ⟨n1,by decide,.inl m1⟩ ⟨n2,by decide,.inl m2⟩ ⟨n3,by decide,.inl m3⟩ LamX.takes0 (fun W pn xe tk _=>?_) hsu),?_⟩
 ·refine ⟨fun pins s' σ H' D I h'=>?_⟩
  obtain ⟨Ech,hW,h1,h2,h3⟩:=h'
  have hp:=act W pn xe Ech p2 p3 tk hW
  have hq:=pss_one (ps_ret (pos:=p5) (pe_tup (x1:=k1) (pos:=p4) (pa_cons (pe_str (x:="told") (j:=j1) (pos:=p1)) (pa_cons hp pa_nil))))
  exact hq.run pins s' σ H' D I ⟨h1,h2,h3⟩
 ·refine ⟨fun cls d H'=>∀ σ':L2.St,wAsT X.K 2 [.ref c1,.ref c2,.ref c3] 1 ts (fun _ _ _ _=>False) Dq cls d σ' H',fun cls d σ' H' z=>z σ',rfl,hc,?_⟩
  refine rel _ _ _ _ ?_ ?_ h
  ·intro al1 x M1 cls d H1 s1 w1 r1 q1 σ'
   obtain ⟨e1,T,hn,z,e2,hF⟩:=q1
   refine ⟨true,by rw [r1.1];exact e1,fun _ hl a ha=>?_,fun z=>by cases z⟩
   have rx:=rp_exn w1 r1 ha
   have sx:Stp al1 M1 H1 al1 M1 (upd H1 a (exs a cls d)):=stp_new w1 ha _
   refine ⟨al1,[none,some x.d],M1,fun _ _=>False,{ nx:=fun _ _=>False,rt:=QD },⟨wf_new w1 ha _,⟨by simpa using hl.symm,fun i dd e=>?_⟩,fun _ _ _ _ _ _ _ _ _ z=>z⟩,?_,⟨fun _ _ _ _ _ _ _ _ z=>z.elim,?_,fun _ _ _ _ _ _ _ _ z=>z.elim,fun _ _ _ _ _ _ _ _ z=>z.elim⟩⟩
   ·match i,e with
    | 0,e=>cases e
    | 1,e =>
     cases e
     exact ⟨.ref a,by rw [List.getElem?_set_self (by omega)],rx⟩
    | i+2,e=>simp at e
   ·refine ⟨T,hn,?_⟩
    have e3:((x.fs.map (·.1)).zip (x.fs.map (·.2))).lookup ("code":Str)=some (.str z):=by rw [zip_unzip];exact e2
    rw [e3]
    exact ⟨by show 2<=sizeLine;decide,hF⟩
   ·intro al' d' M' v H' s' w' r' q'
    exact pv _ _ _ _ _ ((s1.trans sx).trans s') w' r' q'
  ·intro al1 d M1 v H1 s1 w1 r1 q1
   refine ⟨by show 2<=sizeLine;decide,fun p hp=>?_⟩
   exact pv _ _ _ _ _ (s1.trans (stp_new w1 hp _)) (wf_new w1 hp _) (rp_tup (ds:=[.str "told",d]) w1 hp ⟨_,_,rfl,rfl,_,_,rfl,r1,rfl⟩) q1
abbrev dLam (TT:(XD->Mem->VD->Prop)->Mem->VD->Prop) (tb:TED):TED:=fun E rho M Q=>TT (fun E' M' Q'=>tb E' rho M' Q') M Q
theorem stp_ext {K:PySem.W.Frag} {al:Al} {M:Mem} {H H1:Hp} (w:Wf K Tb al H M) (e:LamX.ExtN H H1):Stp al M H al M H1 :=
 ⟨fun _ _ h=>h,fun a o h n f=>⟨e a o h n,f⟩,rfl,fun a ha=>by obtain ⟨xs,h,z⟩:=w.hth a ha;rw [h];exact e a _ h z.tbl⟩
theorem wf_ext {K:PySem.W.Frag} {al:Al} {M:Mem} {H H1:Hp} (w:Wf K Tb al H M) (e:LamX.ExtN H H1) (t:LamX.Tabs Tb H1):Wf K Tb al H1 M :=
 ⟨w.len,w.nd,fun i a mo h1 h2=>(w.rep i a mo h1 h2).mono (stp_ext w e) fun o ho=>by
   obtain ⟨o',e1,e2⟩:=w.there i a h1
   rw [ho] at e1;cases e1
   exact e a o ho e2,
  fun i a h1=>let ⟨o,e1,e2⟩:=w.there i a h1;⟨o,e a o e1 e2,e2⟩,t,fun a ha=>let ⟨xs,h,z⟩:=w.hth a ha;⟨xs,e a _ h z.tbl,z⟩,w.hdis⟩
theorem dv_lam {EV:XK} {TT:(XD->Mem->VD->Prop)->Mem->VD->Prop} {x a:Str} {g c P:Addr} {k:Nat} {pg:Arguments} {bg:List Stmt} {sg:Scope} {dvs:List V} {kws:List (Str×V)} {fdg:FuncData} {Ng:List Str}
  {params:Arguments} {body:Expr} {scope:Scope} {tb:TED} {p lpos pos:Pos} (Fg:FunD X.K x x pg bg sg dvs kws g fdg) (hg:Gl X x) (hm:X.mg x=some (.ref g)) (hb:L2.Binds X.K fdg [a] []) (Sg:FnScope Ng [a] sg) (hNg:Ng[0]?=some a) (hva:Vis sg a)
  (hG:∀ cdv,GivesTo X Ng x sg g cdv bg a (X.env.qual ++ "<lambda>") (TTd X.K Tb TT))
  (TB:LamX.TabB X.base X.mg c P) (hcode:X.env.code = .ref c) (hmT:(P,X.env.qual ++ "<lambda>")∈Tb) (hu:∀ p∈Tb,p.1=P->p.2=X.env.qual ++ "<lambda>") (hr:Room (k+2) X.A) (L:LamX.LamS X.env.scope scope) (hdef:defaultsOf params X.env=([],[]))
  (hbind:∀ (q:Str) (cl:List (Str×Addr)) (pm cv ctv:Value),bindArgs (PySem.W.kla_fn "<lambda>" q params body scope cl pm cv ctv) ⟨[],[]⟩=pure [])
  (hbody:∀ (A:Around) (outer:List Env) (s:Shared) (H:Hp) (E:XK) (f c':Addr),Room k (A.deeper (LamX.lamEnv X scope s.heap.objs.size f c'))->Passes (L2.CX X.prog X.w) (LamX.lamCx X A outer s H E scope f c') E->PD (LamX.lamCx X A outer s H E scope f c') Tb E body tb)
  (hdb:(x == ("__debug__":Str))=false:=by decide) (hd:(a == ("__debug__":Str))=false:=by decide) (hcd:(a == ("__classdict__":Str))=false:=by decide) :
  PD X Tb EV (.Call (.Name x p) [.Lambda params body scope lpos] [] pos) (dLam TT tb):=by
 obtain ⟨oc,od,dV,kV,doc,pm,an,cdv,ct,osl,rfl,lk,hcg,_,_⟩:=Fg.ex
 refine pe_imp (LamX.pe_lamcall (T:=Tb) (TT:=TTd X.K Tb TT) (t:=fun E=>lift X.K Tb E tb) hg hm Fg.kp lk hcg hb Sg hNg hva (hG cdv) TB hcode hmT hu hr L hdef hbind (fun A outer s H E f c' r=>hbody A outer s H E f c' r (passes_call (takes_of rfl rfl rfl rfl) fun _ _ _ _ h=>h)) hdb hd hcd) fun σ H QV h=>?_
 obtain ⟨al,rho,M,E,Q,a,t,p⟩:=h
 refine ⟨a.wf.tb,fun H1 e1 t1=>?_⟩
 have s1:=stp_ext a.wf e1
 have w1:=wf_ext a.wf e1 t1
 exact ⟨al,M,Q,_,w1,p.mono s1,fun E' EV' Q' QV' px pv h=>⟨al,rho,M,E',Q',⟨w1,a.sl.mono s1,px⟩,h,pv⟩,t⟩
theorem tkF {P:Program} {w:World} {K:PySem.W.Frag} {mg:Str->Option Value} {base:Heap} {N:List Str} {qual:Str} {scope:Scope} {f:Addr} {cdv:Value} {A:Around} {outer:List Env} {s:Shared} {H:Hp} {EV:XK} :
  Takes (cxOf (L2.CX P w) P w K mg base N qual scope f cdv A outer s H EV) (fun cls d _ H=>EV cls d H):=takes_of rfl rfl rfl rfl
theorem hxN {P:Program} {w:World} {K:PySem.W.Frag} {mg:Str->Option Value} {base:Heap} {N:List Str} {qual:Str} {scope:Scope} {f:Addr} {cdv:Value} {A:Around} {outer:List Env} {s:Shared} {H:Hp} {EV:XK} :
  Passes (L2.CX P w) (cxOf (L2.CX P w) P w K mg base N qual scope f cdv A outer s H EV) (fun _ _ _=>False):=passes_call tkF fun _ _ _ _ h=>h.elim
end
end DL
namespace DL
open PySem PySem.Spec PyProof.Rows L2
theorem fnD_ofL {P:Program} {w:World} {K:PySem.W.Frag} {mg:Str->Option Value} {base:Heap} {Tb:List (Addr×Str)} {x qual:Str} {params:Arguments} {body:List Stmt} {scope:Scope} {dvs:List V} {kws:List (Str×V)} {f:Addr} {fd:FuncData} {N ps:List Str} {k:Nat} {dsp:DSp} (tb:TSD) (F:FunD K x qual params body scope dvs kws f fd) (S:FnScope N ps scope)
  (len:∀ ds M Q E,dsp ds M Q E->ds.length=ps.length)
  (hbody:∀ (cdv:Value) (A:Around) (outer:List Env) (s:Shared) (H:Hp) (EV:XK),fd.code=cdv->Room k (A.deeper (envOfC qual scope s.heap.objs.size f cdv))->PDSs (cxOf (L2.CX P w) P w K mg base N qual scope f cdv A outer s H EV) Tb EV body tb)
  (hq:∀ ds M Q E,okM M.length M->D.hbs M.length ds=true->dsp ds M Q E->tb (CutX M.length E) { nx:=fun _ M'=>Cut M.length Q .non M',rt:=Cut M.length Q } (startD N ds) M):FnD P w K mg base Tb (k+1) f fd ps dsp:=by
 obtain ⟨oc,od,dV,kV,doc,pm,an,cdv,ct,osl,rfl,lk,hcd,_,_⟩:=F.ex
 refine ⟨fn_of lk hcd S (fun vs H Q E h=>?_) fun A outer s H vs QV EV hr h=>?_⟩
 ·obtain ⟨al,M,ds,Q,E,wf,r,q,_⟩:=h
  rw [<- r.length];exact len _ _ _ _ q
 ·obtain ⟨al,M,ds,Q,E,wf,r,q,p,px⟩:=h
  have pv:PostV K Tb al M H (Cut M.length Q) QV:=fun al' d M' v H' s' w' r' q' =>
   let ⟨m,hm,q1,q2,q3⟩:=q';p _ _ _ _ _ (stp_cut wf hm s') (wf_cut w' q2) (r'.cutH q1) q3
  refine ⟨_,hbody cdv A outer s H EV rfl hr,al,startD N ds,M,CutX M.length E,_,⟨wf,start_ok r,fun al' y M' cls dct H' s' w' r' q'=>?_⟩,hq ds M Q E wf.okM (by rw [<- wf.len];exact r.hb) q,?_⟩
  ·obtain ⟨e1,dx,ys,e2,h1,h2⟩:=r'
   exact px _ y _ cls dct _ (stp_cut wf (Nat.le_refl _) s') (wf_cut w' q'.2.1) ⟨e1,dx,ys,e2,h1,h2.cutH q'.1⟩ q'.2.2
  ·refine ⟨fun al' rho' M' σ' H' s' w' _ q'=>?_,pv,fun _ _ _ _ _ _ _ _ q'=>q'.elim,fun _ _ _ _ _ _ _ _ q'=>q'.elim⟩
   exact pv al' .non M' .non H' s' w' rfl q'
structure LamD (base:Heap) (mg:Str->Option Value) (Tb:List (Addr×Str)) (fd:FuncData) (qual:Str) (sc:Scope) where
 c:Addr
 P:Addr
 hco:fd.code = .ref c
 TB:LamX.TabB base mg c P
 hmT:(P,(envOfC qual sc 0 0 .none).qual ++ "<lambda>")∈Tb
 hu:∀ p∈Tb,p.1=P->p.2=(envOfC qual sc 0 0 .none).qual ++ "<lambda>"
structure ToldB (P:Program) (w:World) (K:PySem.W.Frag) (mg:Str->Option Value) (base:Heap) (Tb:List (Addr×Str)) (st:Stmt) (kF:Nat) (dspF:DSp) where
 g:Addr
 fd:FuncData
 F:FunD K "_law_told" "_law_told" (defArgs st) (defBody st) (defScope st) [] [] g fd
 mgx:mg "_law_told"=some (.ref g)
 m1:mg "RoundError"=some (.ref (He.ga K "RoundError"))
 m2:mg "Missing"=some (.ref (He.ga K "Missing"))
 m3:mg "NothingLeft"=some (.ref (He.ga K "NothingLeft"))
 fF:Addr
 fdF:FuncData
 psF:List Str
 FF:FnDC P w K mg base Tb kF fF fdF psF dspF
 kpF:PySem.W.keepIn K (.ref fF)=true
 bF:Binds K fdF psF []
 mF:mg "_law_fields"=some (.ref fF)
def xfields (z:Str):List Str:=if L2.inV (.str z) [.str "TooMany",.str "TooLong",.str "Full",.str "InvalidLimit"]=true then ["limit"] else if L2.inV (.str z) [.str "Cycle",.str "UnknownName"]=true then ["name"]
 else if decide (z="Unfit")=true then ["name","cause"] else if decide (z="Stopped")=true then ["index","cause"] else if decide (z="InUse")=true then ["by"] else if decide (z="ParseError")=true then ["line"] else if decide (z="UnknownClaim")=true then ["number"] else []
def fieldsSp (K:PySem.W.Frag):DSp:=fun ds M Q E=>∃ (C:Addr) (ns:List Str) (xs:List D) (z:Str) (ys:List D),ds=[.exc C ns xs]/\XfC K C/\(∀ f∈("code":Str) :: xfields z,PySem.W.findIn K (.ref C) f=some none)/\(ns.zip xs).lookup ("code":Str)=some (.str z)/\(xfields z).map (fun f=>(ns.zip xs).lookup f)=ys.map some/\Q (.tup ys) M
theorem e_xf0 {K:PySem.W.Frag} {f:Str} {C:Addr} {ns:List Str} {xs:List D} {d:D} {E:XD} {r:Rho} {M:Mem} {Q:VD} (T:XfC K C) (hn:PySem.W.findIn K (.ref C) f=some none) (hl:(ns.zip xs).lookup f=some d) (h:Q d M):dXf K f (dVar 0) E (some (.exc C ns xs) :: r) M Q:=by
 refine ⟨T,hn,?_⟩
 rw [hl];exact h
theorem map1 {α β:Type} {f:α->Option β} {a:α} {ys:List β} (h:[a].map f=ys.map some):∃ y,f a=some y/\ys=[y]:=by
 match ys,h with
 | [],h=>simp at h
 | [y],h=>exact ⟨y,(List.cons.inj h).1,rfl⟩
 | _ :: _ :: _,h=>simp at h
theorem map2 {α β:Type} {f:α->Option β} {a b:α} {ys:List β} (h:[a,b].map f=ys.map some):∃ y z,f a=some y/\f b=some z/\ys=[y,z]:=by
 match ys,h with
 | [],h=>simp at h
 | [_],h=>simp at h
 | _ :: _ :: _ :: _,h=>simp at h
 | [y,z],h=>exact ⟨y,z,(List.cons.inj h).1,(List.cons.inj (List.cons.inj h).2).1,rfl⟩
theorem map0 {α β:Type} {f:α->Option β} {ys:List β} (h:([]:List α).map f=ys.map some):ys=[]:=by
 match ys,h with
 | [],_=>rfl
 | _ :: _,h=>simp at h
end DL
namespace DL
theorem zip_hb {n:Nat} {f:PySem.Str}:∀ {ns:List PySem.Str} {xs:List D} {d:D},D.hbs n xs=true->(ns.zip xs).lookup f=some d->d.hb n=true
 | [],_,_,_,e=>by simp at e
 | _ :: _,[],_,_,e=>by simp at e
 | m :: ns,x :: xs,d,h,e=>by
  have h:(D.hb n x && D.hbs n xs)=true:=h
  rw [Bool.and_eq_true] at h
  rw [List.zip_cons_cons,List.lookup_cons] at e
  split at e
  ·cases e;exact h.1
  ·exact zip_hb h.2 e
end DL
namespace DL
open PySem PySem.Spec PyProof.Rows L2
structure XFa (K:PySem.W.Frag) (x:Str) (fs:List Str):Prop where
 exm:PySem.W.exmAny K (.ref (He.ga K x)) [.ref (He.ga K "RoundError"),.ref (He.ga K "Missing"),.ref (He.ga K "NothingLeft")]=some true
 xf:XfC K (He.ga K x)
 no:∀ f∈("code":Str) :: fs,PySem.W.findIn K (.ref (He.ga K x)) f=some none
theorem toldX_0 {K:PySem.W.Frag} {x z:Str} {Q:VD} {M:Mem} (Z:XFa K x []) (hz:xfields z=[]) (h:Q (.tup [.str "no",.str z]) M) :
  toldX K [.ref (He.ga K "RoundError"),.ref (He.ga K "Missing"),.ref (He.ga K "NothingLeft")] (fieldsSp K) Q ⟨He.ga K x,[("code",.str z)]⟩ M :=
 ⟨Z.exm,Z.xf,Z.no _ List.mem_cons_self,z,rfl,_,_,_,z,[],rfl,Z.xf,by rw [hz];exact Z.no,rfl,by rw [hz];rfl,by show 2<=sizeLine/\_;exact ⟨by decide,h⟩⟩
section
variable {E:XD} {rho:Rho} {M:Mem} {N:Rho->Mem->Prop} {xs:List D} {d:D} {n:Nat} {t:TGsD} {g:TGD}
theorem e_ht (h0:xs.length=n) (h:t xs E rho M N):hTup n t (.tup xs) E rho M N:=⟨h0,h⟩
end
theorem law_startT {K:PySem.W.Frag} {dsp:DSp} (hl:∀ ds Q E,lawSp ds [] Q E->dsp ds [] Q E) {Tb:List (Addr×Str)} {H:Hp} {a:Addr} {ns:List Int} (l:ns.length<=63) (h:SqL K H a (ns.map V.int)) (ht:LamX.Tabs Tb H) :
  liftSp K Tb dsp [.ref a] H (fun v _=>v = .bl true) fun _ _ _=>False:=by
 refine ⟨⟨[],[]⟩,[],[.rol (ns.map D.int)],fun d _=>d = .bl true,fun _ _=>False,⟨rfl,List.nodup_nil,(fun i a mo e=>by simp at e),(fun i a e=>by simp at e),ht,(fun a h=>by cases h),(fun i a mo e=>by simp at e)⟩,⟨_,_,rfl,⟨a,ns.map V.int,rfl,?_,rps_ints ns⟩,rfl⟩,hl _ _ _ ⟨ns,l,rfl,rfl⟩,?_,?_⟩
 ·rcases h with h | h
  ·exact .inl ⟨h,⟨(fun h=>by cases h),(fun i mo e=>by simp at e)⟩⟩
  ·exact .inr (.inr h)
 ·intro al' d M' v H' s w r q
  subst q
  exact r
 ·intro al' y M' cls dct H' s w r q
  exact q
theorem bool_at {l:List Bool} (h:l.all _root_.id=true) (i:Nat) {b:Bool} (e:l[i]?=some b:=by rfl):b=true:=List.all_eq_true.mp h b (List.mem_of_getElem? e)
section
variable {K:PySem.W.Frag} {h:Heap} {mg:Str->Option Value}
theorem cc_tup (X:K.In h) (G:h.Ns mainGlobals mg) {x:Str} {vs:List He.Dv} {ds:List D} (c:(He.Fa.glo x).ok K=true) (t:He.tupB K x vs=true) (hr:∀ al M H,Rps K al M H ds (vs.map (He.Dv.v K))):CcD K mg x (.tup ds) :=
 ⟨.ref (He.ga K x),.ref (He.ga K x),He.glo_ok X G c,rfl,fun al M H=>⟨_,_,rfl,.inr (He.tupB_ok t noH),hr al M H⟩⟩
theorem xfaB_ok {x:Str} {fs:List Str} (h:xfaB K x fs=true):XFa K x fs:=by
 unfold xfaB at h
 simp only [Bool.and_eq_true] at h
 exact ⟨of_decide_eq_true h.1,xfB_ok h.2.1,fun f hf=>of_decide_eq_true (List.all_eq_true.mp h.2.2 f hf)⟩
theorem xcB_ok {x:Str} {fs:List Str} (h:xcB K x fs=true):OexC K (He.ga K x)/\PySem.W.typeIn K (.ref (He.ma K (He.ga K x) "__init__"))=some (.type "function")/\PySem.W.findIn K (.ref (He.ga K x)) "__init__"=some (some (.ref (He.ma K (He.ga K x) "__init__")))/\∀ f∈fs,PySem.W.findIn K (.ref (He.ga K x)) f=some none:=by
 unfold xcB at h
 simp only [Bool.and_eq_true] at h
 exact ⟨oexB_ok h.1,of_decide_eq_true h.2.1,of_decide_eq_true h.2.2.1,fun f hf=>of_decide_eq_true (List.all_eq_true.mp h.2.2.2 f hf)⟩
theorem lam_code {x qual:Str} {params:Arguments} {body:List Stmt} {scope:Scope} {dvs:List V} {kws:List (Str×V)} {fd:FuncData} {p:He.Defn} (F:FunD K x qual params body scope dvs kws (He.fAd K p) fd):fd.code = .ref (He.codeOf K p):=by
 obtain ⟨oc,od,dV,kV,doc,pm,an,cdv,ct,osl,rfl,lk,hcd,_,_⟩:=F.ex
 obtain ⟨c,rfl⟩:=He.codeIn_ref hcd
 rw [He.codeOf_eq lk rfl]
end
end DL
namespace DL
open PySem PySem.Spec PyProof.Rows L2 Mt
mutual
theorem pz_ok:∀ {d:D},pz d=true->∃ p,toPy d=some p/\p.canLay0=true/\p.depth=dp d
 | .non,_=>⟨_,rfl,rfl,rfl⟩
 | .bl _,_=>⟨_,rfl,rfl,rfl⟩
 | .int _,_=>⟨_,rfl,rfl,rfl⟩
 | .str x,h=>⟨_,rfl,h,rfl⟩
 | .tup xs,h=>by
  obtain ⟨ps,e,h1,h2⟩:=pzs_ok (ds:=xs) h
  exact ⟨.tuple ps,by show (toPys xs).map _=_;rw [e];rfl,h1,by show PyData.depthAll ps+1=dps xs+1;rw [h2]⟩
 | .lst xs,h=>by
  obtain ⟨ps,e,h1,h2⟩:=pzs_ok (ds:=xs) h
  exact ⟨.list ps,by show (toPys xs).map _=_;rw [e];rfl,h1,by show PyData.depthAll ps+1=dps xs+1;rw [h2]⟩
 | .rol xs,h=>by
  obtain ⟨ps,e,h1,h2⟩:=pzs_ok (ds:=xs) h
  exact ⟨.list ps,by show (toPys xs).map _=_;rw [e];rfl,h1,by show PyData.depthAll ps+1=dps xs+1;rw [h2]⟩
 | .ty _,h=>by cases h
 | .obj _ _ _,h=>by cases h
 | .exc _ _ _,h=>by cases h
 | .dk _ _,h=>by cases h
 | .dt _ _,h=>by cases h
 | .ref _,h=>by cases h
 | .lam _ _,h=>by cases h
 | .mt _,h=>by cases h
theorem pzs_ok:∀ {ds:List D},pzs ds=true->∃ ps,toPys ds=some ps/\PyData.canLayAll0 ps=true/\PyData.depthAll ps=dps ds
 | [],_=>⟨[],rfl,rfl,rfl⟩
 | d :: ds,h=>by
  have h:(pz d && pzs ds)=true:=h
  rw [Bool.and_eq_true] at h
  obtain ⟨p,e1,a1,b1⟩:=pz_ok h.1
  obtain ⟨ps,e2,a2,b2⟩:=pzs_ok h.2
  refine ⟨p :: ps,by unfold toPys;rw [e1,e2],?_,?_⟩
  ·show (p.canLay0 && PyData.canLayAll0 ps)=true
   rw [a1,a2];rfl
  ·show max p.depth (PyData.depthAll ps)=max (dp d) (dps ds)
   rw [b1,b2]
end
def pyEq (x y:D):Bool:=match toPy x,toPy y with
 | some p,some q=>PyData.eqv p q
 | _,_=>false
def pyEqs (xs ys:List D):Bool:=match toPys xs,toPys ys with
 | some p,some q=>PyData.eqvAll p q
 | _,_=>false
theorem scal_eq {x y:D} {b:Bool} (h:scalD x y=some b):b=pyEq x y:=by
 cases x <;> cases y <;> first | (cases (show (none:Option Bool)=some b from h)) | skip
 all_goals
  have e':=Option.some.inj h
  subst e'
  first | rfl | (unfold pyEq toPy;simp [PyData.eqv];done) | skip
 all_goals
  show decide _=(_ == _)
  rw [Bool.eq_iff_iff];simp
theorem toPyM_pz {M:Mem} {d:D} (h:pz d=true):toPyM M d=toPy d:=by
 cases d with
 | mt i=>cases h
 | _=>rfl
theorem shaped_of {p:PyData} {d:D} (h1:p.canLay0=true) (h2:p.depth=dp d) (h3:dp d<=64):SeqAt.shaped p=true:=by
 unfold SeqAt.shaped
 rw [h1,decide_eq_true (by omega)];rfl
theorem e_eqP {x y:D} {M:Mem} {Q:VD} (hx:pz x=true) (hy:pz y=true) (dx:dp x<=64) (dy:dp y<=64) (h:Q (.bl (pyEq x y)) M):rEq_ x y M Q:=by
 unfold rEq_
 split
 ·rename_i b e
  rw [scal_eq e];exact h
 ·obtain ⟨p,e1,a1,b1⟩:=pz_ok hx
  obtain ⟨q,e2,a2,b2⟩:=pz_ok hy
  rw [toPyM_pz hx,toPyM_pz hy,e1,e2]
  refine ⟨shaped_of a1 b1 dx,shaped_of a2 b2 dy,?_⟩
  unfold pyEq at h
  rw [e1,e2] at h
  exact h
theorem e_neP {x y:D} {M:Mem} {Q:VD} (hx:pz x=true) (hy:pz y=true) (dx:dp x<=64) (dy:dp y<=64) (h:Q (.bl (!pyEq x y)) M):rNe_ x y M Q:=by
 unfold rNe_
 split
 ·rename_i b e
  rw [scal_eq e];exact h
 ·obtain ⟨p,e1,a1,b1⟩:=pz_ok hx
  obtain ⟨q,e2,a2,b2⟩:=pz_ok hy
  rw [toPyM_pz hx,toPyM_pz hy,e1,e2]
  refine ⟨shaped_of a1 b1 dx,shaped_of a2 b2 dy,?_⟩
  unfold pyEq at h
  rw [e1,e2] at h
  exact h
theorem pyEq_refl {d:D} (h:pz d=true):pyEq d d=true:=by
 obtain ⟨p,e1,a1,b1⟩:=pz_ok h
 unfold pyEq
 rw [e1]
 exact SeqAt.eqv_refl p a1
theorem pyEq_int (i j:Int):pyEq (.int i) (.int j)=decide (i=j):=by
 show (i == j)=decide (i=j)
 rw [Bool.eq_iff_iff];simp
theorem pyEq_tup {xs ys:List D} (hx:pzs xs=true) (hy:pzs ys=true):pyEq (.tup xs) (.tup ys)=pyEqs xs ys:=by
 obtain ⟨p,e1,a1,b1⟩:=pzs_ok hx
 obtain ⟨q,e2,a2,b2⟩:=pzs_ok hy
 have f1:toPy (.tup xs)=some (.tuple p):=by show (toPys xs).map _=_;rw [e1];rfl
 have f2:toPy (.tup ys)=some (.tuple q):=by show (toPys ys).map _=_;rw [e2];rfl
 unfold pyEq pyEqs
 rw [f1,f2,e1,e2]
 rfl
theorem pyEq_lst {xs ys:List D} (hx:pzs xs=true) (hy:pzs ys=true):pyEq (.lst xs) (.lst ys)=pyEqs xs ys:=by
 obtain ⟨p,e1,a1,b1⟩:=pzs_ok hx
 obtain ⟨q,e2,a2,b2⟩:=pzs_ok hy
 have f1:toPy (.lst xs)=some (.list p):=by show (toPys xs).map _=_;rw [e1];rfl
 have f2:toPy (.lst ys)=some (.list q):=by show (toPys ys).map _=_;rw [e2];rfl
 unfold pyEq pyEqs
 rw [f1,f2,e1,e2]
 rfl
theorem pyEqs_cons {x y:D} {xs ys:List D} (h1:pz x=true) (h2:pz y=true) (hx:pzs xs=true) (hy:pzs ys=true):pyEqs (x :: xs) (y :: ys)=(pyEq x y && pyEqs xs ys):=by
 obtain ⟨p,e1,_,_⟩:=pz_ok h1
 obtain ⟨q,e2,_,_⟩:=pz_ok h2
 obtain ⟨ps,e3,_,_⟩:=pzs_ok hx
 obtain ⟨qs,e4,_,_⟩:=pzs_ok hy
 have f1:toPys (x :: xs)=some (p :: ps):=by unfold toPys;rw [e1,e3]
 have f2:toPys (y :: ys)=some (q :: qs):=by unfold toPys;rw [e2,e4]
 unfold pyEqs pyEq
 rw [f1,f2,e1,e2,e3,e4]
 rfl
theorem pyEq_qD (p q:Rat):pyEq (qD p) (qD q)=decide (p=q):=by
 show ((p.num == q.num) && (((p.den:Int) == (q.den:Int)) && true))=decide (p=q)
 rw [Bool.eq_iff_iff]
 simp only [Bool.and_eq_true,beq_iff_eq,decide_eq_true_eq,and_true]
 exact ⟨fun h=>Rat.ext h.1 (by omega),fun h=>by rw [h];exact ⟨rfl,rfl⟩⟩
theorem e_eqq {p q:Rat} {M:Mem} {Q:VD} (h:Q (.bl (decide (p=q))) M):rEq_ (qD p) (qD q) M Q:=e_eqP rfl rfl (by show 1<=64;decide) (by show 1<=64;decide) (by rw [pyEq_qD];exact h)
theorem e_neq {p q:Rat} {M:Mem} {Q:VD} (h:Q (.bl (!decide (p=q))) M):rNe_ (qD p) (qD q) M Q:=e_neP rfl rfl (by show 1<=64;decide) (by show 1<=64;decide) (by rw [pyEq_qD];exact h)
end DL
namespace DL
open PySem PySem.Spec PyProof.Rows L2
abbrev TAKD:=XD->Rho->Mem->(List D->List D->Mem->Prop)->Prop
def fldD (C:Addr) (f:Str) (x:D) (M1:Mem) (Q:VD):Prop:=match insOf M1 x with
 | some (C',fs)=>C'=C/\(match fs.lookup f with
  | some d=>Q d M1
  | none=>False)
 | none=>False
section
variable {X:Cx} {Tb:List (Addr×Str)} {EV:XK} {e o value:Expr} {te to tv:TED} {pos pos':Pos} {f:Str} {C:Addr}
def conD (C:Addr) (f:Str) (d:D) (x:D) (M1:Mem) (Q:VD):Prop:=match insOf M1 x with
 | some (C',fs)=>C'=C/\fs.lookup f=none/\Q d M1
 | none=>False
def CValD (K:PySem.W.Frag) (C:Addr) (f:Str) (d:D):Prop:=∃ v u,ClX.CRead K C (.type "type")/\ClX.CVal K C (.type "type") f v u/\∀ al M H,Rp K al M H d v
def clsD (C:Addr) (x:D) (P:Prop):Prop:=match x with
 | .ref C'=>C'=C/\P
 | _=>False
abbrev dCval (C:Addr) (d:D) (t:TED):TED:=fun E rho M Q=>t E rho M fun x M1=>clsD C x (Q d M1)
theorem dv_cval {d:D} (k:CValD X.K C f d) (he:PD X Tb EV e te) (hb:attributeBase e f X.env (eval e X.env)=eval e X.env:=by rfl):PD X Tb EV (.Attribute e f pos) (dCval C d te):=by
 obtain ⟨v,u,r,k,rd⟩:=k
 refine pe_imp (ClX.pe_cval he hb) fun σ H QV h=>?_
 obtain ⟨al,rho,M,E,Q,a,t,p⟩:=h
 refine seq1 a t fun al1 x M1 vx H1 s1 a1 r1 q1=>?_
 cases x with
 | ref C' =>
  obtain ⟨rfl,q1⟩:=q1
  cases (show vx = .ref C' from r1)
  exact ⟨C',.type "type",v,u,rfl,r,k,p _ _ _ _ _ s1 a1.wf (rd _ _ _) q1⟩
 | _=>exact (show False from q1).elim
end
def isI (C:Addr) (m:Str) (M:Mem) (x:D):Prop:=match insOf M x with
 | some (C',fs)=>C'=C/\fs.lookup m=none
 | none=>False
def dArg (n k:Nat) (is:List Nat) (dds:List D) (dsp:DSp) (pre:List D) (Q:VD) (E:XD) (ds es:List D) (M:Mem):Prop:=ds.length=n/\es.length=k/\dsp (pick is (pre ++ ds ++ dds ++ es)) M Q E
section
variable {X:Cx} {Tb:List (Addr×Str)} {EV:XK} {k n:Nat} {g C:Addr} {fd:FuncData} {ps ks:List Str} {dsp:DSp} {m x:Str} {apos pos p:Pos} {args:List Expr} {kws:List Keyword} {tf:TED} {t:TAKD} {is:List Nat} {dvs:List V} {dds:List D} {fz:Bool}
def isC (C:Addr) (M1:Mem) (x:D):Prop:=match insOf M1 x with
 | some (C',_)=>C'=C
 | none=>False
end
structure ClO (K:PySem.W.Frag) (C:Addr):Prop where
 cls:Cls K C
 ha:PySem.W.findIn K (.ref C) "__class__"=some (some (.builtin "object.__class__"))
 hn:PySem.W.specialIn K (.builtin "object.__class__") "__get__"=some (some (.builtin "getset_descriptor.__get__"))
 tk:PySem.W.takesIn K (.builtin "object.__class__")=some true
 hm:PySem.W.mroIn K C (.type "object")=some true
 ic:(PySem.W.clsIn K C).isSome=true
 ty:PySem.W.typeIn K (.ref C)=some (.type "type")
 ga:PySem.W.specialIn K (.ref C) "__getattribute__"=some (some (.builtin "type.__getattribute__"))
 rd:PySem.W.readsIn K C (.type "type")=true
theorem cloB_ok {K:PySem.W.Frag} {C:Addr} (h:cloB K C=true):ClO K C:=by
 unfold cloB at h
 simp only [Bool.and_eq_true,decide_eq_true_eq] at h
 obtain ⟨h1,h2,h3,h4,h5,h6,h7,h8,h9,h10,h11,h12⟩:=h
 exact ⟨⟨h1,h2,h3,h4⟩,h5,h6,h7,h8,h9,h10,h11,h12⟩
theorem ClO.cr {K:PySem.W.Frag} {C:Addr} (c:ClO K C):ClX.CRead K C (.type "type"):=⟨c.rd,c.ga⟩
def kindD (C:Addr) (M:Mem) (d:D):Option Bool:=match insOf M d with
 | some (C',_)=>if C'=C then some true else none
 | none=>(tyN M d).map fun _=>false
def blQ (g:Bool->Bool) (Q:VD):VD:=fun d M'=>match d with
 | .bl b=>Q (.bl (g b)) M'
 | _=>False
def rEqO (C:Addr) (dsp:DSp):RD2:=fun x y M Q=>match insOf M x with
 | some (C',_)=>C'=C/\(kindD C M y).isSome=true/\dsp [x,y] M (blQ (fun b=>b) Q) (fun _ _=>False)
 | none=>rEq_ x y M Q
def rNeO (C:Addr) (dsp:DSp):RD2:=fun x y M Q=>match insOf M x with
 | some (C',_)=>C'=C/\(kindD C M y).isSome=true/\dsp [x,y] M (blQ (!·) Q) fun _ _=>False
 | none=>rNe_ x y M Q
section
variable {X:Cx} {Tb:List (Addr×Str)} {C:Addr} {dsp:DSp}
variable {EV:XK} {a b:Expr} {ta tb:TED} {pos:Pos} {x qual:Str} {st:Stmt} {dvs:List V} {kws:List (Str×V)} {k:Nat} {ps:List Str}
def rInO1 (C:Addr) (dsp:DSp):RD2:=fun x y M Q=>match insOf M y with
 | some (C',_)=>C'=C/\dsp [y,x] M (blQ (fun b=>b) Q) fun _ _=>False
 | none=>False
def rLenO (C:Addr) (dsp:DSp):RDC:=fun ds M Q=>match ds with
 | [x]=>(match insOf M x with
  | some (C',_)=>C'=C/\dsp [x] M (fun d M'=>match d with
   | .int n=>0<=n/\n < 2 ^ 63/\Q (.int n) M'
   | _=>False) fun _ _=>False
  | none=>rLen_ [x] M Q)
 | _=>False
end
end DL
namespace He
open PySem PySem.Spec PyProof.Rows L2
theorem DefE.funD {K:PySem.W.Frag} {d:DefE} (e:fnE K (d.at_ K)=d.val) (c:d.ok K=true):∃ fd,FunD K d.name d.qual d.params d.body d.scope (d.dvs K) (d.kws K) (d.at_ K) fd:=by
 obtain ⟨kp,c2⟩:=ba c
 unfold fnE at e
 cases q:K.lookup (d.at_ K) with
 | none=>rw [q] at c2;cases c2
 | some o =>
  obtain ⟨oc,od,dt,osl⟩:=o
  rw [q] at c2 e
  cases dt with
  | func fd =>
   obtain ⟨n1,n2,n3,n4,n5,n6,n7,n8,n9,n10,n11,n12,n13,n14,n15⟩:=fd
   have e2:(some (n1,n2,n3,n4,n5,n6,n7,n15):FnW)=some (d.name,d.qual,d.params,.stmts d.body,d.scope,mainGlobals,[],builtinsNs):=e
   simp only [Option.some.injEq,Prod.mk.injEq] at e2
   obtain ⟨a1,a2,a3,a4,a5,a6,a7,a8⟩:=e2
   subst a1 a2 a3 a4 a5 a6 a7 a8
   obtain ⟨k1,k2⟩:=ba (show (PySem.W.codeIn K n13 d.qual && (dflB K n8 (d.dvs K) && kwdB K n9 (d.kws K)))=true from c2)
   obtain ⟨k3,k4⟩:=ba k2
   exact ⟨_,⟨oc,od,n8,n9,n10,n11,n12,n13,n14,osl,rfl,q,k1,dflB_ok k3,kwdB_ok k4⟩,kp⟩
  | _=>cases c2
section
variable {fa:List Fa} {fn:List DefE} {tf:List Defn} {ex:PySem.W.Frag->Bool} {h:Heap} {K:PySem.W.Frag}
theorem SaysY.bools (c:SaysY fa fn tf ex h K):(fa.all fun f=>f.ok K)=true/\fn.all (fun d=>d.ok K)=true/\ex K=true:=by
 have e:((fa.all fun f=>f.ok K) && (fn.all (fun d=>d.ok K) && ex K))=true:=congrArg (fun z:AlY=>z.1) c.t
 obtain ⟨h1,h2⟩:=ba e
 exact ⟨h1,(ba h2).1,(ba h2).2⟩
theorem SaysY.more (c:SaysY fa fn tf ex h K):ex K=true:=c.bools.2.2
theorem SaysY.fact (c:SaysY fa fn tf ex h K) (i:Nat) {f:Fa} (e:fa[i]?=some f:=by rfl):f.ok K=true:=List.all_eq_true.mp c.bools.1 f (List.mem_of_getElem? e)
theorem SaysY.def_ (c:SaysY fa fn tf ex h K) (i:Nat) {d:DefE} (e:fn[i]?=some d:=by rfl):∃ fd,FunD K d.name d.qual d.params d.body d.scope (d.dvs K) (d.kws K) (d.at_ K) fd:=by
 have q:fn.map (fun d=>fnE K (d.at_ K))=fn.map DefE.val:=congrArg (fun z:AlY=>z.2) c.t
 have q2:(fn.map fun d=>fnE K (d.at_ K))[i]?=(fn.map DefE.val)[i]?:=by rw [q]
 rw [List.getElem?_map,List.getElem?_map,e] at q2
 exact DefE.funD (Option.some.inj q2) (List.all_eq_true.mp c.bools.2.1 d (List.mem_of_getElem? e))
end
end He
namespace DL
open PySem PySem.Spec PyProof.Rows L2
theorem lam_codeE {K:PySem.W.Frag} {x qual:Str} {params:Arguments} {body:List Stmt} {scope:Scope} {dvs:List V} {kws:List (Str×V)} {fd:FuncData} {f:Addr} {p:He.Defn} (e:f=He.fAd K p) (F:FunD K x qual params body scope dvs kws f fd):fd.code = .ref (He.codeOf K p):=by
 subst e
 exact lam_code F
theorem cval_of {K:PySem.W.Frag} {C:Addr} {f:Str} {u:Value} {v:V} {d:D} (c:ClO K C) (h:PySem.W.findCls K (.ref C) (.type "type") f=some (.val u)) (rv:RelV v u) (r:∀ al M H,Rp K al M H d v):CValD K C f d:=⟨v,u,c.cr,⟨h,rv⟩,r⟩
def dFmt (t:TED):TED:=fun E rho M Q=>t E rho M fun x M1=>match x with
 | .str y=>y.length<=sizeLine/\Q (.str y) M1
 | .int i=>i.natAbs.log2 < 1920/\Q (.str (toString i)) M1
 | _=>False
def dJs:List TED->Str->XD->Rho->Mem->VD->Prop
 | [],acc,_,_,M,Q=>Q (.str acc) M
 | t :: ts,acc,E,rho,M,Q=>t E rho M fun x M1=>match x with
  | .str y=>(acc ++ y).length<=sizeLine/\dJs ts (acc ++ y) E rho M1 Q
  | _=>False
def jsD (ts:List TED) (acc:Str) (E:XD) (rho:Rho) (Q:VD) (x:D) (M1:Mem):Prop:=match x with
 | .str y=>(acc ++ y).length<=sizeLine/\dJs ts (acc ++ y) E rho M1 Q
 | _=>False
def dJoin (ts:List TED):TED:=fun E rho M Q=>dJs ts Str.empty E rho M Q
section
variable {X:Cx} {Tb:List (Addr×Str)} {EV:XK} {e:Expr} {t:TED} {pos:Pos} {es:List Expr} {ts:List TED} {v1 v2:Expr} {rest:List Expr}
theorem dv_fmt (h:PD X Tb EV e t):PD X Tb EV (.FormattedValue e (-1) none pos) (dFmt t):=pe_imp (pe_fmt h) fun σ H QV q=>by
 obtain ⟨al,rho,M,E,Q,a,t,p⟩:=q
 refine seq1 a t fun al1 x M1 vx H1 s1 a1 r1 q1=>?_
 cases x with
 | str y=>exact .inl ⟨y,r1,q1.1,p _ (.str y) _ _ _ s1 a1.wf rfl q1.2⟩
 | int i=>exact .inr ⟨i,r1,q1.1,p _ (.str _) _ _ _ s1 a1.wf rfl q1.2⟩
 | _=>exact (show False from q1).elim
abbrev PDJ (X:Cx) (Tb:List (Addr×Str)) (EV:XK) (es:List Expr) (ts:List TED):Prop:=PJ X es (ts.map fun t=>lift X.K Tb EV t)
theorem dj_nil:PDJ X Tb EV [] []:=.nil
theorem dj_cons (h:PD X Tb EV e t) (r:PDJ X Tb EV es ts):PDJ X Tb EV (e :: es) (t :: ts):=.cons h r
theorem js_lift {K:PySem.W.Frag} {σ:L2.St}:∀ (ts:List TED) (acc:Str) {al:Al} {H:Hp} {rho:Rho} {M:Mem} {E:XD} {Q:VD} {QV:VK},At K Tb EV al σ H rho M E->dJs ts acc E rho M Q->PostV K Tb al M H Q QV->tJs (ts.map fun t=>lift K Tb EV t) acc σ H fun out H1=>QV (.str out) H1
 | [],acc,al,H,rho,M,E,Q,QV,a,h,p=>p _ (.str acc) _ _ _ (Stp.refl ..) a.wf rfl h
 | t :: ts,acc,al,H,rho,M,E,Q,QV,a,h,p=>by
  refine seq1 a h fun al1 x M1 vx H1 s1 a1 r1 q1=>?_
  cases x with
  | str y=>exact ⟨y,r1,q1.1,js_lift ts (acc ++ y) a1 q1.2 (p.mono s1)⟩
  | _=>exact (show False from q1).elim
theorem dv_js (h:PDJ X Tb EV (v1 :: v2 :: rest) ts):PD X Tb EV (.JoinedStr (v1 :: v2 :: rest) pos) (dJoin ts):=pe_imp (pe_joined h) fun σ H QV q=>by
 obtain ⟨al,rho,M,E,Q,a,t,p⟩:=q
 exact js_lift ts Str.empty a t p
end
theorem cc_cls {K:PySem.W.Frag} {h:Heap} {mg:Str->Option Value} (X:K.In h) (G:h.Ns mainGlobals mg) {x:Str} (c:(He.Fa.glo x).ok K=true):CcD K mg x (.ref (He.ga K x)):=⟨.ref (He.ga K x),.ref (He.ga K x),He.glo_ok X G c,rfl,fun _ _ _=>rfl⟩
end DL
namespace DL
open PySem PySem.Spec PyProof.Rows L2 Mt
section
variable {E:XD} {DD:DEnds} {rho:Rho} {M:Mem} {Q:VD} {ta tb to tf:TED} {aa ak:TAD} {t:TAKD} {dsp:DSp} {C:Addr} {f m:Str} {d x y:D} {ns:List Str} {xs ds es dds pre:List D} {n k i:Nat} {is:List Nat} {N:Mem->Prop} {P:Prop} {fz:Bool} {R:List D->List D->Mem->Prop}
theorem e_fldo (e:(ns.zip xs).lookup f=some d) (h:Q d M):fldD C f (.obj C ns xs) M Q:=by
 unfold fldD
 simp only [insOf,e]
 first | exact ⟨rfl,h⟩ | exact ⟨trivial,h⟩
theorem e_cono (e:(ns.zip xs).lookup f=none) (h:Q d M):conD C f d (.obj C ns xs) M Q:=by
 unfold conD
 simp only [insOf,e]
 first | exact ⟨rfl,trivial,h⟩ | exact ⟨trivial,trivial,h⟩ | exact ⟨rfl,rfl,h⟩
theorem e_cls (h:P):clsD C (.ref C) P:=⟨rfl,h⟩
theorem e_isi (e:(ns.zip xs).lookup m=none) (h:P):isI C m M (.obj C ns xs)/\P:=⟨⟨rfl,e⟩,h⟩
theorem e_arg (h1:ds.length=n) (h2:es.length=k) (h:dsp (pick is (pre ++ ds ++ dds ++ es)) M Q E):dArg n k is dds dsp pre Q E ds es M:=⟨h1,h2,h⟩
theorem e_isc (h:P):isC C M (.obj C ns xs)/\P:=⟨rfl,h⟩
theorem e_fmt (h:ta E rho M fun x M1=>match x with
 | .str y=>y.length<=sizeLine/\Q (.str y) M1
 | .int i=>i.natAbs.log2 < 1920/\Q (.str (toString i)) M1
 | _=>False):dFmt ta E rho M Q:=h
theorem e_eqO (e:insOf M x=none) (h:rEq_ x y M Q):rEqO C dsp x y M Q:=by unfold rEqO;rw [e];exact h
theorem e_neO (e:insOf M x=none) (h:rNe_ x y M Q):rNeO C dsp x y M Q:=by unfold rNeO;rw [e];exact h
theorem e_eqOo (e:(kindD C M y).isSome=true) (h:dsp [.obj C ns xs,y] M (blQ (fun b=>b) Q) fun _ _=>False):rEqO C dsp (.obj C ns xs) y M Q:=⟨rfl,e,h⟩
theorem e_neOo (e:(kindD C M y).isSome=true) (h:dsp [.obj C ns xs,y] M (blQ (!·) Q) fun _ _=>False):rNeO C dsp (.obj C ns xs) y M Q:=⟨rfl,e,h⟩
theorem e_inO (h:dsp [.obj C ns xs,x] M (blQ (fun b=>b) Q) fun _ _=>False):rInO1 C dsp x (.obj C ns xs) M Q:=⟨rfl,h⟩
theorem e_blq {g:Bool->Bool} {b:Bool} (h:Q (.bl (g b)) M):blQ g Q (.bl b) M:=h
theorem kind_obj:kindD C M (.obj C ns xs)=some true:=by
 unfold kindD insOf
 simp
end
theorem cutx_app {E:XD} {x:Exn} {M L:Mem} (ok:okM M.length M) (hb:D.hbs M.length (x.fs.map (·.2))=true) (h:E x M):CutX M.length E x (M ++ L) :=
 ⟨hb,fun i mo hi e=>ok i mo hi (by rw [List.getElem?_append_left hi] at e;exact e),by rw [List.take_left'];exact h;rfl⟩
def rIsB_:RD2:=fun x y M Q=>match x,y with
 | .bl a,.bl b=>Q (.bl (decide (a=b))) M
 | _,_=>False
def rIsNotB_:RD2:=fun x y M Q=>match x,y with
 | .bl a,.bl b=>Q (.bl (!decide (a=b))) M
 | _,_=>False
theorem e_isB {a b:Bool} {M:Mem} {Q:VD} (h:Q (.bl (decide (a=b))) M):rIsB_ (.bl a) (.bl b) M Q:=h
theorem e_isnotB {a b:Bool} {M:Mem} {Q:VD} (h:Q (.bl (!decide (a=b))) M):rIsNotB_ (.bl a) (.bl b) M Q:=h
theorem Rg1.to {M M' M'':Mem} (g:Rg1 M M') (t:RgTo M' M.length M''):Rg1 M M'':=by
 obtain ⟨r,ok,rfl⟩:=g
 exact t.last
theorem Rg1.cut {M M':Mem} {Q:VD} {d:D} (g:Rg1 M M') (h:d.hb M.length=true) (ok:okM M.length M) (q:Q d M):Cut M.length Q d M':=by
 obtain ⟨r,_,rfl⟩:=g
 exact Cut.app h ok q
theorem str_assoc (x y z:Str):(x ++ y) ++ z=x ++ (y ++ z):=by
 obtain ⟨a⟩:=x
 obtain ⟨b⟩:=y
 obtain ⟨c⟩:=z
 show Str.mk ((a ++ b) ++ c)=Str.mk (a ++ (b ++ c))
 rw [Array.append_assoc]
theorem str_nil (x:Str):Str.empty ++ x=x:=by
 obtain ⟨a⟩:=x
 show Str.mk (#[] ++ a)=Str.mk a
 rw [Array.empty_append]
theorem str_nil2 (x:Str):x ++ (Str.ofString "")=x:=by
 obtain ⟨a⟩:=x
 show Str.mk (a ++ #[])=Str.mk a
 rw [Array.append_empty]
theorem str_len (x y:Str):(x ++ y).length=x.length+y.length:=by
 obtain ⟨a⟩:=x
 obtain ⟨b⟩:=y
 show (a ++ b).size=a.size+b.size
 rw [Array.size_append]
def itx (i:Int):Str:=Str.ofString (toString i)
theorem itx_len {i:Int} (h:bz i<=1900):(itx i).length<=1921:=int_text_len_1921 (by have:=log2_bs i.natAbs;unfold bz at h;omega)
theorem lg_of {i:Int} (h:bz i<=1900):i.natAbs.log2 < 1920:=by have:=log2_bs i.natAbs;unfold bz at h;omega
def qtx (q:Rat):Str:=if q.den=1 then itx q.num else itx q.num ++ (Str.ofString "/" ++ itx q.den)
theorem e_str {i:Int} {M:Mem} {Q:VD} (h0:i.natAbs.log2 < 1920) (h:Q (.str (itx i)) M):rStr_ [.int i] M Q:=⟨h0,h⟩
theorem e_js0 {acc:Str} {E:XD} {rho:Rho} {M:Mem} {Q:VD} (h:Q (.str acc) M):dJs [] acc E rho M Q:=h
theorem e_js1 {t:TED} {ts:List TED} {acc:Str} {E:XD} {rho:Rho} {M:Mem} {Q:VD} (h:t E rho M fun x M1=>jsD ts acc E rho Q x M1):dJs (t :: ts) acc E rho M Q:=h
theorem e_jsd {ts:List TED} {acc y:Str} {E:XD} {rho:Rho} {M:Mem} {Q:VD} (h0:(acc ++ y).length<=sizeLine) (h:dJs ts (acc ++ y) E rho M Q):jsD ts acc E rho Q (.str y) M:=⟨h0,h⟩
theorem e_join0 {ts:List TED} {E:XD} {rho:Rho} {M:Mem} {Q:VD} (h:dJs ts Str.empty E rho M Q):dJoin ts E rho M Q:=h
theorem e_eqs {a b:Str} {M:Mem} {Q:VD} (h:Q (.bl (decide (a=b))) M):rEq_ (.str a) (.str b) M Q:=h
theorem e_nes {a b:Str} {M:Mem} {Q:VD} (h:Q (.bl (!decide (a=b))) M):rNe_ (.str a) (.str b) M Q:=h
end DL
namespace DL
open PySem PySem.Spec PyProof.Rows L2
def isRf:D->Bool
 | .obj _ _ _=>true
 | .mt _=>true
 | _=>false
theorem e_isrf {C:Addr} {ns:List Str} {xs:List D} {P:Prop} (h:P):isRf (.obj C ns xs)=true/\P:=⟨rfl,h⟩
def fzD (x:D) (M:Mem) (Q:VD):Prop:=match x with
 | .mt i=>(match memL M i with
  | some xs=>Q (.lst xs) (M.set i none)
  | none=>Q (.mt i) M)
 | x=>Q x M
theorem e_fzl {xs:List D} {M:Mem} {Q:VD} (h:Q (.lst xs) M):fzD (.lst xs) M Q:=h
theorem RgL.to {M L M' M'':Mem} (g:RgL M L M') (t:RgTo M' M.length M''):RgL M L M'':=by
 obtain ⟨r,ok,rfl⟩:=g
 obtain ⟨q,ok2,rfl⟩:=t
 exact ⟨q,ok2,by rw [List.set_append_right _ _ (Nat.le_refl _)];simp⟩
theorem RgL.cut {M L M':Mem} {Q:VD} {d:D} (g:RgL M L M') (h:d.hb M.length=true) (ok:okM M.length M) (q:Q d M):Cut M.length Q d M':=by
 obtain ⟨r,_,rfl⟩:=g
 exact Cut.app h ok q
end DL
namespace DL
open PySem PySem.Spec PyProof.Rows L2 Mt
section
variable {E:XD} {rho:Rho} {M:Mem} {Q:VD} {N:Rho->Mem->Prop} {t:TGsD} {q:Rat} {xs:List D} {lo hi:Option Int} {i:Int}
theorem e_htq (h:t [.int q.num,.int q.den] E rho M N):hTup 2 t (qD q) E rho M N:=⟨rfl,h⟩
theorem e_abs (h:Q (.int i.natAbs) M):rAbs_ [.int i] M Q:=h
theorem e_tpl (h:Q (.tup xs) M):rTuple_ [.lst xs] M Q:=h
theorem e_tpt (h:Q (.tup xs) M):rTuple_ [.tup xs] M Q:=h
theorem e_lsl (h:Q (.lst xs) M):rList_ [.lst xs] M Q:=h
theorem e_lst' (h:Q (.lst xs) M):rList_ [.tup xs] M Q:=h
theorem e_slnil (h:Q (.lst []) M):rSl_ (.lst []) lo hi M Q:=by
 have e:cutL ([]:List D) lo hi=[]:=by simp [cutL]
 show Q (.lst (cutL [] lo hi)) M
 rw [e];exact h
end
def rRep_:RD2:=fun x y M Q=>match y with
 | .int k=>(match asL M x with
  | some xs=>(-(2 ^ 63)<=k/\k < 2 ^ 63/\xs.length * k.toNat<=sizeLine)/\Q (.lst (List.replicate k.toNat xs).flatten) M
  | none=>False)
 | _=>False
theorem Rps.rep {K:PySem.W.Frag} {al:Al} {M:Mem} {H:Hp} {ds:List D} {xs:List V} (r:Rps K al M H ds xs):∀ n:Nat,Rps K al M H (List.replicate n ds).flatten (List.replicate n xs).flatten
 | 0=>rfl
 | n+1=>by
  rw [List.replicate_succ,List.replicate_succ,List.flatten_cons,List.flatten_cons]
  exact r.append (Rps.rep r n)
theorem ref_rep {X:Cx} {Tb:List (Addr×Str)}:RefOp X.K Tb L2.rRep rRep_:=by
 intro al M H x y dx dy Q QV w rx ry h p
 unfold rRep_ at h
 split at h
 ·rename_i k
  split at h
  ·rename_i xs e1
   obtain ⟨b,ys,rfl,h1,h2⟩:=asL_ok w e1 rx
   refine ⟨b,k,ys,rfl,ry,h1,h.1.1,h.1.2.1,by rw [<- h2.length];exact h.1.2.2,fun q hq=>?_⟩
   exact p _ _ _ _ _ (stp_new w hq _) (wf_new w hq _) (rp_lst w hq (h2.rep _)) h.2
  ·exact h.elim
 ·exact h.elim
theorem dv_rep {X:Cx} {Tb:List (Addr×Str)} {EV:XK} {a b:Expr} {ta tb:TED} {pos:Pos} (ha:PD X Tb EV a ta) (hb:PD X Tb EV b tb):PD X Tb EV (.BinOp a .Mult b pos) (dOp rRep_ ta tb):=dv_op op_rep ref_rep ha hb
theorem e_rep {xs:List D} {k:Int} {M:Mem} {Q:VD} (h0:-(2 ^ 63)<=k/\k < 2 ^ 63/\xs.length * k.toNat<=sizeLine) (h:Q (.lst (List.replicate k.toNat xs).flatten) M):rRep_ (.lst xs) (.int k) M Q:=⟨h0,h⟩
theorem e_addl {xs ys:List D} {M:Mem} {Q:VD} (h0:xs.length+ys.length<=sizeLine) (h:Q (.lst (xs ++ ys)) M):rAdd_ (.lst xs) (.lst ys) M Q:=⟨h0,h⟩
theorem e_tyL {i:Nat} {xs:List D} {M:Mem} {P:Prop} (e:M[i]?=some (some (.lst xs))) (h:P):tyB "list" M (.mt i)=true/\P:=⟨by
 show (tyM M[i]? == some "list")=true
 rw [e];exact beq_self_eq_true _,h⟩
theorem e_app {i:Nat} {xs:List D} {y:D} {M:Mem} {Q:VD} (e:M[i]?=some (some (.lst xs))) (hl:xs.length < sizeLine) (h:Q .non (M.set i (some (.lst (xs ++ [y]))))):rApp_ (.mt i) [y] M Q:=by
 show (match memL M i with
  | some xs=>xs.length < sizeLine/\Q .non (M.set i (some (.lst (xs ++ [y]))))
  | none=>False)
 rw [memL_at e]
 exact ⟨hl,h⟩
end DL
namespace ZN
open PySem PySem.Spec PyProof.Rows L2
open PySem.Sem (wp)
def Sb.Base (h:Heap) (xs:Array Value):Sb->Prop
 | ⟨true,_,l⟩=>h.IsTuple l xs
 | ⟨false,_,l⟩=>h.IsList l xs
theorem Sb.At.to {h h':Heap} {k:Nat} {b:Sb} (x:b.At h k) (e:∀ o,h.get? b.it=some o->h'.get? b.it=some o):b.At h' k:=by
 obtain ⟨tp,it,l⟩:=b
 cases tp
 ·exact Heap.IsListIter.at x e
 ·exact Heap.IsTupleIter.at x e
theorem Sb.Base.to {h h':Heap} {xs:Array Value} {b:Sb} (x:b.Base h xs) (e:∀ o,h.get? b.l=some o->h'.get? b.l=some o):b.Base h' xs:=by
 obtain ⟨tp,it,l⟩:=b
 cases tp
 ·exact Heap.IsList.at x e
 ·exact Heap.IsTuple.at x e
abbrev IsT (h:Heap) (T:Addr) (vs:List Value):Prop:=h.get? T=some { cls:=.type "tuple",data:=.seq ⟨vs⟩ }
end ZN
namespace DL
open PySem PySem.Spec PyProof.Rows L2 ZN
def SqXz (K:PySem.W.Frag) (al:Al) (M:Mem) (H:Hp) (xs:List V):Bool×Addr->Prop
 | (true,a)=>SqTz K al M H a xs
 | (false,a)=>SqLz K al M H a xs
section
variable {K:PySem.W.Frag} {Tb:List (Addr×Str)} {al al':Al} {M M':Mem} {H H':Hp}
theorem SqXz.sq {xs:List V} {t:Bool×Addr} (h:SqXz K al M H xs t):SqX K H xs t:=by
 obtain ⟨tp,a⟩:=t
 cases tp
 ·exact SqLz.sq h
 ·exact SqTz.sq h
theorem SqXz.monow {xs:List V} {t:Bool×Addr} (s:Stw al M H al' M' H') (h:SqXz K al M H xs t):SqXz K al' M' H' xs t:=by
 obtain ⟨tp,a⟩:=t
 cases tp
 ·exact SqLz.monow s h
 ·exact SqTz.monow s h
def zip2D (xs ys:List D):List D:=List.zipWith (fun a b=>D.tup [a,b]) xs ys
def zip3D (xs ys zs:List D):List D:=List.zipWith (fun a (p:D×D)=>D.tup [a,p.1,p.2]) xs (List.zip ys zs)
end
def iZip2 (t:TAD):TID:=fun E rho M Q=>t E rho M fun ds M1=>match ds with
 | [x,y]=>∃ xs ys,asS x=some xs/\asS y=some ys/\Q (zip2D xs ys) M1
 | _=>False
def iZip3 (t:TAD):TID:=fun E rho M Q=>t E rho M fun ds M1=>match ds with
 | [x,y,z]=>∃ xs ys zs,asS x=some xs/\asS y=some ys/\asS z=some zs/\Q (zip3D xs ys zs) M1
 | _=>False
section
variable {X:Cx} {Tb:List (Addr×Str)} {EV:XK} {a b c:Expr} {ta:TAD} {p pos tpos:Pos} {elts:List Expr} {kk:Nat}
theorem e_zip2 {E:XD} {rho:Rho} {M:Mem} {I:List D->Mem->Prop} (h:ta E rho M fun ds M1=>match ds with
 | [x,y]=>∃ xs ys,asS x=some xs/\asS y=some ys/\I (zip2D xs ys) M1
 | _=>False):iZip2 ta E rho M I:=h
theorem e_zip3 {E:XD} {rho:Rho} {M:Mem} {I:List D->Mem->Prop} (h:ta E rho M fun ds M1=>match ds with
 | [x,y,z]=>∃ xs ys zs,asS x=some xs/\asS y=some ys/\asS z=some zs/\I (zip3D xs ys zs) M1
 | _=>False):iZip3 ta E rho M I:=h
end
end DL
namespace DL
open PySem PySem.Spec PyProof.Rows L2 Mt
theorem e_slt {xs ys:List D} {lo hi:Option Int} {M:Mem} {Q:VD} (e:cutL xs lo hi=ys) (h:Q (.tup ys) M):rSl_ (.tup xs) lo hi M Q:=by subst e;exact h
theorem e_sll {xs ys:List D} {lo hi:Option Int} {M:Mem} {Q:VD} (e:cutL xs lo hi=ys) (h:Q (.lst ys) M):rSl_ (.lst xs) lo hi M Q:=by subst e;exact h
theorem e_addt {xs ys:List D} {M:Mem} {Q:VD} (h0:xs.length+ys.length<=sizeLine) (h:Q (.tup (xs ++ ys)) M):rAdd_ (.tup xs) (.tup ys) M Q:=⟨h0,h⟩
theorem for_list {α:Type} {g:TGD} {tb:TSD} {E:XD} {DD:DEnds} {rho:Rho} {M:Mem} (e:α->D) (cs:List α) (Pv:List α->Rho->Mem->Prop) (h0:Pv cs rho M)
  (hs:∀ c r rho M (N:Rho->Mem->Prop),Pv (c :: r) rho M->(∀ rho' M',Pv r rho' M'->N rho' M')->g (e c) E rho M fun rho' M'=>tb E { DD with nx:=N,ct:=N,bk:=DD.nx } rho' M')
  (hd:∀ rho M,Pv [] rho M->DD.nx rho M):forU g tb (cs.map e) E DD rho M:=by
 refine for_inv (fun ds rho M=>∃ r:List α,ds=r.map e/\Pv r rho M) ?_ ?_ _ _ _ ⟨cs,rfl,h0⟩
 ·rintro d r rho M N ⟨l,h,p⟩ hN
  cases l with
  | nil=>cases h
  | cons c l =>
   cases h
   exact hs c l rho M N p fun rho' M' h'=>hN rho' M' ⟨l,rfl,h'⟩
 ·rintro rho M ⟨l,h,p⟩
  cases l with
  | nil=>exact hd rho M p
  | cons c l=>cases h
theorem cut_from {α:Type} {xs:List α} (n:Nat):cutL xs (some (n:Int)) none=xs.drop n:=by
 unfold cutL
 rw [HT.sIx_nat,HT.sIx_none]
 rcases Nat.le_total n xs.length with h | h
 ·rw [Nat.min_eq_left h,List.take_of_length_le (by simp)]
 ·rw [Nat.min_eq_right h,List.drop_of_length_le (Nat.le_refl _),List.drop_of_length_le h,List.take_nil]
theorem e_forS {P:D} {xs:List D} {g:TGD} {tb:TSD} {E:XD} {DD:DEnds} {rho:Rho} {M:Mem} (h:asS P=some xs) (q:forU g tb xs E DD rho M):(match (generalizing:=false) P with
 | .lst xs=>forU g tb xs E DD rho M
 | .rol xs=>forU g tb xs E DD rho M
 | .tup xs=>forU g tb xs E DD rho M
 | .str z=>forU g tb (signsD z) E DD rho M
 | _=>False):=by
 cases P <;> first | (cases h;done) | (cases h;exact q)
theorem e_htpt {E:XD} {rho:Rho} {M:Mem} {N:Rho->Mem->Prop} {t:TGsD} {q:Pt} (h:t [qD q.a,qD q.l,qD q.v,qD q.r] E rho M N):hTup 4 t (ptD q) E rho M N:=⟨rfl,h⟩
theorem e_ixpt {M:Mem} {Q:VD} {q:Pt} {k:Int} {d:D} (e:L2.atI [qD q.a,qD q.l,qD q.v,qD q.r] k=some d) (h:Q d M):rIx_ (ptD q) (.int k) M Q:=e_ix rfl e h
theorem at_0 {α:Type} {x:α} {xs:List α}:L2.atI (x :: xs) 0=some x:=at_nat (xs:=x :: xs) (j:=0) (by simp)
theorem hbs_map {α:Type} {n:Nat} {e:α->D} (h:∀ a,(e a).hb n=true):∀ l:List α,D.hbs n (l.map e)=true
 | []=>rfl
 | a :: l=>by
  show ((e a).hb n && D.hbs n (l.map e))=true
  rw [h a,hbs_map h l];rfl
abbrev cvN:List Str:=["period","rise","row","slope","base","form","offset"]
def formD (c:Crv):D:=.tup [qD c.p,qD c.r,.tup (c.row.map ptD),qD (if c.row=[] then c.b else 0)]
noncomputable def crvD (K:PySem.W.Frag) (c:Crv):D:=.obj (He.ga K "Curve") cvN [qD c.p,qD c.r,.tup (c.row.map ptD),qD c.s,qD c.b,formD c,qD (c.arn 0).v]
theorem pyEqs_nil_cons {y:D} {ys:List D} (h1:pz y=true) (h2:pzs ys=true):pyEqs [] (y :: ys)=false/\pyEqs (y :: ys) []=false:=by
 obtain ⟨q,e2,_,_⟩:=pz_ok h1
 obtain ⟨qs,e4,_,_⟩:=pzs_ok h2
 have f2:toPys (y :: ys)=some (q :: qs):=by unfold toPys;rw [e2,e4]
 unfold pyEqs
 rw [f2]
 exact ⟨rfl,rfl⟩
theorem hb_row {n:Nat} {l:List Pt}:(D.tup (l.map ptD)).hb n=true:=hbs_map (fun _=>rfl) l
theorem hb_form {n:Nat} {c:Crv}:(formD c).hb n=true:=by
 show ((qD c.p).hb n && ((qD c.r).hb n && ((D.tup (c.row.map ptD)).hb n && ((qD (if c.row=[] then c.b else 0)).hb n && true))))=true
 rw [hb_row];rfl
theorem hbs_crv {n:Nat} {c:Crv}:D.hbs n [qD c.p,qD c.r,.tup (c.row.map ptD),qD c.s,qD c.b,formD c,qD (c.arn 0).v]=true:=by
 show ((qD c.p).hb n && ((qD c.r).hb n && ((D.tup (c.row.map ptD)).hb n && ((qD c.s).hb n && ((qD c.b).hb n && ((formD c).hb n && ((qD (c.arn 0).v).hb n && true)))))))=true
 rw [hb_row,hb_form];rfl
theorem hb_crv {K:PySem.W.Frag} {n:Nat} {c:Crv}:(crvD K c).hb n=true:=hbs_crv
noncomputable abbrev cvX (c:Crv):List D:=[qD c.p,qD c.r,.tup (c.row.map ptD),qD c.s,qD c.b,formD c,qD (c.arn 0).v]
section
variable {K:PySem.W.Frag} {M:Mem} {Q:VD} {c:Crv} {f m:Str} {d:D} {P:Prop} {k:Int} {a:Arn} {E:XD} {rho:Rho} {N:Rho->Mem->Prop} {t:TGsD}
theorem e_fldC (e:(cvN.zip (cvX c)).lookup f=some d) (h:Q d M):fldD (He.ga K "Curve") f (crvD K c) M Q:=e_fldo e h
theorem e_isiK (e:(cvN.zip (cvX c)).lookup m=none) (h:P):isI (He.ga K "Curve") m M (crvD K c)/\P:=e_isi e h
theorem e_conC (e:(cvN.zip (cvX c)).lookup f=none) (h:Q d M):conD (He.ga K "Curve") f d (crvD K c) M Q:=e_cono e h
def arnD (a:Arn):D:=.tup [qD a.l,qD a.v,qD a.r,qD a.sb,qD a.sa]
theorem e_ixar (e:L2.atI [qD a.l,qD a.v,qD a.r,qD a.sb,qD a.sa] k=some d) (h:Q d M):rIx_ (arnD a) (.int k) M Q:=e_ix rfl e h
theorem e_htar (h:t [qD a.l,qD a.v,qD a.r,qD a.sb,qD a.sa] E rho M N):hTup 5 t (arnD a) E rho M N:=⟨rfl,h⟩
end
theorem num_pos {q:Rat}:0 < q.num ↔ 0 < q:=by
 have h:=Rat.lt_iff (a:=0) (b:=q)
 rw [h]
 simp
mutual
theorem Rp.more {K:PySem.W.Frag} {al:Al} {M M':Mem} {H:Hp} (m:More al M M' H):∀ {d:D} {v:V},d.nl=true->Rp K al M H d v->Rp K al M' H d v
 | .non,_,_,h=>h
 | .bl _,_,_,h=>h
 | .int _,_,_,h=>h
 | .str _,_,_,h=>h
 | .ty _,_,_,h=>h
 | .tup ds,_,l,h=>by
  obtain ⟨a,xs,e,q,r⟩:=h
  refine ⟨a,xs,e,?_,Rps.more m l r⟩
  rcases q with ⟨q,f⟩ | q
  ·exact .inl ⟨q,m.fz q (fun _ z=>by cases z) (fun _ z=>by cases z) f⟩
  ·exact .inr q
 | .lst ds,_,l,h=>by cases l
 | .rol ds,_,l,h=>by cases l
 | .obj C ns ds,_,l,h=>by
  obtain ⟨a,dx,xs,e,q,f,g,r⟩:=h
  exact ⟨a,dx,xs,e,q,m.fz q (fun _ z=>by cases z) (fun _ z=>by cases z) f,g,Rps.more m l r⟩
 | .dk C ds,_,l,h=>by cases l
 | .dt C ds,_,l,h=>by
  obtain ⟨a,dx,xs,e,q,f,g,r⟩:=h
  exact ⟨a,dx,xs,e,q,m.fz q (fun _ z=>by cases z) (fun _ z=>by cases z) f,g,Rps.more m l r⟩
 | .exc C ns ds,_,l,h=>by
  obtain ⟨a,dx,xs,e,q,f,q2,f2,g,r⟩:=h
  exact ⟨a,dx,xs,e,q,m.fz q (fun _ z=>by unfold exs at z;cases z) (fun _ z=>by unfold exs at z;cases z) f,q2,m.fz q2 (fun _ z=>by cases z) (fun _ z=>by cases z) f2,g,Rps.more m l r⟩
 | .lam _ _,_,_,h=>⟨h.1,fun x hx=>⟨(h.2 x hx).1,m.fz (h.2 x hx).1 (fun _ z=>by cases z) (fun _ z=>by cases z) (h.2 x hx).2⟩⟩
 | .ref _,_,_,h=>h
 | .mt i,_,_,h=>h
theorem Rps.more {K:PySem.W.Frag} {al:Al} {M M':Mem} {H:Hp} (m:More al M M' H):∀ {ds:List D} {xs:List V},D.nls ds=true->Rps K al M H ds xs->Rps K al M' H ds xs
 | [],_,_,h=>h
 | d :: ds,_,l,h=>by
  obtain ⟨x,r,e,q,t⟩:=h
  have l:(d.nl && D.nls ds)=true:=l
  rw [Bool.and_eq_true] at l
  exact ⟨x,r,e,Rp.more m l.1 q,Rps.more m l.2 t⟩
end
def lendD (M:Mem) (n:Nat):D->D
 | .mt i=>if i < n then (match M[i]? with
  | some (some (.lst xs))=>.lst xs
  | _=>.mt i) else .mt i
 | d=>d
def lendSp (dsp:DSp):DSp:=fun ds M Q E=>dsp ds M Q E\/∃ n,n<=M.length/\(∀ (j:Nat) (mo:MO),j < n->M[j]?=some (some mo)->mo.isL=true) /\
 dsp (ds.map (lendD M n)) (dead n M) (fun d M'=>d.nl=true/\LendOk n M M'/\Q d (back n M M')) (fun x M'=>D.nls (x.fs.map (·.2))=true/\LendOk n M M'/\E x (back n M M'))
section
variable {K:PySem.W.Frag} {Tb:List (Addr×Str)} {al:Al} {M:Mem} {H:Hp} {n:Nat}
theorem dead_len (h:n<=M.length):(dead n M).length=M.length:=by
 unfold dead
 rw [List.length_append,List.length_map,List.length_take,List.length_drop]
 omega
theorem dead_ge (h:n<=M.length) {j:Nat} (hj:n<=j):(dead n M)[j]?=M[j]?:=by
 unfold dead
 rw [List.getElem?_append_right (by rw [List.length_map,List.length_take];omega),List.length_map,List.length_take,List.getElem?_drop]
 congr 1
 omega
theorem fz_dead (h:n<=M.length) {b:Addr} (f:Fz al M b):Fz al (dead n M) b :=
 ⟨f.1,fun j mo e1 e2=>by
  by_cases hj:j < n
  ·rw [dead_lt h hj] at e2;cases e2
  ·rw [dead_ge h (by omega)] at e2;exact f.2 j mo e1 e2⟩
theorem stp_dead (h:n<=M.length):Stp al M H al (dead n M) H:=⟨fun _ _ e=>e,fun b o e _ f=>⟨e,fz_dead h f⟩,rfl,fun _ _=>rfl⟩
theorem wf_dead (w:Wf K Tb al H M) (h:n<=M.length):Wf K Tb al H (dead n M) :=
 ⟨by rw [dead_len h];exact w.len,w.nd,fun j b mo e1 e2=>by
   by_cases hj:j < n
   ·rw [dead_lt h hj] at e2;cases e2
   ·rw [dead_ge h (by omega)] at e2
    have r:=w.rep j b mo e1 e2
    have s:Stp al M H al (dead n M) H:=stp_dead h
    cases mo with
    | lst ds=>obtain ⟨zs,h1,h2⟩:=r;exact ⟨zs,h1,h2.mono s⟩
    | dK kvs=>obtain ⟨zs,h1,h2⟩:=r;exact ⟨zs,h1,h2.mono s⟩
    | dT ks ds=>obtain ⟨zs,h1,h2⟩:=r;exact ⟨zs,h1,h2.mono s⟩
    | ins C fs=>obtain ⟨dx,zs,h1,h2⟩:=r;exact ⟨dx,zs,h1,h2.mono s⟩,
  w.there,w.tb,w.hth,fun j b mo e1 e2=>by
   by_cases hj:j < n
   ·rw [dead_lt h hj] at e2;cases e2
   ·rw [dead_ge h (by omega)] at e2;exact w.hdis j b mo e1 e2⟩
theorem fz_rest (w:Wf K Tb al H M) (h:n<=M.length) {i:Nat} {a:Addr} {mo:MO} (hi:i < n) (e:al.a[i]?=some a) (hm:M[i]?=some (some mo)):Fz al (dead n M) a :=
 ⟨w.hdis i a mo e hm,fun j mo' e1 e2=>by
  have hij:i=j:=by
   have h1:=List.getElem?_eq_some_iff.mp e
   have h2:=List.getElem?_eq_some_iff.mp e1
   exact (List.getElem_inj w.nd).mp (h1.2.trans h2.2.symm)
  subst hij
  rw [dead_lt h hi] at e2;cases e2⟩
theorem lend_rp (w:Wf K Tb al H M) (h:n<=M.length) {d:D} {v:V} (r:Rp K al M H d v):Rp K al (dead n M) H (lendD M n d) v:=by
 have s:Stp al M H al (dead n M) H:=stp_dead h
 cases d with
 | mt i =>
  show Rp K al (dead n M) H (if i < n then (match M[i]? with
   | some (some (.lst xs))=>.lst xs
   | _=>.mt i) else .mt i) v
  by_cases hi:i < n
  ·rw [if_pos hi]
   split
   ·rename_i xs e
    obtain ⟨a,ea,rfl⟩:=r
    obtain ⟨zs,h1,h2⟩:=w.rep i a _ ea e
    exact ⟨a,zs,rfl,h1,fz_rest w h hi ea e,h2.mono s⟩
   ·exact r.mono s
  ·rw [if_neg hi];exact r.mono s
 | _=>exact r.mono s
theorem lend_rps (w:Wf K Tb al H M) (h:n<=M.length):∀ {ds:List D} {vs:List V},Rps K al M H ds vs->Rps K al (dead n M) H (ds.map (lendD M n)) vs
 | [],_,r=>r
 | d :: ds,_,r=>by
  obtain ⟨x,t,e,q,u⟩:=r
  exact ⟨x,t,e,lend_rp w h q,lend_rps w h u⟩
theorem back_lt {M':Mem} {j:Nat} (h:n<=M.length) (hj:j < n):(back n M M')[j]?=M[j]?:=by
 unfold back
 rw [List.getElem?_append_left (by rw [List.length_take];omega),List.getElem?_take_of_lt hj]
theorem back_ge {M':Mem} {j:Nat} (h:n<=M.length) (hj:n<=j):(back n M M')[j]?=M'[j]?:=by
 unfold back
 rw [List.getElem?_append_right (by rw [List.length_take];omega),List.length_take,List.getElem?_drop]
 congr 1
 omega
theorem lend_back {al':Al} {M':Mem} {H':Hp} (w:Wf K Tb al H M) (h:n<=M.length) (hL:∀ (j:Nat) (mo:MO),j < n->M[j]?=some (some mo)->mo.isL=true) (s:Stp al (dead n M) H al' M' H') (w':Wf K Tb al' H' M') (k:LendOk n M M') :
  Stp al M H al' (back n M M') H'/\Wf K Tb al' H' (back n M M')/\More al' M' (back n M M') H':=by
 have old:∀ {i a mo},i < n->al.a[i]?=some a->M[i]?=some (some mo)->∃ o,H a=some o/\H' a=some o/\((∃ xs,o = .lst xs)\/∃ ys,o = .dK ys)/\al'.a[i]?=some a:=fun {i a mo} hi e hm=>by
  have q:=hL i mo hi hm
  cases mo with
  | lst ds =>
   obtain ⟨xs,h1,h2⟩:=w.rep i a _ e hm
   exact ⟨_,h1,(s.fz a _ h1 (fun _ z=>by cases z) (fz_rest w h hi e hm)).1,.inl ⟨_,rfl⟩,s.pre i a e⟩
  | dK kvs =>
   obtain ⟨xs,h1,h2⟩:=w.rep i a _ e hm
   exact ⟨_,h1,(s.fz a _ h1 (fun _ z=>by cases z) (fz_rest w h hi e hm)).1,.inr ⟨_,rfl⟩,s.pre i a e⟩
  | dT _ _=>cases q
  | ins _ _=>cases q
 have alla:∀ {i b},i < n->al'.a[i]?=some b->al.a[i]?=some b:=fun {i b} hi e=>by
  have hl:=w.len
  have h1:al.a[i]?=some (al.a[i]'(by omega)):=List.getElem?_eq_getElem (by omega)
  have:=s.pre i _ h1
  rw [this] at e
  rw [h1];exact e
 have more:More al' M' (back n M M') H':=⟨fun j b mo e1 e2=>by
  by_cases hj:j < n
  ·rw [back_lt h hj] at e2
   obtain ⟨o,_,q,z,_⟩:=old hj (alla hj e1) e2
   rcases z with ⟨xs,rfl⟩ | ⟨ys,rfl⟩
   ·exact .inr (.inl ⟨xs,q⟩)
   ·exact .inr (.inr ⟨ys,q⟩)
  ·rw [back_ge h (by omega)] at e2
   exact .inl e2⟩
 have st:Stp al M H al' (back n M M') H':=⟨s.pre,fun b o e nt f=>by
  obtain ⟨q1,q2⟩:=s.fz b o e nt (fz_dead h f)
  refine ⟨q1,q2.1,fun j mo e1 e2=>?_⟩
  by_cases hj:j < n
  ·rw [back_lt h hj] at e2
   exact f.2 j mo (alla hj e1) e2
  ·rw [back_ge h (by omega)] at e2
   exact q2.2 j mo e1 e2,s.hh,s.hid⟩
 refine ⟨st,⟨?_,w'.nd,fun j b mo e1 e2=>?_,w'.there,w'.tb,w'.hth,fun j b mo e1 e2=>?_⟩,more⟩
 ·rw [w'.len]
  unfold back
  rw [List.length_append,List.length_take,List.length_drop]
  have:=k.len
  omega
 ·by_cases hj:j < n
  ·rw [back_lt h hj] at e2
   obtain ⟨o,q1,q2,_,_⟩:=old hj (alla hj e1) e2
   have r:=w.rep j b mo (alla hj e1) e2
   have q:=hL j mo hj e2
   cases mo with
   | lst ds =>
    obtain ⟨ys,h1,h2⟩:=r
    rw [q1] at h1
    cases h1
    exact ⟨ys,q2,h2.mono st⟩
   | dK kvs =>
    obtain ⟨ys,h1,h2⟩:=r
    rw [q1] at h1
    cases h1
    exact ⟨ys,q2,h2.mono st⟩
   | dT _ _=>cases q
   | ins _ _=>cases q
  ·rw [back_ge h (by omega)] at e2
   have r:=w'.rep j b mo e1 e2
   have q:=k.tl j mo (by omega) e2
   cases mo with
   | lst ds=>obtain ⟨zs,h1,h2⟩:=r;exact ⟨zs,h1,Rps.more more q h2⟩
   | dK kvs=>obtain ⟨zs,h1,h2⟩:=r;exact ⟨zs,h1,h2.1,Rps.more more q h2.2⟩
   | dT ks ds=>obtain ⟨zs,h1,h2⟩:=r;exact ⟨zs,h1,h2.1,Rps.more more q h2.2⟩
   | ins C fs=>obtain ⟨dx,zs,h1,h2⟩:=r;exact ⟨dx,zs,h1,h2.1,Rps.more more q h2.2⟩
 ·by_cases hj:j < n
  ·rw [back_lt h hj] at e2
   intro hm
   rw [s.hh] at hm
   exact w.hdis j b mo (alla hj e1) e2 hm
  ·rw [back_ge h (by omega)] at e2
   exact w'.hdis j b mo e1 e2
theorem liftSp_lend {dsp:DSp} {vs:List V} {QV:VK} {EV:XK} (q:liftSp K Tb (lendSp dsp) vs H QV EV):liftSp K Tb dsp vs H QV EV:=by
 obtain ⟨al,M,ds,Q,E,w,r,hd,pv,px⟩:=q
 rcases hd with hd | ⟨n,hn,hL,hd⟩
 ·exact ⟨al,M,ds,Q,E,w,r,hd,pv,px⟩
 ·refine ⟨al,dead n M,ds.map (lendD M n),_,_,wf_dead w hn,lend_rps w hn r,hd,?_,?_⟩
  ·rintro al' d M' v H' s w' r' ⟨q1,q2,q3⟩
   obtain ⟨s2,w2,m2⟩:=lend_back w hn hL s w' q2
   exact pv al' d _ v H' s2 w2 (Rp.more m2 q1 r') q3
  ·rintro al' x M' cls dct H' s w' ⟨e,dx,ys,e2,h1,h2⟩ ⟨q1,q2,q3⟩
   obtain ⟨s2,w2,m2⟩:=lend_back w hn hL s w' q2
   exact px al' x _ cls dct H' s2 w2 ⟨e,dx,ys,e2,h1,h2.1,Rps.more m2 q1 h2.2⟩ q3
end
theorem FnD.lend {P:Program} {w:World} {K:PySem.W.Frag} {mg:Str->Option Value} {base:Heap} {Tb:List (Addr×Str)} {k:Nat} {f:Addr} {fd:FuncData} {ps:List Str} {dsp:DSp} (F:FnD P w K mg base Tb k f fd ps dsp):FnD P w K mg base Tb k f fd ps (lendSp dsp) :=
 ⟨F.ok.imp fun _ _ _ _ q=>liftSp_lend q⟩
def dDn:TED:=fun _ _ M Q=>Q (.mt M.length) (M ++ [some (.dK [])])
theorem e_dn {E:XD} {rho:Rho} {M:Mem} {Q:VD} (h:Q (.mt M.length) (M ++ [some (.dK [])])):dDn E rho M Q:=h
theorem Chn.snoc {L0 sp lv g lv':Rat} {pts:List Pt} {q:Pt} (c:Chn L0 sp lv pts) (ha:q.a=sp) (hl:q.l=lv) (hv:q.l<=q.v) (hr:q.v<=q.r) (hg:0 < g) (h':q.r<=lv'):Chn L0 (sp+g) lv' (pts ++ [q]):=by
 have s0:=c.s0
 have l0:=c.l0
 refine ⟨by grind,by grind,fun x hx=>?_,?_,.inl ?_⟩
 ·rcases List.mem_append.mp hx with hx | hx
  ·obtain ⟨a1,a2,a3,a4,a5⟩:=c.pt x hx
   exact ⟨a1,by grind,a3,a4,by grind⟩
  ·have:x=q:=by simpa using hx
   subst this
   exact ⟨by grind,by grind,hv,hr,h'⟩
 ·rw [List.pairwise_append]
  refine ⟨c.pw,List.pairwise_singleton ..,fun x hx y hy=>?_⟩
  have:y=q:=by simpa using hy
  subst this
  obtain ⟨a1,a2,a3,a4,a5⟩:=c.pt x hx
  exact ⟨by grind,by grind⟩
 ·rcases c.hd with h | ⟨h,e⟩
  ·cases pts with
   | nil=>cases h
   | cons x l=>exact h
  ·subst h
   show some q.l=some L0
   rw [hl,e]
theorem e_lenOn {C:Addr} {dsp:DSp} {x:D} {M:Mem} {Q:VD} (e:insOf M x=none) (h:rLen_ [x] M Q):rLenO C dsp [x] M Q:=by
 unfold rLenO
 simp only [e]
 exact h
section
variable {M M' M'' L:Mem} {i j:Nat} {o:Option MO}
theorem RgX.to (a:RgAt M i) (g:RgX M i L M') (t:RgTo M' i M''):RgX M i L M'':=by
 obtain ⟨M2,t2,rfl⟩:=g
 obtain ⟨r,ok,rfl⟩:=t
 have hl:i < M2.length:=by rw [t2.len];exact a.lt
 refine ⟨M2.set i (some r.mo),t2.trans ⟨r,ok,rfl⟩,?_⟩
 rw [List.set_append_left _ _ hl]
theorem RgX.get (g:RgX M i L M') (j:Nat):M'[M.length+j]?=L[j]?:=by
 obtain ⟨M2,t,rfl⟩:=g
 rw [List.getElem?_append_right (by rw [t.len];omega),t.len]
 congr 1
 omega
theorem RgX.cut {Q:VD} {d:D} (g:RgX M i L M') (h:d.hb M.length=true) (ok:okM M.length M) (q:∀ M2,RgTo M i M2->Q d M2):Cut M.length Q d M':=by
 obtain ⟨M2,t,rfl⟩:=g
 refine ⟨M.length,Nat.le_refl _,h,fun j mo hj e=>?_,?_⟩
 ·rw [List.getElem?_append_left (by rw [t.len];exact hj)] at e
  exact t.okM ok j mo hj e
 ·rw [List.take_left' t.len]
  exact q M2 t
end
def lawSp0:DSp:=fun ds M Q E=>M=[]/\lawSp ds M Q E
theorem RgL.allL {L M':Mem} (g:RgL [] L M') (h:AllL L):AllL M':=by
 obtain ⟨r,_,rfl⟩:=g
 exact AllL.cons (xs:=r.items) h
end DL
namespace LamE
open PySem PySem.Spec PySem.Calls PyProof.Rows L2 LamX
structure ScL (N:List Str) (sc scope:Scope):Prop where
 kind:scope.kind = .function
 co:scope.isCoroutine=false
 gen:scope.isGenerator=false
 cel:∀ y∈scope.names,y.2≠.cell
 own:∀ y∈scope.names,y.2 = .local->y.1 ∉ N
 free:∀ y∈scope.names,y.2 = .free->sc.names.lookup y.1=some .cell\/sc.names.lookup y.1=some .free
section
variable {X:Cx} {pins:List (Addr×Obj)} {σ:L2.St} {H HZ:Hp} {s s1:Shared}
theorem ScL.has {N:List Str} {scope:Scope} (L:ScL N X.env.scope scope) (ok:X.Ok):∀ y∈scope.names,y.2 = .free->∃ c,X.env.cells.lookup y.1=some c :=
 fun y hy e=>(L.free y hy e).elim (fun k=>ok.has _ (.inl k)) fun k=>ok.has _ (.inr k)
theorem ScL.cells {N:List Str} {scope:Scope} (L:ScL N X.env.scope scope) (ok:X.Ok) :
  (∀ {y c},(cloFrom X.env.cells scope.names []).lookup y=some c->X.env.cells.lookup y=some c)/\∀ {y},scope.names.lookup y=some .free->∃ c,(cloFrom X.env.cells scope.names []).lookup y=some c:=by
 constructor
 ·intro y c e
  rcases cloFrom_mem (PySem.mem_of_lookup e) with hm | ⟨h1,h2⟩
  ·cases hm
  ·obtain ⟨c1,hc⟩:=L.has ok _ h1 rfl
   replace hc:X.env.cells.lookup y=some c1:=hc
   rw [h2,hc]
   rfl
 ·intro y hl
  exact mem_lookup (cloFrom_has (cells:=X.env.cells) (acc:=[]) (PySem.mem_of_lookup hl))
end
end LamE
namespace DL
open PySem PySem.Spec PyProof.Rows L2 Mt
def putE (L:Ents) (k:List Int) (b:Addr) (v:V):Ents:=if (L.any fun e=>decide (e.1=k))=true then L.map (fun e=>if e.1=k then (e.1,e.2.1,v) else e) else L ++ [(k,b,v)]
theorem LR.repl {L:Ents} {xs:List (List Int×Addr×Value)} (r:LR L xs) (k:List Int) {y:V} {u:Value} (ry:RelV y u):LR (L.map fun e=>if e.1=k then (e.1,e.2.1,y) else e) (xs.map (putAt k u)):=by
 induction r with
 | nil=>exact .nil
 | @cons p q ps qs h t ih =>
  rw [List.map_cons,List.map_cons]
  refine .cons ?_ ih
  obtain ⟨h1,h2,h3⟩:=h
  unfold putAt
  by_cases e:p.1=k
  ·rw [if_pos e,if_pos (h1.symm.trans e)];exact ⟨h1,h2,ry⟩
  ·rw [if_neg e,if_neg fun z=>e (h1.trans z)];exact ⟨h1,h2,h3⟩
theorem LR.put {L:Ents} {xs:List (List Int×Addr×Value)} (r:LR L xs) (k:List Int) (b:Addr) {y:V} {u:Value} (ry:RelV y u):LR (putE L k b y) (storedH xs k b u):=by
 unfold putE storedH
 rw [r.any k]
 by_cases q:(atKey xs k).isSome=true
 ·rw [if_pos q,if_pos q];exact r.repl k ry
 ·rw [if_neg q,if_neg q];exact Paired.snoc r ⟨rfl,rfl,ry⟩
structure Seer (P:Program) (base:Heap):Prop where
 ns:base.NoSeer
 tr:P.given.tree=none
section
variable {X:Cx}
theorem room_of {pins:List (Addr×Obj)} {σ:L2.St} {H:Hp} {s:Shared} {env:Env} {l:List Env} (S:Seer X.prog X.base) (hr:Room 32 X.A) (I:Inv X pins σ H s) (hs:X.stack=env :: l) (h1:env.scope.isGenerator=false) (h2:env.scope.isCoroutine=false)
  (h3:env.builtins=builtinsNs) (h4:env.globals=mainGlobals):PylongRoom (model X.prog X.w) X.A s:=by
 have e0:=I.env0
 have nl:s.heap.NoLimit:=I.ok.mod.nolimit.keeps fun b o e=>(e0.bs b o e).1
 have ns:s.heap.NoSeer:=S.ns.keeps fun b o e=>(e0.bs b o e).1
 refine PylongRoom.of nl (by have:=hr.dp;show X.A.depth+100 < _;omega) (SeerAt.of ns S.tr (env:=env) (l:=l) (by rw [I.ok.frames,hs]) h1 h2 h3 h4)
theorem op_fdivP {env:Env} {l:List Env} (S:Seer X.prog X.base) (hr:Room 32 X.A) (hs:X.stack=env :: l) (h1:env.scope.isGenerator=false) (h2:env.scope.isCoroutine=false)
  (h3:env.builtins=builtinsNs) (h4:env.globals=mainGlobals):OpR X (binaryOp .FloorDiv) (rI (fun _ j=>j≠0) fun i j=>.int (i.fdiv j)):=by
 intro pins s σ H x y v u Q I rx ry h
 obtain ⟨i,j,rfl,rfl,hc,q⟩:=h
 obtain ⟨t,rfl⟩:=rx
 obtain ⟨t',rfl⟩:=ry
 refine floordiv_int hc ?_ (.inr (room_of S hr I hs h1 h2 h3 h4))
 exact ⟨.int (i.fdiv j),H,I.tok _,⟨_,rfl⟩,q⟩
end
abbrev rDivP_:RD2:=rIntD (fun _ j=>j≠0) fun i j=>.int (i.fdiv j)
section
variable {X:Cx} {Tb:List (Addr×Str)} {EV:XK} {a b:Expr} {ta tb:TED} {pos:Pos}
theorem dv_fdivP (S:Seer X.prog X.base) (hr:Room 32 X.A) (ha:PD X Tb EV a ta) (hb:PD X Tb EV b tb) (hs:X.stack=X.env :: X.outer:=by rfl) (h1:X.env.scope.isGenerator=false:=by rfl) (h2:X.env.scope.isCoroutine=false:=by rfl)
  (h3:X.env.builtins=builtinsNs:=by rfl) (h4:X.env.globals=mainGlobals:=by rfl):PD X Tb EV (.BinOp a .FloorDiv b pos) (dOp rDivP_ ta tb):=dv_op (op_fdivP S hr hs h1 h2 h3 h4) (ref_int fun _ _ _ _ _=>rfl) ha hb
end
end DL
namespace DL
open PySem PySem.Spec PyProof.Rows L2 Mt LamX
def putP (kvs:Kvs) (k:List Int) (z:D):Kvs:=if (kvs.any fun e=>decide (e.1=k))=true then kvs.map (fun e=>if e.1=k then (e.1,z) else e) else kvs ++ [(k,z)]
section
variable {K:PySem.W.Frag} {al:Al} {M:Mem} {H:Hp}
theorem RP.put {kvs:Kvs} {L:Ents} (h:RP K al M H kvs L) (k:List Int) {b:Addr} {z:D} {v:V} (rk:Rp K al M H (kD k) (.ref b)) (rz:Rp K al M H z v):RP K al M H (putP kvs k z) (putE L k b v):=by
 unfold putP putE
 rw [h.any k]
 split
 ·rename_i hany
  clear rk hany
  induction h with
  | nil=>exact .nil
  | @cons p e ps es a _ ih =>
   rw [List.map_cons,List.map_cons]
   refine .cons ?_ ih
   obtain ⟨a1,a2,a3⟩:=a
   by_cases c:p.1=k
   ·rw [if_pos c,if_pos (a1.symm.trans c)];exact ⟨a1,a2,rz⟩
   ·rw [if_neg c,if_neg fun z=>c (a1.trans z)];exact ⟨a1,a2,a3⟩
 ·exact Paired.snoc h ⟨rfl,rk,rz⟩
end
theorem RP.mem {K:PySem.W.Frag} {al:Al} {M:Mem} {H:Hp} {kvs:Kvs} {L:Ents} (h:RP K al M H kvs L) {e:List Int×Addr×V} (he:e∈L):∃ p∈kvs,p.1=e.1/\Rp K al M H (kD e.1) (.ref e.2.1):=by
 induction h with
 | nil=>exact nomatch he
 | cons a _ ih =>
  rcases List.mem_cons.mp he with z | z
  ·subst z;exact ⟨_,List.mem_cons_self,a.1,a.1 ▸ a.2.1⟩
  ·obtain ⟨p,hp,q⟩:=ih z;exact ⟨p,List.mem_cons_of_mem _ hp,q⟩
end DL
namespace DL
open PySem PySem.Spec PyProof.Rows L2
theorem units1 {A:Around} (h:A.units+64 < cLine):A.units+1 < cLine:=by omega
end DL
namespace DL
open PySem PySem.Spec PyProof.Rows L2 Mt
theorem RgTo.allL {M M':Mem} {i:Nat} (h:AllL M) (t:RgTo M i M'):AllL M':=by
 obtain ⟨r,_,rfl⟩:=t
 exact AllL.set (xs:=r.items) h
end DL
namespace DL
open PySem Mt
def dnT (t:Str) (k:Int):Prop:=t="down"\/(t="even"/\k % 2=0)
instance (t:Str) (k:Int):Decidable (dnT t k):=by unfold dnT;exact inferInstance
def nT (t:Str) (u o:Rat) (k:Int):Pt:=⟨o+k * u+u / 2,o+k * u,if dnT t k then o+k * u else o+k * u+u,o+k * u+u⟩
def nC (u o:Rat):Int:=-((o+u / 2) / u).floor
end DL
namespace DL
open PySem PySem.Spec PyProof.Rows L2 Mt
theorem seqB_ok {K:PySem.W.Frag} {vs:List He.Dv} {a:Addr} (h:seqB K vs (K.lookup a)=true) (H:Hp):SqT K H a (vs.map (He.Dv.v K)):=by
 cases q:K.lookup a with
 | none=>rw [q] at h;cases h
 | some o =>
  obtain ⟨oc,od,dt,osl⟩:=o
  rw [q] at h
  cases oc <;> cases dt <;> first | (cases h;done) | skip
  rename_i c its n
  have h:(decide (c="tuple") && (decide (its.size<=sizeLine) && He.relAll (vs.map (He.Dv.v K)) its.toList))=true:=h
  simp only [Bool.and_eq_true] at h
  exact .inr ⟨_,its,n,q,congrArg Value.type (of_decide_eq_true h.1),rfl,of_decide_eq_true h.2.1,He.relAll_ok h.2.2⟩
theorem cvTB_ok {K:PySem.W.Frag} {x f:Str} {vs:List He.Dv} {ds:List D} (c:ClO K (He.ga K x)) (h:cvTB K x f vs=true) (hr:∀ al M H,Rps K al M H ds (vs.map (He.Dv.v K))):CValD K (He.ga K x) f (.tup ds):=by
 unfold cvTB at h
 split at h
 ·rename_i a e
  exact cval_of (v:=.ref a) c e rfl fun al M H=>⟨a,_,rfl,.inr (seqB_ok h noH),hr al M H⟩
 ·cases h
end DL
namespace He
open PySem PySem.Spec PyProof.Rows L2
theorem obsZ_eq {as:List Addr} {fa:List Fa} {fn:List DefE} {tf:List Defn} {ex:PySem.W.Frag->Bool} {g:Addr->Option Obj} {s:Shared} (h:∀ a,g a=s.heap.get? a):obsZ as fa fn tf ex g=(hookZ as fa fn tf ex).obs s:=by
 have e:g=s.heap.get?:=funext h
 rw [e] <;> rfl
theorem LookEq.to {r:PySem.W.OpenRow} {M:Nat} {w:World} {β γ:Type} {f:PySem.W.SharedT->β} {v:β} (a:LookEq r M w f v) (k:β->γ):LookEq r M w (fun s=>k (f s)) (k v):=fun os=>by
 have h1:=a os
 generalize HandSHeadRun.endF _ _ _ _ _=x at h1
 cases x with
 | none=>cases h1
 | some s =>
  simp only [Option.map_some,Option.some.injEq] at h1 ⊢
  rw [h1]
end He
namespace DL
open PySem PySem.Spec PySem.Calls PyProof.Rows L2
section
variable {prog:Program} {w:World} {A:Around} {E:Value->Shared->Prop} {s:Shared}
theorem isl_of {h:Heap} {a:Addr} {its:Array Value} (x:PlainL h a its):h.IsList a its:=let ⟨o,n,e,c,_,d⟩:=x;⟨o,e,c,n,d⟩
theorem unp_tupS {l:Addr} {items:Array Value} {k:Nat} {Q:List Value->Shared->Prop} (hh:A.handled=none) (hl:IsTup s.heap l items) (hk:k<=items.size) (hz:items.size<=sizeLine)
  (h:∀ (h₂:Heap) (tk:Nat),(∀ b o,s.heap.get? b=some o->h₂.get? b=some o)->Q (items.toList.take k ++ [.ref h₂.objs.size]) { s with heap:=h₂.push { cls:=.type "list",data:=.seq (items.toList.drop k).toArray },toks:=tk }) :
  wpAny (model prog w) A (unpackItems (.ref l) (k+1) (some k)) Q E s:=by
 have hlt:l≠s.heap.objs.size:=by obtain ⟨o,ho,_⟩:=hl;exact Nat.ne_of_lt (Heap.lt_size ho)
 unfold unpackItems
 refine wpAny_bind ?_
 unfold notIterableAtAll
 refine wpAny_bind (wpAny_specialOf hl.typeIs slot_tuple_iter.lookup ?_)
 refine wpAny_pure ?_
 simp only [Bool.false_eq_true,if_false]
 refine wpAny_bind (wpAny_holding (iter_tuple hl ?_))
 refine wpAny_bind (wpAny_holding (draw_tuple hlt k 0 _ _ ⟨_,Heap.get?_push_size _ rfl,rfl,rfl⟩ (hl.push _) (by omega) fun h₁ hit₁ hs₁=>?_))
 have hl₁:IsTup h₁ l items:=(hl.push _).extBut hs₁.extBut hlt
 rw [Nat.zero_add] at hit₁
 have hit₁':=hit₁
 obtain ⟨oi,hoi,_⟩:=hit₁'
 have hl₁':=hl₁
 obtain ⟨ol,hol,_⟩:=hl₁'
 rw [List.drop_zero]
 have hfl:(items.toList.take k).length=k:=by rw [List.length_take,Array.length_toList];omega
 rw [if_neg (show ¬ ((items.toList.take k).length < k) by rw [hfl];omega)]
 refine wpAny_bind (wpAny_holding (PySem.W.kun_collect (s:={ s with heap:=h₁ }) (T:="tuple_iterator") (.inr (.inr (.inr rfl))) (Walks.tuple (A:=A.in1) hh s.heap.objs.size l hlt items) (fun j u st=>st.1.typeIs) (k:=k) (by omega) ⟨hit₁,hl₁⟩ (Heap.lt_size hoi) (Heap.lt_size hol) (fun h₂ tk hk=>?_) hz))
 show wpAny _ _ (if (items.toList.drop k).length < k+1 - 1 - k then _ else _) _ _ _
 rw [if_neg (by omega)]
 show wpAny _ _ (newList ((items.toList.drop k).take ((items.toList.drop k).length - (k+1 - 1 - k))) >>= fun d=>pure (items.toList.take k ++ [d] ++ (items.toList.drop k).drop ((items.toList.drop k).length - (k+1 - 1 - k)))) _ _ _
 rw [show k+1 - 1 - k=0 by omega,Nat.sub_zero,List.take_length,List.drop_length]
 refine wpAny_bind (wpAny_newList (wpAny_pure ?_) (by rw [List.length_drop,Array.length_toList];omega))
 rw [List.append_nil]
 refine h h₂ tk fun b o e=>?_
 have hb:b≠s.heap.objs.size:=Nat.ne_of_lt (Heap.lt_size e)
 exact hk b o hb (hs₁.extBut b o hb (Heap.get?_push_of_some _ e))
theorem unp_lstS {l:Addr} {items:Array Value} {k:Nat} {Q:List Value->Shared->Prop} (hh:A.handled=none) (hl:s.heap.IsList l items) (hk:k<=items.size) (hz:items.size<=sizeLine)
  (h:∀ (h₂:Heap) (tk:Nat),(∀ b o,s.heap.get? b=some o->h₂.get? b=some o)->Q (items.toList.take k ++ [.ref h₂.objs.size]) { s with heap:=h₂.push { cls:=.type "list",data:=.seq (items.toList.drop k).toArray },toks:=tk }) :
  wpAny (model prog w) A (unpackItems (.ref l) (k+1) (some k)) Q E s:=by
 have hlt:l≠s.heap.objs.size:=by obtain ⟨o,ho,_⟩:=hl;exact Nat.ne_of_lt (Heap.lt_size ho)
 unfold unpackItems
 refine wpAny_bind ?_
 unfold notIterableAtAll
 refine wpAny_bind (wpAny_specialOf hl.typeIs slot_list_iter.lookup ?_)
 refine wpAny_pure ?_
 simp only [Bool.false_eq_true,if_false]
 refine wpAny_bind (wpAny_holding (wpAny_pyIter_list hl ?_))
 refine wpAny_bind (wpAny_holding (PySem.W.kun_draw hlt k 0 _ _ ⟨_,Heap.get?_push_size _ rfl,rfl,rfl⟩ (hl.push _) (by omega) fun h₁ hit₁ hs₁=>?_))
 have hl₁:h₁.IsList l items:=(hl.push _).extBut hs₁.extBut hlt
 rw [Nat.zero_add] at hit₁
 have hit₁':=hit₁
 obtain ⟨oi,hoi,_⟩:=hit₁'
 have hl₁':=hl₁
 obtain ⟨ol,hol,_⟩:=hl₁'
 rw [List.drop_zero]
 have hfl:(items.toList.take k).length=k:=by rw [List.length_take,Array.length_toList];omega
 rw [if_neg (show ¬ ((items.toList.take k).length < k) by rw [hfl];omega)]
 refine wpAny_bind (wpAny_holding (PySem.W.kun_collect (s:={ s with heap:=h₁ }) (T:="list_iterator") (.inr (.inr (.inl rfl))) (Walks.list (A:=A.in1) hh s.heap.objs.size l hlt items) (fun j u st=>st.1.typeIs) (k:=k) (by omega) ⟨hit₁,hl₁⟩ (Heap.lt_size hoi) (Heap.lt_size hol) (fun h₂ tk hk=>?_) hz))
 show wpAny _ _ (if (items.toList.drop k).length < k+1 - 1 - k then _ else _) _ _ _
 rw [if_neg (by omega)]
 show wpAny _ _ (newList ((items.toList.drop k).take ((items.toList.drop k).length - (k+1 - 1 - k))) >>= fun d=>pure (items.toList.take k ++ [d] ++ (items.toList.drop k).drop ((items.toList.drop k).length - (k+1 - 1 - k)))) _ _ _
 rw [show k+1 - 1 - k=0 by omega,Nat.sub_zero,List.take_length,List.drop_length]
 refine wpAny_bind (wpAny_newList (wpAny_pure ?_) (by rw [List.length_drop,Array.length_toList];omega))
 rw [List.append_nil]
 refine h h₂ tk fun b o e=>?_
 have hb:b≠s.heap.objs.size:=Nat.ne_of_lt (Heap.lt_size e)
 exact hk b o hb (hs₁.extBut b o hb (Heap.get?_push_of_some _ e))
end
section
variable {X:Cx} {pos:Pos}
def gStar (K:PySem.W.Frag) (k:Nat) (t:TGs):TG:=fun v σ H Q=>∃ a xs,v = .ref a/\(SqT K H a xs\/SqL K H a xs)/\k<=xs.length/\∀ p,H p=none->t (xs.take k ++ [.ref p]) σ (upd H p (.lst (xs.drop k))) Q
theorem Vals.take' {xs:List V} {us:List Value} (r:Vals xs us):∀ k,Vals (xs.take k) (us.take k):=by
 induction r with
 | nil=>intro k;simp;exact .nil
 | cons a b ih=>intro k;cases k with
  | zero=>exact .nil
  | succ k=>exact .cons a (ih k)
theorem Vals.drop' {xs:List V} {us:List Value} (r:Vals xs us):∀ k,Vals (xs.drop k) (us.drop k):=by
 induction r with
 | nil=>intro k;simp;exact .nil
 | cons a b ih=>intro k;cases k with
  | zero=>exact .cons a b
  | succ k=>exact ih k
theorem pg_star {es:List Expr} {k0:_} {t:TGs} {k:Nat} (hc:X.calm=true) (h:PGs X es t)
  (hn:(assignEach es X.env).length=k+1:=by rfl) (hst:(assignEach es X.env).findIdx? (·.1)=some k:=by rfl):PG X (.Tuple es k0 pos) (gStar X.K k t):=by
 refine ⟨fun pins s σ H v u Q I r hw=>?_⟩
 obtain ⟨a,xs,e1,hq,hl,hw⟩:=hw
 subst e1
 cases r
 rw [assign_Tuple]
 refine wpAny_bind (wpAny_standAt ?_)
 unfold unpack
 rw [hn,hst]
 have fin:∀ {its:List Value},Vals xs its->xs.length<=sizeLine->∀ (h₂:Heap) (tk:Nat),(∀ b o,s.heap.get? b=some o->h₂.get? b=some o) ->
   wpAny (model X.prog X.w) X.A (assignInOrder ((assignEach es X.env).map (·.2)) (its.toArray.toList.take k ++ [.ref h₂.objs.size])) (fun _ s'=>∃ σ' H',Inv X pins σ' H' s'/\Q σ' H') X.xe { s with heap:=h₂.push { cls:=.type "list",data:=.seq (its.toArray.toList.drop k).toArray },toks:=tk }:=by
  intro its rv hz h₂ tk hk
  have I1:Inv X pins σ H { s with heap:=h₂,toks:=tk }:=I.kept hk
  have I2:Inv X pins σ (upd H h₂.objs.size (.lst (xs.drop k))) { s with heap:=h₂.push { cls:=.type "list",data:=.seq (its.toArray.toList.drop k).toArray },toks:=tk } :=
   I1.laid (t':=tk) (fun b u e=>Heap.get?_push_of_some _ e) (Nat.le_refl _) ⟨by rw [List.length_drop];omega,its.drop k,0,Vals.drop' rv k,Heap.get?_push_size _ rfl⟩
  refine h.run pins _ σ _ _ _ Q I2 ?_ (hw _ (I1.hok.fresh (Nat.le_refl _)))
  exact Vals.append (Vals.take' rv k) (.cons rfl .nil)
 rcases hq with hq | hq
 ·obtain ⟨its,rv,ht,hz⟩:=I.tuple hq
  have e:=rv.length
  refine wpAny_bind (wpAny_holding (unp_tupS (I.ok.hd hc) ht (by simp;omega) (by simp;omega) fun h₂ tk hk=>fin rv hz h₂ tk hk))
 ·obtain ⟨its,rv,ht,hz⟩:=I.list hq
  have e:=rv.length
  refine wpAny_bind (wpAny_holding (unp_lstS (I.ok.hd hc) (isl_of ht) (by simp;omega) (by simp;omega) fun h₂ tk hk=>fin rv hz h₂ tk hk))
theorem pgs_consS {e:Expr} {es:List Expr} {p:Pos} {t:TG} {u:TGs} (h1:PG X e t) (h2:PGs X es u):PGs X (.Starred e p :: es) (gCons t u):=by
 refine ⟨fun pins s σ H vs us Q I r h=>?_⟩
 obtain ⟨v,vr,e1,h⟩:=h
 subst e1
 cases r with
 | cons r rr =>
  show wpAny _ _ (assignInOrder (assign e X.env :: (assignEach es X.env).map (·.2)) _) _ _ _
  refine assignInOrder_cons (thn (h1.run pins s σ H _ _ _ I r h) fun _ s1 ⟨σ1,H1,I1,q1⟩=>?_)
  exact h2.run pins s1 σ1 H1 _ _ Q I1 rr q1
end
def hStar (k:Nat) (t:TGsD):TGD:=fun d E rho M Q=>match d with
 | .tup xs=>k<=xs.length/\t (xs.take k ++ [.lst (xs.drop k)]) E rho M Q
 | .lst xs=>k<=xs.length/\t (xs.take k ++ [.lst (xs.drop k)]) E rho M Q
 | _=>False
section
variable {X:Cx} {Tb:List (Addr×Str)} {EV:XK} {pos:Pos}
theorem rps_app {K:PySem.W.Frag} {al:Al} {M:Mem} {H:Hp} {d:D} {v:V} (r:Rp K al M H d v):∀ {ds:List D} {vs:List V},Rps K al M H ds vs->Rps K al M H (ds ++ [d]) (vs ++ [v])
 | [],_,h=>by cases h;exact ⟨v,[],rfl,r,rfl⟩
 | x :: ds,_,h=>by
  obtain ⟨y,ys,rfl,rx,rs⟩:=h
  exact ⟨y,_,rfl,rx,rps_app r rs⟩
theorem dgs_consS {e:Expr} {es:List Expr} {p:Pos} {t:TGD} {u:TGsD} (h1:PDG X Tb EV e t) (h2:PDGs X Tb EV es u):PDGs X Tb EV (.Starred e p :: es) (hCons t u):=by
 refine ⟨fun pins s σ H vs us Q I r h=>(pgs_consS h1 h2).run pins s σ H vs us Q I r ?_⟩
 obtain ⟨al,rho,M,E,ds,Q',a,rd,t,p⟩:=h
 unfold hCons at t
 split at t
 ·obtain ⟨x,xs,rfl,rx,rxs⟩:=rd
  exact ⟨x,xs,rfl,al,rho,M,E,_,_,a,rx,t,fun al' rho' M' σ' H' s w r q=>⟨al',rho',M',E,_,Q',⟨w,r,a.ex.mono s⟩,rxs.mono s,q,p.mono s⟩⟩
 ·exact t.elim
theorem dg_star {es:List Expr} {k0:_} {t0:TGsD} {k:Nat} (hc:X.calm=true) (hg:PDGs X Tb EV es t0)
  (hn:(assignEach es X.env).length=k+1:=by rfl) (hst:(assignEach es X.env).findIdx? (·.1)=some k:=by rfl):PDG X Tb EV (.Tuple es k0 pos) (hStar k t0):=by
 refine ⟨fun pins s σ H v u Q I r h=>(pg_star hc hg hn hst).run pins s σ H v u Q I r ?_⟩
 obtain ⟨al,rho,M,E,d,Q',a,rd,t,p⟩:=h
 unfold hStar at t
 have fin:∀ {ds:List D} {ys:List V},Rps X.K al M H ds ys->∀ q,H q=none->(k<=ds.length/\t0 (ds.take k ++ [.lst (ds.drop k)]) E rho M Q')->liftGs X.K Tb EV t0 (ys.take k ++ [.ref q]) σ (upd H q (.lst (ys.drop k))) Q:=by
  intro ds ys q2 q hq t
  have st:=stp_new a.wf hq (.lst (ys.drop k))
  refine ⟨al,rho,M,E,_,Q',a.go st (wf_new a.wf hq _),?_,t.2,p.mono st⟩
  exact rps_app (rp_lst a.wf hq (q2.drop k)) ((q2.take k).mono st)
 split at t
 ·obtain ⟨b,ys,rfl,q1,q2⟩:=rd
  exact ⟨b,ys,rfl,.inl q1.sq,by rw [<- q2.length];exact t.1,fun q hq=>fin q2 q hq t⟩
 ·obtain ⟨b,ys,rfl,q1,_,q2⟩:=rd
  exact ⟨b,ys,rfl,.inr (.inl (.inl q1)),by rw [<- q2.length];exact t.1,fun q hq=>fin q2 q hq t⟩
 ·exact t.elim
end
structure PDM (X:Cx) (Tb:List (Addr×Str)) (EV:XK) (cs:List MatchCase) (t:D->TSD):Prop where
 run:∀ (first:Bool) (pins:List (Addr×Obj)) (s:Shared) (σ:L2.St) (H:Hp) (u:Value) (al:Al) (rho:Rho) (M:Mem) (E:XD) (DD:DEnds) (d:D) (v:V) (DV:Ends),
  L2.Inv X pins σ H s->At X.K Tb EV al σ H rho M E->Rp X.K al M H d v->RelV v u->t d E DD rho M->PostE X.K Tb al M H DD DV ->
  wpAny (model X.prog X.w) X.A (matchCases cs X.env u first) (SP X pins DV) X.xe s
def bindM:List Nat->List D->Rho->Option Rho
 | [],[],rho=>some rho
 | i :: is,x :: xs,rho=>bindM is xs (rho.set i (some x))
 | _,_,_=>none
theorem Capts.star {ps:List Pattern} {ns:List Str} (c:Capts ps ns):ps.findIdx? (·.isStar)=none:=by induction c with
 | nil=>rfl
 | cons _ ih=>rw [List.findIdx?_cons];show (if false=true then _ else _)=none;rw [if_neg (by decide),ih];rfl
theorem Capts.wild {ps:List Pattern} {n:Str} {ns:List Str} (c:Capts ps (n :: ns)):(ps.all fun p=>p.isWildcard || (p.isStar && p.names.isEmpty))=false:=by
 cases c;rfl
theorem each_capts {M:Model} {A:Around} {E:Value->Shared->Prop} {s:Shared} {env:Env} {ps:List Pattern} {ns:List Str} (c:Capts ps ns):∀ {us:List Value} {Q:Option (List (Str×Value))->Shared->Prop},us.length=ns.length->Q (some (ns.zip us)) s->wpAny M A (matchEach ps env us) Q E s:=by
 induction c with
 | nil=>intro us Q hl h;cases us with
  | nil=>exact wpAny_matchEach_nil h
  | cons _ _=>cases hl
 | cons c ih=>intro us Q hl h;cases us with
  | nil=>cases hl
  | cons u us =>
   refine wpAny_matchEach_cons (wpAny_matchPattern_Capture ?_)
   refine ih (by simpa using hl) ?_
   exact h
section
variable {X:Cx} {Tb:List (Addr×Str)} {EV:XK} {pos:Pos}
theorem bindM_none {is:List Nat}:∀ {xs:List D} {rho:Rho},is.length≠xs.length->bindM is xs rho=none:=by
 induction is with
 | nil=>intro xs rho h;cases xs with
  | nil=>exact absurd rfl h
  | cons _ _=>rfl
 | cons i is ih=>intro xs rho h;cases xs with
  | nil=>rfl
  | cons x xs=>exact ih (by simpa using h)
theorem bindM_len {is:List Nat}:∀ {xs:List D} {rho:Rho},is.length=xs.length->∃ r,bindM is xs rho=some r:=by
 induction is with
 | nil=>intro xs rho h;cases xs with
  | nil=>exact ⟨_,rfl⟩
  | cons _ _=>cases h
 | cons i is ih=>intro xs rho h;cases xs with
  | nil=>cases h
  | cons x xs=>exact ih (by simpa using h)
theorem bind_caps {al:Al} {M:Mem} {H:Hp} {pins:List (Addr×Obj)} (hN:X.N.Nodup) {ns:List Str} {is:List Nat} (c:NSl X ns is):∀ {s:Shared} {σ:L2.St} {rho rho':Rho} {xs:List D} {vs:List V} {us:List Value} {Q:Unit->Shared->Prop},
  L2.Inv X pins σ H s->RpS X.K al M H σ rho->Rps X.K al M H xs vs->Vals vs us->bindM is xs rho=some rho'->(∀ s' σ',L2.Inv X pins σ' H s'->RpS X.K al M H σ' rho'->Q () s') ->
  wpAny (model X.prog X.w) X.A (assignInOrder ((ns.zip us).map fun (n,_)=>bindName X.env n) ((ns.zip us).map (·.2))) Q X.xe s:=by
 induction c with
 | nil=>intro s σ rho rho' xs vs us Q I r rs rv hb h;cases xs with
  | nil=>cases hb;exact wpAny_assignInOrder_none (h _ _ I r)
  | cons _ _=>cases hb
 | cons hi hx hf c ih=>intro s σ rho rho' xs vs us Q I r rs rv hb h;cases xs with
  | nil=>cases hb
  | cons x xs =>
   obtain ⟨v,vs,rfl,rx,rs⟩:=rs
   cases rv with
   | cons ru rus =>
    refine wpAny_assignInOrder_more (wpAny_bindName (store_ok I hN hi hx ru (fun s' I'=>?_) hf))
    exact ih I' (r.set _ rx) rs rus hb h
theorem dm_nil:PDM X Tb EV [] (fun _ _ DD rho M=>DD.nx rho M):=⟨fun first pins s σ H u al rho M E DD d v DV I a rd ru t p=>wpAny_matchCases_nil ⟨σ,H,I,p.nx _ _ _ _ _ (.refl _ _ _) a.wf a.sl t⟩⟩
def mSeq (is:List Nat) (tg:TTD) (tb:TSD) (rest:D->TSD):D->TSD:=fun d E DD rho M=>match d with
 | .lst xs=>(match bindM is xs rho with
  | some r=>tg E r M fun b M1=>if b=true then tb E DD r M1 else rest d E DD r M1
  | none=>rest d E DD rho M)
 | _=>False
theorem dm_seq {n:Str} {ns:List Str} (is:List Nat) {ps:List Pattern} {g:Expr} {body:List Stmt} {rest:List MatchCase} {tg:TTD} {tb:TSD} {tr:D->TSD} {p:Pos} (hc:X.calm=true) (hN:X.N.Nodup) (cp:Capts ps (n :: ns)) (sl:NSl X (n :: ns) is) (hg:PDT X Tb EV g tg) (hb:PDSs X Tb EV body tb) (hr:PDM X Tb EV rest tr) :
  PDM X Tb EV (⟨.MatchSequence ps p,some g,body⟩ :: rest) (mSeq is tg tb tr) :=
 ⟨fun first pins s σ H u al rho M E DD d v DV I a rd ru t q=>by
  unfold mSeq at t
  split at t
  ·rename_i xs
   obtain ⟨b,ys,rfl,q1,q2,q3⟩:=rd
   cases ru
   have hq:SqL X.K H b ys:=.inl (.inl q1)
   obtain ⟨its,rv,ht,hz⟩:=I.list hq
   have rd':Rp X.K al M H (.lst xs) (.ref b):=⟨b,ys,rfl,q1,q2,q3⟩
   have e1:=rv.length
   have e2:=q3.length
   have e3:=cp.len
   have e4:=sl.len
   have e7:its.toArray.toList.length=its.length:=by simp
   have e5:sizeLine=16777216:=rfl
   by_cases hl:is.length=xs.length
   ·obtain ⟨r,hr'⟩:=bindM_len (rho:=rho) hl
    rw [hr'] at t
    refine wpAny_matchCases_cons (matchSeq_list_hit (isl_of ht) (by simp;omega) (by simp;omega) ?_ cp.star cp.wild)
    have e6:ps.length=its.toArray.size:=by simp;omega
    rw [e6]
    refine PySem.W.kun_itemsOf (I.ok.hd hc) (show Heap.IsList _ _ _ from isl_of ht) fun h' hx=>?_
    refine each_capts cp (by rw [e7];omega) ?_
    have I1:L2.Inv X pins σ H { s with heap:=h',toks:=s.toks+1+1 }:=I.kept fun b o e=>hx b o (Nat.ne_of_lt (Heap.lt_size e)) e
    refine bind_caps hN sl I1 a.sl q3 (show Vals ys its.toArray.toList by simpa using rv) hr' fun s2 σ2 I2 r2=>?_
    have a2:At X.K Tb EV al σ2 H r M E:=⟨a.wf,r2,a.ex⟩
    refine thn (hg.run pins s2 σ2 H (fun k H1=>∃ al1 M1,Stp al M H al1 M1 H1/\At X.K Tb EV al1 σ2 H1 r M1 E/\(if k=true then tb E DD r M1 else tr (.lst xs) E DD r M1)) I2 ?_) fun k s3 ⟨H1,I3,al1,M1,st,a3,q5⟩=>?_
    ·exact seqT a2 t fun al1 k M1 H1 s1 a1 q=>⟨al1,M1,s1,a1,q⟩
    ·cases k with
     | true=>exact hb.run pins s3 σ2 H1 DV I3 ⟨al1,r,M1,E,DD,a3,q5,q.mono st⟩
     | false=>exact hr.run false pins s3 σ2 H1 _ al1 r M1 E DD (.lst xs) (.ref b) DV I3 a3 (rd'.mono st) rfl q5 (q.mono st)
   ·rw [bindM_none hl] at t
    refine wpAny_matchCases_cons (matchSeq_list_miss (isl_of ht) (by simp;omega) (by simp;omega) ?_ cp.star cp.wild)
    exact hr.run false pins _ σ H _ al rho M E DD (.lst xs) (.ref b) DV (I.kept fun _ _ e=>e) a rd' rfl t q
  ·exact t.elim⟩
theorem e_mhit {is:List Nat} {tg:TTD} {tb:TSD} {rest:D->TSD} {xs:List D} {E:XD} {DD:DEnds} {rho r:Rho} {M:Mem} (e:bindM is xs rho=some r) (h:tg E r M fun b M1=>if b=true then tb E DD r M1 else rest (.lst xs) E DD r M1):mSeq is tg tb rest (.lst xs) E DD rho M:=by
 unfold mSeq;simp only [e];exact h
theorem e_mmiss {is:List Nat} {tg:TTD} {tb:TSD} {rest:D->TSD} {xs:List D} {E:XD} {DD:DEnds} {rho:Rho} {M:Mem} (e:bindM is xs rho=none) (h:rest (.lst xs) E DD rho M):mSeq is tg tb rest (.lst xs) E DD rho M:=by
 unfold mSeq;simp only [e];exact h
theorem e_star1 {t:TGsD} {x:D} {xs:List D} {E:XD} {rho:Rho} {M:Mem} {Q:Rho->Mem->Prop} (h:t [x,.lst xs] E rho M Q):hStar 1 t (.tup (x :: xs)) E rho M Q:=⟨by simp,h⟩
theorem e_star1l {t:TGsD} {x:D} {xs:List D} {E:XD} {rho:Rho} {M:Mem} {Q:Rho->Mem->Prop} (h:t [x,.lst xs] E rho M Q):hStar 1 t (.lst (x :: xs)) E rho M Q:=⟨by simp,h⟩
theorem e_star2l {t:TGsD} {x y:D} {xs:List D} {E:XD} {rho:Rho} {M:Mem} {Q:Rho->Mem->Prop} (h:t [x,y,.lst xs] E rho M Q):hStar 2 t (.lst (x :: y :: xs)) E rho M Q:=⟨by simp,h⟩
theorem dp_match {e:Expr} {cs:List MatchCase} {te:TED} {t:D->TSD} (he:PD X Tb EV e te) (hm:PDM X Tb EV cs t):PDS X Tb EV (.Match e cs pos) (fun E DD rho M=>te E rho M fun d M1=>t d E DD rho M1) :=
 ⟨fun pins s σ H DV I h=>by
  obtain ⟨al,rho,M,E,DD,a,t',p⟩:=h
  refine wpAny_Match (thn (he.run pins s σ H (fun v H1=>∃ al1 M1 d,At X.K Tb EV al1 σ H1 rho M1 E/\Rp X.K al1 M1 H1 d v/\t d E DD rho M1/\PostE X.K Tb al1 M1 H1 DD DV) I ?_) fun u s1 ⟨v,H1,I1,r1,al1,M1,d,a1,rd,t1,p1⟩=>?_)
  ·exact seq1 a t' fun al1 x M1 vx H1 s1 a1 rx q=>⟨al1,M1,x,a1,rx,q,p.mono s1⟩
  ·exact hm.run true pins s1 σ H1 u al1 rho M1 E DD d v DV I1 a1 rd r1 t1 p1⟩
end
open SX (S S_tl S_len)
@[reducible] def rPart_:RDM:=fun x ds M Q=>match x,ds with
 | .str a,[.str b]=>(b.length == 0)=false/\a.length<=sizeLine/\Q (.tup [.str (Txt.partition a b).1,.str (Txt.partition a b).2.1,.str (Txt.partition a b).2.2]) M
 | _,_=>False
@[reducible] def rSplit_:RDM:=fun x ds M Q=>match x,ds with
 | .str a,[.str b]=>(b.length == 0)=false/\a.length+2<=sizeLine/\Q (.lst ((Txt.split a b).map D.str)) M
 | _,_=>False
@[reducible] def rRepS_:RD2:=fun x y M Q=>match x,y with
 | .str a,.int k=>(1<=k/\k < 1000000/\a.length=1)/\Q (.str (Txt.mul a k)) M
 | _,_=>False
section
variable {X:Cx} {Tb:List (Addr×Str)} {EV:XK}
theorem rps_strs {K:PySem.W.Frag} {al:Al} {M:Mem} {H:Hp}:∀ l:List Str,Rps K al M H (l.map D.str) (l.map V.str)
 | []=>rfl
 | x :: l=>⟨_,_,rfl,rfl,rps_strs l⟩
theorem ref_part:RefM X.K Tb (fun x xs H Q=>∃ a b,x = .str a/\xs=[.str b]/\(b.length == 0)=false/\a.length<=sizeLine /\
  ∀ p,H p=none->Q (.ref p) (upd H p (.tup [.str (Txt.partition a b).1,.str (Txt.partition a b).2.1,.str (Txt.partition a b).2.2]))) rPart_:=by
 intro al M H x xs d ds Q QV w rx rs h p
 unfold rPart_ at h
 split at h
 ·rename_i a b
  obtain ⟨v,rfl,rv⟩:=rs.one
  cases rx
  cases rv
  exact ⟨a,b,rfl,rfl,h.1,h.2.1,fun q hq=>p _ _ _ _ _ (stp_new w hq _) (wf_new w hq _) (rp_tup w hq (rps_strs [_,_,_])) h.2.2⟩
 ·exact h.elim
theorem ref_split:RefM X.K Tb (fun x xs H Q=>∃ a b,x = .str a/\xs=[.str b]/\(b.length == 0)=false/\a.length+2<=sizeLine/\rNewStrs (Txt.split a b) H Q) rSplit_:=by
 intro al M H x xs d ds Q QV w rx rs h p
 unfold rSplit_ at h
 split at h
 ·rename_i a b
  obtain ⟨v,rfl,rv⟩:=rs.one
  cases rx
  cases rv
  exact ⟨a,b,rfl,rfl,h.1,h.2.1,fun q hq=>p _ _ _ _ _ (stp_new w hq _) (wf_new w hq _) (rp_lst w hq (rps_strs _)) h.2.2⟩
 ·exact h.elim
theorem mulOk_one {a:Str} {k:Int} (h1:1<=k) (h2:k < 1000000) (ha:a.length=1):MulOk a k:=by
 have z:sizeLine=16777216:=rfl
 refine ⟨?_,fun _ _=>?_,fun _ _=>?_⟩
 ·rw [decide_eq_false (by omega),decide_eq_false (by omega)];rfl
 ·rw [ha]
  have h:(1:Int)<=(2 ^ 63 - 1) / k:=Int.le_ediv_of_mul_le (by omega) (by omega)
  intro z
  have:((1:Nat):Int) > (2 ^ 63 - 1) / k:=z
  omega
 ·rw [ha,Nat.one_mul]
  exact decide_eq_false (by show ¬ k.toNat > sizeLine;omega)
theorem op_repS:OpR X (binaryOp .Mult) (fun x y H Q=>∃ a k,x = .str a/\y = .int k/\MulOk a k/\Q (.str (Txt.mul a k)) H):=by
 intro pins s σ H x y v u Q I rx ry h
 obtain ⟨a,k,rfl,rfl,hk,h⟩:=h
 obtain ⟨t,rfl⟩:=rx
 obtain ⟨t',rfl⟩:=ry
 exact SB.mul hk fun t2 k2=>⟨.str _,H,I.tok _,⟨_,rfl⟩,h⟩
theorem ref_repS:RefOp X.K Tb (fun x y H Q=>∃ a k,x = .str a/\y = .int k/\MulOk a k/\Q (.str (Txt.mul a k)) H) rRepS_:=by
 intro al M H x y dx dy Q QV w rx ry h p
 unfold rRepS_ at h
 split at h
 ·rename_i a k
  cases rx
  cases ry
  exact ⟨a,k,rfl,rfl,mulOk_one h.1.1 h.1.2.1 h.1.2.2,p _ (.str (Txt.mul a k)) _ _ _ (Stp.refl ..) w rfl h.2⟩
 ·exact h.elim
theorem dv_repS {a b:Expr} {ta tb:TED} {pos:Pos} (ha:PD X Tb EV a ta) (hb:PD X Tb EV b tb):PD X Tb EV (.BinOp a .Mult b pos) (dOp rRepS_ ta tb):=dv_op op_repS ref_repS ha hb
end
def dg9:Str:="0123456789"
theorem dig_iff (c:Nat):c∈cl dg9 ↔ 48<=c/\c<=57:=by
 have e:cl dg9=[48,49,50,51,52,53,54,55,56,57]:=by decide +kernel
 rw [e]
 simp only [List.mem_cons,List.not_mem_nil,or_false]
 omega
def figs (l:List Nat):List Nat:=if l.take 1=[45] then l.drop 1 else l
def figB (l:List Nat):Bool:=if decide (1<=((figs l).length:Int))=true then (if decide (((figs l).length:Int)<=12)=true then ((figs l).map fun c=>decide (c∈cl dg9)).all _root_.id else false) else false
def fgN (z:Str):Option Int:=if figB (cl z)=true then (if itx ((PySem.intText? z).getD 0)=z then some ((PySem.intText? z).getD 0) else none) else none
theorem figB_iff {l:List Nat}:figB l=true ↔ 1<=(figs l).length/\(figs l).length<=12/\NumText.AllDigits (figs l):=by
 unfold figB
 by_cases h1:1<=((figs l).length:Int)
 ·by_cases h2:((figs l).length:Int)<=12
  ·rw [if_pos (decide_eq_true h1),if_pos (decide_eq_true h2),List.all_eq_true]
   refine ⟨fun h=>⟨by omega,by omega,fun c hc=>(dig_iff c).mp (of_decide_eq_true (h _ (List.mem_map.mpr ⟨c,hc,rfl⟩)))⟩,fun h x hx=>?_⟩
   obtain ⟨c,hc,rfl⟩:=List.mem_map.mp hx
   exact decide_eq_true ((dig_iff c).mpr (h.2.2 c hc))
  ·rw [if_pos (decide_eq_true h1),if_neg (by simp;omega)]
   exact ⟨fun h=>(Bool.false_ne_true h).elim,fun h=>absurd h.2.1 (by omega)⟩
 ·rw [if_neg (by simp;omega)]
  exact ⟨fun h=>(Bool.false_ne_true h).elim,fun h=>absurd h.1 (by omega)⟩
theorem digitsVal_lt:∀ (cs:List Nat) (acc:Nat),NumText.AllDigits cs->cs.foldl (fun acc c=>acc * 10+(c - 48)) acc+1<=(acc+1) * 10 ^ cs.length
 | [],acc,_=>by simp
 | c :: cs,acc,h=>by
  have h1:=h c (List.mem_cons_self ..)
  have h2:=digitsVal_lt cs (acc * 10+(c - 48)) fun d hd=>h d (List.mem_cons_of_mem _ hd)
  rw [List.foldl_cons,List.length_cons,Nat.pow_succ]
  refine Nat.le_trans h2 ?_
  rw [Nat.mul_comm (10 ^ cs.length) 10,<- Nat.mul_assoc]
  exact Nat.mul_le_mul_right _ (by omega)
theorem fig_num {z:Str} (h:figB (cl z)=true):∃ n,PySem.intText? z=some n/\n.natAbs < 10 ^ 12/\z.length<=13/\∀ c∈cl z,c=45\/(48<=c/\c<=57):=by
 obtain ⟨h1,h2,h3⟩:=figB_iff.mp h
 have hz:z.length=(cl z).length:=Array.length_toList.symm
 have hp:10 ^ (figs (cl z)).length<=10 ^ 12:=Nat.pow_le_pow_right (by decide) h2
 have hv:=digitsVal_lt (figs (cl z)) 0 h3
 unfold figs at h1 h2 h3 hp hv
 split at h1
 ·rename_i hm
  rw [if_pos hm] at h2 h3 hp hv
  have e:cl z=45 :: (cl z).drop 1:=by
   cases hl:cl z with
   | nil=>rw [hl] at hm;simp at hm
   | cons c cs=>rw [hl] at hm;simp at hm;rw [hm];rfl
  have hlen:(cl z).length=((cl z).drop 1).length+1:=by conv=>lhs;rw [e,List.length_cons]
  refine ⟨_,intText_neg e h3 (fun z=>by rw [z] at h1;simp at h1) (by omega),?_,by omega,?_⟩
  ·unfold NumText.digitsVal;omega
  ·intro c hc
   rw [e] at hc
   rcases List.mem_cons.mp hc with z | hc
   ·exact .inl z
   ·exact .inr (h3 c hc)
 ·rename_i hm
  rw [if_neg hm] at h2 h3 hp hv
  refine ⟨_,intText_digits h3 (fun e=>by rw [show cl z=[] from e] at h1;simp at h1) (by omega),?_,by omega,fun c hc=>.inr (h3 c hc)⟩
  have hv':NumText.digitsVal (cl z)+1<=_:=hv
  show ((NumText.digitsVal (cl z):Nat):Int).natAbs < _
  omega
theorem fgN_some {z:Str} {n:Int} (h:fgN z=some n):n.natAbs < 10 ^ 12/\itx n=z/\47 ∉ cl z/\z.length<=13:=by
 unfold fgN at h
 split at h
 ·rename_i hf
  obtain ⟨m,e1,e2,e3,e4⟩:=fig_num hf
  rw [e1] at h
  split at h
  ·rename_i hi
   cases h
   refine ⟨e2,hi,fun hm=>?_,e3⟩
   have:=e4 47 hm
   omega
  ·cases h
 ·cases h
theorem split_first {c:Nat}:∀ {l:List Nat},c∈l->∃ a b,l=a ++ c :: b/\c ∉ a
 | x :: l,h=>by
  by_cases e:x=c
  ·subst e;exact ⟨[],l,rfl,by simp⟩
  ·rcases List.mem_cons.mp h with z | h
   ·exact absurd z.symm e
   ·obtain ⟨a,b,rfl,ha⟩:=split_first h
    exact ⟨x :: a,b,rfl,by simp [ha];exact fun z=>e z.symm⟩
theorem cut_case (l:List Nat):(47 ∉ l/\TL.par [47] [] l=none/\TL.spl [47] 0 [] l=[l])\/∃ a b,l=a ++ 47 :: b/\47 ∉ a/\TL.par [47] [] l=some (a,b)/\TL.spl [47] 0 [] l=a :: TL.spl [47] 0 [] b:=by
 by_cases h:47∈l
 ·right
  obtain ⟨a,b,rfl,hn⟩:=split_first h
  exact ⟨a,b,rfl,hn,SX.par_head (c:=47) (sep:=[]) b hn,TL.spl_part1 (s:=47) (S:=[]) (acc:=[]) hn⟩
 ·left
  exact ⟨h,SX.par_head_none h,TL.spl_last1 h⟩
theorem e_itx {z:Str} {n:Int} {M:Mem} {Q:VD} (h:PySem.intText? z=some n) (hl:z.length<=640) (q:Q (.int n) M):rInt_ [.str z] M Q:=by
 show (match PySem.intText? z with
  | some n=>z.length<=640/\Q (.int n) M
  | none=>False)
 rw [h];exact ⟨hl,q⟩
theorem bz_12 {n:Int} (h:n.natAbs < 10 ^ 12):Mt.bz n<=64:=bi_lt (i:=n) (k:=64) (by omega) (by omega)
def pfN (z:Str):Option (Int×Int):=match TL.par [47] [] (cl z) with
 | none=>(fgN z).map (·,1)
 | some (a,b)=>(match fgN (S a),fgN (S b) with
  | some n,some d=>if 1 < d/\Int.gcd n d=1 then some (n,d) else none
  | _,_=>none)
@[reducible] def oiD:Option Int->D
 | some n=>.int n
 | none=>.non
theorem itx_nat (n:Nat):itx (n:Int)=SX.S (TL.numL n):=SX.num_S n
theorem tostr_neg (n:Nat) (h:0 < n):toString (-(n:Int))="-" ++ toString (n:Int):=by
 cases n with
 | zero=>omega
 | succ n=>rfl
theorem itx_neg (n:Nat) (h:0 < n):itx (-(n:Int))=SX.S (45 :: TL.numL n):=by
 refine TL.ext_tl ?_
 show cl (Str.ofString (toString (-(n:Int))))=45 :: TL.numL n
 rw [show cl (Str.ofString (toString (-(n:Int))))=(toString (-(n:Int))).toList.map Char.toNat from TL.tl_ofString _,tostr_neg n h,String.toList_append,List.map_append]
 have e:=TL.tl_num n
 rw [show TL.tl (Str.ofString (toString ((n:Nat):Int)))=(toString ((n:Nat):Int)).toList.map Char.toNat from TL.tl_ofString _] at e
 rw [e]
 rfl
theorem numL_45 (n:Nat):(TL.numL n).take 1≠[45]:=by
 cases h:TL.numL n with
 | nil=>exact absurd h (TL.numL_ne n)
 | cons c r =>
  have:=TL.numL_digits n c (by rw [h];exact List.mem_cons_self ..)
  intro e
  have:c=45:=by simpa using e
  omega
theorem fg_itx {n:Int} (h:n.natAbs < 10 ^ 12):fgN (itx n)=some n:=by
 have hl:(TL.numL n.natAbs).length<=12:=TL.numL_len (by decide) h
 have h0:1<=(TL.numL n.natAbs).length:=List.length_pos_iff.mpr (TL.numL_ne _)
 have hd:=TL.numL_digits n.natAbs
 rcases Int.lt_or_le n 0 with hn | hn
 ·have e:n = -((n.natAbs:Nat):Int):=by omega
  have hx:itx n=SX.S (45 :: TL.numL n.natAbs):=(congrArg itx e).trans (itx_neg _ (by omega))
  have hf:figs (cl (itx n))=TL.numL n.natAbs:=by rw [hx];rfl
  have hi:PySem.intText? (itx n)=some n:=by
   rw [hx,intText_neg (x:=SX.S (45 :: TL.numL n.natAbs)) rfl hd (TL.numL_ne _) (by rw [SX.S_len,List.length_cons];omega),TL.numL_val]
   exact congrArg some e.symm
  unfold fgN
  rw [if_pos (figB_iff.mpr ⟨by rw [hf];exact h0,by rw [hf];exact hl,by rw [hf];exact hd⟩),hi]
  exact if_pos rfl
 ·have e:n=((n.natAbs:Nat):Int):=by omega
  have hx:itx n=SX.S (TL.numL n.natAbs):=(congrArg itx e).trans (itx_nat _)
  have hf:figs (cl (itx n))=TL.numL n.natAbs:=by rw [hx];exact if_neg (numL_45 _)
  have hi:PySem.intText? (itx n)=some n:=by
   rw [hx,intText_digits (x:=SX.S (TL.numL n.natAbs)) hd (TL.numL_ne _) (by rw [SX.S_len];omega),show (SX.S (TL.numL n.natAbs)).cps.toList=TL.numL n.natAbs from rfl,TL.numL_val]
   exact congrArg some e.symm
  unfold fgN
  rw [if_pos (figB_iff.mpr ⟨by rw [hf];exact h0,by rw [hf];exact hl,by rw [hf];exact hd⟩),hi]
  exact if_pos rfl
theorem pf_qtx {q:Rat} (h1:q.num.natAbs < 10 ^ 12) (h2:q.den < 10 ^ 12):pfN (qtx q)=some (q.num,(q.den:Int)):=by
 have f1:=fg_itx h1
 have f2:=fg_itx (n:=(q.den:Int)) (by omega)
 have n1:=(fgN_some f1).2.2.1
 have n2:=(fgN_some f2).2.2.1
 unfold qtx
 by_cases hd:q.den=1
 ·rw [if_pos hd]
  unfold pfN
  rw [SX.par_head_none n1,hd]
  show (fgN (itx q.num)).map (·,1)=_
  rw [f1];rfl
 ·rw [if_neg hd]
  have e:cl (itx q.num ++ (Str.ofString "/" ++ itx (q.den:Int)))=cl (itx q.num) ++ (47 :: [] ++ cl (itx (q.den:Int))):=by
   rw [show cl (itx q.num ++ (Str.ofString "/" ++ itx (q.den:Int)))=_ from TL.tl_append _ _,TL.tl_append]
   rfl
  unfold pfN
  rw [e,SX.par_head (sep:=[]) _ n1]
  show (match fgN (SX.S (cl (itx q.num))),fgN (SX.S (cl (itx (q.den:Int)))) with
   | some n,some d=>if 1 < d/\Int.gcd n d=1 then some (n,d) else none
   | _,_=>none)=_
  rw [SX.S_tl,SX.S_tl,f1,f2]
  refine if_pos ⟨?_,?_⟩
  ·have:=q.den_pos;omega
  ·have:=q.reduced
   exact this
end DL
namespace DL
open PySem PySem.Spec PyProof.Rows L2 Mt
theorem e_istup {xs:List D} {M:Mem} {Q:VD} (h:Q (.bl true) M):rIsi_ [.tup xs,.ty "tuple"] M Q:=isi_of (b:=true) "tuple" rfl (by decide +kernel) (by decide +kernel) h
theorem e_isstr {z:Str} {M:Mem} {Q:VD} (h:Q (.bl true) M):rIsi_ [.str z,.ty "str"] M Q:=isi_of (b:=true) "str" rfl (by decide +kernel) (by decide +kernel) h
theorem lc_mapD {g:TGD} {te:TED} {vs:List Nat} {rho:Rho} {Q:VD} {M:Mem} (f:D->D) (cs:List D) (hl:cs.length<=sizeLine)
  (h:∀ c∈cs,∀ N:VD,N (f c) M->g c noE (wipeD rho vs) M fun rho' M1=>te noE rho' M1 N) (hq:Q (.lst (cs.map f)) M):lcU g dYes te vs cs [] rho M Q:=by
 have:=lc_map (fun d=>d) f cs hl h hq
 rwa [List.map_id'] at this
theorem e_instr {c:Str} {xs:List D} {vs:List V} {M:Mem} {Q:VD} (h:vsOf xs=some vs) (q:Q (.bl (L2.inV (.str c) vs)) M):rIn_ (.str c) (.tup xs) M Q:=by
 show rInX false (.str c) (.tup xs) M Q
 unfold rInX
 simp only [seqD,vOf,h]
 exact q
abbrev jnV:List V:=[.str "sum",.str "least",.str "greatest"]
theorem e_ix0t {x:D} {xs:List D} {M:Mem} {Q:VD} (h:Q x M):rIx_ (.tup (x :: xs)) (.int 0) M Q:=e_ix (rfl:seqD M (.tup (x :: xs))=some (x :: xs)) at_0 h
theorem lend_one {dsp:DSp} {j:Nat} {xs:List D} {M:Mem} {Q:VD} {E:XD} (hL:AllL M) (em:M[j]?=some (some (.lst xs))) (d:D) (hn:d.nl=true)
  (h:∀ (M0:Mem) (Q0:VD) (E0:XD),Q0 d M0->dsp [.lst xs] M0 Q0 E0) (q:Q d M):lendSp dsp [.mt j] M Q E:=by
 refine .inr ⟨M.length,Nat.le_refl _,fun k mo _ e=>hL k mo e,?_⟩
 have e1:[D.mt j].map (lendD M M.length)=[.lst xs]:=by
  show [lendD M M.length (.mt j)]=_
  have:lendD M M.length (.mt j) = .lst xs:=by
   simp only [lendD]
   rw [if_pos (List.getElem?_eq_some_iff.mp em).1,em]
  rw [this]
 rw [e1]
 refine h _ _ _ ⟨hn,⟨?_,rfl,?_⟩,?_⟩
 ·rw [dead_len (Nat.le_refl _)];exact Nat.le_refl _
 ·intro j mo hj e
  rw [List.getElem?_eq_none (by rw [dead_len (Nat.le_refl _)];exact hj)] at e
  cases e
 ·have:back M.length M (dead M.length M)=M:=by
   unfold back
   rw [List.take_length,List.drop_of_length_le (by rw [dead_len (Nat.le_refl _)];exact Nat.le_refl _),List.append_nil]
  rw [this];exact q
theorem pzs_strs:∀ {l:List Str},(∀ z∈l,PyData.strOk z=true)->pzs (l.map D.str)=true
 | [],_=>rfl
 | z :: l,h=>by
  show (PyData.strOk z && pzs (l.map D.str))=true
  rw [h z (List.mem_cons_self ..),pzs_strs fun y hy=>h y (List.mem_cons_of_mem _ hy)];rfl
theorem dps_strs:∀ l:List Str,dps (l.map D.str)<=1
 | []=>by decide
 | z :: l=>by
  show max (dp (.str z)) (dps (l.map D.str))<=1
  have h1:dp (.str z)<=1:=Nat.le_of_ble_eq_true rfl
  have h2:=dps_strs l
  omega
theorem e_neS0 {l:List Str} {M:Mem} {Q:VD} (hz:∀ z∈l,PyData.strOk z=true) (h:Q (.bl (!decide (l=[]))) M):rNe_ (.lst (l.map D.str)) (.lst []) M Q:=by
 have hp:pz (.lst (l.map D.str))=true:=pzs_strs hz
 refine e_neP hp rfl (by show dps (l.map D.str)+1<=64;have:=dps_strs l;omega) (Nat.le_of_ble_eq_true rfl) ?_
 have e:pyEq (.lst (l.map D.str)) (.lst [])=decide (l=[]):=by
  cases l with
  | nil=>exact pyEq_refl rfl
  | cons z l =>
   rw [pyEq_lst hp rfl]
   exact (pyEqs_nil_cons (show pz (.str z)=true from hz z (List.mem_cons_self ..)) (pzs_strs fun y hy=>hz y (List.mem_cons_of_mem _ hy))).2.trans rfl
 rw [e];exact h
section
variable {M M' L:Mem} {i:Nat} {a o o':Option MO}
theorem RgX.getL (g:RgX M i (a :: (L ++ [o])) M'):M'[M.length+(1+L.length)]?=some o:=by
 rw [g.get (1+L.length),Nat.add_comm 1,List.getElem?_cons_succ,List.getElem?_append_right (Nat.le_refl _),Nat.sub_self];rfl
theorem RgX.setL (g:RgX M i (a :: (L ++ [o])) M'):RgX M i (a :: (L ++ [o'])) (M'.set (M.length+(1+L.length)) o'):=by
 have h:=g.set (o:=o') (1+L.length)
 rw [Nat.add_comm 1,List.set_cons_succ,List.set_append_right _ _ (Nat.le_refl _),Nat.sub_self] at h
 rw [Nat.add_comm 1]
 exact h
end
theorem e_tpM {j:Nat} {xs:List D} {M:Mem} {Q:VD} (e:M[j]?=some (some (.lst xs))) (h:Q (.tup xs) M):rTuple_ [.mt j] M Q:=by
 show (match memL M j with
  | some xs=>Q (.tup xs) M
  | none=>False)
 rw [memL_at e]
 exact h
theorem mem_lst {M:Mem} {o:Option MO}:(M ++ [o])[M.length]?=some o:=by simp
theorem mem_set' {M:Mem} {o o':Option MO}:(M ++ [o]).set M.length o'=M ++ [o']:=by simp
end DL
namespace DL
open PySem PySem.Spec PyProof.Rows L2
theorem ns_via {K:PySem.W.Frag} {h base:Heap} {a:Addr} {m:Str->Option Value} (X:K.In h) (Y:K.In base) (k:(K.lookup a).isSome=true) (n:h.Ns a m):base.Ns a m:=by
 obtain ⟨o,es,ep,e,r⟩:=n
 obtain ⟨o2,e2⟩:=Option.isSome_iff_exists.mp k
 have e3:=X a o2 e2
 rw [e] at e3
 cases e3
 exact ⟨o,es,ep,Y a o e2,r⟩
theorem ns_eq {h:Heap} {a:Addr} {m m':Str->Option Value} (n:h.Ns a m) (n':h.Ns a m') (x:Str):m x=m' x:=by
 obtain ⟨o,es,ep,e,d,_,f⟩:=n
 obtain ⟨o',es',ep',e',d',_,f'⟩:=n'
 rw [e] at e'
 cases e'
 rw [d] at d'
 cases d'
 rw [<- f,<- f']
theorem seer_via {P:Program} {K:PySem.W.Frag} {h base:Heap} {mg:Str->Option Value} (NS:h.NoSeer) (tr:P.given.tree=none) (X:K.In h) (Y:K.In base) (G:h.Ns mainGlobals mg) (G':base.Ns mainGlobals mg) (hb:mg "__builtins__"=some (.ref (He.ga K "__builtins__"))) (k:seerB K=true):Seer P base:=by
 unfold seerB at k
 simp only [Bool.and_eq_true] at k
 obtain ⟨k1,k2,k3,k4⟩:=k
 obtain ⟨mc,a1,a2⟩:=NS.statics
 obtain ⟨mm,b1,b2⟩:=NS.mods
 obtain ⟨mb,c1,c2⟩:=NS.imp
 obtain ⟨mg',bm,ob,d1,d2,d3,d4⟩:=NS.main
 have e:=ns_eq d1 G "__builtins__"
 rw [d2,hb] at e
 cases e
 obtain ⟨o2,e2⟩:=Option.isSome_iff_exists.mp k4
 have e3:=X _ o2 e2
 rw [d3] at e3
 cases e3
 exact ⟨⟨⟨mc,ns_via X Y k1 a1,a2⟩,⟨mm,ns_via X Y k2 b1,b2⟩,⟨mb,ns_via X Y k3 c1,c2⟩,⟨mg,_,_,G',hb,Y _ _ e2,d4⟩⟩,tr⟩
theorem walk_wS {l:PySem.W.OpenLaw} {n k:Nat} {q:Program} {loose:List Str} {XP:(Str->Option Value)->Heap->Prop} {YP:World->Heap->Prop} {d:DefRec} {x:Str} {dsp:DSp}
  (hn:l.most=some n) (hn2:n<=63) (hdf:d.params.defaults=[]) (hr:Room k callerA) (hl:∀ ds Q E,lawSp ds [] Q E->dsp ds [] Q E) (hi:importsNone q=true)
  (F:∀ (w:World) (mg:Str->Option Value) (fa:Addr) (h:Heap),YP w h->h.Ns mainGlobals mg->h.NoSeer->mg d.name=some (.ref fa) ->
   ∃ (K:PySem.W.Frag) (fd:FuncData) (cs:List ((Addr×Addr)×Str)),K.In h/\(∀ p∈cs,h.get? p.1.2=some { cls:=.none,data:=.fields #[] })/\(∀ p∈cs,K.lookup p.1.2=none)/\(∀ p∈cs,PySem.W.CodeHd h p.1.1 p.1.2) /\
    (∀ (s:Shared) (u:Value),BindsTo s fd ⟨[u],[]⟩ [(x,u)])/\∀ base:Heap,K.In base->base.Ns mainGlobals mg->(∀ p∈cs,LamX.TabB base mg p.1.1 p.1.2)->FnD l.prog w K mg base (cs.map fun p=>(p.1.2,p.2)) k fa fd [x] dsp) :
  PySem.W.WalkO q loose XP YP l.row.toRowW d [] (fun f vs=>PySem.call f vs):=by
 refine Att.attach_call hn hdf fun w s₀ s₁ mg mb fa o pm cd doc a vs ns G Y ho hd hcd hmg hobj hints hlen hg=>?_
 obtain ⟨K,fd,cs,KX,hT,nT,C,hb,hF⟩:=F w mg fa _ Y G.T.g (G.T.seer hi) hmg
 have up:∀ {R:Addr×Addr->Prop},(∀ p∈cs,R p.1)->∀ p∈cs.map (·.1),R p:=fun {R} h p hp=>by
  obtain ⟨q,hq,rfl⟩:=List.mem_map.mp hp
  exact h q hq
 have dn:∀ {R:Addr×Addr->Prop},(∀ p∈cs.map (·.1),R p)->∀ p∈cs,R p.1:=fun {R} h p hp=>h p.1 (List.mem_map.mpr ⟨p,hp,rfl⟩)
 exact LamX.law_callTs (cs:=cs.map (·.1)) KX G.T.g G.T.b G.T.builtins G.T.nolimit hg (up (R:=fun p=>s₁.heap.get? p.2=some { cls:=.none,data:=.fields #[] }) hT) (up (R:=fun p=>K.lookup p.2=none) nT) (up (R:=fun p=>PySem.W.CodeHd s₁.heap p.1 p.2) C) G.T.bmain hobj hints (Nat.le_trans hlen (Nat.le_trans hn2 (by decide))) hr
  (fun base h1 h2 h3=>(hF base h1 h2 (dn (R:=fun p=>LamX.TabB base mg p.1 p.2) h3)).ok) hb
  (fun H hH hS=>law_startT hl (Nat.le_trans hlen hn2) hS fun p hp=>by
   obtain ⟨q,hq,rfl⟩:=List.mem_map.mp hp
   exact LamX.TabS.nil (hH q.1 (List.mem_map.mpr ⟨q,hq,rfl⟩))) fun H e s'=>cx_false H s₁ e s'
end DL
namespace DL
open PySem PySem.Spec PyProof.Rows L2 Mt
def keyOf:D->Option Key
 | .int i=>some (.inl i)
 | .str z=>some (.inr z)
 | _=>none
theorem keyOf_rp {K:PySem.W.Frag} {al:Al} {M:Mem} {H:Hp} {d:D} {v:V} {k:Key} (e:keyOf d=some k) (r:Rp K al M H d v):v=kV k:=by
 cases d <;> first | (cases e;done) | skip
 ·cases e;exact r
 ·cases e;exact r
def putKD (kvs:KD) (k:Key) (v:D):KD:=if (kvs.any fun kv=>decide (kv.1=k))=true then kvs.map (fun kv=>if kv.1=k then (kv.1,v) else kv) else kvs ++ [(k,v)]
section
variable {K:PySem.W.Frag} {al:Al} {M:Mem} {H:Hp}
theorem Rpk.put {k:Key} {d:D} {v:V} {kvs:KD} {ys:List (Key×V)} (h:Rpk K al M H kvs ys) (rd:Rp K al M H d v):Rpk K al M H (putKD kvs k d) (L2.putK ys k v):=by
 unfold putKD putK
 rw [h.any (k:=k)]
 split
 ·exact h.map rd
 ·exact h.app (Rpk.cons rd Rpk.nil)
end
def memK (M:Mem) (i:Nat):Option KD:=match M[i]? with
 | some (some (.dK kvs))=>some kvs
 | _=>none
def asKD (M:Mem):D->Option KD
 | .dk ks ds=>some (ks.zip ds)
 | .mt i=>memK M i
 | _=>none
theorem memK_at {M:Mem} {i:Nat} {kvs:KD} (h:M[i]?=some (some (.dK kvs))):asKD M (.mt i)=some kvs:=by
 show memK M i=_
 unfold memK;rw [h]
section
variable {K:PySem.W.Frag} {Tb:List (Addr×Str)} {al:Al} {M:Mem} {H:Hp}
theorem memK_ok (w:Wf K Tb al H M) {i:Nat} {kvs:KD} {v:V} (e:memK M i=some kvs) (r:Rp K al M H (.mt i) v):∃ a ys,v = .ref a/\al.a[i]?=some a/\M[i]?=some (some (.dK kvs))/\H a=some (.dK ys)/\Rpk K al M H kvs ys:=by
 obtain ⟨a,ea,rfl⟩:=r
 unfold memK at e
 split at e
 ·rename_i kvs' em
  cases e
  obtain ⟨ys,h1,h2⟩:=w.rep i a _ ea em
  exact ⟨a,ys,rfl,ea,em,h1,h2⟩
 ·cases e
theorem zip_len {ks:List Key} {ds:List D} {xs:List V} (h:ks.length=xs.length) (r:Rps K al M H ds xs):Rpk K al M H (ks.zip ds) (ks.zip xs):=by
 have e:ds.length=xs.length:=r.length
 exact ⟨by rw [List.map_fst_zip (by omega),List.map_fst_zip (by omega)],by rw [List.map_snd_zip (by omega),List.map_snd_zip (by omega)];exact r⟩
theorem asKD_ok (w:Wf K Tb al H M) {d:D} {kvs:KD} {v:V} (e:asKD M d=some kvs) (r:Rp K al M H d v):∃ a ys,v = .ref a/\Rd H a (.dK ys)/\Rpk K al M H kvs ys:=by
 cases d with
 | dk ks ds =>
  cases e
  obtain ⟨a,o,xs,rfl,h1,h2,h3,h4⟩:=r
  exact ⟨a,ks.zip xs,rfl,.inr ⟨o,h1⟩,zip_len h3 h4⟩
 | mt i =>
  obtain ⟨a,ys,rfl,_,_,h1,h2⟩:=memK_ok w e r
  exact ⟨a,ys,rfl,.inl h1,h2⟩
 | _=>cases e
end
def rIxK_:RD2:=fun x y M Q=>match asKD M x,keyOf y with
 | some kvs,some k=>(match valD kvs k with
  | some d=>Q d M
  | none=>False)
 | _,_=>False
def rInK_ (neg:Bool):RD2:=fun y x M Q=>match asKD M x,keyOf y with
 | some kvs,some k=>Q (.bl (if neg then !(valD kvs k).isSome else (valD kvs k).isSome)) M
 | _,_=>False
section
variable {X:Cx} {Tb:List (Addr×Str)} {EV:XK} {o i value:Expr} {to ti tv:TED} {pos pos':Pos}
theorem dv_ixK (hu:X.A.units+1 < cLine) (ho:PD X Tb EV o to) (hi:PD X Tb EV i ti) (hs:NoSl i:=by intro _ _;rfl):PD X Tb EV (.Subscript o i pos) (dOp rIxK_ to ti):=pe_imp (pe_dget hu ho hi hs) fun σ H QV h=>by
 obtain ⟨al,rho,M,E,Q,a,t,p⟩:=h
 refine seq1 a t fun al1 x M1 vx H1 s1 a1 r1 q1=>seq1 a1 q1 fun al2 y M2 vy H2 s2 a2 r2 q2=>?_
 unfold rIxK_ at q2
 split at q2
 ·rename_i kvs k e1 e2
  split at q2
  ·rename_i d e3
   obtain ⟨c,ys,rfl,hH,rk⟩:=asKD_ok a2.wf e1 (r1.mono s2)
   cases keyOf_rp e2 r2
   rcases rk.val (k:=k) with ⟨z,_⟩ | ⟨d',v,z1,z2,rd⟩
   ·rw [z] at e3;cases e3
   ·rw [e3] at z1;cases z1
    exact ⟨c,v,rfl,.inl ⟨ys,k,hH,rfl,z2.symm⟩,p _ _ _ _ _ (s1.trans s2) a2.wf rd q2⟩
  ·exact q2.elim
 ·exact q2.elim
theorem in_lift {neg:Bool} {σ:L2.St} {H:Hp} {QV:VK} (h:lift X.K Tb EV (dOp (rInK_ neg) ti to) σ H QV) :
  lift X.K Tb EV ti σ H fun y H1=>lift X.K Tb EV to σ H1 fun x H2=>∃ (a:Addr) (o:Option V),x = .ref a/\DGet H2 a y o/\QV (.bl (if neg then !o.isSome else o.isSome)) H2:=by
 obtain ⟨al,rho,M,E,Q,a,t,p⟩:=h
 refine seq1 a t fun al1 y M1 vy H1 s1 a1 r1 q1=>seq1 a1 q1 fun al2 x M2 vx H2 s2 a2 r2 q2=>?_
 unfold rInK_ at q2
 split at q2
 ·rename_i kvs k e1 e2
  obtain ⟨c,ys,rfl,hH,rk⟩:=asKD_ok a2.wf e1 r2
  cases keyOf_rp e2 (r1.mono s2)
  refine ⟨c,valV ys k,rfl,.inl ⟨ys,k,hH,rfl,rfl⟩,?_⟩
  have e:(valV ys k).isSome=(valD kvs k).isSome:=by
   rcases rk.val (k:=k) with ⟨z1,z2⟩ | ⟨d',v,z1,z2,rd⟩ <;> rw [z1,z2] <;> rfl
  rw [e]
  exact p _ (.bl _) _ _ _ (s1.trans s2) a2.wf rfl q2
 ·exact q2.elim
theorem pc_imp {op:CmpOp} {a b:Expr} {t t':TE} (h:PC X op a b t) (w:∀ σ H Q,t' σ H Q->t σ H Q):PC X op a b t':=⟨fun pins s σ H Q I q=>h.run pins s σ H Q I (w σ H Q q)⟩
theorem pc_notinK (hu:X.A.units+1 < cLine) (hi:PD X Tb EV i ti) (ho:PD X Tb EV o to):PC X .NotIn i o (lift X.K Tb EV (dOp (rInK_ true) ti to)):=pc_imp (pc_dnotin hu hi ho) fun σ H Q h=>by
 exact in_lift (neg:=true) h
theorem tB_lift {t:TED} {σ:L2.St} {H:Hp} {QV:Bool->Hp->Prop} (h:liftT X.K Tb EV (dB t) σ H QV):tB (lift X.K Tb EV t) σ H QV:=by
 obtain ⟨al,rho,M,E,Q,a,t,p⟩:=h
 refine ⟨al,rho,M,E,_,a,t,fun al' d M' v H' s' w r q=>?_⟩
 cases d with
 | bl k=>exact ⟨k,r,p _ _ _ _ s' w q⟩
 | _=>exact (show False from q).elim
theorem dt_notinK (hu:X.A.units+1 < cLine) (hi:PD X Tb EV i ti) (ho:PD X Tb EV o to) (hm:behindInMarks .NotIn o=false:=by first | exact nobehind _ (by decide) (by decide) | rfl):PDT X Tb EV (.Compare i [.NotIn] [o] pos) (dB (dOp (rInK_ true) ti to)):=pt_imp (pt_cmp (pc_notinK hu hi ho) hm) fun _ _ _ h=>tB_lift h
end
def rMin2_:RDC:=fun ds M Q=>match ds with
 | [.int i,.int j]=>Q (.int (if j < i then j else i)) M
 | _=>False
def rMax2_:RDC:=fun ds M Q=>match ds with
 | [.int i,.int j]=>Q (.int (if j > i then j else i)) M
 | _=>False
section
variable {K:PySem.W.Frag} {Tb:List (Addr×Str)} {al:Al} {M:Mem} {H:Hp}
theorem ref_max2:RefC K Tb (fun xs H Q=>∃ i j,xs=[.int i,.int j]/\Q (.int (if j > i then j else i)) H) rMax2_:=by
 intro al M H xs ds Q QV w r h p
 unfold rMax2_ at h
 split at h
 ·rename_i i j
  obtain ⟨v,v',rfl,rfl,rfl⟩:=r.two
  exact ⟨i,j,rfl,p _ (.int _) _ _ _ (Stp.refl ..) w rfl h⟩
 ·exact h.elim
end
end DL
namespace L2
open PySem PySem.Spec PyProof.Rows
theorem noteFrame_same {e:Value} {env env':Env} (h:env.frame=env'.frame):noteFrame e env=noteFrame e env':=by
 unfold noteFrame PySem.frameOf
 rw [h]
abbrev Cx.blkE (X:Cx) (s:Shared) (H:Hp) (scope:Scope) (cenv:Env) (fp:List Addr) (xb:Value->Shared->Prop):Cx:={ X.blk s H scope cenv fp with xe:=xb }
theorem funFrames_at {h h2 base base2:Heap}:∀ {l:List Env},h.FunFrames base l->(∀ L∈frs l,h2.get? L=h.get? L/\base2.get? L=none)->h2.FunFrames base2 l
 | [],_,_=>trivial
 | env :: l,⟨a,⟨L,o,e1,e2,e3,e4⟩,r⟩,k=>by
  have hL:=k L (by unfold frs;rw [List.filterMap_cons,e1];exact List.mem_cons_self ..)
  refine ⟨a,⟨L,o,e1,hL.2,hL.1.trans e3,e4⟩,funFrames_at r fun L' h'=>k L' ?_⟩
  unfold frs
  rw [List.filterMap_cons,e1]
  exact List.mem_cons_of_mem _ h'
theorem block_out {X:Cx} {pins:List (Addr×Obj)} {σ:St} {H3:Hp} {s3:Shared} {W:WX} {EV:XK} (tk:Takes X W) (hW:∀ cls d H,EV cls d H->W cls d σ H) (I3:Inv X pins σ H3 s3)
  (hsk:X.stack=X.env :: X.outer) (hf:X.env.frame=some X.env.locals)
  {scope:Scope} {ce:Env} {fp:List Addr} {xb:Value->Shared->Prop} (hce:ce.frame=X.env.frame) (hC:s3.heap.objs.size<=ce.locals) (f3:∀ b∈fp,FpOk X pins H3 b)
  {pins':List (Addr×Obj)} {σ':St} {H':Hp} {s' s'':Shared} {u:Value} (I':Inv (X.blkE s3 H3 scope ce fp xb) pins' σ' H' s') (c:L2.CX X.prog X.w X.stack H' s' EV u s'') :
  notedBy (model X.prog X.w) X.A ce (CompFails (model X.prog X.w) X.A X.xe ce) u s'':=by
 obtain ⟨a,B,H1,cls,d,rfl,fl,hok,ub,na,os,ag,hE⟩:=c
 have hfr:X.A.frames=some (X.env :: X.outer):=by rw [I3.ok.frames,hsk]
 unfold notedBy
 rw [noteFrame_same hce]
 rw [hsk] at fl
 have flf:=fl.2.2.1
 refine HandSPX.looks_onZ Zc.steady hfr hf fl fun h' hh up=>?_
 obtain ⟨m,hn,_⟩:=I'.loc
 have hn:s'.heap.Ns ce.locals m:=hn
 have hHC:H' ce.locals=none:=I'.free
 have hCf:ce.locals ∉ frs X.stack:=fun z=>by
  rcases List.mem_cons.mp (I3.stkSub _ z) with e | e
  ·have:=I3.lt
   rw [<- e] at this
   exact absurd (Nat.lt_of_lt_of_le this hC) (Nat.lt_irrefl _)
  ·exact I3.nofs hC e
 obtain ⟨oC,es,ep,hoC,hdC,r⟩:=hn
 have hBC:B.get? ce.locals=some oC:=ub.keep _ _ hoC hHC hCf
 obtain ⟨k1,k2,k3,k4⟩:=hh
 refine ⟨m,⟨oC,es,ep,k1 _ _ hBC,hdC,r⟩,fun h2 m2 hn2 sb=>?_⟩
 obtain ⟨oe,vs,T,oT,ts,he,hz,hd,h1,hnT,hTe,hT,hdT,h3⟩:=k4
 have hfC:h'.get? ce.locals=some oC:=k1 _ _ hBC
 have aC:a≠ce.locals:=fun z=>by
  rw [z,hfC] at he
  cases he
  rw [hdC] at hd
  cases hd
 have TC:T≠ce.locals:=fun z=>by
  rw [z,hfC] at hT
  cases hT
  rw [hdC] at hdT
  cases hdT
 -- the ground without the block's names
 obtain ⟨B',b1,b2⟩:=restrict B fun b=>decide (b≠ce.locals)
 have b1:∀ b,b≠ce.locals->B'.get? b=B.get? b:=fun b hb=>b1 b (decide_eq_true hb)
 have b2:B'.get? ce.locals=none:=b2 _ (decide_eq_false fun z=>z rfl)
 have bB:∀ b o,B'.get? b=some o->b≠ce.locals/\B.get? b=some o:=fun b o e=>by
  have hb:b≠ce.locals:=fun z=>by rw [z,b2] at e;cases e
  exact ⟨hb,by rw [<- b1 b hb];exact e⟩
 have st2:B'.StaysIn h2:=fun b o e=>by
  obtain ⟨hb,e⟩:=bB b o e
  exact (sb.2 b hb).trans (k1 b o e)
 have noB:∀ b,B.get? b=none->B'.get? b=none:=fun b e=>by
  cases q:B'.get? b with
  | none=>rfl
  | some o=>rw [(bB b o q).2] at e;cases e
 have he2:h2.get? a=some oe:=(sb.2 a aC).trans he
 have hT2:h2.get? T=some oT:=(sb.2 T TC).trans hT
 have fr2:h2.FunFrames B' (X.env :: X.outer):=by
  refine funFrames_at k3 fun L hL=>⟨sb.2 L fun z=>hCf ?_,noB L (k3.mem hL).1⟩
  rw [hsk,<- z];exact hL
 have tr2:HandSPX.TracedZ h2 B' a (Zc cls d) (rawInt X.env.locals):=⟨oe,vs,T,oT,ts,he2,hz,hd,h1,noB T hnT,hTe,hT2,hdT,h3⟩
 unfold PySem.passOn
 refine wpAny_bind (wpAny_field he2 hd h1 ?_)
 rw [if_neg (show ¬ ((Value.ref T == Value.none)=true) from by simp)]
 have go:wpAny (model X.prog X.w) X.A (setFlight (.ref a) ce.frame) (fun _ s=>X.xe (.ref a) s) X.xe { s'' with heap:=h2 }:=by
  refine HandSPX.setFlight_anyZ st2 fr2 tr2 fun h3 st3 fr3 tr3 up3=>?_
  rw [hce,hf] at tr3
  have tr3:HandSPX.TracedZ h3 B' a (Zc cls d) (rawInt X.env.locals):=tr3
  -- the state without the exception
  obtain ⟨G,g1,g2⟩:=restrict h3 fun b=>(B'.get? b).isSome || decide (b∈frs X.stack)
  have gB:∀ b o,B'.get? b=some o->G.get? b=some o:=fun b o e=>by
   rw [g1 b (by simp [e])]
   exact st3 b o e
  have gF:∀ b,b∈frs X.stack->G.get? b=h3.get? b:=fun b hb=>g1 b (by simp [hb])
  have og:∀ b o,G.get? b=some o->h3.get? b=some o/\((B'.get? b).isSome=true\/b∈frs X.stack):=fun b o e=>by
   cases q:((B'.get? b).isSome || decide (b∈frs X.stack)) with
   | false=>rw [g2 b q] at e;cases e
   | true =>
    rw [g1 b q] at e
    exact ⟨e,by simpa [Bool.or_eq_true] using q⟩
  have U1:Un (frs X.stack) fp H3 H' s3.heap s'.heap:=I'.base
  have h1C:H1 ce.locals=none:=ub.free _ _ hoC hHC
  have hok2:HOk X.prog X.w H1 B':=fun b u e=>(hok b u e).stay (fun c v hc q=>by
   rw [b1 c fun z=>?_]
   ·exact q
   ·rw [z] at hc
    rcases hc with hc | hc
    ·rw [<- hc,h1C] at e;cases e
    ·rw [h1C] at hc;cases hc) (fun _ q=>q) fun _ _ q=>q
  have frm:∀ b∈frs X.stack,∀ o,s''.heap.get? b=some o->∃ sl,G.get? b=some { o with slots:=sl }:=fun b hb o e=>by
   obtain ⟨_,o2,e2,nf⟩:=flf.mem (by rw [<- hsk];exact hb)
   rw [e2] at e
   cases e
   obtain ⟨sl1,q1⟩:=up b _ e2 nf
   have q2:h2.get? b=_:=(sb.2 b fun z=>hCf (by rw [<- z];exact hb)).trans q1
   obtain ⟨sl2,q3⟩:=up3 b _ q2 nf
   exact ⟨sl2,by rw [gF b hb];exact q3⟩
  have lt3:∀ b o,s3.heap.get? b=some o->b≠ce.locals:=fun b o e z=>by
   have:=Heap.lt_size e
   rw [z] at this
   exact absurd (Nat.lt_of_lt_of_le this hC) (Nat.lt_irrefl _)
  have IG:Inv X pins σ H1 { s3 with heap:=G,gens:=s''.gens,drawn:=s''.drawn,toks:=s''.toks }:=by
   refine I3.call (ch:=fp) ⟨fun b o e n hb hx=>?_,fun b o e n hb hx=>?_,fun b o e n hx=>?_,fun b o e hx=>?_,fun b xs e=>ub.tups b xs (U1.tups b xs e),fun b o u e=>ub.frzs b o u (U1.frzs b o u e),fun b ps e=>?_⟩ (hok2.kept gB) ag fun b hb=>?_
   ·refine gB b o ?_
    rw [b1 b (lt3 b o e)]
    exact ub.keep b o (U1.keep b o e n hb hx) (U1.free b o e n hx) hb
   ·obtain ⟨sl1,q1⟩:=U1.slot b o e n hb hx
    obtain ⟨sl2,q2⟩:=ub.slot b _ q1 hb
    obtain ⟨sl3,q3⟩:=frm b hb _ q2
    exact ⟨sl3,q3⟩
   ·obtain ⟨o',q⟩:=U1.there b o e hx
    exact ub.free b o' q (U1.free b o e n hx)
   ·obtain ⟨o',q⟩:=U1.there b o e hx
    by_cases hb:b∈frs X.stack
    ·obtain ⟨sl2,q2⟩:=ub.slot b o' q hb
     obtain ⟨sl3,q3⟩:=frm b hb _ q2
     exact ⟨_,q3⟩
    ·obtain ⟨o2,q2⟩:=ub.there b o' q hb
     exact ⟨o2,gB b o2 (by rw [b1 b (lt3 b o e)];exact q2)⟩
   ·obtain ⟨m1,q1⟩:=U1.tbls b ps e
    obtain ⟨m2,q2⟩:=ub.tbls b _ q1
    exact ⟨m1 ++ m2,by rw [q2,Array.append_assoc]⟩
   ·obtain ⟨_,f1,_,f4,f5,f6⟩:=f3 b hb
    exact ⟨f4,f1,f5,f6⟩
  refine tk _ _ ⟨a,B',_,pins,σ,H1,cls,d,rfl,IG,fun b o e hb=>?_,Heap.UpToSlots.of_keeps fun b o e=>(og b o e).1,.inr (.inr ⟨st3,noB a k2,by rw [hsk];exact fr3,tr3⟩),na,?_,ag,hW _ _ _ hE⟩
  ·obtain ⟨e',h⟩:=og b o e
   rcases h with h | h
   ·obtain ⟨o',q⟩:=Option.isSome_iff_exists.mp h
    have z:=st3 b o' q
    rw [e'] at z;cases z
    exact q
   ·exact absurd h hb
  ·show s''.os=s3.os
   rw [os,I'.os]
 first
  | exact wpAny_bind (wpAny_pure (wpAny_bind (wpAny_mono go (fun _ _ q=>wpAny_throw q) fun _ _ q=>q)))
  | exact wpAny_bind (wpAny_mono go (fun _ _ q=>wpAny_throw q) fun _ _ q=>q)
section
variable {X:Cx}
theorem lc_coreE {pins:List (Addr×Obj)} {s:Shared} {σ:St} {H:Hp} {Q:VK} {elt tg iter:Expr} {ifs:List Expr} {scope:Scope} {own:List (Str×Nat)} {pos pos':Pos} {wi:TI} {g:TG} {tt:TT} {te:TE} {use:Option (Value->Sem Unit)} {Qf:Value->Shared->Prop} {W:WX} {EV:XK}
  (tk:Takes X W) (hW:∀ cls d σ H,EV cls d H->W cls d σ H) (hsk:X.stack=X.env :: X.outer) (hf:X.env.frame=some X.env.locals)
  (hc:X.calm=true) (hN:X.N.Nodup) (I:Inv X pins σ H s) (hi:PI X tg iter wi) (ok:BlkOk X.N X.env.scope scope own)
  (hg:∀ (s:Shared) (H:Hp) (C:Addr) (cl:List (Str×Addr)) (fp:List Addr) (xb:Value->Shared->Prop),Passes (L2.CX X.prog X.w) (X.blkE s H scope (compEnvC scope cl C X.env) fp xb) EV->PG (X.blkE s H scope (compEnvC scope cl C X.env) fp xb) tg g)
  (ht:∀ (s:Shared) (H:Hp) (C:Addr) (cl:List (Str×Addr)) (fp:List Addr) (xb:Value->Shared->Prop),Passes (L2.CX X.prog X.w) (X.blkE s H scope (compEnvC scope cl C X.env) fp xb) EV->PTs (X.blkE s H scope (compEnvC scope cl C X.env) fp xb) ifs tt)
  (he:∀ (s:Shared) (H:Hp) (C:Addr) (cl:List (Str×Addr)) (fp:List Addr) (xb:Value->Shared->Prop),Passes (L2.CX X.prog X.w) (X.blkE s H scope (compEnvC scope cl C X.env) fp xb) EV->(∀ pins' σ' H' s',Inv (X.blkE s H scope (compEnvC scope cl C X.env) fp xb) pins' σ' H' s'->Inv X pins σ H' s')->PE (X.blkE s H scope (compEnvC scope cl C X.env) fp xb) elt te) (hs:∀ x,foldedSetIterable iter X.env x=pure x)
  (h:tLc wi g tt te (own.map (·.2)) σ H Q)
  (hRR:∀ D C s' m H',Inv X pins σ H' s'->Q (.ref D) H'->s'.heap.Ns C m->FpOk X pins H' C->compPost (model X.prog X.w) X.A X.xe use Qf (.ref D) C (.ok .next) s') :
  wpAny (model X.prog X.w) X.A (comprehension (.ListComp elt [⟨tg,iter,ifs,0⟩] scope pos) scope X.env pos' (newList []) false (eval iter X.env) use) Qf X.xe s:=by
 have hfree:∀ y∈scope.names,y.2 = .free->∃ c,X.env.cells.lookup y.1=some c:=fun y hy e=>by
  rcases ok.free y hy e with k | k
  ·exact I.ok.has _ (.inl k)
  ·exact I.ok.has _ (.inr k)
 refine comprehension_at (use:=use) rfl hs (closure_ok hfree) ok.kind (fun y hy e=>by rw [ok.uniq y hy,e])
  (thn (hi.run pins s σ H _ I h) fun xv s1 hx=>thn hx fun itv s2 h2=>?_)
 obtain ⟨it,fp,tn,J,H2,e,I2,T,st2,f2,q⟩:=h2
 subst e
 refine wpAny_newObj_type (newEnv_comp ?_) (by show 0<=sizeLine;decide)
 generalize hD:s2.heap.objs.size=D
 have hDn:H2 D=none:=I2.hok.fresh (Nat.le_of_eq hD)
 obtain ⟨W0,⟨m0,w0⟩,turn⟩:=q D hDn
 -- the new list
 generalize hs3:({ s2 with heap:=s2.heap.push { cls:=.type "list",data:=.seq ([]:List Value).toArray } }:Shared)=s3
 have I3:Inv X pins σ (upd H2 D (.lst [])) s3:=by
  rw [<- hs3]
  refine I2.laid (t':=s2.toks) (fun b o e=>Heap.get?_push_of_some _ e) (Nat.le_of_eq hD) ⟨Nat.zero_le _,[],0,.nil,?_⟩
  rw [<- hD]
  exact Heap.get?_push_size _ rfl
 have h3:s3.heap=s2.heap.push { cls:=.type "list",data:=.seq ([]:List Value).toArray }:=by rw [<- hs3]
 have sz:∀ b∈fp,b < s2.heap.objs.size:=fun b hb=>by
  obtain ⟨o,e,_⟩:=T.obj _ _ st2 b hb
  exact Heap.lt_size e
 have f3:∀ b∈fp,FpOk X pins (upd H2 D (.lst [])) b/\b < s3.heap.objs.size:=fun b hb=>by
  have hlt:=sz b hb
  refine ⟨⟨?_,(f2 b hb).2⟩,by rw [h3,Heap.size_push];exact Nat.lt_succ_of_lt hlt⟩
  rw [upd_ne (by rw [<- hD];exact Nat.ne_of_lt hlt)]
  exact (f2 b hb).1
 have st3:tn 0 s3.heap:=T.keep _ _ _ st2 fun b _ o e=>by rw [h3];exact Heap.get?_push_of_some _ e
 have I4:=block_start I3 ok hN f3
 show codeAny _ _ (.compStart (.ListComp elt [⟨tg,iter,ifs,0⟩] scope pos) 0 (.ref it) (.ref D) (compEnvC scope (cellsFrom (s3.heap.objs.size+1) scope.names (cloFrom X.env.cells scope.names [])) s3.heap.objs.size X.env)) (compEnds (model X.prog X.w) X.A X.xe use Qf (.ref D) (compEnvC scope (cellsFrom (s3.heap.objs.size+1) scope.names (cloFrom X.env.cells scope.names [])) s3.heap.objs.size X.env)) { s3 with heap:=pushCells (s3.heap.push { cls:=.type "dict",data:=.dict #[] }) scope.names }
 have nfp:∀ b∈fp,(upd H2 D (.lst [])) b=none:=fun b hb=>(f3 b hb).1.1
 have pg:=hg s3 (upd H2 D (.lst [])) s3.heap.objs.size (cellsFrom (s3.heap.objs.size+1) scope.names (cloFrom X.env.cells scope.names [])) fp
 have pt:=ht s3 (upd H2 D (.lst [])) s3.heap.objs.size (cellsFrom (s3.heap.objs.size+1) scope.names (cloFrom X.env.cells scope.names [])) fp
 have pe:=he s3 (upd H2 D (.lst [])) s3.heap.objs.size (cellsFrom (s3.heap.objs.size+1) scope.names (cloFrom X.env.cells scope.names [])) fp
 generalize hce:compEnvC scope (cellsFrom (s3.heap.objs.size+1) scope.names (cloFrom X.env.cells scope.names [])) s3.heap.objs.size X.env=ce at I4 pg pt pe ⊢
 have cL:ce.locals=s3.heap.objs.size:=by subst hce;rfl
 have cF:ce.frame=X.env.frame:=by subst hce;rfl
 generalize hH3:upd H2 D (.lst [])=H3 at I3 I4 pg pt pe w0 nfp f3
 have hps:Passes (L2.CX X.prog X.w) (X.blkE s3 H3 scope ce fp (notedBy (model X.prog X.w) X.A ce (CompFails (model X.prog X.w) X.A X.xe ce))) EV:=fun pins' σ' H' s' u s'' I' c =>
  block_out tk (fun cls d H e=>hW cls d σ H e) I3 hsk hf cF (Nat.le_of_eq cL.symm) (fun b hb=>(f3 b hb).1) I' c
 have pg:=pg _ hps
 have pt:=pt _ hps
 have pe:=pe _ hps fun pins' σ' H' s' I6=>I3.call' (ch:=fp) I6.os I6.base I6.hok I6.bare fun b hb=>⟨(f3 b hb).1.2.2.2.1,(f3 b hb).1.2.1,(f3 b hb).1.2.2.2.2.1,(f3 b hb).1.2.2.2.2.2⟩
 have okc:(X.blk s3 H3 scope ce fp).Ok->(X.blkE s3 H3 scope ce fp (notedBy (model X.prog X.w) X.A ce (CompFails (model X.prog X.w) X.A X.xe ce))).Ok:=fun o=>⟨o.mod,o.kind,o.glob,o.blt,o.above,o.inj,o.has,o.cab,o.hd,o.frames,o.stk,o.exf,o.bs,o.bsz,o.noex,o.exfs,o.funs,o.frf⟩
 have I4:Inv (X.blkE s3 H3 scope ce fp (notedBy (model X.prog X.w) X.A ce (CompFails (model X.prog X.w) X.A X.xe ce))) [] (wipe σ (own.map (·.2))) H3 { s3 with heap:=pushCells (s3.heap.push { cls:=.type "dict",data:=.dict #[] }) scope.names }:=⟨okc I4.ok,I4.os,I4.bare,I4.base,I4.loc,I4.cell,I4.free,I4.freeC,I4.pin,I4.hok,I4.len⟩
 have rerr:∀ e s',CompFails (model X.prog X.w) X.A X.xe ce e s'->compEnds (model X.prog X.w) X.A X.xe use Qf (.ref D) ce (.error e) s':=fun e s' q=>by cases use <;> exact q
 have nerr:∀ e s',notedBy (model X.prog X.w) X.A ce (CompFails (model X.prog X.w) X.A X.xe ce) e s'->notedBy (model X.prog X.w) X.A ce (fun e s'=>compEnds (model X.prog X.w) X.A X.xe use Qf (.ref D) ce (.error e) s') e s':=fun e s' q =>
  wpAny_mono q (fun _ s'' z=>rerr _ _ z) fun _ s'' z=>rerr _ _ z
 have rok:∀ D' s',compPost (model X.prog X.w) X.A X.xe use Qf (.ref D') s3.heap.objs.size (.ok .next) s'->compEnds (model X.prog X.w) X.A X.xe use Qf (.ref D') ce (.ok .next) s':=fun D' s' q=>by
  cases use
  ·unfold compEnds;rw [cL];exact q
  ·unfold compEnds;rw [cL];exact q
 generalize hs4:({ s3 with heap:=pushCells (s3.heap.push { cls:=.type "dict",data:=.dict #[] }) scope.names }:Shared)=s4 at I4 ⊢
 have st4:tn 0 s4.heap:=T.keep _ _ _ st3 fun b _ o e=>by rw [<- hs4];exact pushCells_keeps _ _ _ _ (Heap.get?_push_of_some _ e)
 generalize hXB:X.blkE s3 H3 scope ce fp (notedBy (model X.prog X.w) X.A ce (CompFails (model X.prog X.w) X.A X.xe ce))=XB at *
 have xA:XB.A=X.A:=by rw [<- hXB]
 have xE:XB.ex=fp:=by rw [<- hXB]
 have stat:∀ {σ':St} {H':Hp} {s':Shared},Inv XB [] σ' H' s'->(∀ b∈fp,H' b=none)->∀ b∈fp,FpOk XB [] H' b:=fun {σ' H' s'} I' hn b hb=>by
  subst hXB
  exact ⟨hn b hb,(I'.ok.exf b hb).1,I'.ok.exfs b hb,.inl hb,fun x c e=>(I'.ok.exf b hb).2 x c e,fun p hp=>absurd (show p∈([]:List (Addr×Obj)) ++ [] from hp) (by simp)⟩
 have loop:codeAny (model X.prog X.w) X.A (.compLoop (.ListComp elt [⟨tg,iter,ifs,0⟩] scope pos) 0 (.ref it) (.ref D) ce) (compEnds (model X.prog X.w) X.A X.xe use Qf (.ref D) ce) s4:=by
  refine compLoop_any (fun n s'=>∃ i H',Inv XB [] (wipe σ (own.map (·.2))) H' s'/\tn i s'.heap/\(∀ b∈fp,H' b=none)/\W0 i n H') ?_ m0 ⟨0,H3,I4,st4,nfp,w0⟩
  rintro n s5 ⟨i,H5,I5,st5,n5,w5⟩
  rcases turn i n H5 w5 with ⟨stop,qq⟩ | ⟨go,Nx,hNx,step⟩
  ·have td:=T.done XB (by rw [<- hXB]) (by rw [<- hXB]) (by rw [<- hXB]) (by rw [<- hXB];exact hc) i [] s5 _ H5 (fun _ _=>False) I5 (stat I5 n5) st5 stop
   rw [xA] at td
   refine thnF td fun r s6 ⟨hr,I6⟩=>?_
   subst hr
   subst hXB
   -- back in the def's context
   have I7:Inv X pins σ H5 s6:=I3.call' (ch:=fp) I6.os I6.base I6.hok I6.bare fun b hb=>⟨(f3 b hb).1.2.2.2.1,(f3 b hb).1.2.1,(f3 b hb).1.2.2.2.2.1,(f3 b hb).1.2.2.2.2.2⟩
   have nC:H5 s3.heap.objs.size=none:=by
    have z:H5 ce.locals=none:=I6.free
    rw [cL] at z
    exact z
   obtain ⟨m,hn,_⟩:=I6.loc
   have hn:s6.heap.Ns ce.locals m:=hn
   rw [cL] at hn
   exact rok _ _ (hRR D s3.heap.objs.size s6 m H5 I7 qq hn (I3.fpOk (Nat.le_refl _) nC))
  ·have ti:=T.item XB (by rw [<- hXB]) (by rw [<- hXB]) (by rw [<- hXB]) (by rw [<- hXB];exact hc) i [] s5 _ H5 (fun _ _=>False) I5 (stat I5 n5) st5 go
   rw [xA] at ti
   refine thnF ti fun r s6 ⟨u,hr,h6⟩=>?_
   subst hr
   refine thnF h6 fun _ s7 ⟨x,H7,I7,r7,y7,st7,n7⟩=>?_
   have I7':=I7.pinned (stat I7 n7) (T.obj _ _ st7)
   have rg:=pg.run _ s7 _ H7 x u _ I7' r7 (step x H7 y7)
   subst hXB
   refine wpAny_mono rg (fun _ s8 ⟨σ8,H8,I8,hw8,q8⟩=>?_) nerr
   refine wpAny_mono (pt.run _ s8 σ8 H8 _ I8 q8) (fun b s9 ⟨H9,I9,q9⟩=>?_) nerr
   -- the turn's end
   have fin:∀ {s':Shared} {H':Hp},Inv (X.blkE s3 H3 scope ce fp (notedBy (model X.prog X.w) X.A ce (CompFails (model X.prog X.w) X.A X.xe ce))) ([] ++ pinsAt fp s7.heap) σ8 H' s'->Nx H'->∃ m,m < n/\∃ i H',Inv (X.blkE s3 H3 scope ce fp (notedBy (model X.prog X.w) X.A ce (CompFails (model X.prog X.w) X.A X.xe ce))) [] (wipe σ (own.map (·.2))) H' s'/\tn i s'.heap/\(∀ b∈fp,H' b=none)/\W0 i m H':=fun {s' H'} I' nx=>by
    obtain ⟨m',hm,w'⟩:=hNx H' nx
    have pin':∀ b∈fp,∀ o,s7.heap.get? b=some o->s'.heap.get? b=some o/\H' b=none:=fun b hb o e =>
     let z:=I'.pin (b,o) (List.mem_append_right _ (List.mem_append_right _ (mem_pinsAt hb e)))
     ⟨z.1,z.2.1⟩
    have hl:(wipe σ (own.map (·.2))).length=σ8.length:=by rw [<- hw8,wipe_length]
    refine ⟨m',hm,i+1,H',(I'.unpinned (pins:=[])).weak hl (fun j v e=>?_),T.keep _ _ _ st7 fun b hb o e=>(pin' b hb o e).1,fun b hb=>?_,w'⟩
    ·rw [<- hw8] at e
     exact (wipe_some e).1
    ·obtain ⟨o,e,_⟩:=T.obj _ _ st7 b hb
     exact (pin' b hb o e).2
   cases b with
   | false =>
    simp only [Bool.false_eq_true,if_false] at q9 ⊢
    exact fin I9 q9
   | true =>
    simp only [if_true] at q9 ⊢
    refine wpAny_mono (pe.run _ s9 σ8 H9 _ I9 q9) (fun z s10 ⟨yv,H10,I10,r10,acc,hD10,hz10,nx⟩=>?_) nerr
    exact app_ok (X:=X.blkE s3 H3 scope ce fp (notedBy (model X.prog X.w) X.A ce (CompFails (model X.prog X.w) X.A X.xe ce))) I10 hD10 hz10 r10 fun s11 I11=>fin I11 nx
 exact codeAny_compStart_list loop (T.self X.A 0 _ _ _ st4 loop)
end
section
variable {X:Cx} {W:WX} {EV:XK} {elt tg iter:Expr} {ifs:List Expr} {scope:Scope} {own:List (Str×Nat)} {pos:Pos} {wi:TI} {g:TG} {tt:TT} {te:TE}
theorem pe_lcE (tk:Takes X W) (hW:∀ cls d σ H,EV cls d H->W cls d σ H) (hsk:X.stack=X.env :: X.outer) (hf:X.env.frame=some X.env.locals) (hc:X.calm=true) (hN:X.N.Nodup) (hi:PI X tg iter wi) (ok:BlkOk X.N X.env.scope scope own)
  (hg:∀ (s:Shared) (H:Hp) (C:Addr) (cl:List (Str×Addr)) (fp:List Addr) (xb:Value->Shared->Prop),Passes (L2.CX X.prog X.w) (X.blkE s H scope (compEnvC scope cl C X.env) fp xb) EV->PG (X.blkE s H scope (compEnvC scope cl C X.env) fp xb) tg g)
  (ht:∀ (s:Shared) (H:Hp) (C:Addr) (cl:List (Str×Addr)) (fp:List Addr) (xb:Value->Shared->Prop),Passes (L2.CX X.prog X.w) (X.blkE s H scope (compEnvC scope cl C X.env) fp xb) EV->PTs (X.blkE s H scope (compEnvC scope cl C X.env) fp xb) ifs tt)
  (he:∀ (s:Shared) (H:Hp) (C:Addr) (cl:List (Str×Addr)) (fp:List Addr) (xb:Value->Shared->Prop),Passes (L2.CX X.prog X.w) (X.blkE s H scope (compEnvC scope cl C X.env) fp xb) EV->PE (X.blkE s H scope (compEnvC scope cl C X.env) fp xb) elt te) (hs:∀ x,foldedSetIterable iter X.env x=pure x:=by intro _;rfl) :
  PE X (.ListComp elt [⟨tg,iter,ifs,0⟩] scope pos) (tLc wi g tt te (own.map (·.2))):=by
 refine ⟨fun pins s σ H Q I h=>?_⟩
 rw [eval_ListComp]
 refine lc_coreE tk hW hsk hf hc hN I hi ok hg ht (fun s H C cl fp xb p _=>he s H C cl fp xb p) hs h fun D C s' m H' I' q hn f=>⟨m,hn,fun h'' sb=>?_⟩
 obtain ⟨f0,f1,f2,f3,f4,f5⟩:=f
 exact ⟨.ref D,H',I'.turned (t':=s'.toks) (fun b o hb e=>(sb.2 b hb).trans e) f0 f1 f3 f4 f5,rfl,q⟩
end
end L2
namespace DL
open PySem PySem.Spec PyProof.Rows L2 Mt
def lcUE (E:XD) (g:TGD) (tt:TTD) (te:TED) (vs:List Nat):List D->List D->Rho->Mem->VD->Prop
 | [],acc=>fun _ M Q=>Q (.lst acc) M
 | d :: r,acc=>fun rho M Q=>g d noE (wipeD rho vs) M fun rho' M1=>tt noE rho' M1 fun b M2=>if b=true then te E rho' M2 (fun y M3=>acc.length < sizeLine/\lcUE E g tt te vs r (acc ++ [y]) rho M3 Q) else lcUE E g tt te vs r acc rho M2 Q
abbrev dLcE (it:TID) (g:TGD) (tt:TTD) (te:TED) (vs:List Nat):TED:=fun E rho M Q=>it E rho M fun ds M1=>lcUE E g tt te vs ds [] rho M1 Q
theorem lc_liftE {K:PySem.W.Frag} {Tb:List (Addr×Str)} {EV:XK} {it:TID} {gV:TG} {g:TGD} {tt:TTD} {te:TED} {vs:List Nat} (hN:TgN K gV g vs) {σ:L2.St} {H:Hp} {QV:VK} (h:lift K Tb EV (dLcE it g tt te vs) σ H QV) :
  tLc (liftI K Tb EV it) gV (liftT K Tb L2.E0 tt) (lift K Tb EV te) vs σ H QV:=by
 obtain ⟨al,rho,M,E,Q,a,t,p⟩:=h
 refine ⟨al,rho,M,E,_,a,t,fun al0 ds M0 H0 J s0 w0 ok q D0 hD0=>?_⟩
 have a0:=a.go s0 w0
 refine ⟨fun i m H1=>m=ds.length - i/\i<=ds.length/\∃ (l1:List Addr) (M1:Mem) (acc:List D) (ys:List V),Stw al0 M0 H0 (Al.hide ⟨l1,al0.h⟩ D0) M1 H1/\Wf K Tb (Al.hide ⟨l1,al0.h⟩ D0) H1 M1/\RpS K (Al.hide ⟨l1,al0.h⟩ D0) M1 H1 σ rho /\
   Rps K (Al.hide ⟨l1,al0.h⟩ D0) M1 H1 acc ys/\H1 D0=some (.lst ys)/\lcUE E g tt te vs (ds.drop i) acc rho M1 Q,⟨ds.length,by simp,Nat.zero_le _,al0.a,M0,[],[],?_⟩,?_⟩
 ·obtain ⟨w1,r1⟩:=hide_stp w0 hD0 (.lst []) (.inl ⟨_,rfl⟩)
  refine ⟨⟨fun _ _ h=>h,fun b o h _ f=>⟨by rw [upd_ne (ne_of_none h hD0)];exact h,fun hm=>?_,f.2⟩,fun b hb=>⟨List.mem_cons_of_mem _ hb,upd_ne fun z=>w0.nohid hD0 (z ▸ hb)⟩⟩,w1,⟨a0.sl.1,fun i d e=>let ⟨v,e1,r⟩:=a0.sl.2 i d e;⟨v,e1,r1 _ _ r⟩⟩,rfl,upd_same,by simpa using q⟩
  rcases List.mem_cons.mp hm with z | z
  ·exact absurd (z ▸ h) (by rw [hD0];intro q;cases q)
  ·exact f.1 z
 ·rintro i m H1 ⟨rfl,hi,l1,M1,acc,ys,s1,w1,sl1,racc,hD1,t1⟩
  by_cases hlt:i < ds.length
  ·have e:ds[i]?=some ds[i]:=by simp [hlt]
   have ed:ds.drop i=ds[i] :: ds.drop (i+1):=List.drop_eq_getElem_cons hlt
   rw [ed] at t1
   refine .inr ⟨ok.go _ _ _ s1 w1 i _ e,fun H2=>∃ (l2:List Addr) (M2:Mem) (acc:List D) (ys:List V),Stw al0 M0 H0 (Al.hide ⟨l2,al0.h⟩ D0) M2 H2/\Wf K Tb (Al.hide ⟨l2,al0.h⟩ D0) H2 M2/\RpS K (Al.hide ⟨l2,al0.h⟩ D0) M2 H2 σ rho /\
    Rps K (Al.hide ⟨l2,al0.h⟩ D0) M2 H2 acc ys/\H2 D0=some (.lst ys)/\lcUE E g tt te vs (ds.drop (i+1)) acc rho M2 Q,fun H2 h2=>⟨ds.length - (i+1),by omega,rfl,hlt,h2⟩,fun x H2 y=>?_⟩
   obtain ⟨s2,w2,r2⟩:=ok.yld _ _ _ s1 w1 i _ x H2 e y
   have sl2:=sl1.mono s2
   refine hN _ _ _ _ _ _ _ _ _ _ (wipe_ok sl2 vs) r2 t1 fun σ' rho' ew sl' t2=>⟨by rw [ew];exact wipe_wipe fun _ h=>h,?_⟩
   have aB:At K Tb L2.E0 (Al.hide ⟨l1,al0.h⟩ D0) σ' H2 rho' M1 noE:=⟨w2,sl',fun _ _ _ _ _ _ _ _ _ z=>z⟩
   have hD2:H2 D0=some (.lst ys):=(s2.hid D0 List.mem_cons_self).trans hD1
   refine seqT aB t2 fun al3 b M3 H3 s3 a3 q3=>?_
   have hh3:al3=Al.hide ⟨al3.a,al0.h⟩ D0:=Al.eta (show al3.h=D0 :: al0.h from s3.hh)
   have hD3:H3 D0=some (.lst ys):=(s3.hid D0 List.mem_cons_self).trans hD2
   cases b with
   | false =>
    rw [if_neg Bool.false_ne_true]
    refine ⟨al3.a,M3,acc,ys,?_,?_,?_,?_,hD3,q3⟩
    ·rw [<- hh3];exact (s1.stp s2).stp s3
    ·rw [<- hh3];exact a3.wf
    ·rw [<- hh3];exact sl2.mono s3
    ·rw [<- hh3];exact (racc.mono s2).mono s3
   | true =>
    rw [if_pos rfl]
    have a3E:At K Tb EV al3 σ' H3 rho' M3 E:=⟨a3.wf,a3.sl,fun al' x M' cls dct H' s' w' r' e'=>by
     have S':=((s1.stp s2).stp s3).stp s'
     have hh':al'=Al.hide ⟨al'.a,al0.h⟩ D0:=Al.eta (show al'.h=D0 :: al0.h from s'.hh.trans s3.hh)
     rw [hh'] at S' w' r'
     obtain ⟨w2',u1',u2'⟩:=unhide w'
     refine a.ex ⟨al'.a,al0.h⟩ x M' cls dct H' (s0.trans ⟨S'.pre,fun b o h n f=>⟨(S'.fz b o h n f).1,(fz_unhide (S'.fz b o h n f).2).2⟩,rfl,fun b hb=>(S'.hid b hb).2⟩) w2' ?_ e'
     obtain ⟨r1,dx,ys',r2',r3',r4'⟩:=r'
     exact ⟨r1,dx,ys',r2',r3',r4'.1,u2' _ _ r4'.2⟩⟩
    refine seq1 a3E q3 fun al4 d4 M4 v4 H4 s4 a4 r4 q4=>?_
    have hh4:al4=Al.hide ⟨al4.a,al0.h⟩ D0:=Al.eta (show al4.h=D0 :: al0.h from s4.hh.trans s3.hh)
    have hm3:D0∈al3.h:=by rw [hh3];exact List.mem_cons_self
    have hD4:H4 D0=some (.lst ys):=(s4.hid D0 hm3).trans hD3
    have S4:=((s1.stp s2).stp s3).stp s4
    have W4:=a4.wf
    have L4:=(sl2.mono s3).mono s4
    have R4:=((racc.mono s2).mono s3).mono s4
    rw [hh4] at S4 W4 L4 R4 r4
    obtain ⟨w5,u1,u2⟩:=hid_set W4 (.lst (ys ++ [v4])) (.inl ⟨_,rfl⟩)
    refine ⟨ys,hD4,by rw [<- racc.length];exact q4.1,al4.a,M4,acc ++ [d4],ys ++ [v4],⟨S4.pre,fun b o h n f=>⟨?_,(S4.fz b o h n f).2⟩,fun b hb=>⟨(S4.hid b hb).1,?_⟩⟩,w5,⟨L4.1,fun i d e=>let ⟨v,e1,r⟩:=L4.2 i d e;⟨v,e1,u1 _ _ r⟩⟩,u2 _ _ (R4.append ⟨v4,[],rfl,r4,rfl⟩),upd_same,q4.2⟩
    ·rw [upd_ne (ne_of_none h hD0)];exact (S4.fz b o h n f).1
    ·rw [upd_ne (fun (z:b=D0)=>w0.nohid hD0 (z ▸ hb))];exact (S4.hid b hb).2
  ·have e:i=ds.length:=by omega
   subst e
   refine .inl ⟨ok.stop _ _ _ s1 w1,?_⟩
   simp [lcUE] at t1
   obtain ⟨w2,u1,u2⟩:=unhide w1
   refine p ⟨l1,al0.h⟩ (.lst acc) M1 _ H1 (s0.trans ⟨s1.pre,fun b o h n f=>⟨(s1.fz b o h n f).1,(fz_unhide (s1.fz b o h n f).2).2⟩,rfl,fun b hb=>(s1.hid b hb).2⟩) w2 ⟨D0,ys,rfl,hD1,⟨fun hm=>?_,fun j mo e1 e2=>w1.hdis j D0 mo e1 e2 List.mem_cons_self⟩,u2 _ _ racc⟩ t1
   exact w0.nohid hD0 hm
section
variable {P:Program} {w:World} {K:PySem.W.Frag} {mg:Str->Option Value} {base:Heap} {N:List Str} {qual:Str} {scope0:Scope} {f0:Addr} {cdv:Value} {A:Around} {outer:List Env} {s0:Shared} {H0:Hp} {EV:XK} {Tb:List (Addr×Str)}
 {elt tg iter:Expr} {ifs:List Expr} {scope:Scope} {own:List (Str×Nat)} {pos:Pos} {it:TID} {gV:TG} {g:TGD} {tt:TTD} {te:TED}
theorem dv_lcE {X:Cx} (tk:Takes X (fun cls d _ H=>EV cls d H)) (hsk:X.stack=X.env :: X.outer) (hf:X.env.frame=some X.env.locals) (hc:X.calm=true) (hN:X.N.Nodup) (hi:PDI X Tb EV tg iter it) (ok:BlkOk X.N X.env.scope scope own) (hT:TgN X.K gV g (own.map (·.2)))
  (hg:∀ (s:Shared) (H:Hp) (C:Addr) (cl:List (Str×Addr)) (fp:List Addr) (xb:Value->Shared->Prop),Passes (L2.CX X.prog X.w) (X.blkE s H scope (compEnvC scope cl C X.env) fp xb) EV->PG (X.blkE s H scope (compEnvC scope cl C X.env) fp xb) tg gV)
  (ht:∀ (s:Shared) (H:Hp) (C:Addr) (cl:List (Str×Addr)) (fp:List Addr) (xb:Value->Shared->Prop),Passes (L2.CX X.prog X.w) (X.blkE s H scope (compEnvC scope cl C X.env) fp xb) EV->PTs (X.blkE s H scope (compEnvC scope cl C X.env) fp xb) ifs (liftT X.K Tb L2.E0 tt))
  (he:∀ (s:Shared) (H:Hp) (C:Addr) (cl:List (Str×Addr)) (fp:List Addr) (xb:Value->Shared->Prop),Passes (L2.CX X.prog X.w) (X.blkE s H scope (compEnvC scope cl C X.env) fp xb) EV->PD (X.blkE s H scope (compEnvC scope cl C X.env) fp xb) Tb EV elt te) (hs:∀ x,foldedSetIterable iter X.env x=pure x:=by intro _;rfl) :
  PD X Tb EV (.ListComp elt [⟨tg,iter,ifs,0⟩] scope pos) (dLcE it g tt te (own.map (·.2))):=pe_imp (pe_lcE tk (fun _ _ _ _ h=>h) hsk hf hc hN hi ok hg ht he hs) fun _ _ _ h=>lc_liftE hT h
end
def Oq (K:PySem.W.Frag) (o:Out) (M:Mem) (Q:VD) (E:XD):Prop:=match o with
 | .ok c=>Q (crvD K c) M
 | .error e=>E (e.ex K) M
theorem e_aug {i:Nat} {te:TED} {r:RD2} {E:XD} {DD:DEnds} {rho:Rho} {M:Mem} {d:D} (h:rho[i]?=some (some d)) (k:te E rho M fun y M1=>r d y M1 fun z M2=>DD.nx (rho.set i (some z)) M2):dAug i te r E DD rho M:=by
 unfold dAug
 rw [h]
 exact k
section
variable {c:Crv}
theorem plc_0 (ok:c.Ok) (hn:c.row≠[]):plc c.at 0=0:=by
 have hl:=List.length_pos_iff.mpr hn
 refine (ok.trk hn).plc_eq ⟨?_,?_⟩
 ·have h1:=Crv.at_add hn ((c.row.length - 1:Nat):Int) (-1)
  rw [show ((c.row.length - 1:Nat):Int) + -1 * c.row.length=0 - 1 from by omega,Crv.at_nat (by omega)] at h1
  rw [h1]
  have:=((ok.ok hn).pt _ (List.getElem_mem (show c.row.length - 1 < c.row.length by omega))).hi
  show _+_ * c.p < 0
  have e:((-1:Int):Rat) = -1:=rfl
  rw [e];grind
 ·have h1:=Crv.at_nat (c:=c) (j:=0) hl
  rw [show ((0:Nat):Int)=0 from rfl] at h1
  rw [h1]
  have:=((ok.ok hn).pt _ (List.getElem_mem hl)).lo
  grind
end
theorem e_neq0 {p:Rat} {M:Mem} {Q:VD} (h:Q (.bl (!decide (p=0))) M):rNe_ (qD p) (.tup [.int 0,.int 1]) M Q:=e_neq (q:=0) h
theorem e_eq0 {p:Rat} {M:Mem} {Q:VD} (h:Q (.bl (decide (p=0))) M):rEq_ (qD p) (.tup [.int 0,.int 1]) M Q:=e_eqq (q:=0) h
theorem e_isrfC {K:PySem.W.Frag} {c:Crv} {P:Prop} (h:P):isRf (crvD K c)=true/\P:=⟨rfl,h⟩
theorem e_isCC {K:PySem.W.Frag} {c:Crv} {M:Mem} {P:Prop} (h:P):isC (He.ga K "Curve") M (crvD K c)/\P:=⟨rfl,h⟩
theorem Oq.cut {K:PySem.W.Frag} {o:Out} {M L:Mem} {Q:VD} {E:XD} (hM:okM M.length M) (h:Oq K o M Q E):Oq K o (M ++ L) (Cut M.length Q) (CutX M.length E):=by
 cases o with
 | ok c=>exact Cut.app hb_crv hM h
 | error e=>exact cutx_app hM (CErr.hb K e _) h
theorem e_min2 {i j:Int} {M:Mem} {Q:VD} (h:Q (.int (min i j)) M):rMin2_ [.int i,.int j] M Q:=by
 show Q (.int (if j < i then j else i)) M
 have:(if j < i then j else i)=min i j:=by rw [Int.min_def];split <;> split <;> omega
 rw [this];exact h
theorem e_max2 {i j:Int} {M:Mem} {Q:VD} (h:Q (.int (max i j)) M):rMax2_ [.int i,.int j] M Q:=by
 show Q (.int (if j > i then j else i)) M
 have:(if j > i then j else i)=max i j:=by rw [Int.max_def];split <;> split <;> omega
 rw [this];exact h
theorem e_ixKd {x y:D} {M:Mem} {Q:VD} {kvs:KD} {k:Key} {d:D} (e:asKD M x=some kvs) (ek:keyOf y=some k) (ev:valD kvs k=some d) (h:Q d M):rIxK_ x y M Q:=by
 unfold rIxK_
 rw [e,ek]
 show (match valD kvs k with | some d=>Q d M | none=>False)
 rw [ev];exact h
end DL
namespace DL
open PySem PySem.Spec PyProof.Rows L2
def hLst (n:Nat) (t:TGsD):TGD:=fun d E rho M Q=>match d with
 | .lst xs=>xs.length=n/\t xs E rho M Q
 | _=>False
theorem e_htl {n:Nat} {t:TGsD} {xs:List D} {E:XD} {rho:Rho} {M:Mem} {N:Rho->Mem->Prop} (h0:xs.length=n) (h:t xs E rho M N):hLst n t (.lst xs) E rho M N:=⟨h0,h⟩
end DL
namespace DL
open Mt
section
variable {a b c o i l:Crv} {j ja jb ka kb la lb ma mb jo ji ko ki lo li jl kl ll:Nat}
structure Crv.Gn (c:Crv):Prop where
 ok:c.Ok
 nf:c.Nf
theorem line_nfN (g:c.Gn) {β σ:Rat} (h:∀ x,c.tri x=⟨β+σ * x,β+σ * x,β+σ * x⟩):c.row=[]:=by
 by_cases hn:c.row=[]
 ·exact hn
 ·exfalso
  have trk:=g.ok.trk hn
  have sl:∀ k,slB (c.at k) (c.at (k+1))=σ:=fun k=>by
   have e:(c.arn (c.at k).a).sa=slB (c.at k) (c.at (k+1)):=by rw [Crv.arn_row hn,trk.arn_pt]
   rw [<- e]
   exact sa_of g.ok (F:=c.tri) (fun _=>rfl) (z:=(c.at k).a+1) (by grind) fun y _ _=>by rw [h,h];show _=_+_;grind
  have t:=g.nf.t hn 0
  have e1:=sl (0 - 1)
  have e2:=sl 0
  rw [show (0:Int) - 1+1=0 by omega] at e1
  have e3:=crv_tri_at g.ok hn 0
  rw [h] at e3
  injection e3 with q1 q2 q3
  unfold isT isTrue3 at t
  simp only [e1,e2] at t
  rw [<- q1,<- q3] at t
  simp at t
variable [Gb]
end
section
variable {c d:Crv}
theorem sb_of (ok:c.Ok) {F:Rat->Tri} (hF:∀ x,c.tri x=F x) {x z σ:Rat} (hz:z < x) (h:∀ y,z < y->y < x->(F y).v=(F x).l - σ * (x - y)):(c.arn x).sb=σ:=by
 obtain ⟨w,w1,_,w3,_,_⟩:=ok.ahd x
 have hy:∃ y,w < y/\y < x/\z < y:=by
  by_cases q:z<=w
  ·exact ⟨(x+w) / 2,by grind,by grind,by grind⟩
  ·exact ⟨(x+z) / 2,by grind,by grind,by grind⟩
 obtain ⟨y,y1,y2,y3⟩:=hy
 have e1:=w3 y y1 y2
 have e2:=h y y3 y2
 rw [<- hF,<- hF] at e2
 have e3:(c.tri y).v=(c.arn x).l - (c.arn x).sb * (x - y):=by unfold Crv.tri;rw [e1]
 have e4:(c.tri x).l=(c.arn x).l:=rfl
 have e5:((c.arn x).sb - σ) * (x - y)=0:=by rw [e3,e4] at e2;grind
 rcases Rat.mul_eq_zero.mp e5 with z | z
 ·grind
 ·grind
theorem arn_eq (g:c.Ok) (h:d.Ok) (e:∀ x,c.tri x=d.tri x) (x:Rat):c.arn x=d.arn x:=by
 have e0:=e x
 unfold Crv.tri at e0
 injection e0 with e1 e2 e3
 have s1:(c.arn x).sa=(d.arn x).sa:=by
  obtain ⟨z,z1,_,z3,_,_⟩:=h.beh x
  exact sa_of g (F:=d.tri) e z1 fun y y1 y2=>by unfold Crv.tri;rw [z3 y y1 y2]
 have s2:(c.arn x).sb=(d.arn x).sb:=by
  obtain ⟨z,z1,_,z3,_,_⟩:=h.ahd x
  exact sb_of g (F:=d.tri) e z1 fun y y1 y2=>by unfold Crv.tri;rw [z3 y y1 y2]
 cases hc:c.arn x
 cases hd:d.arn x
 rw [hc,hd] at e1 e2 e3 s1 s2
 simp only [] at e1 e2 e3 s1 s2
 rw [e1,e2,e3,s1,s2]
theorem pt_iff (g:c.Gn) (hn:c.row≠[]) (x:Rat):(∃ k,(c.at k).a=x) ↔ ((c.arn x).l≠(c.arn x).r\/(c.arn x).sb≠(c.arn x).sa):=by
 have trk:=g.ok.trk hn
 rw [Crv.arn_row hn]
 constructor
 ·rintro ⟨k,rfl⟩
  rw [trk.arn_pt]
  have t:=g.nf.t hn k
  unfold isT isTrue3 at t
  rw [Bool.or_eq_true] at t
  rcases t with t | t
  ·left
   simpa using t
  ·right
   simpa using t
 ·intro h
  obtain ⟨k,h1,h2⟩:=trk.split x
  rcases trk.arn_ge h1 h2 with ⟨e,_⟩ | ⟨_,y,_,_,_,ee⟩
  ·exact ⟨k,e⟩
  ·rw [ee] at h
   rcases h with h | h <;> exact absurd rfl h
theorem row_nil (g:c.Gn) (h:d.Gn) (e:∀ x,c.tri x=d.tri x) (hn:c.row=[]):d.row=[]:=by
 refine line_nfN (β:=c.b) (σ:=c.s) h fun x=>?_
 rw [<- e]
 unfold Crv.tri
 rw [Crv.arn_str hn]
theorem at_ge0 (g:c.Gn) (hn:c.row≠[]) {m:Int} (h:0<=(c.at m).a):0<=m:=by
 have trk:=g.ok.trk hn
 have:=(not_congr (trk.pl_lt (x:=0) (k:=m))).mpr (by grind)
 rw [plc_0 g.ok hn] at this
 omega
theorem at_ge00 (g:c.Gn) (hn:c.row≠[]):0<=(c.at 0).a:=by
 have trk:=g.ok.trk hn
 have:=(not_congr (trk.pl_lt (x:=0) (k:=0))).mp (by rw [plc_0 g.ok hn];omega)
 grind
theorem ats_eq (g:c.Gn) (h:d.Gn) (e:∀ x,c.tri x=d.tri x) (hn:c.row≠[]) (hd:d.row≠[]) (k:Int):c.at k=d.at k:=by
 have t1:=g.ok.trk hn
 have t2:=h.ok.trk hd
 have ea:=arn_eq g.ok h.ok e
 have cd:∀ k,∃ m,(d.at m).a=(c.at k).a:=fun k=>(pt_iff h hd _).mpr (by rw [<- ea];exact (pt_iff g hn _).mp ⟨k,rfl⟩)
 have dc:∀ k,∃ m,(c.at m).a=(d.at k).a:=fun k=>(pt_iff g hn _).mpr (by rw [ea];exact (pt_iff h hd _).mp ⟨k,rfl⟩)
 have a0:(c.at 0).a=(d.at 0).a:=by
  obtain ⟨m,hm⟩:=dc 0
  obtain ⟨n,hn'⟩:=cd 0
  have m0:=at_ge0 g hn (m:=m) (by rw [hm];exact at_ge00 h hd)
  have n0:=at_ge0 h hd (m:=n) (by rw [hn'];exact at_ge00 g hn)
  have:=t1.ale m0
  have:=t2.ale n0
  grind
 have up:∀ n:Nat,(c.at n).a=(d.at n).a:=by
  intro n
  induction n with
  | zero=>exact a0
  | succ n ih =>
   obtain ⟨m,hm⟩:=dc ((n+1:Nat):Int)
   obtain ⟨q,hq⟩:=cd ((n+1:Nat):Int)
   have u1:=t1.up n
   have u2:=t2.up n
   have e1:(n:Int) < m:=t1.lt_iff.mp (by rw [hm,ih];exact u2)
   have e2:(n:Int) < q:=t2.lt_iff.mp (by rw [hq,<- ih];exact u1)
   have:=t1.ale (show (n:Int)+1<=m by omega)
   have:=t2.ale (show (n:Int)+1<=q by omega)
   have z:((n+1:Nat):Int)=(n:Int)+1:=rfl
   rw [z] at *
   grind
 have dn:∀ n:Nat,(c.at (-(n:Int))).a=(d.at (-(n:Int))).a:=by
  intro n
  induction n with
  | zero=>exact a0
  | succ n ih =>
   have z:(-((n+1:Nat):Int)) = -(n:Int) - 1:=by omega
   rw [z]
   obtain ⟨m,hm⟩:=dc (-(n:Int) - 1)
   obtain ⟨q,hq⟩:=cd (-(n:Int) - 1)
   have u1:=t1.up (-(n:Int) - 1)
   have u2:=t2.up (-(n:Int) - 1)
   rw [show -(n:Int) - 1+1 = -(n:Int) by omega] at u1 u2
   have e1:m < -(n:Int):=t1.lt_iff.mp (by rw [hm,ih];exact u2)
   have e2:q < -(n:Int):=t2.lt_iff.mp (by rw [hq,<- ih];exact u1)
   have:=t1.ale (show m<=-(n:Int) - 1 by omega)
   have:=t2.ale (show q<=-(n:Int) - 1 by omega)
   grind
 have all:(c.at k).a=(d.at k).a:=by
  rcases Int.le_total 0 k with z | z
  ·have:=up k.toNat
   rwa [Int.toNat_of_nonneg z] at this
  ·have:=dn (-k).toNat
   rwa [Int.toNat_of_nonneg (by omega),Int.neg_neg] at this
 have v1:=crv_tri_at g.ok hn k
 have v2:=crv_tri_at h.ok hd k
 rw [e,all,v2] at v1
 injection v1 with q1 q2 q3
 cases hc:c.at k
 cases hdk:d.at k
 rw [hc,hdk] at all q1 q2 q3
 simp only [Pt.mk.injEq]
 exact ⟨all,q1.symm,q2.symm,q3.symm⟩
theorem at_mul (hn:c.row≠[]) (k t:Int):c.at (k+t * c.row.length)=(c.at k).mv t c.p c.r:=c.at_add hn k t
theorem bez:∀ a b:Nat,∃ u v:Int,((Nat.gcd a b:Nat):Int)=a * u+b * v:=by
 intro a b
 induction a,b using Nat.gcd.induction with
 | H0 n=>exact ⟨0,1,by rw [Nat.gcd_zero_left];omega⟩
 | H1 m n hm ih =>
  obtain ⟨u,v,h⟩:=ih
  rw [Nat.gcd_rec]
  refine ⟨v - (n / m:Nat) * u,u,?_⟩
  rw [h]
  have e:(n:Int)=m * ((n / m:Nat):Int)+((n % m:Nat):Int):=by
   have:=Nat.div_add_mod n m
   omega
  conv=>rhs;rw [e]
  grind
theorem per_dvd (g:c.Gn) (h:d.Gn) (hn:c.row≠[]) (hd:d.row≠[]) (e:∀ k,c.at k=d.at k):c.row.length ∣ d.row.length:=by
 have hl:=List.length_pos_iff.mpr hn
 have hl':=List.length_pos_iff.mpr hd
 have gp:0 < Nat.gcd c.row.length d.row.length:=Nat.gcd_pos_of_pos_left _ hl
 -- densities
 have den:∀ k,((c.at k).a+(d.row.length:Int) * c.p=(c.at k).a+(c.row.length:Int) * d.p)/\((c.at k).l+(d.row.length:Int) * c.r=(c.at k).l+(c.row.length:Int) * d.r):=fun k=>by
  have h1:=at_mul hn k d.row.length
  have h2:=at_mul hd k c.row.length
  rw [Int.mul_comm,e (k+_),h2,<- e] at h1
  exact ⟨(congrArg Pt.a h1).symm,(congrArg Pt.l h1).symm⟩
 have pd:((d.row.length:Nat):Rat) * c.p=((c.row.length:Nat):Rat) * d.p:=by
  have:=(den 0).1;rw [Rat.intCast_natCast,Rat.intCast_natCast] at this;grind
 have rd:((d.row.length:Nat):Rat) * c.r=((c.row.length:Nat):Rat) * d.r:=by
  have:=(den 0).2;rw [Rat.intCast_natCast,Rat.intCast_natCast] at this;grind
 obtain ⟨q,hq⟩:=Nat.gcd_dvd_left c.row.length d.row.length
 have q0:0 < q:=by
  rcases Nat.eq_zero_or_pos q with z | z
  ·rw [z,Nat.mul_zero] at hq;omega
  ·exact z
 by_cases heq:Nat.gcd c.row.length d.row.length=c.row.length
 ·rw [<- heq];exact Nat.gcd_dvd_right _ _
 ·exfalso
  have hlt:Nat.gcd c.row.length d.row.length < c.row.length:=by
   have:=Nat.le_of_dvd hl (Nat.gcd_dvd_left c.row.length d.row.length)
   omega
  refine g.nf.n _ gp hlt (Nat.mod_eq_zero_of_dvd (Nat.gcd_dvd_left _ _)) fun j hj=>?_
  have hdiv:c.row.length / Nat.gcd c.row.length d.row.length=q:=by
   exact Nat.div_eq_of_eq_mul_right gp hq
  rw [hdiv]
  obtain ⟨u,v,bz⟩:=bez c.row.length d.row.length
  have h1:=at_mul hn ((j:Int)+v * d.row.length) u
  have h2:=at_mul hd (j:Int) v
  rw [e ((j:Int)+v * d.row.length),h2] at h1
  rw [<- e] at h1
  rw [show (j:Int)+v * d.row.length+u * c.row.length=(j:Int)+((Nat.gcd c.row.length d.row.length:Nat):Int) by rw [bz,Int.mul_comm _ u,Int.mul_comm _ v];omega] at h1
  show c.at _=_
  rw [h1]
  show _=(c.at (j:Int)).mv 1 (c.p / (q:Rat)) (c.r / (q:Rat))
  have qq:(q:Rat)≠0:=by
   have:(0:Rat) < q:=by exact_mod_cast q0
   grind
  have Lq:(c.row.length:Rat)=(Nat.gcd c.row.length d.row.length:Rat) * q:=by
   conv=>lhs;rw [hq]
   rw [Rat.natCast_mul]
  have L0:(0:Rat) < (c.row.length:Rat):=by exact_mod_cast hl
  have bq:((Nat.gcd c.row.length d.row.length:Nat):Rat)=(c.row.length:Rat) * u+(d.row.length:Rat) * v:=by
   have h:=congrArg (fun z:Int=>(z:Rat)) bz
   simp only [Rat.intCast_add,Rat.intCast_mul,Rat.intCast_natCast] at h
   exact h
  have key:∀ {P P':Rat},(d.row.length:Rat) * P=(c.row.length:Rat) * P'->v * P'+u * P=P / (q:Rat):=fun {P P'} hP=>by
   have e1:P / (q:Rat) * q=P:=Rat.div_mul_cancel qq
   have e2:(c.row.length:Rat) * (v * P'+u * P)=(c.row.length:Rat) * (P / (q:Rat)):=by
    have a1:(c.row.length:Rat) * (v * P'+u * P)=((c.row.length:Rat) * u+(d.row.length:Rat) * v) * P:=by grind
    have a2:(c.row.length:Rat) * (P / (q:Rat))=(Nat.gcd c.row.length d.row.length:Rat) * P:=by rw [Lq];grind
    rw [a1,a2,<- bq]
   have e3:=congrArg (fun z=>z / (c.row.length:Rat)) e2
   rw [Rat.mul_comm _ (v * P'+u * P),Rat.mul_comm _ (P / (q:Rat)),Rat.mul_div_cancel (by grind),Rat.mul_div_cancel (by grind)] at e3
   exact e3
  have k1:=key pd
  have k2:=key rd
  unfold Pt.mv
  simp only [Pt.mk.injEq]
  refine ⟨by grind,by grind,by grind,by grind⟩
theorem Crv.uniqN (g:c.Gn) (h:d.Gn) (e:∀ x,c.tri x=d.tri x):Crv.Eq' c d:=by
 by_cases hn:c.row=[]
 ·have hd:=row_nil g h e hn
  have e1:=arn_eq g.ok h.ok e 0
  rw [Crv.arn_str hn,Crv.arn_str hd] at e1
  injection e1 with q1 q2 q3 q4 q5
  have p1:=g.ok.p1 hn
  have p2:=h.ok.p1 hd
  have s1:=g.ok.s
  have s2:=h.ok.s
  rw [p1] at s1
  rw [p2] at s2
  have d1:∀ x:Rat,x / 1=x:=fun x=>by rw [Rat.div_def,show (1:Rat)⁻¹=1 from by decide +kernel,Rat.mul_one]
  rw [d1] at s1 s2
  refine ⟨by rw [p1,p2],by rw [<- s1,<- s2,q4],by rw [hn,hd],?_⟩
  rw [if_pos hn,if_pos hd]
  grind
 ·have hd:d.row≠[]:=fun z=>hn (row_nil h g (fun x=>(e x).symm) z)
  have ek:=ats_eq g h e hn hd
  have l1:=per_dvd g h hn hd ek
  have l2:=per_dvd h g hd hn fun k=>(ek k).symm
  have len:c.row.length=d.row.length:=Nat.dvd_antisymm l1 l2
  have h1:=at_mul hn 0 1
  have h2:=at_mul hd 0 1
  rw [ek,ek,len,h2] at h1
  have o1:((1:Int):Rat)=1:=rfl
  have pp:c.p=d.p:=by
   have:=congrArg Pt.a h1
   have:(d.at 0).a+((1:Int):Rat) * d.p=(d.at 0).a+((1:Int):Rat) * c.p:=this
   rw [o1] at this;grind
  have rr:c.r=d.r:=by
   have:=congrArg Pt.l h1
   have:(d.at 0).l+((1:Int):Rat) * d.r=(d.at 0).l+((1:Int):Rat) * c.r:=this
   rw [o1] at this;grind
  refine ⟨pp,rr,?_,by rw [if_neg hn,if_neg hd]⟩
  refine List.ext_getElem len fun i h1 h2=>?_
  have:=ek i
  rwa [Crv.at_nat h1,Crv.at_nat h2] at this
theorem Crv.uniq (g:c.Gd) (h:d.Gd) (e:∀ x,c.tri x=d.tri x):Crv.Eq' c d:=Crv.uniqN ⟨g.ok,g.nf⟩ ⟨h.ok,h.nf⟩ e
end
end DL
namespace DL
open PySem PySem.Spec PyProof.Rows L2 Mt
def TlO (K:PySem.W.Frag) (o:Out) (v:D):Prop:=(∃ c,o = .ok c/\c.Gd/\v = .tup [.str "told",crvD K c])\/(o = .error .many/\v = .tup [.str "no",.str "TooMany",.int 60])
def TlS (K:PySem.W.Frag) (n:Nat) (o:Out) (v:D):Prop:=(∃ c,o = .ok c/\Sm n c/\v = .tup [.str "told",crvD K c])\/(o = .error .many/\v = .tup [.str "no",.str "TooMany",.int 60])
theorem TlS.to {K:PySem.W.Frag} {n:Nat} {o:Out} {v:D} (h:TlS K n o v):TlO K o v:=by
 rcases h with ⟨c,h1,h2,h3⟩ | h
 ·exact .inl ⟨c,h1,h2.gd,h3⟩
 ·exact .inr h
theorem RgA.to {M M' M'':Mem}:RgA M M'->RgTo M' M.length M''->RgA M M'' | ⟨_,h,g⟩,t=>⟨_,h,g.to t⟩
theorem RgA.cut {M M':Mem} {Q:VD} {d:D}:RgA M M'->d.hb M.length=true->okM M.length M->Q d M->Cut M.length Q d M' | ⟨_,_,g⟩,h,ok,q=>g.cut h ok q
theorem RgA.allL {M':Mem}:RgA [] M'->AllL M' | ⟨_,h,g⟩=>g.allL h
end DL
namespace DL
open PySem PySem.Spec PyProof.Rows L2
abbrev dAsg2 (te:TED) (g1 g2:TGD):TSD:=fun E DD rho M=>te E rho M fun x M1=>g1 x E rho M1 fun rho1 M2=>g2 x E rho1 M2 DD.nx
section
variable {X:Cx} {Tb:List (Addr×Str)} {EV:XK} {e:Expr} {te:TED} {pos:Pos}
theorem dp_asg2 {t1 t2:Expr} {g1 g2:TGD} (he:PD X Tb EV e te) (h1:PDG X Tb EV t1 g1) (h2:PDG X Tb EV t2 g2) (ha:(assignEach [t1,t2] X.env).map (·.2)=[assign t1 X.env,assign t2 X.env]:=by rfl) (hw:swappedStores [t1,t2] e X.env=pure none:=by rfl) :
  PDS X Tb EV (.Assign [t1,t2] e pos) (dAsg2 te g1 g2):=ps_imp (ps_asg2 he h1 h2 ha hw) fun DV σ H h=>by
 obtain ⟨al,rho,M,E,DD,a,t,p⟩:=h
 exact seq1 a t fun al1 x M1 vx H1 s1 a1 r1 q1=>⟨al1,rho,M1,E,x,_,a1,r1,q1,fun al2 rho2 M2 σ2 H2 s2 w2 rr2 q2=>⟨al2,rho2,M2,E,x,_,⟨w2,rr2,a1.ex.mono s2⟩,r1.mono s2,q2,p.nx.mono (s1.trans s2)⟩⟩
end
end DL
namespace DL
open PySem PySem.Spec PyProof.Rows L2 Mt
theorem e_inKm {neg:Bool} {z:Str} {kvs:KD} {M:Mem} {i:Nat} {Q:VD} (h1:M[i]?=some (some (.dK kvs))) (h:Q (.bl (if neg then !(valD kvs (.inr z)).isSome else (valD kvs (.inr z)).isSome)) M):rInK_ neg (.str z) (.mt i) M Q:=by
 show (match asKD M (.mt i),keyOf (.str z) with
 | some kvs,some k=>Q (.bl (if neg then !(valD kvs k).isSome else (valD kvs k).isSome)) M
 | _,_=>False)
 rw [memK_at h1];exact h
end DL
namespace L2
open PySem PySem.Spec PyProof.Rows HT
def ltS (a b:Str):Bool:=decide (a.cps.toList < b.cps.toList)
end L2
namespace DL
open PySem PySem.Spec PyProof.Rows L2 Mt
theorem cps_le_antisymm {a b:Str} (h1:ltS a b=false) (h2:ltS b a=false):a=b:=by
 unfold ltS at h1 h2
 have:=List.le_antisymm (of_decide_eq_false h2) (of_decide_eq_false h1)
 exact Str.ext' (Array.toList_inj.mp this)
def LeastMiss (l:List Str) (nm:Str->Prop) (z:Str):Prop:=z∈l/\¬ nm z/\∀ y∈l,¬ nm y->ltS y z=false
theorem LeastMiss.uniq {l:List Str} {nm:Str->Prop} {z z':Str} (h:LeastMiss l nm z) (h':LeastMiss l nm z'):z=z' :=
 cps_le_antisymm (h'.2.2 z h.1 h.2.1) (h.2.2 z' h'.1 h'.2.1)
theorem vsOf_strs:∀ zs:List Str,vsOf (zs.map D.str)=some (zs.map V.str)
 | []=>rfl
 | z :: r=>by
  show (match vOf (.str z),vsOf (r.map D.str) with | some v,some vs=>some (v :: vs) | _,_=>none)=_
  rw [vsOf_strs r];rfl
theorem inV_strs (z:Str) (zs:List Str):L2.inV (.str z) (zs.map V.str)=decide (z∈zs):=by
 have e1:∀ y:Str,L2.eqV (.str y) (.str z)=decide (z=y):=fun y=>by
  show decide _=decide _
  exact decide_eq_decide.mpr ⟨fun h=>by cases h;rfl,fun h=>by rw [h]⟩
 unfold L2.inV
 rw [List.any_map]
 induction zs with
 | nil=>rfl
 | cons y r ih =>
  rw [List.any_cons,ih,Function.comp_apply,e1]
  by_cases h:z=y <;> simp [h]
theorem asL_mt {M:Mem} {i:Nat} {xs:List D} (h:M[i]?=some (some (.lst xs))):asL M (.mt i)=some xs:=by
 show memL M i=_
 unfold memL;rw [h]
theorem pzs_all:∀ {l:List D},(∀ x∈l,pz x=true)->pzs l=true
 | [],_=>rfl
 | x :: l,h=>by
  show (pz x && pzs l)=true
  rw [h x (List.mem_cons_self ..),pzs_all fun y hy=>h y (List.mem_cons_of_mem _ hy)];rfl
theorem dps_all {k:Nat}:∀ {l:List D},(∀ x∈l,dp x<=k)->dps l<=k
 | [],_=>Nat.zero_le _
 | x :: l,h=>by
  show max (dp x) (dps l)<=k
  exact Nat.max_le.mpr ⟨h x (List.mem_cons_self ..),dps_all fun y hy=>h y (List.mem_cons_of_mem _ hy)⟩
theorem PStep.pzd {nm:Str->Prop} {P:D->Prop} {k:Nat} (hn:∀ z,nm z->PyData.strOk z=true) (hP:∀ d,P d->pz d=true/\dp d<=k) {d:D} (h:PStep nm P d):pz d=true/\dp d<=k+2:=by
 cases h with
 | shift a=>exact ⟨by show (PyData.strOk "shift" && (true && true))=true;decide +kernel,by show 1+1<=k+2;omega⟩
 | scale a b=>exact ⟨by show (PyData.strOk "scale" && (true && true))=true;decide +kernel,by show 1+1<=k+2;omega⟩
 | @use z hz =>
  refine ⟨?_,by show 0+1<=k+2;omega⟩
  show (PyData.strOk "use" && (PyData.strOk z && true))=true
  rw [hn z hz];decide +kernel
 | floor a b c=>exact ⟨by show (PyData.strOk "floor" && (true && (true && true)))=true;decide +kernel,by show 1+1<=k+2;omega⟩
 | ceiling a b c=>exact ⟨by show (PyData.strOk "ceiling" && (true && (true && true)))=true;decide +kernel,by show 1+1<=k+2;omega⟩
 | @nearest u o t a b c ht =>
  refine ⟨?_,by show 1+1<=k+2;omega⟩
  show (PyData.strOk "nearest" && (true && (true && (PyData.strOk t && true))))=true
  rcases ht with rfl | rfl | rfl <;> decide +kernel
 | @join w ps hw h2 h4 hp =>
  have h1:=pzs_all fun x hx=>(hP x (hp x hx)).1
  have h3:=dps_all fun x hx=>(hP x (hp x hx)).2
  refine ⟨?_,?_⟩
  ·show (PyData.strOk w && pzs ps)=true
   rw [h1]
   rcases hw with rfl | rfl | rfl <;> decide +kernel
  ·show max 0 (dps ps)+1<=k+2
   omega
theorem PPipe.pzd {nm:Str->Prop} (hn:∀ z,nm z->PyData.strOk z=true):∀ {n:Nat} {d:D},PPipe nm n d->pz d=true/\dp d<=3 * n
 | n+1,d,⟨ss,e,l,h⟩=>by
  subst e
  have key:∀ s∈ss,pz s=true/\dp s<=3 * n+2:=fun s hs=>(h s hs).pzd hn fun d hd=>PPipe.pzd hn hd
  refine ⟨pzs_all fun s hs=>(key s hs).1,?_⟩
  have:=dps_all fun s hs=>(key s hs).2
  show dps ss+1<=3 * (n+1)
  omega
end DL
namespace Sx
open PySem PySem.Spec PyProof.Rows L2
def tStarE (K:PySem.W.Frag) (te:TE):TA:=fun σ H Q=>te σ H fun x H1=>∃ b vs,x=V.ref b/\(SqT K H1 b vs\/SqL K H1 b vs)/\Q vs H1
theorem pa_star {X:Cx} {e:Expr} {te:TE} {p:Pos} (he:PE X e te) (hs:starEach [.Starred e p] X.env=[(true,eval e X.env)]:=by rfl):PA X [.Starred e p] (tStarE X.K te):=by
 refine ⟨fun pos pins s σ H Q I h=>?_⟩
 rw [hs]
 show wpAny _ _ (spliced ((true,(do let v <- eval e X.env;standAt pos;pure v)) :: [])) _ _ s
 refine PySem.W.ks_spliced (thn (he.run pins s σ H _ I h) fun v s1 ⟨y,H1,I1,ry,b,vs,ey,hb,q⟩=>?_)
 subst ey
 obtain rfl:v=Value.ref b:=ry
 refine StX.star_any I1 hb fun us s2 I2 rv=>Calls.spliced_nil ?_
 rw [List.append_nil]
 exact ⟨vs,H1,I2,rv,q⟩
end Sx
namespace DL
open PySem PySem.Spec PyProof.Rows L2 Mt
def rStar (x:D) (M:Mem) (Q:List D->Mem->Prop):Prop:=match seqD M x with
 | some xs=>Q xs M
 | none=>False
theorem e_star {x:D} {xs:List D} {M:Mem} {Q:List D->Mem->Prop} (e:seqD M x=some xs) (h:Q xs M):rStar x M Q:=by unfold rStar;rw [e];exact h
@[reducible] def dStar (t:TED):TAD:=fun E rho M Q=>t E rho M fun x M1=>rStar x M1 Q
theorem da_star {X:Cx} {Tb:List (Addr×Str)} {EV:XK} {e:Expr} {t:TED} {p:Pos} (he:PD X Tb EV e t) (hs:starEach [.Starred e p] X.env=[(true,eval e X.env)]:=by rfl):PDA X Tb EV [.Starred e p] (dStar t) :=
 pa_imp (Sx.pa_star he hs) fun σ H QV h=>by
 obtain ⟨al,rho,M,E,Q,a,t,p⟩:=h
 refine seq1 a t fun al1 x M1 vx H1 s1 a1 r1 q1=>?_
 unfold rStar at q1
 split at q1
 ·rename_i xs e
  obtain ⟨b,us,rfl,h1,h2⟩:=seqD_ok a1.wf e r1
  exact ⟨b,us,rfl,h1.symm,p _ xs _ _ _ s1 a1.wf h2 q1⟩
 ·exact q1.elim
def thT:D->List Nat
 | .str z=>cl z
 | .tup [.int a,.int b]=>cl (if b=1 then itx a else itx a ++ (Str.ofString "/" ++ itx b))
 | _=>[]
def wStep (f:D->List Nat):D->List Nat
 | .tup (.str w :: rest)=>if L2.inV (.str w) jnV=true then cl w ++ 40 :: (TL.joinL [59,32] (rest.map f) ++ [41]) else TL.joinL [32] (cl w :: rest.map thT)
 | _=>[]
def wPipe:Nat->D->List Nat
 | _+1,.tup []=>cl "same"
 | n+1,.tup (s :: ss)=>TL.joinL [32,124,32] ((s :: ss).map (wStep (wPipe n)))
 | _,_=>[]
theorem thT_q (q:Rat):thT (qD q)=cl (qtx q):=by
 show cl (if (q.den:Int)=1 then itx q.num else itx q.num ++ (Str.ofString "/" ++ itx (q.den:Int)))=cl (qtx q)
 unfold qtx
 by_cases h:q.den=1
 ·rw [if_pos h,if_pos (by rw [h];rfl)]
 ·rw [if_neg h,if_neg (by omega)]
theorem Bal.deep {e:Int}:∀ {l:List Nat} {d:Int},Bal e d l->Bal (e+1) (d+1) l
 | [],d,h=>by cases (show d=e from h);rfl
 | c :: r,d,h=>by
  have e1:d+1+dpt c=d+dpt c+1:=by omega
  refine ⟨by rw [e1];have:=h.1;omega,?_⟩
  rw [e1];exact Bal.deep h.2
theorem NoC.deep {x:Nat} {e:Int}:∀ {l:List Nat} {d:Int},Bal e d l->NoC x (d+1) l
 | [],_,_=>trivial
 | c :: r,d,h=>by
  have e1:d+1+dpt c=d+dpt c+1:=by omega
  refine ⟨fun z=>?_,by rw [e1];exact NoC.deep h.2⟩
  have:=h.1;omega
theorem Mx.deep {k:Int}:∀ {l:List Nat} {d:Int},Mx k d l->Mx (k+1) (d+1) l
 | [],_,_=>trivial
 | c :: r,d,h=>by
  have e1:d+1+dpt c=d+dpt c+1:=by omega
  exact ⟨by rw [e1];have:=h.1;omega,by rw [e1];exact Mx.deep h.2⟩
theorem sp_join:∀ {ws:List (List Nat)},(∀ w∈ws,Wd w)->Sgn (TL.joinL [32] ws)
 | [],_=>fun c hc=>nomatch hc
 | [w],h=>(h w (List.mem_cons_self ..)).sp
 | w :: v :: r,h=>((h w (List.mem_cons_self ..)).sp).app (Sgn.app (l:=[32]) (fun c hc=>by rw [List.mem_singleton.mp hc];decide) (sp_join fun u hu=>h u (List.mem_cons_of_mem _ hu)))
theorem wd_q {q:Rat} (h:Fq12 q):Wd (thT (qD q)):=by
 rw [thT_q]
 have f1:=fig_num (z:=itx q.num)
 have f2:=fig_num (z:=itx (q.den:Int))
 have g1:figB (cl (itx q.num))=true:=by
  have:=fg_itx h.1
  unfold fgN at this
  split at this
  ·assumption
  ·cases this
 have g2:figB (cl (itx (q.den:Int)))=true:=by
  have:=fg_itx (n:=(q.den:Int)) (by have:=h.2;omega)
  unfold fgN at this
  split at this
  ·assumption
  ·cases this
 obtain ⟨_,_,_,_,h1⟩:=f1 g1
 obtain ⟨_,_,_,_,h2⟩:=f2 g2
 have key:∀ c,(c=45\/(48<=c/\c<=57))->c≠32/\c≠40/\c≠41/\c≠59/\c≠124:=fun c h=>by omega
 unfold qtx
 split
 ·exact fun c hc=>key c (h1 c hc)
 ·intro c hc
  rw [show cl (itx q.num ++ (Str.ofString "/" ++ itx (q.den:Int)))=_ from TL.tl_append _ _,TL.tl_append] at hc
  rcases List.mem_append.mp hc with hc | hc
  ·exact key c (h1 c hc)
  ·rcases List.mem_append.mp hc with hc | hc
   ·have:c=47:=by
     have:cl (Str.ofString "/")=[47]:=by decide +kernel
     have hc:c∈cl (Str.ofString "/"):=hc
     rw [this] at hc
     simpa using hc
    subst this;decide
   ·exact key c (h2 c hc)
structure Wr (k:Int) (l:List Nat):Prop where
 bal:Bal 0 0 l
 n59:NoC 59 0 l
 mx:Mx k 0 l
theorem wd_word {w:Str} (h:w="sum"\/w="least"\/w="greatest"\/w="shift"\/w="scale"\/w="use"\/w="floor"\/w="ceiling"\/w="nearest"\/w="up"\/w="down"\/w="even"\/w="same"):Wd (cl w)/\cl w≠[]:=by
 have key:∀ l:List Nat,l.all (fun c=>decide (c≠32/\c≠40/\c≠41/\c≠59/\c≠124))=true->l.isEmpty=false->Wd l/\l≠[]:=fun l h1 h2=>⟨fun c hc=>of_decide_eq_true (List.all_eq_true.mp h1 c hc),fun e=>by rw [e] at h2;cases h2⟩
 refine key _ ?_ ?_ <;> rcases h with rfl | rfl | rfl | rfl | rfl | rfl | rfl | rfl | rfl | rfl | rfl | rfl | rfl <;> decide +kernel
theorem in_jn {w:Str} (h:w="sum"\/w="least"\/w="greatest"):L2.inV (.str w) jnV=true:=by rcases h with rfl | rfl | rfl <;> decide +kernel
theorem TStep.cases2 {nm:Str->Prop} {P:D->Prop} {s:D} (h:TStep nm P s):(∃ w rest,s = .tup (.str w :: rest)/\L2.inV (.str w) jnV=false/\((w="use"/\∃ z,rest=[.str z]/\nm z)\/(w≠"use"/\rest≠[]/\∀ t∈rest,(∃ q,t=qD q/\Fq12 q)\/(∃ z,t = .str z/\(z="up"\/z="down"\/z="even"))))/\Wd (cl w)/\cl w≠[]) \/
  (∃ w ps,s = .tup (.str w :: ps)/\(w="sum"\/w="least"\/w="greatest")/\2<=ps.length/\ps.length<=4/\∀ p∈ps,P p):=by
 cases h with
 | @shift a ha=>exact .inl ⟨_,_,rfl,by decide +kernel,.inr ⟨by decide +kernel,by simp,fun t ht=>by rw [List.mem_singleton.mp ht];exact .inl ⟨_,rfl,ha⟩⟩,wd_word (by simp)⟩
 | @scale a ha _=>exact .inl ⟨_,_,rfl,by decide +kernel,.inr ⟨by decide +kernel,by simp,fun t ht=>by rw [List.mem_singleton.mp ht];exact .inl ⟨_,rfl,ha⟩⟩,wd_word (by simp)⟩
 | @use z hz=>exact .inl ⟨_,_,rfl,by decide +kernel,.inl ⟨rfl,z,rfl,hz⟩,wd_word (by simp)⟩
 | @floor u o hu _ ho=>exact .inl ⟨_,_,rfl,by decide +kernel,.inr ⟨by decide +kernel,by simp,fun t ht=>by
   simp only [List.mem_cons,List.not_mem_nil,or_false] at ht
   rcases ht with rfl | rfl
   ·exact .inl ⟨_,rfl,hu⟩
   ·exact .inl ⟨_,rfl,ho⟩⟩,wd_word (by simp)⟩
 | @ceiling u o hu _ ho=>exact .inl ⟨_,_,rfl,by decide +kernel,.inr ⟨by decide +kernel,by simp,fun t ht=>by
   simp only [List.mem_cons,List.not_mem_nil,or_false] at ht
   rcases ht with rfl | rfl
   ·exact .inl ⟨_,rfl,hu⟩
   ·exact .inl ⟨_,rfl,ho⟩⟩,wd_word (by simp)⟩
 | @nearest u o tt hu _ ho htt=>exact .inl ⟨_,_,rfl,by decide +kernel,.inr ⟨by decide +kernel,by simp,fun t ht=>by
   simp only [List.mem_cons,List.not_mem_nil,or_false] at ht
   rcases ht with rfl | rfl | rfl
   ·exact .inl ⟨_,rfl,hu⟩
   ·exact .inl ⟨_,rfl,ho⟩
   ·exact .inr ⟨_,rfl,htt⟩⟩,wd_word (by simp)⟩
 | @join w ps hw h2 h4 hp=>exact .inr ⟨w,ps,rfl,hw,h2,h4,hp⟩
theorem th_wd {t:D} (h:(∃ q,t=qD q/\Fq12 q)\/(∃ z,t = .str z/\(z="up"\/z="down"\/z="even"))):Wd (thT t):=by
 rcases h with ⟨q,rfl,hq⟩ | ⟨z,rfl,hz⟩
 ·exact wd_q hq
 ·exact (wd_word (w:=z) (by rcases hz with rfl | rfl | rfl <;> simp)).1
theorem bal_semi:Bal 0 0 [59,32]:=⟨by decide,by decide,rfl⟩
theorem bal_bar:Bal 0 0 [32,124,32]:=⟨by decide,by decide,by decide,rfl⟩
theorem bal_join {mk:List Nat} (hm:Sgn mk\/mk=[59,32]\/mk=[32,124,32]):∀ {ps:List (List Nat)},(∀ p∈ps,Bal 0 0 p)->Bal 0 0 (TL.joinL mk ps)
 | [],_=>rfl
 | [p],h=>h p (List.mem_cons_self ..)
 | p :: q :: r,h=>by
  have hmk:Bal 0 0 mk:=by
   rcases hm with hm | rfl | rfl
   ·exact (hm.all (.inl rfl) (Int.le_refl 0)).1
   ·exact bal_semi
   ·exact bal_bar
  exact (h p (List.mem_cons_self ..)).app (hmk.app (bal_join hm fun u hu=>h u (List.mem_cons_of_mem _ hu)))
theorem mx_join {mk:List Nat} {k:Int} (hk:0<=k) (hm:mk=[59,32]\/mk=[32,124,32]):∀ {ps:List (List Nat)},(∀ p∈ps,Bal 0 0 p/\Mx k 0 p)->Mx k 0 (TL.joinL mk ps)
 | [],_=>trivial
 | [p],h=>(h p (List.mem_cons_self ..)).2
 | p :: q :: r,h=>by
  have hmk:Bal 0 0 mk:=by
   rcases hm with rfl | rfl
   ·exact bal_semi
   ·exact bal_bar
  have hmx:Mx k 0 mk:=by
   rcases hm with rfl | rfl
   ·exact ⟨hk,hk,trivial⟩
   ·exact ⟨hk,hk,hk,trivial⟩
  obtain ⟨h1,h2⟩:=h p (List.mem_cons_self ..)
  exact Mx.app h1 h2 (Mx.app hmk hmx (mx_join hk hm fun u hu=>h u (List.mem_cons_of_mem _ hu)))
theorem n59_join:∀ {ps:List (List Nat)},(∀ p∈ps,Bal 0 0 p/\NoC 59 0 p)->NoC 59 0 (TL.joinL [32,124,32] ps)
 | [],_=>trivial
 | [p],h=>(h p (List.mem_cons_self ..)).2
 | p :: q :: r,h=>by
  obtain ⟨h1,h2⟩:=h p (List.mem_cons_self ..)
  have hmk:Bal 0 0 [32,124,32]:=bal_bar
  have hn:NoC 59 0 [32,124,32]:=⟨fun _=>by decide,fun _=>by decide,fun _=>by decide,trivial⟩
  exact NoC.app h1 h2 (NoC.app hmk hn (n59_join fun u hu=>h u (List.mem_cons_of_mem _ hu)))
theorem step_wr {nm:Str->Prop} (hn:∀ z,nm z->Wd (cl z)) {P:D->Prop} {f:D->List Nat} {k:Int} (hk:0<=k+1) (hk2:(∃ d,P d)->0<=k) (hP:∀ d,P d->Wr k (f d)) {s:D} (h:TStep nm P s):Wr (k+1) (wStep f s)/\NoC 124 0 (wStep f s)/\(32∈wStep f s\/40∈wStep f s):=by
 rcases h.cases2 with ⟨w,rest,rfl,hj,hr,hw,hwn⟩ | ⟨w,ps,rfl,hw,h2,h4,hp⟩
 ·have hall:∀ u∈cl w :: rest.map thT,Wd u:=fun u hu=>by
   rcases List.mem_cons.mp hu with rfl | hu
   ·exact hw
   ·obtain ⟨t,ht,rfl⟩:=List.mem_map.mp hu
    rcases hr with ⟨_,z,rfl,hz⟩ | ⟨_,_,hr⟩
    ·rw [List.mem_singleton.mp ht];exact hn z hz
    ·exact th_wd (hr t ht)
  have hs:=sp_join hall
  have e:wStep f (.tup (.str w :: rest))=TL.joinL [32] (cl w :: rest.map thT):=by
   show (if L2.inV (.str w) jnV=true then _ else _)=_
   rw [hj];rfl
  rw [e]
  obtain ⟨a1,a2,a3⟩:=hs.all (x:=59) (.inl rfl) hk
  obtain ⟨_,b2,_⟩:=hs.all (x:=124) (.inr rfl) hk
  refine ⟨⟨a1,a2,a3⟩,b2,.inl ?_⟩
  obtain ⟨t,r,rfl⟩:∃ t r,rest=t :: r:=by
   rcases hr with ⟨_,z,rfl,_⟩ | ⟨_,hne,_⟩
   ·exact ⟨_,_,rfl⟩
   ·cases rest with
    | nil=>exact absurd rfl hne
    | cons t r=>exact ⟨t,r,rfl⟩
  show 32∈cl w ++ ([32] ++ TL.joinL [32] (thT t :: r.map thT))
  simp
 ·obtain ⟨d0,hd0⟩:∃ d,P d:=by
   cases ps with
   | nil=>exact absurd h2 (by decide)
   | cons p r=>exact ⟨p,hp p (List.mem_cons_self ..)⟩
  have k0:=hk2 ⟨d0,hd0⟩
  have e:wStep f (.tup (.str w :: ps))=cl w ++ 40 :: (TL.joinL [59,32] (ps.map f) ++ [41]):=by
   show (if L2.inV (.str w) jnV=true then _ else _)=_
   rw [in_jn hw];rfl
  have hw':Wd (cl w):=(wd_word (by rcases hw with rfl | rfl | rfl <;> simp)).1
  have hb:Bal 0 0 (TL.joinL [59,32] (ps.map f)):=bal_join (.inr (.inl rfl)) fun p hp'=>by
   obtain ⟨d,hd,rfl⟩:=List.mem_map.mp hp'
   exact (hP d (hp d hd)).bal
  have hm:Mx k 0 (TL.joinL [59,32] (ps.map f)):=mx_join k0 (.inl rfl) fun p hp'=>by
   obtain ⟨d,hd,rfl⟩:=List.mem_map.mp hp'
   exact ⟨(hP d (hp d hd)).bal,(hP d (hp d hd)).mx⟩
  rw [e]
  have i1:Bal 0 0 (40 :: (TL.joinL [59,32] (ps.map f) ++ [41])):=⟨by decide,Bal.app (e:=1) hb.deep ⟨by decide,rfl⟩⟩
  have i2:∀ x,x≠41->x≠40->NoC x 0 (40 :: (TL.joinL [59,32] (ps.map f) ++ [41])):=fun x hx hy=>⟨fun z=>absurd z (by decide),NoC.app (e:=1) hb.deep (NoC.deep hb) ⟨fun _=>Ne.symm hx,trivial⟩⟩
  have i3:Mx (k+1) 0 (40 :: (TL.joinL [59,32] (ps.map f) ++ [41])):=⟨by show (0:Int)+1<=k+1;omega,Mx.app (e:=1) hb.deep hm.deep ⟨by show (1:Int) + -1<=k+1;omega,trivial⟩⟩
  obtain ⟨a1,a2,a3⟩:=hw'.sp.all (x:=59) (.inl rfl) hk
  obtain ⟨_,b2,_⟩:=hw'.sp.all (x:=124) (.inr rfl) hk
  exact ⟨⟨a1.app i1,NoC.app a1 a2 (i2 59 (by decide) (by decide)),Mx.app a1 a3 i3⟩,NoC.app a1 b2 (i2 124 (by decide) (by decide)),.inr (by simp)⟩
theorem pipe_wr {nm:Str->Prop} (hn:∀ z,nm z->Wd (cl z)):∀ {n:Nat} {d:D},TPipe nm n d->Wr ((n:Int) - 1) (wPipe n d)
 | n+1,d,⟨ss,e,l,h⟩=>by
  subst e
  have hs:∀ s∈ss,Wr (((n:Int) - 1)+1) (wStep (wPipe n) s):=fun s hs=>(step_wr hn (by omega) (fun ⟨d,hd⟩=>by
   cases n with
   | zero=>exact hd.elim
   | succ n=>omega) (fun d hd=>pipe_wr hn hd) (h s hs)).1
  rw [show ((n+1:Nat):Int) - 1=((n:Int) - 1)+1 by omega]
  cases ss with
  | nil =>
   obtain ⟨a1,a2,a3⟩:=((wd_word (w:="same") (by simp)).1).sp.all (x:=59) (.inl rfl) (k:=((n:Int) - 1)+1) (by omega)
   exact ⟨a1,a2,a3⟩
  | cons s ss =>
   have hb:∀ p∈(s :: ss).map (wStep (wPipe n)),Wr (((n:Int) - 1)+1) p:=fun p hp=>by
    obtain ⟨s',hs',rfl⟩:=List.mem_map.mp hp
    exact hs s' hs'
   exact ⟨bal_join (.inr (.inr rfl)) fun p hp=>(hb p hp).bal,n59_join fun p hp=>⟨(hb p hp).bal,(hb p hp).n59⟩,mx_join (by omega) (.inr rfl) fun p hp=>⟨(hb p hp).bal,(hb p hp).mx⟩⟩
def spo (mk:List Nat):Int->Nat->List Nat->List Nat->List (List Nat)
 | _,_,acc,[]=>[acc]
 | d,k+1,acc,_ :: r=>spo mk d k acc r
 | d,0,acc,c :: r=>if d+dpt c=0/\(c :: r).take mk.length=mk then acc :: spo mk (d+dpt c) (mk.length - 1) [] r else spo mk (d+dpt c) 0 (acc ++ [c]) r
theorem spo_pass (mk:List Nat):∀ (k:Nat) (d:Int) (acc l:List Nat),spo mk d k acc l=spo mk d 0 acc (l.drop k)
 | 0,_,_,_=>by rw [List.drop_zero]
 | k+1,d,acc,[]=>by rw [List.drop_nil];rfl
 | k+1,d,acc,c :: r=>by
  show spo mk d k acc r=spo mk d 0 acc (r.drop k)
  exact spo_pass mk k d acc r
theorem spo_part {mk:List Nat} {x:Nat} (hx:dpt x=0) (hm:∀ c r,(c :: r).take mk.length=mk->c=x\/r.head?=some x):∀ {p r:List Nat} {d e:Int} {acc:List Nat},Bal e d p->NoC x d p->r.head?≠some x->spo mk d 0 acc (p ++ r)=spo mk e 0 (acc ++ p) r
 | [],r,d,e,acc,h,_,_=>by cases (show d=e from h);rw [List.nil_append,List.append_nil]
 | c :: p,r,d,e,acc,h,g,hr=>by
  have key:¬ (d+dpt c=0/\(c :: (p ++ r)).take mk.length=mk):=fun ⟨z,ht⟩=>by
   rcases hm c (p ++ r) ht with rfl | hh
   ·exact g.1 z rfl
   ·cases p with
    | nil=>exact hr hh
    | cons c2 p =>
     have:c2=x:=by simpa using hh
     subst this
     exact g.2.1 (by rw [hx,z];rfl) rfl
  show (if d+dpt c=0/\(c :: (p ++ r)).take mk.length=mk then _ else spo mk (d+dpt c) 0 (acc ++ [c]) (p ++ r))=_
  rw [if_neg key,spo_part hx hm h.2 g.2 hr,List.append_assoc];rfl
theorem spo_join {mk:List Nat} {c0 x:Nat} {m:List Nat} (em:mk=c0 :: m) (h0:dpt c0=0) (hc:c0≠x\/True) (hx:dpt x=0) (hm:∀ c r,(c :: r).take mk.length=mk->c=x\/r.head?=some x) (hh:∀ q,(mk ++ q).head?≠some x\/mk=[59,32]):∀ {ps:List (List Nat)},ps≠[]->(∀ p∈ps,Bal 0 0 p/\NoC x 0 p)->(∀ (p r acc:List Nat),Bal 0 0 p->NoC x 0 p->spo mk 0 0 acc (p ++ (mk ++ r))=spo mk 0 0 (acc ++ p) (mk ++ r))->spo mk 0 0 [] (TL.joinL mk ps)=ps
 | [],hne,_,_=>absurd rfl hne
 | [p],_,h,_=>by
  obtain ⟨h1,h2⟩:=h p (List.mem_cons_self ..)
  have:=spo_part (r:=[]) (acc:=[]) hx hm h1 h2 (by simp)
  rw [List.append_nil] at this
  show spo mk 0 0 [] p=_
  rw [this];rfl
 | p :: q :: r,_,h,hs=>by
  obtain ⟨h1,h2⟩:=h p (List.mem_cons_self ..)
  show spo mk 0 0 [] (p ++ (mk ++ TL.joinL mk (q :: r)))=_
  rw [hs p _ _ h1 h2,List.nil_append]
  have e:spo mk 0 0 p (mk ++ TL.joinL mk (q :: r))=p :: spo mk 0 0 [] (TL.joinL mk (q :: r)):=by
   have et:(c0 :: (m ++ TL.joinL mk (q :: r))).take mk.length=mk:=by
    rw [<- List.cons_append,<- em,List.take_left'];rfl
   conv=>lhs;rw [em]
   show spo (c0 :: m) 0 0 p (c0 :: (m ++ TL.joinL (c0 :: m) (q :: r)))=_
   rw [<- em]
   show (if (0:Int)+dpt c0=0/\(c0 :: (m ++ TL.joinL mk (q :: r))).take mk.length=mk then p :: spo mk (0+dpt c0) (mk.length - 1) [] (m ++ TL.joinL mk (q :: r)) else _)=_
   rw [if_pos ⟨by rw [h0];rfl,et⟩,h0,spo_pass]
   congr 2
   rw [em]
   show (m ++ TL.joinL (c0 :: m) (q :: r)).drop m.length=_
   rw [List.drop_left'];rfl
  rw [e,spo_join em h0 hc hx hm hh (by simp) (fun u hu=>h u (List.mem_cons_of_mem _ hu)) hs]
theorem spo_bar {ps:List (List Nat)} (hne:ps≠[]) (h:∀ p∈ps,Bal 0 0 p/\NoC 124 0 p):spo [32,124,32] 0 0 [] (TL.joinL [32,124,32] ps)=ps:=by
 have hm:∀ c r,(c :: r).take [32,124,32].length=[32,124,32]->c=124\/r.head?=some 124:=fun c r e=>by
  cases r with
  | nil=>simp at e
  | cons a r=>simp at e;exact .inr (by simp [e.2.1])
 exact spo_join rfl rfl (.inr trivial) (by decide) hm (fun q=>.inl (by simp)) hne h fun p r acc h1 h2=>spo_part (by decide) hm h1 h2 (by simp)
theorem spo_semi {ps:List (List Nat)} (hne:ps≠[]) (h:∀ p∈ps,Bal 0 0 p/\NoC 59 0 p):spo [59,32] 0 0 [] (TL.joinL [59,32] ps)=ps:=by
 have hm:∀ c r,(c :: r).take [59,32].length=[59,32]->c=59\/r.head?=some 59:=fun c r e=>by
  cases r with
  | nil=>simp at e
  | cons a r=>simp at e;exact .inl e.1
 have hm':∀ c r,(c :: r).take [59,32].length=[59,32]->c=59:=fun c r e=>by
  cases r with
  | nil=>simp at e
  | cons a r=>simp at e;exact e.1
 refine spo_join rfl rfl (.inr trivial) (by decide) hm (fun q=>.inr rfl) hne h ?_
 have key:∀ (p r acc:List Nat) (d:Int),Bal 0 d p->NoC 59 d p->spo [59,32] d 0 acc (p ++ r)=spo [59,32] 0 0 (acc ++ p) r:=by
  intro p
  induction p with
  | nil=>intro r acc d h _;cases (show d=0 from h);rw [List.nil_append,List.append_nil]
  | cons c p ih =>
   intro r acc d h g
   show (if d+dpt c=0/\(c :: (p ++ r)).take [59,32].length=[59,32] then _ else spo [59,32] (d+dpt c) 0 (acc ++ [c]) (p ++ r))=_
   rw [if_neg (fun z=>g.1 z.1 (hm' _ _ z.2)),ih _ _ _ h.2 g.2,List.append_assoc];rfl
 exact fun p r acc h1 h2=>key p _ acc 0 h1 h2
theorem cutS_mid (l:List Nat) (b p:Nat):cutS (SX.S l) (some (b:Int)) (some (p:Int))=SX.S ((l.take p).drop b):=by
 unfold cutS
 rw [HT.sIx_nat,HT.sIx_nat,SX.S_len]
 refine TL.ext_tl ?_
 show (l.drop (min b l.length)).take (min p l.length - min b l.length)=(l.take p).drop b
 rw [List.drop_take]
 rcases Nat.le_total b l.length with h | h
 ·rw [Nat.min_eq_left h]
  rcases Nat.le_total p l.length with h2 | h2
  ·rw [Nat.min_eq_left h2]
  ·rw [Nat.min_eq_right h2,List.take_of_length_le (by simp),List.take_of_length_le (by rw [List.length_drop];omega)]
 ·rw [Nat.min_eq_right h,List.drop_of_length_le (Nat.le_refl _),List.drop_of_length_le h,List.take_nil,List.take_nil]
theorem cutS_from (l:List Nat) (b:Nat):cutS (SX.S l) (some (b:Int)) none=SX.S (l.drop b):=by
 rw [C8.cutS_slice];exact SX.slice_from (by omega)
theorem S_len' (l:List Nat):(SX.S l).length=l.length:=SX.S_len l
theorem S_cl (z:Str):SX.S (cl z)=z:=SX.S_tl z
theorem e_ixT {l:List Nat} {k:Nat} {c:Nat} {M:Mem} {Q:VD} (hl:l.length<=sizeLine) (h:l[k]?=some c) (q:Q (.str (SX.S [c])) M):rIx_ (.str (SX.S l)) (.int (k:Int)) M Q:=by
 show (SX.S l).length<=sizeLine/\(match L2.atI (SX.S l).cps.toList (k:Int) with
    | some c=>Q (.str ⟨#[c]⟩) M
    | none=>False)
 refine ⟨by rw [S_len'];exact hl,?_⟩
 have e:L2.atI (SX.S l).cps.toList (k:Int)=some c:=by
  have hk:=(List.getElem?_eq_some_iff.mp h).1
  have hk':k < (SX.S l).cps.toList.length:=hk
  unfold L2.atI L2.ixN
  rw [if_pos (by omega),if_pos (by omega)]
  show l[(k:Int).toNat]?=some c
  rw [Int.toNat_natCast];exact h
 rw [e];exact q
theorem S1_eq {c:Nat} {z:Str} {x:Nat} (hz:z=SX.S [x]):(SX.S [c]=z)=(c=x):=by
 subst hz
 exact propext ⟨fun h=>by have:=SX.S_inj h;simpa using this,fun h=>by rw [h]⟩
theorem spo_step {mk:List Nat} {d:Int} {acc r:List Nat} {c:Nat}:spo mk d 0 acc (c :: r)=if d+dpt c=0/\(c :: r).take mk.length=mk then acc :: spo mk (d+dpt c) (mk.length - 1) [] r else spo mk (d+dpt c) 0 (acc ++ [c]) r:=rfl
theorem spo_nil {mk:List Nat} {d:Int} {acc:List Nat}:spo mk d 0 acc []=[acc]:=rfl
theorem q_low {q:Rat} (h:Fq12 q):∀ c∈thT (qD q),c < 58:=by
 rw [thT_q]
 have g1:figB (cl (itx q.num))=true:=by
  have:=fg_itx h.1
  unfold fgN at this
  split at this
  ·assumption
  ·cases this
 have g2:figB (cl (itx (q.den:Int)))=true:=by
  have:=fg_itx (n:=(q.den:Int)) (by have:=h.2;omega)
  unfold fgN at this
  split at this
  ·assumption
  ·cases this
 obtain ⟨_,_,_,_,h1⟩:=fig_num g1
 obtain ⟨_,_,_,_,h2⟩:=fig_num g2
 unfold qtx
 split
 ·exact fun c hc=>by have:=h1 c hc;omega
 ·intro c hc
  rw [show cl (itx q.num ++ (Str.ofString "/" ++ itx (q.den:Int)))=_ from TL.tl_append _ _,TL.tl_append] at hc
  rcases List.mem_append.mp hc with hc | hc
  ·have:=h1 c hc;omega
  ·rcases List.mem_append.mp hc with hc | hc
   ·have:c=47:=by
     have:cl (Str.ofString "/")=[47]:=by decide +kernel
     have hc:c∈cl (Str.ofString "/"):=hc
     rw [this] at hc
     simpa using hc
    omega
   ·have:=h2 c hc;omega
theorem q_len {q:Rat} (h:Fq12 q):(qtx q).length<=30:=by
 have a:=(fgN_some (fg_itx h.1)).2.2.2
 have b:=(fgN_some (fg_itx (n:=(q.den:Int)) (by have:=h.2;omega))).2.2.2
 have e:(Str.ofString "/").length=1:=by decide +kernel
 unfold qtx
 split
 ·omega
 ·rw [str_len,str_len];omega
theorem q_bz {q:Rat} (h:Fq12 q):bz q.num<=40/\bz (q.den:Int)<=40:=by
 obtain ⟨h1,h2⟩:=h
 exact ⟨bi_lt (by omega) (by omega),bi_lt (by omega) (by omega)⟩
theorem paren_eq {c:Nat}:((if decide (SX.S [c]=Str.ofString "(")=true then (1:Int) else 0) - (if decide (SX.S [c]=Str.ofString ")")=true then 1 else 0))=dpt c:=by
 have e1:(SX.S [c]=Str.ofString "(")=(c=40):=S1_eq (by decide +kernel)
 have e2:(SX.S [c]=Str.ofString ")")=(c=41):=S1_eq (by decide +kernel)
 unfold dpt
 congr 1
 ·by_cases h:c=40
  ·rw [if_pos h,decide_eq_true (by rw [e1];exact h)];rfl
  ·rw [if_neg h,decide_eq_false (by rw [e1];exact h)];rfl
 ·by_cases h:c=41
  ·rw [if_pos h,decide_eq_true (by rw [e2];exact h)];rfl
  ·rw [if_neg h,decide_eq_false (by rw [e2];exact h)];rfl
theorem e_inT {z:Str} {zs:List Str} {M:Mem} {Q:VD} (q:Q (.bl (decide (z∈zs))) M):rIn_ (.str z) (.tup (zs.map D.str)) M Q:=by
 refine e_instr (vs:=zs.map V.str) (vsOf_strs zs) ?_
 rw [inV_strs];exact q
theorem e_addml {i:Nat} {xs ys:List D} {M:Mem} {Q:VD} (e:M[i]?=some (some (.lst xs))) (h0:xs.length+ys.length<=sizeLine) (h:Q (.lst (xs ++ ys)) M):rAdd_ (.mt i) (.lst ys) M Q:=by
 show (match asL M (.mt i),asL M (.lst ys) with
  | some xs,some ys=>xs.length+ys.length<=sizeLine/\Q (.lst (xs ++ ys)) M
  | _,_=>False)
 rw [asL_mt e]
 exact ⟨h0,h⟩
theorem joinL_len {S:List Nat}:∀ {ps:List (List Nat)},ps≠[]->(TL.joinL S ps).length+S.length=(ps.map (·.length)).sum+ps.length * S.length
 | [],h=>absurd rfl h
 | [p],_=>by simp [TL.joinL]
 | p :: q :: r,_=>by
  have ih:=joinL_len (S:=S) (ps:=q :: r) (by simp)
  show (p ++ (S ++ TL.joinL S (q :: r))).length+S.length=(p.length+((q :: r).map (·.length)).sum)+(q :: r).length.succ * S.length
  rw [List.length_append,List.length_append,Nat.succ_mul]
  omega
theorem joinL_part {S:List Nat} {ps:List (List Nat)} {p:List Nat} (h:p∈ps):p.length<=(TL.joinL S ps).length:=by
 have hne:ps≠[]:=fun e=>by rw [e] at h;cases h
 have e:=joinL_len (S:=S) hne
 have h1:p.length<=(ps.map (·.length)).sum:=by
  clear e hne
  induction ps with
  | nil=>cases h
  | cons q r ih =>
   rw [List.map_cons,List.sum_cons]
   rcases List.mem_cons.mp h with rfl | h
   ·omega
   ·have:=ih h;omega
 have h2:S.length<=ps.length * S.length:=by
  have:1<=ps.length:=by
   cases ps with
   | nil=>exact absurd rfl hne
   | cons=>simp
  have:=Nat.mul_le_mul_right S.length this
  omega
 omega
theorem e_joinS {a:Str} {S:List Nat} {ps:List (List Nat)} {d:D} {M:Mem} {Q:VD} (ea:a=SX.S S) (hS:S.length<=10) (hne:ps≠[]) (hl:(TL.joinL S ps).length<=1000000) (ed:d = .lst (ps.map fun p=>D.str (SX.S p))) (h:Q (.str (SX.S (TL.joinL S ps))) M):rJoin_ (.str a) [d] M Q:=by
 subst ea ed
 have e1:(ps.map fun p=>D.str (SX.S p))=(ps.map SX.S).map D.str:=by rw [List.map_map];rfl
 rw [e1]
 refine e_join ?_ ?_
 ·have e:=joinL_len (S:=S) hne
  rw [List.length_map,S_len',SX.lens]
  omega
 ·rw [SX.join_S];exact h
theorem TStep.pzd {nm:Str->Prop} {P:D->Prop} {k:Nat} (hk:1<=k) (hn:∀ z,nm z->PyData.strOk z=true) (hP:∀ d,P d->pz d=true/\dp d<=k) {d:D} (h:TStep nm P d):pz d=true/\dp d<=k+1:=by
 cases h with
 | shift a=>exact ⟨by show (PyData.strOk "shift" && (true && true))=true;decide +kernel,by show 1+1<=k+1;omega⟩
 | scale a b=>exact ⟨by show (PyData.strOk "scale" && (true && true))=true;decide +kernel,by show 1+1<=k+1;omega⟩
 | @use z hz =>
  refine ⟨?_,by show 0+1<=k+1;omega⟩
  show (PyData.strOk "use" && (PyData.strOk z && true))=true
  rw [hn z hz];decide +kernel
 | floor a b c=>exact ⟨by show (PyData.strOk "floor" && (true && (true && true)))=true;decide +kernel,by show 1+1<=k+1;omega⟩
 | ceiling a b c=>exact ⟨by show (PyData.strOk "ceiling" && (true && (true && true)))=true;decide +kernel,by show 1+1<=k+1;omega⟩
 | @nearest u o t a b c ht =>
  refine ⟨?_,by show 1+1<=k+1;omega⟩
  show (PyData.strOk "nearest" && (true && (true && (PyData.strOk t && true))))=true
  rcases ht with rfl | rfl | rfl <;> decide +kernel
 | @join w ps hw h2 h4 hp =>
  have h1:=pzs_all fun x hx=>(hP x (hp x hx)).1
  have h3:=dps_all fun x hx=>(hP x (hp x hx)).2
  refine ⟨?_,?_⟩
  ·show (PyData.strOk w && pzs ps)=true
   rw [h1]
   rcases hw with rfl | rfl | rfl <;> decide +kernel
  ·show max 0 (dps ps)+1<=k+1
   omega
theorem TPipe.pzd {nm:Str->Prop} (hn:∀ z,nm z->PyData.strOk z=true):∀ {n:Nat} {d:D},TPipe nm n d->pz d=true/\dp d<=2 * n+1
 | n+1,d,⟨ss,e,l,h⟩=>by
  subst e
  have key:∀ s∈ss,pz s=true/\dp s<=2 * n+1+1:=fun s hs=>(h s hs).pzd (by omega) hn fun d hd=>TPipe.pzd hn hd
  refine ⟨pzs_all fun s hs=>(key s hs).1,?_⟩
  have:=dps_all fun s hs=>(key s hs).2
  show dps ss+1<=2 * (n+1)+1
  omega
theorem e_neT0 {s:D} {ss:List D} {M:Mem} {Q:VD} (h1:pz (.tup (s :: ss))=true) (h2:dp (.tup (s :: ss))<=64) (h:Q (.bl true) M):rNe_ (.tup (s :: ss)) (.tup []) M Q:=by
 refine e_neP h1 rfl h2 (by decide) ?_
 have h3:(pz s && pzs ss)=true:=h1
 rw [Bool.and_eq_true] at h3
 have e:pyEq (.tup (s :: ss)) (.tup [])=false:=by
  rw [pyEq_tup h1 rfl]
  exact (pyEqs_nil_cons h3.1 h3.2).2.trans rfl
 rw [e];exact h
theorem e_neT1 {M:Mem} {Q:VD} (h:Q (.bl false) M):rNe_ (.tup []) (.tup []) M Q:=by
 refine e_neP rfl rfl (by decide) (by decide) ?_
 rw [pyEq_refl rfl];exact h
theorem isfr_fr {q:Rat} (h:Fq12 q):isfr q.num q.den=true:=by
 obtain ⟨h1,h2⟩:=h
 have h3:=q.den_pos
 have h4:Int.gcd q.num q.den=1:=q.reduced
 unfold isfr
 rw [decide_eq_true h1,decide_eq_true (show (0:Int) < q.den by omega),decide_eq_true (show (q.den:Int) < 10 ^ 12 by omega),decide_eq_true h4]
 rfl
def cTx:Nat->Nat
 | 0=>0
 | n+1=>3 * (4 * (cTx n+4)+120)
theorem join_le {S:List Nat} {k:Nat}:∀ {ps:List (List Nat)},(∀ p∈ps,p.length<=k)->(TL.joinL S ps).length<=ps.length * (k+S.length)
 | [],_=>Nat.zero_le _
 | [p],h=>by
  have:=h p (List.mem_cons_self ..)
  show p.length<=1 * _
  omega
 | p :: q :: r,h=>by
  have ih:=join_le (S:=S) (ps:=q :: r) fun u hu=>h u (List.mem_cons_of_mem _ hu)
  have:=h p (List.mem_cons_self ..)
  show (p ++ (S ++ TL.joinL S (q :: r))).length<=(q :: r).length.succ * _
  rw [List.length_append,List.length_append,Nat.succ_mul]
  omega
theorem th_len {t:D} (h:(∃ q,t=qD q/\Fq12 q)\/(∃ z,t = .str z/\(z="up"\/z="down"\/z="even"))):(thT t).length<=30:=by
 rcases h with ⟨q,rfl,hq⟩ | ⟨z,rfl,hz⟩
 ·rw [thT_q];exact q_len hq
 ·show z.length<=30
  rcases hz with rfl | rfl | rfl <;> decide +kernel
theorem wStep_plain {f:D->List Nat} {w:Str} {rest:List D} (hj:L2.inV (.str w) jnV=false):wStep f (.tup (.str w :: rest))=TL.joinL [32] (cl w :: rest.map thT):=by
 show (if L2.inV (.str w) jnV=true then _ else _)=_
 rw [hj];rfl
theorem step_len {nm:Str->Prop} (hn:∀ z,nm z->z.length<=8) {P:D->Prop} {f:D->List Nat} {k:Nat} (hP:∀ d,P d->(f d).length<=k) {s:D} (h:TStep nm P s):(wStep f s).length<=4 * k+117:=by
 cases h with
 | @shift a ha =>
  have e:wStep f (.tup [.str "shift",qD a])=TL.joinL [32] [cl "shift",thT (qD a)]:=wStep_plain (w:="shift") (by decide +kernel)
  rw [e]
  have:=join_le (S:=[32]) (k:=30) (ps:=[cl "shift",thT (qD a)]) fun p hp=>by
   simp only [List.mem_cons,List.not_mem_nil,or_false] at hp
   rcases hp with rfl | rfl
   ·decide +kernel
   ·exact th_len (.inl ⟨_,rfl,ha⟩)
  simp only [List.length_cons,List.length_nil] at this
  omega
 | @scale a ha _ =>
  have e:wStep f (.tup [.str "scale",qD a])=TL.joinL [32] [cl "scale",thT (qD a)]:=wStep_plain (w:="scale") (by decide +kernel)
  rw [e]
  have:=join_le (S:=[32]) (k:=30) (ps:=[cl "scale",thT (qD a)]) fun p hp=>by
   simp only [List.mem_cons,List.not_mem_nil,or_false] at hp
   rcases hp with rfl | rfl
   ·decide +kernel
   ·exact th_len (.inl ⟨_,rfl,ha⟩)
  simp only [List.length_cons,List.length_nil] at this
  omega
 | @use z hz =>
  have e:wStep f (.tup [.str "use",.str z])=TL.joinL [32] [cl "use",cl z]:=wStep_plain (w:="use") (by decide +kernel)
  rw [e]
  have:=join_le (S:=[32]) (k:=30) (ps:=[cl "use",cl z]) fun p hp=>by
   simp only [List.mem_cons,List.not_mem_nil,or_false] at hp
   rcases hp with rfl | rfl
   ·decide +kernel
   ·exact Nat.le_trans (hn z hz) (by decide)
  simp only [List.length_cons,List.length_nil] at this
  omega
 | @floor u o hu _ ho =>
  have e:wStep f (.tup [.str "floor",qD u,qD o])=TL.joinL [32] [cl "floor",thT (qD u),thT (qD o)]:=wStep_plain (w:="floor") (by decide +kernel)
  rw [e]
  have:=join_le (S:=[32]) (k:=30) (ps:=[cl "floor",thT (qD u),thT (qD o)]) fun p hp=>by
   simp only [List.mem_cons,List.not_mem_nil,or_false] at hp
   rcases hp with rfl | rfl | rfl
   ·decide +kernel
   ·exact th_len (.inl ⟨_,rfl,hu⟩)
   ·exact th_len (.inl ⟨_,rfl,ho⟩)
  simp only [List.length_cons,List.length_nil] at this
  omega
 | @ceiling u o hu _ ho =>
  have e:wStep f (.tup [.str "ceiling",qD u,qD o])=TL.joinL [32] [cl "ceiling",thT (qD u),thT (qD o)]:=wStep_plain (w:="ceiling") (by decide +kernel)
  rw [e]
  have:=join_le (S:=[32]) (k:=30) (ps:=[cl "ceiling",thT (qD u),thT (qD o)]) fun p hp=>by
   simp only [List.mem_cons,List.not_mem_nil,or_false] at hp
   rcases hp with rfl | rfl | rfl
   ·decide +kernel
   ·exact th_len (.inl ⟨_,rfl,hu⟩)
   ·exact th_len (.inl ⟨_,rfl,ho⟩)
  simp only [List.length_cons,List.length_nil] at this
  omega
 | @nearest u o t hu _ ho ht =>
  have e:wStep f (.tup [.str "nearest",qD u,qD o,.str t])=TL.joinL [32] [cl "nearest",thT (qD u),thT (qD o),thT (.str t)]:=wStep_plain (w:="nearest") (by decide +kernel)
  rw [e]
  have e1:(cl "nearest").length=7:=by decide +kernel
  have e2:=th_len (t:=qD u) (.inl ⟨_,rfl,hu⟩)
  have e3:=th_len (t:=qD o) (.inl ⟨_,rfl,ho⟩)
  have e4:=th_len (t:=.str t) (.inr ⟨_,rfl,ht⟩)
  show (cl "nearest" ++ ([32] ++ (thT (qD u) ++ ([32] ++ (thT (qD o) ++ ([32] ++ thT (.str t))))))).length<=_
  simp only [List.length_append,List.length_cons,List.length_nil]
  omega
 | @join w ps hw h2 h4 hp =>
  have e:wStep f (.tup (.str w :: ps))=cl w ++ 40 :: (TL.joinL [59,32] (ps.map f) ++ [41]):=by
   show (if L2.inV (.str w) jnV=true then _ else _)=_
   rw [in_jn hw];rfl
  rw [e]
  have e1:(cl w).length<=8:=by rcases hw with rfl | rfl | rfl <;> decide +kernel
  have:=join_le (S:=[59,32]) (k:=k) (ps:=ps.map f) fun p hp'=>by
   obtain ⟨t,ht,rfl⟩:=List.mem_map.mp hp'
   exact hP t (hp t ht)
  rw [List.length_map] at this
  have h5:ps.length * (k+([59,32]:List Nat).length)<=4 * (k+2):=Nat.mul_le_mul_right _ h4
  simp only [List.length_append,List.length_cons,List.length_nil] at this h5 ⊢
  omega
theorem steps_len {f:Nat} {c:Nat} {ss:List D} (h:∀ s∈ss,(wStep (wPipe f) s).length<=c):(wPipe (f+1) (.tup ss)).length<=ss.length * (c+3)+4:=by
 cases ss with
 | nil =>
  show (cl "same").length<=_
  have:(cl "same").length=4:=by decide +kernel
  omega
 | cons s ss =>
  have:=join_le (S:=[32,124,32]) (k:=c) (ps:=(s :: ss).map (wStep (wPipe f))) fun p hp=>by
   obtain ⟨t,ht,rfl⟩:=List.mem_map.mp hp
   exact h t ht
  rw [List.length_map] at this
  show (TL.joinL [32,124,32] ((s :: ss).map (wStep (wPipe f)))).length<=_
  have e:([32,124,32]:List Nat).length=3:=rfl
  rw [e] at this
  omega
theorem gp_stp {nm:Str->Prop} {n m:Nat} {d:D} (h:GPipe nm (n+1) m d):∃ ss,d = .tup ss/\ss.length<=m+1/\∀ s∈ss,PStep nm (GPipe nm n 2) s:=by
 obtain ⟨ps,hl,hm,h,hd⟩:=h
 obtain ⟨h3,h4⟩:=slopeP_ok fun p hp=>(h p hp).sl
 rcases hd with ⟨_,rfl⟩ | ⟨_,rfl⟩
 ·refine ⟨_,rfl,by rw [List.length_map];omega,fun s hs'=>?_⟩
  obtain ⟨p,hp,rfl⟩:=List.mem_map.mp hs'
  exact (h p hp).ps
 ·refine ⟨_,rfl,by rw [List.length_append,List.length_map];show _+1<=_;omega,fun s hs'=>?_⟩
  rcases List.mem_append.mp hs' with hs' | hs'
  ·obtain ⟨p,hp,rfl⟩:=List.mem_map.mp hs'
   exact (h p hp).ps
  ·rw [List.mem_singleton.mp hs']
   have h5:=qs_div 1 (slopeP ps)
   have h6:qs 1<=1:=by decide +kernel
   exact .scale (.of (by omega)) (by rw [Rat.div_def,Rat.one_mul];exact Rat.inv_pos.mpr h4)
theorem gp_text {nm:Str->Prop} (hn:∀ z,nm z->z.length<=8):∀ {n:Nat} {d:D},GPipe nm n 2 d->∀ {k:Nat},n<=k->TPipe nm k d/\(wPipe k d).length<=cTx n+4
 | n+1,d,h,k+1,hk=>by
  obtain ⟨ss,rfl,hl,hs⟩:=gp_stp h
  have key:∀ s∈ss,TStep nm (fun d=>TPipe nm k d/\(wPipe k d).length<=cTx n+4) s:=fun s hs'=>(hs s hs').t fun d hd=>gp_text hn hd (by omega)
  refine ⟨⟨ss,rfl,by omega,fun s hs'=>(key s hs').mono fun d hd=>hd.1⟩,?_⟩
  have h1:=steps_len (f:=k) (c:=4 * (cTx n+4)+117) fun s hs'=>step_len hn (fun d hd=>hd.2) (key s hs')
  have h2:ss.length * (4 * (cTx n+4)+117+3)<=3 * (4 * (cTx n+4)+117+3):=Nat.mul_le_mul_right _ (by omega)
  show _<=3 * (4 * (cTx n+4)+120)+4
  omega
theorem pusA:∀ {l:List D},(∀ d∈l,pu d=true)->pus l=true
 | [],_=>rfl
 | d :: r,h=>by
  show (pu d && pus r)=true
  rw [h d (List.mem_cons_self ..),pusA fun x hx=>h x (List.mem_cons_of_mem _ hx)];rfl
theorem pu_tup {l:List D} (hl:l.length<=12) (h:∀ d∈l,pu d=true):pu (.tup l)=true:=by
 show (decide (l.length<=sizeLine) && pus l)=true
 rw [pusA h,decide_eq_true (Nat.le_trans hl (by decide))];rfl
theorem TStep.pu {nm:Str->Prop} {P:D->Prop} (hP:∀ d,P d->DL.pu d=true) {d:D} (h:TStep nm P d):DL.pu d=true:=by
 cases h with
 | @join w ps hw h2 h4 hp =>
  exact pu_tup (by rw [List.length_cons];omega) fun x hx=>by
   rcases List.mem_cons.mp hx with rfl | hx
   ·rfl
   ·exact hP x (hp x hx)
 | _=>rfl
theorem TPipe.pu {nm:Str->Prop}:∀ {n:Nat} {d:D},TPipe nm n d->DL.pu d=true
 | n+1,d,⟨ss,e,l,h⟩=>by
  subst e
  exact pu_tup l fun s hs=>(h s hs).pu fun d hd=>TPipe.pu hd
theorem plain_txt {nm:Str->Prop} (hn:∀ z,nm z->Wd (cl z)) {w:Str} {rest:List D} (hw:Wd (cl w)) (hr:(w="use"/\∃ z,rest=[.str z]/\nm z)\/(w≠"use"/\rest≠[]/\∀ t∈rest,(∃ q,t=qD q/\Fq12 q)\/(∃ z,t = .str z/\(z="up"\/z="down"\/z="even")))):∀ u∈cl w :: rest.map thT,Wd u:=fun u hu=>by
 rcases List.mem_cons.mp hu with rfl | hu
 ·exact hw
 ·obtain ⟨t,ht,rfl⟩:=List.mem_map.mp hu
  rcases hr with ⟨_,z,rfl,hz⟩ | ⟨_,_,hr⟩
  ·rw [List.mem_singleton.mp ht];exact hn z hz
  ·exact th_wd (hr t ht)
theorem join_text {f:D->List Nat} {w:Str} {ps:List D} (hw:w="sum"\/w="least"\/w="greatest"):wStep f (.tup (.str w :: ps))=cl w ++ 40 :: (TL.joinL [59,32] (ps.map f) ++ [41]):=by
 show (if L2.inV (.str w) jnV=true then _ else _)=_
 rw [in_jn hw];rfl
theorem is_tup {d:D} (h:isTup d=true):∃ xs,d = .tup xs:=by
 cases d <;> first | exact ⟨_,rfl⟩ | cases h
theorem is_str {d:D} (h:isStr d=true):∃ z,d = .str z:=by
 cases d <;> first | exact ⟨_,rfl⟩ | cases h
def isZI (d:D):Bool:=isInt d && !isBl d
theorem isZI_of {d:D} (h:isZI d=true):∃ i,d = .int i:=by
 cases d <;> first | exact ⟨_,rfl⟩ | cases h
def isfrD:D->Bool
 | .tup [.int a,.int b]=>isfr a b
 | _=>false
def posD:D->Bool
 | .tup [.int a,.int b]=>isfr a b && decide (0 < a)
 | _=>false
abbrev tieV:List V:=[.str "up",.str "down",.str "even"]
abbrev flV:List V:=[.str "floor",.str "ceiling"]
def tieD:D->Bool
 | .str t=>L2.inV (.str t) tieV
 | _=>false
def nmD (nb:Str->Bool):D->Bool
 | .str z=>nb z
 | _=>false
def restB (nb:Str->Bool) (w:Str):List D->Bool
 | [a]=>if w="shift" then isfrD a else if w="scale" then posD a else if w="use" then nmD nb a else false
 | [u,o]=>if L2.inV (.str w) flV=true then posD u && isfrD o else false
 | [u,o,t]=>if w="nearest" then posD u && (isfrD o && tieD t) else false
 | _=>false
def stepB (nb:Str->Bool) (f:D->Bool):D->Bool
 | .tup (.str w :: rest)=>if L2.inV (.str w) jnV=true then decide (2<=rest.length) && (decide (rest.length<=4) && rest.all f) else restB nb w rest
 | _=>false
def pipB (nb:Str->Bool):Nat->D->Bool
 | n+1,.tup ss=>decide (ss.length<=12) && ss.all (stepB nb (pipB nb n))
 | _,_=>false
theorem len_2 {xs:List D} (h:((xs.length:Nat):Int)=2):∃ x y,xs=[x,y]:=by
 match xs,h with
 | [x,y],_=>exact ⟨x,y,rfl⟩
 | [],h=>cases h
 | [x],h=>cases h
 | x :: y :: z :: r,h=>simp only [List.length_cons] at h;omega
theorem isfrD_len {xs:List D} (h:¬ ((xs.length:Nat):Int)=2):isfrD (.tup xs)=false:=by
 unfold isfrD
 split
 ·rename_i e;cases e;exact absurd rfl h
 ·rfl
theorem isfrD_not {d:D} (h:isTup d=false):isfrD d=false:=by
 unfold isfrD
 split
 ·cases h
 ·rfl
theorem isfrD_zi {x y:D} (h:(isZI x && isZI y)=false):isfrD (.tup [x,y])=false:=by
 unfold isfrD
 split
 ·rename_i e;cases e;cases h
 ·rfl
theorem isfr_rat {a b:Int} (h:isfr a b=true):∃ q:Rat,D.tup [.int a,.int b]=qD q/\Fr12 q/\(0 < a->0 < q):=by
 have h0:=h
 unfold isfr at h
 simp only [Bool.and_eq_true,decide_eq_true_eq] at h
 obtain ⟨⟨⟨_,h2⟩,_⟩,h4⟩:=h
 have hb:((b.toNat:Nat):Int)=b:=Int.toNat_of_nonneg (by omega)
 let q:Rat:=⟨a,b.toNat,by omega,by
  have e:b.toNat=b.natAbs:=by omega
  rw [e];exact h4⟩
 have hn:q.num=a:=rfl
 have hd:(q.den:Int)=b:=hb
 refine ⟨q,?_,?_,fun h=>num_pos.mp (by rw [hn];exact h)⟩
 ·show _=D.tup [.int q.num,.int (q.den:Int)]
  rw [hn,hd]
 ·show isfr q.num (q.den:Int)=true
  rw [hn,hd];exact h0
theorem isfrD_q {d:D} (h:isfrD d=true):∃ q:Rat,d=qD q/\Fr12 q:=by
 unfold isfrD at h
 split at h
 ·obtain ⟨q,h1,h2,_⟩:=isfr_rat h
  exact ⟨q,h1,h2⟩
 ·cases h
theorem posD_q {d:D} (h:posD d=true):∃ q:Rat,d=qD q/\Fr12 q/\0 < q:=by
 unfold posD at h
 split at h
 ·rw [Bool.and_eq_true] at h
  obtain ⟨q,h1,h2,h3⟩:=isfr_rat h.1
  exact ⟨q,h1,h2,h3 (of_decide_eq_true h.2)⟩
 ·cases h
theorem posD_isfr {a b:Int} (h:isfr a b=true):posD (.tup [.int a,.int b])=decide (0 < a):=by
 show (isfr a b && decide (0 < a))=_
 rw [h];rfl
theorem posD_not {d:D} (h:isfrD d=false):posD d=false:=by
 unfold posD
 split
 ·rename_i a b
  have:isfr a b=false:=h
  rw [this];rfl
 ·rfl
theorem isfrD_ab {d:D} (h:isfrD d=true):∃ a b,d = .tup [.int a,.int b]/\isfr a b=true:=by
 unfold isfrD at h
 split at h
 ·exact ⟨_,_,rfl,h⟩
 ·cases h
theorem inV_str {z:Str} {zs:List Str} (h:L2.inV (.str z) (zs.map V.str)=true):z∈zs:=by
 rw [inV_strs] at h
 exact of_decide_eq_true h
theorem tieD_t {d:D} (h:tieD d=true):∃ t:Str,d = .str t/\(t="up"\/t="down"\/t="even"):=by
 unfold tieD at h
 split at h
 ·rename_i t
  have:=inV_str (zs:=["up","down","even"]) h
  simp only [List.mem_cons,List.not_mem_nil,or_false] at this
  exact ⟨t,rfl,this⟩
 ·cases h
theorem rB1 {nb:Str->Bool} {w:Str} {a:D}:restB nb w [a]=if w="shift" then isfrD a else if w="scale" then posD a else if w="use" then nmD nb a else false:=rfl
theorem rB_shift {nb:Str->Bool} {a:D}:restB nb "shift" [a]=isfrD a:=by rw [rB1,if_pos rfl]
theorem rB_scale {nb:Str->Bool} {a:D}:restB nb "scale" [a]=posD a:=by rw [rB1,if_neg (by decide +kernel),if_pos rfl]
theorem rB_use {nb:Str->Bool} {a:D}:restB nb "use" [a]=nmD nb a:=by rw [rB1,if_neg (by decide +kernel),if_neg (by decide +kernel),if_pos rfl]
theorem rB2 {nb:Str->Bool} {w:Str} {a o:D}:restB nb w [a,o]=if L2.inV (.str w) flV=true then posD a && isfrD o else false:=rfl
theorem rB_fc {nb:Str->Bool} {w:Str} (hw:w="floor"\/w="ceiling") {a o:D}:restB nb w [a,o]=(posD a && isfrD o):=by rw [rB2,if_pos (by rcases hw with rfl | rfl <;> decide +kernel)]
theorem rB3 {nb:Str->Bool} {w:Str} {a o t:D}:restB nb w [a,o,t]=if w="nearest" then posD a && (isfrD o && tieD t) else false:=rfl
theorem rB_n {nb:Str->Bool} {a o t:D}:restB nb "nearest" [a,o,t]=(posD a && (isfrD o && tieD t)):=by rw [rB3,if_pos rfl]
theorem stepB_not {nb:Str->Bool} {f:D->Bool} {d:D} (h:∀ w r,d≠.tup (.str w :: r)):stepB nb f d=false:=by
 unfold stepB
 split
 ·exact absurd rfl (h _ _)
 ·rfl
theorem stepB_j {nb:Str->Bool} {f:D->Bool} {w:Str} {r:List D} (h:L2.inV (.str w) jnV=true):stepB nb f (.tup (.str w :: r))=(decide (2<=r.length) && (decide (r.length<=4) && r.all f)):=by
 show (if _ then _ else _)=_
 rw [if_pos h]
theorem stepB_r {nb:Str->Bool} {f:D->Bool} {w:Str} {r:List D} (h:L2.inV (.str w) jnV=false):stepB nb f (.tup (.str w :: r))=restB nb w r:=by
 show (if _ then _ else _)=_
 rw [if_neg (by rw [h];decide)]
theorem pipB_not {nb:Str->Bool} {n:Nat} {d:D} (h:isTup d=false):pipB nb n d=false:=by
 unfold pipB
 split
 ·cases h
 ·rfl
theorem restB_p {nb:Str->Bool} {P:D->Prop} {w:Str} {r:List D} (h:restB nb w r=true):PStep (fun z=>nb z=true) P (.tup (.str w :: r)):=by
 unfold restB at h
 split at h
 ·split at h
  ·rename_i e;subst e
   obtain ⟨q,rfl,hq⟩:=isfrD_q h
   exact .shift hq
  ·split at h
   ·rename_i e;subst e
    obtain ⟨q,rfl,hq,h0⟩:=posD_q h
    exact .scale hq h0
   ·split at h
    ·rename_i a _ _ e;subst e
     unfold nmD at h
     split at h
     ·exact .use h
     ·cases h
    ·cases h
 ·split at h
  ·rename_i e
   rw [Bool.and_eq_true] at h
   obtain ⟨q,rfl,hq,h0⟩:=posD_q h.1
   obtain ⟨o,rfl,ho⟩:=isfrD_q h.2
   have:=inV_str (zs:=["floor","ceiling"]) e
   simp only [List.mem_cons,List.not_mem_nil,or_false] at this
   rcases this with rfl | rfl
   ·exact .floor hq h0 ho
   ·exact .ceiling hq h0 ho
  ·cases h
 ·split at h
  ·rename_i e;subst e
   rw [Bool.and_eq_true,Bool.and_eq_true] at h
   obtain ⟨q,rfl,hq,h0⟩:=posD_q h.1
   obtain ⟨o,rfl,ho⟩:=isfrD_q h.2.1
   obtain ⟨t,rfl,ht⟩:=tieD_t h.2.2
   exact .nearest hq h0 ho ht
  ·cases h
 ·cases h
theorem stepB_p {nb:Str->Bool} {f:D->Bool} {P:D->Prop} (hf:∀ d,f d=true->P d) {d:D} (h:stepB nb f d=true):PStep (fun z=>nb z=true) P d:=by
 unfold stepB at h
 split at h
 ·split at h
  ·rename_i w rest e
   rw [Bool.and_eq_true,Bool.and_eq_true] at h
   have:=inV_str (zs:=["sum","least","greatest"]) e
   simp only [List.mem_cons,List.not_mem_nil,or_false] at this
   exact .join this (of_decide_eq_true h.1) (of_decide_eq_true h.2.1) fun p hp=>hf p (List.all_eq_true.mp h.2.2 p hp)
  ·exact restB_p h
 ·cases h
theorem pipB_p {nb:Str->Bool}:∀ {n:Nat} {d:D},pipB nb n d=true->PPipe (fun z=>nb z=true) n d
 | 0,d,h=>by cases d <;> cases h
 | n+1,d,h=>by
  unfold pipB at h
  split at h
  ·rename_i n' ss e
   cases e
   rw [Bool.and_eq_true] at h
   exact ⟨ss,rfl,of_decide_eq_true h.1,fun s hs=>stepB_p (fun d hd=>pipB_p hd) (List.all_eq_true.mp h.2 s hs)⟩
  ·cases h
theorem low_eq {a b:Int} (h0:0 < b):pyEq (qD (Rat.divInt a b)) (.tup [.int a,.int b])=decide (Int.gcd a b=1):=by
 show pyEq (.tup [.int (Rat.divInt a b).num,.int ((Rat.divInt a b).den:Int)]) (.tup [.int a,.int b])=_
 rw [pyEq_tup rfl rfl,pyEqs_cons rfl rfl rfl rfl,pyEqs_cons rfl rfl rfl rfl,pyEq_int,pyEq_int]
 rw [show pyEqs [] []=true from rfl,Bool.and_true,<- Bool.decide_and]
 refine decide_eq_decide.mpr ⟨fun ⟨h1,h2⟩=>?_,fun h=>?_⟩
 ·have:=(Rat.divInt a b).reduced
  show Nat.gcd a.natAbs b.natAbs=1
  have h3:(Rat.divInt a b).den=b.natAbs:=by omega
  rw [<- h1,<- h3];exact this
 ·have h1:=low_num a b (by omega)
  have h2:=low_den a b (by omega)
  rw [if_neg (by omega),h] at h1 h2
  simp at h1 h2
  exact ⟨h1.symm,h2.symm⟩
def updn:List Str:=["up","down","even"]
def thF (w t:List Nat):Option D:=if SX.S w="use"\/SX.S t∈updn then some (.str (SX.S t)) else (pfN (SX.S t)).map fun p=>.tup [.int p.1,.int p.2]
def plF:List (List Nat)->Option D
 | []=>none
 | w :: ts=>(ts.mapM (thF w)).map fun xs=>.tup (.str (SX.S w) :: xs)
def jnF (f:List Nat->Option D) (a b:List Nat):Option D:=if b.drop (b.length - 1)=[41] then ((spo [59,32] 0 0 [] (b.take (b.length - 1))).mapM f).map fun ps=>.tup (.str (SX.S a) :: ps) else none
def stF (f:List Nat->Option D) (l:List Nat):Option D:=match TL.par [40] [] l with
 | none=>plF (TL.spl [32] 0 [] l)
 | some (a,b)=>if L2.inV (.str (SX.S a)) jnV=true then jnF f a b else plF (TL.spl [32] 0 [] l)
def rdF:Nat->List Nat->Option D
 | 0,_=>none
 | n+1,l=>if l=cl "same" then some (.tup []) else ((spo [32,124,32] 0 0 [] l).mapM (stF (rdF n))).map .tup
theorem mapM_cons' {α β:Type} {f:α->Option β} {a:α} {l:List α} {bs:List β} (h:(a :: l).mapM f=some bs):∃ b r,f a=some b/\l.mapM f=some r/\bs=b :: r:=by
 rw [List.mapM_cons] at h
 cases e1:f a with
 | none=>rw [e1] at h;cases h
 | some b =>
  rw [e1] at h
  cases e2:l.mapM f with
  | none=>rw [e2] at h;cases h
  | some r =>
   rw [e2] at h
   cases h
   exact ⟨b,r,rfl,rfl,rfl⟩
theorem mapM_of {α β:Type} {f:α->Option β} {g:β->α}:∀ {l:List β},(∀ b∈l,f (g b)=some b)->(l.map g).mapM f=some l
 | [],_=>rfl
 | b :: l,h=>by
  rw [List.map_cons,List.mapM_cons,h b (List.mem_cons_self ..),mapM_of fun x hx=>h x (List.mem_cons_of_mem _ hx)]
  rfl
theorem mapM_back {α β:Type} {f:α->Option β} {g:β->α} {P:β->Prop} (hg:∀ a b,f a=some b->P b->g b=a):∀ {l:List α} {bs:List β},l.mapM f=some bs->(∀ b∈bs,P b)->bs.map g=l
 | [],bs,h,_=>by cases h;rfl
 | a :: l,bs,h,hp=>by
  obtain ⟨b,r,h1,h2,rfl⟩:=mapM_cons' h
  rw [List.map_cons,hg a b h1 (hp b (List.mem_cons_self ..)),mapM_back hg h2 fun x hx=>hp x (List.mem_cons_of_mem _ hx)]
theorem mapM_all {α β:Type} {f:α->Option β} {R:α->Prop} {P:β->Prop} (hf:∀ a b,R a->f a=some b->P b):∀ {l:List α} {bs:List β},(∀ a∈l,R a)->l.mapM f=some bs->bs.length=l.length/\∀ b∈bs,P b
 | [],bs,_,h=>by cases h;exact ⟨rfl,fun _ h=>nomatch h⟩
 | a :: l,bs,hr,h=>by
  obtain ⟨b,r,h1,h2,rfl⟩:=mapM_cons' h
  obtain ⟨h3,h4⟩:=mapM_all hf (fun x hx=>hr x (List.mem_cons_of_mem _ hx)) h2
  refine ⟨by rw [List.length_cons,List.length_cons,h3],fun x hx=>?_⟩
  rcases List.mem_cons.mp hx with rfl | hx
  ·exact hf a x (hr a (List.mem_cons_self ..)) h1
  ·exact h4 x hx
theorem mapM_mono {α β:Type} {f g:α->Option β} (h:∀ a b,f a=some b->g a=some b):∀ {l:List α} {bs:List β},l.mapM f=some bs->l.mapM g=some bs
 | [],bs,e=>e
 | a :: l,bs,e=>by
  obtain ⟨b,r,h1,h2,rfl⟩:=mapM_cons' e
  rw [List.mapM_cons,h a b h1,mapM_mono h h2];rfl
theorem joinL_cons (S p:List Nat) {ps:List (List Nat)} (h:ps≠[]):TL.joinL S (p :: ps)=p ++ (S ++ TL.joinL S ps):=by
 cases ps with
 | nil=>exact absurd rfl h
 | cons q r=>rfl
theorem splX_ne (S:List Nat):∀ (k:Nat) (acc l:List Nat),TL.spl S k acc l≠[]
 | 0,_,[]=>by rw [TL.spl_nil];simp
 | _+1,_,[]=>by rw [TL.spl_nil];simp
 | 0,acc,c :: r=>by
  cases h:TL.pre S (c :: r) with
  | true=>rw [TL.spl_hit h];simp
  | false=>rw [TL.spl_miss h];exact splX_ne S 0 _ r
 | k+1,acc,c :: r=>splX_ne S k acc r
theorem spl_back {s:Nat}:∀ (l acc:List Nat),TL.joinL [s] (TL.spl [s] 0 acc l)=acc ++ l
 | [],acc=>by rw [TL.spl_nil,List.append_nil];rfl
 | c :: r,acc=>by
  cases h:TL.pre [s] (c :: r) with
  | true =>
   rw [TL.spl_hit h]
   show TL.joinL [s] (acc :: TL.spl [s] 0 [] r)=_
   rw [joinL_cons _ _ (splX_ne _ _ _ _),spl_back r [],List.nil_append]
   have:c=s:=by
    unfold TL.pre at h
    simpa using h
   rw [this];rfl
  | false =>
   rw [TL.spl_miss h,spl_back r,List.append_assoc];rfl
theorem spo_ne (mk:List Nat):∀ (d:Int) (k:Nat) (acc l:List Nat),spo mk d k acc l≠[]
 | _,0,_,[]=>by simp [spo]
 | _,_+1,_,[]=>by simp [spo]
 | d,k+1,acc,_ :: r=>spo_ne mk d k acc r
 | d,0,acc,c :: r=>by
  show (if d+dpt c=0/\(c :: r).take mk.length=mk then acc :: spo mk (d+dpt c) (mk.length - 1) [] r else spo mk (d+dpt c) 0 (acc ++ [c]) r)≠[]
  split
  ·simp
  ·exact spo_ne mk _ 0 _ r
theorem spo_back {mk:List Nat} (hm:mk≠[]):∀ (n:Nat) (d:Int) (acc l:List Nat),l.length<=n->TL.joinL mk (spo mk d 0 acc l)=acc ++ l
 | _,_,acc,[],_=>by rw [List.append_nil];rfl
 | 0,_,_,_ :: _,h=>by simp at h
 | n+1,d,acc,c :: r,h=>by
  rw [List.length_cons] at h
  show TL.joinL mk (if d+dpt c=0/\(c :: r).take mk.length=mk then acc :: spo mk (d+dpt c) (mk.length - 1) [] r else spo mk (d+dpt c) 0 (acc ++ [c]) r)=_
  split
  ·rename_i hc
   rw [joinL_cons _ _ (spo_ne _ _ _ _ _),spo_pass,spo_back hm n _ _ _ (by rw [List.length_drop];omega),List.nil_append]
   congr 1
   have e:(c :: r).drop mk.length=r.drop (mk.length - 1):=by
    cases mk with
    | nil=>exact absurd rfl hm
    | cons a m=>rfl
   rw [<- e]
   conv=>rhs;rw [<- List.take_append_drop mk.length (c :: r),hc.2]
  ·rw [spo_back hm n _ _ _ (by omega),List.append_assoc];rfl
theorem spo_j {mk l:List Nat} (hm:mk≠[]):TL.joinL mk (spo mk 0 0 [] l)=l:=by rw [spo_back hm _ 0 [] l (Nat.le_refl _),List.nil_append]
def dsum:List Nat->Int
 | []=>0
 | c :: r=>dpt c+dsum r
theorem dsum_app:∀ (l m:List Nat),dsum (l ++ m)=dsum l+dsum m
 | [],m=>by show dsum m=0+dsum m;omega
 | c :: l,m=>by show dpt c+dsum (l ++ m)=dpt c+dsum l+dsum m;rw [dsum_app l m];omega
theorem mx_app {k:Int}:∀ {l m:List Nat} {d:Int},Mx k d (l ++ m) ↔ Mx k d l/\Mx k (d+dsum l) m
 | [],m,d=>by
  show Mx k d m ↔ True/\Mx k (d+0) m
  rw [Int.add_zero];simp
 | c :: l,m,d=>by
  show (d+dpt c<=k/\Mx k (d+dpt c) (l ++ m)) ↔ (d+dpt c<=k/\Mx k (d+dpt c) l)/\Mx k (d+(dpt c+dsum l)) m
  rw [mx_app,show d+dpt c+dsum l=d+(dpt c+dsum l) by omega,and_assoc]
theorem mx_sh {k j:Int}:∀ {l:List Nat} {d:Int},Mx k d l->Mx (k+j) (d+j) l
 | [],_,_=>trivial
 | c :: l,d,h=>⟨by have:=h.1;omega,by rw [show d+j+dpt c=d+dpt c+j by omega];exact mx_sh h.2⟩
theorem spo_mx {mk:List Nat} {k:Int} (hm:dsum mk=0) (hne:mk≠[]) (h0:dpt (mk.headD 0)=0):∀ (n:Nat) (d:Int) (acc l:List Nat),l.length<=n->d=dsum acc->Mx k 0 (acc ++ l)->∀ p∈spo mk d 0 acc l,Mx k 0 p
 | _,_,acc,[],_,_,h,p,hp=>by
  have:p∈[acc]:=hp
  rw [List.mem_singleton] at this
  rw [this]
  rwa [List.append_nil] at h
 | 0,_,_,_ :: _,h,_,_,_,_=>by simp at h
 | n+1,d,acc,c :: r,hl,hd,h,p,hp=>by
  rw [List.length_cons] at hl
  have hp:p∈(if d+dpt c=0/\(c :: r).take mk.length=mk then acc :: spo mk (d+dpt c) (mk.length - 1) [] r else spo mk (d+dpt c) 0 (acc ++ [c]) r):=hp
  split at hp
  ·rename_i hc
   obtain ⟨h1,h2⟩:=mx_app.mp h
   rcases List.mem_cons.mp hp with rfl | hp
   ·exact h1
   ·rw [spo_pass] at hp
    have e:(c :: r).drop mk.length=r.drop (mk.length - 1):=by
     cases mk with
     | nil=>exact absurd rfl hne
     | cons a m=>rfl
    have h3:Mx k (0+dsum acc) (mk ++ r.drop (mk.length - 1)):=by
     rw [<- e]
     conv at h2=>rw [<- List.take_append_drop mk.length (c :: r),hc.2]
     exact h2
    obtain ⟨_,h4⟩:=mx_app.mp h3
    -- at the mark the depth is that behind its first sign
    cases mk with
    | nil=>exact absurd rfl hne
    | cons a m =>
     have ha:a=c:=by
      have:=hc.2
      simp at this
      exact this.1.symm
     subst ha
     rw [hm] at h4
     have hz:dsum acc=0:=by
      have h0:dpt a=0:=h0
      have:=hc.1
      omega
     rw [show d+dpt a=0 from hc.1] at hp
     rw [hz] at h4
     exact spo_mx hm hne h0 n 0 [] _ (by rw [List.length_drop];omega) rfl h4 p hp
  ·refine spo_mx hm hne h0 n _ _ _ (by omega) ?_ ?_ p hp
   ·rw [dsum_app,<- hd]
    show d+dpt c=d+(dpt c+0)
    omega
   ·rw [List.append_assoc];exact h
theorem cl_S (l:List Nat):cl (SX.S l)=l:=rfl
theorem par_at {x:Nat} {l a b:List Nat} (h:TL.par [x] [] l=some (a,b)):l=a ++ x :: b:=by
 by_cases hx:x∈l
 ·obtain ⟨a',b',rfl,hn⟩:=split_first hx
  have e:TL.par [x] [] (a' ++ x :: b')=some (a',b'):=SX.par_head (c:=x) (sep:=[]) b' hn
  rw [e] at h
  cases h
  rfl
 ·rw [SX.par_head_none (sep:=[]) hx] at h
  cases h
theorem pf_back {z:Str} {p:Int×Int} (h:pfN z=some p):thT (.tup [.int p.1,.int p.2])=cl z:=by
 unfold pfN at h
 split at h
 ·cases hf:fgN z with
  | none=>rw [hf] at h;cases h
  | some n =>
   rw [hf] at h
   cases h
   show cl (if (1:Int)=1 then itx n else _)=cl z
   rw [if_pos rfl,(fgN_some hf).2.1]
 ·rename_i a b hp
  split at h
  ·rename_i n d hn hd
   split at h
   ·rename_i hc
    cases h
    show cl (if d=1 then itx n else itx n ++ (Str.ofString "/" ++ itx d))=cl z
    rw [if_neg (by omega),(fgN_some hn).2.1,(fgN_some hd).2.1,show Str.ofString "/"=SX.S [47] by decide +kernel,SX.S_cat,SX.S_cat,cl_S,par_at hp]
    rfl
   ·cases h
  ·cases h
theorem thF_back {w t:List Nat} {x:D} (h:thF w t=some x):thT x=t/\((∃ z,x = .str z/\z.length=t.length)\/∃ i j,x = .tup [.int i,.int j]):=by
 unfold thF at h
 split at h
 ·cases h
  exact ⟨rfl,.inl ⟨_,rfl,SX.S_len t⟩⟩
 ·cases hp:pfN (SX.S t) with
  | none=>rw [hp] at h;cases h
  | some p =>
   rw [hp] at h
   cases h
   exact ⟨pf_back hp,.inr ⟨_,_,rfl⟩⟩
theorem plF_some {ws:List (List Nat)} {s:D} (h:plF ws=some s):∃ w ts xs,ws=w :: ts/\ts.mapM (thF w)=some xs/\s = .tup (.str (SX.S w) :: xs):=by
 unfold plF at h
 split at h
 ·cases h
 ·rename_i w ts
  cases hx:ts.mapM (thF w) with
  | none=>rw [hx] at h;cases h
  | some xs =>
   rw [hx] at h
   cases h
   exact ⟨w,ts,xs,rfl,hx,rfl⟩
theorem jnF_some {f:List Nat->Option D} {a b:List Nat} {s:D} (h:jnF f a b=some s):∃ ps,(spo [59,32] 0 0 [] (b.take (b.length - 1))).mapM f=some ps/\s = .tup (.str (SX.S a) :: ps)/\b=b.take (b.length - 1) ++ [41]:=by
 unfold jnF at h
 split at h
 ·rename_i hb
  cases hx:(spo [59,32] 0 0 [] (b.take (b.length - 1))).mapM f with
  | none=>rw [hx] at h;cases h
  | some ps =>
   rw [hx] at h
   cases h
   refine ⟨ps,rfl,rfl,?_⟩
   conv=>lhs;rw [<- List.take_append_drop (b.length - 1) b,hb]
 ·cases h
theorem stF_some {f:List Nat->Option D} {l:List Nat} {s:D} (h:stF f l=some s):(plF (TL.spl [32] 0 [] l)=some s)\/∃ a b,l=a ++ 40 :: b/\L2.inV (.str (SX.S a)) jnV=true/\jnF f a b=some s:=by
 unfold stF at h
 split at h
 ·exact .inl h
 ·rename_i a b hp
  split at h
  ·rename_i hj
   exact .inr ⟨a,b,par_at hp,hj,h⟩
  ·exact .inl h
theorem st_back {nm:Str->Prop} {P:D->Prop} {f:List Nat->Option D} {g:D->List Nat} (hf:∀ l d,f l=some d->P d->g d=l) (hP:∀ d,P d->∃ ss,d = .tup ss/\∀ s∈ss,∃ xs,s = .tup xs) {l:List Nat} {s:D} (h:stF f l=some s) (hs:TStep nm P s):wStep g s=l:=by
 rcases stF_some h with h | ⟨a,b,rfl,hj,h⟩
 ·obtain ⟨w,ts,xs,e,hx,rfl⟩:=plF_some h
  rcases hs.cases2 with ⟨w',rest,e2,hj,_⟩ | ⟨w',ps,e2,hw,h2,_,hp⟩
  ·cases e2
   rw [wStep_plain hj,cl_S,mapM_back (fun a b hb (_:True)=>(thF_back hb).1) hx fun _ _=>trivial,<- e,spl_back]
   rfl
  ·cases e2
   cases xs with
   | nil=>exact absurd h2 (by decide)
   | cons x r =>
    have h1:=hp x (List.mem_cons_self ..)
    obtain ⟨ss,rfl,h3⟩:=hP x h1
    obtain ⟨_,h4⟩:=mapM_all (R:=fun _=>True) (P:=fun x=>(∃ z,x = .str z)\/∃ i j,x = .tup [.int i,.int j]) (fun a b _ hb=>(thF_back hb).2.elim (fun ⟨z,e,_⟩=>.inl ⟨z,e⟩) .inr) (fun _ _=>trivial) hx
    rcases h4 _ (List.mem_cons_self ..) with ⟨z,e⟩ | ⟨i,j,e⟩
    ·cases e
    ·cases e
     obtain ⟨_,e⟩:=h3 _ (List.mem_cons_self ..)
     cases e
 ·obtain ⟨ps,hx,rfl,hb⟩:=jnF_some h
  rcases hs.cases2 with ⟨w',rest,e2,hn,_⟩ | ⟨w',ps',e2,hw,h2,_,hp⟩
  ·cases e2
   rw [hj] at hn;cases hn
  ·cases e2
   rw [join_text hw,cl_S,mapM_back (fun a b hb hp=>hf a b hb hp) hx hp,spo_j (by simp),<- hb]
theorem tp_steps {nm:Str->Prop}:∀ {n:Nat} {d:D},TPipe nm n d->∃ ss,d = .tup ss/\∀ s∈ss,∃ xs,s = .tup xs
 | n+1,d,⟨ss,e,_,h⟩=>⟨ss,e,fun s hs=>by cases h s hs <;> exact ⟨_,rfl⟩⟩
theorem rd_back {nm:Str->Prop}:∀ {n k:Nat} {l:List Nat} {v:D},rdF n l=some v->TPipe nm k v->wPipe k v=l
 | n+1,k,l,v,h,hv=>by
  have h:(if l=cl "same" then some (D.tup []) else ((spo [32,124,32] 0 0 [] l).mapM (stF (rdF n))).map .tup)=some v:=h
  cases k with
  | zero=>exact hv.elim
  | succ k =>
   obtain ⟨ss,rfl,_,hs⟩:=hv
   split at h
   ·rename_i e
    cases h
    exact e.symm
   ·cases hx:(spo [32,124,32] 0 0 [] l).mapM (stF (rdF n)) with
    | none=>rw [hx] at h;cases h
    | some ts =>
     rw [hx] at h
     cases h
     have e1:=mapM_back (g:=wStep (wPipe k)) (P:=TStep nm (TPipe nm k)) (fun a b hb hp=>st_back (fun l d h1 h2=>rd_back h1 h2) (fun d hd=>tp_steps hd) hb hp) hx hs
     cases ss with
     | nil =>
      have:=spo_ne [32,124,32] 0 0 [] l
      rw [<- e1] at this
      exact absurd rfl this
     | cons s ss =>
      show TL.joinL [32,124,32] ((s :: ss).map (wStep (wPipe k)))=l
      rw [e1,spo_j (by simp)]
theorem th_fw {w:Str} {t:D} (ht:(w="use"/\∃ z,t = .str z)\/(w≠"use"/\((∃ q,t=qD q/\Fq12 q)\/∃ z,t = .str z/\(z="up"\/z="down"\/z="even")))):thF (cl w) (thT t)=some t:=by
 unfold thF
 rw [S_cl]
 rcases ht with ⟨rfl,z,rfl⟩ | ⟨hw,⟨q,rfl,hq⟩ | ⟨z,rfl,hz⟩⟩
 ·rw [if_pos (.inl rfl)]
  show some (D.str (SX.S (cl z)))=_
  rw [S_cl]
 ·have hn:¬ SX.S (thT (qD q))∈updn:=fun h=>by
   have low:=q_low hq
   unfold updn at h
   simp only [List.mem_cons,List.not_mem_nil,or_false] at h
   rcases h with h | h | h
   ·have e:=SX.S_inj (h.trans (show Str.ofString "up"=SX.S [117,112] by decide +kernel))
    have:=low 117 (by rw [e];simp);omega
   ·have e:=SX.S_inj (h.trans (show Str.ofString "down"=SX.S [100,111,119,110] by decide +kernel))
    have:=low 100 (by rw [e];simp);omega
   ·have e:=SX.S_inj (h.trans (show Str.ofString "even"=SX.S [101,118,101,110] by decide +kernel))
    have:=low 101 (by rw [e];simp);omega
  rw [if_neg (fun h=>h.elim hw hn),thT_q,S_cl,pf_qtx hq.1 hq.2]
  rfl
 ·rw [if_pos (.inr (by
   show SX.S (cl z)∈updn
   rw [S_cl]
   rcases hz with rfl | rfl | rfl <;> simp [updn]))]
  show some (D.str (SX.S (cl z)))=_
  rw [S_cl]
theorem st_fw {nm:Str->Prop} (hnm:∀ z,nm z->Wd (cl z)) {n:Nat} {f:List Nat->Option D} (hf:∀ d,TPipe nm n d->f (wPipe n d)=some d) {s:D} (hd:TStep nm (TPipe nm n) s):stF f (wStep (wPipe n) s)=some s:=by
 rcases hd.cases2 with ⟨w,rest,rfl,hj,hr,hw,_⟩ | ⟨w,ps,rfl,hw,h2,h4,hp⟩
 ·have hall:=plain_txt hnm hw hr
  have n40:(40:Nat) ∉ TL.joinL [32] (cl w :: rest.map thT):=fun h=>(sp_join hall 40 h).1 rfl
  rw [wStep_plain hj]
  unfold stF
  rw [SX.par_head_none (sep:=[]) n40]
  show plF (TL.spl [32] 0 [] _)=_
  rw [SX.spl_join (by simp) (fun p hp h=>(hall p hp 32 h).1 rfl)]
  show ((rest.map thT).mapM (thF (cl w))).map (fun xs=>D.tup (.str (SX.S (cl w)) :: xs))=_
  rw [mapM_of fun t ht=>?_,S_cl]
  ·rfl
  ·refine th_fw ?_
   rcases hr with ⟨rfl,z,rfl,_⟩ | ⟨h1,_,hr⟩
   ·exact .inl ⟨rfl,z,List.mem_singleton.mp ht⟩
   ·exact .inr ⟨h1,hr t ht⟩
 ·have hww:=(wd_word (w:=w) (by rcases hw with rfl | rfl | rfl <;> simp)).1
  rw [join_text hw]
  have e:TL.par [40] [] (cl w ++ 40 :: (TL.joinL [59,32] (ps.map (wPipe n)) ++ [41]))=some (cl w,TL.joinL [59,32] (ps.map (wPipe n)) ++ [41]):=SX.par_head (c:=40) (sep:=[]) _ (fun h=>(hww 40 h).2.1 rfl)
  unfold stF
  rw [e]
  show (if L2.inV (.str (SX.S (cl w))) jnV=true then jnF f (cl w) (TL.joinL [59,32] (ps.map (wPipe n)) ++ [41]) else _)=_
  rw [if_pos (by rw [S_cl];exact in_jn hw)]
  unfold jnF
  have hl:(TL.joinL [59,32] (ps.map (wPipe n)) ++ [41]).length - 1=(TL.joinL [59,32] (ps.map (wPipe n))).length:=by simp
  rw [hl,if_pos (List.drop_left' rfl),List.take_left' rfl,spo_semi (fun e=>by rw [List.map_eq_nil_iff] at e;rw [e] at h2;exact absurd h2 (by decide)) fun p hp'=>by
   obtain ⟨t,ht,rfl⟩:=List.mem_map.mp hp'
   exact ⟨(pipe_wr hnm (hp t ht)).bal,(pipe_wr hnm (hp t ht)).n59⟩,mapM_of fun t ht=>hf t (hp t ht),S_cl]
  rfl
theorem rd_fw {nm:Str->Prop} (hnm:∀ z,nm z->Wd (cl z)):∀ {n:Nat} {d:D},TPipe nm n d->rdF n (wPipe n d)=some d
 | n+1,d,⟨ss,e,hl,hs⟩=>by
  subst e
  show (if wPipe (n+1) (.tup ss)=cl "same" then some (D.tup []) else ((spo [32,124,32] 0 0 [] (wPipe (n+1) (.tup ss))).mapM (stF (rdF n))).map .tup)=_
  cases ss with
  | nil=>exact if_pos rfl
  | cons s ss =>
   have ew:wPipe (n+1) (.tup (s :: ss))=TL.joinL [32,124,32] ((s :: ss).map (wStep (wPipe n))):=rfl
   have hst:∀ t∈s :: ss,Wr (((n:Int) - 1)+1) (wStep (wPipe n) t)/\NoC 124 0 (wStep (wPipe n) t)/\(32∈wStep (wPipe n) t\/40∈wStep (wPipe n) t):=fun t ht=>step_wr hnm (by omega) (fun ⟨d,hd⟩=>by
    cases n with
    | zero=>exact hd.elim
    | succ n=>omega) (fun d hd=>pipe_wr hnm hd) (hs t ht)
   have hne:wPipe (n+1) (.tup (s :: ss))≠cl "same":=fun h=>by
    rw [show cl "same"=[115,97,109,101] by decide +kernel,ew] at h
    have sub:∀ c∈wStep (wPipe n) s,c∈TL.joinL [32,124,32] ((s :: ss).map (wStep (wPipe n))):=fun c hc=>by
     cases ss with
     | nil=>exact hc
     | cons t r=>exact List.mem_append_left _ hc
    rw [h] at sub
    rcases (hst s (List.mem_cons_self ..)).2.2 with hc | hc
    ·exact absurd (sub _ hc) (by decide)
    ·exact absurd (sub _ hc) (by decide)
   rw [if_neg hne,ew,spo_bar (by simp) fun p hp=>by
    obtain ⟨t,ht,rfl⟩:=List.mem_map.mp hp
    exact ⟨(hst t ht).1.bal,(hst t ht).2.1⟩]
   rw [mapM_of fun t ht=>st_fw hnm (fun d hd=>rd_fw hnm hd) (hs t ht)]
   rfl
theorem st_mono {f g:List Nat->Option D} (h:∀ l d,f l=some d->g l=some d) (l:List Nat) (d:D) (e:stF f l=some d):stF g l=some d:=by
 unfold stF at e ⊢
 split at e
 ·exact e
 ·split at e
  ·rename_i hj
   show (if _ then jnF g _ _ else _)=_
   rw [if_pos hj]
   unfold jnF at e ⊢
   split at e
   ·rename_i hb
    rw [if_pos hb]
    cases hx:(spo [59,32] 0 0 [] (List.take _ _)).mapM f with
    | none=>rw [hx] at e;cases e
    | some ps =>
     rw [hx] at e
     rw [mapM_mono h hx];exact e
   ·cases e
  ·rename_i hj
   show (if _ then jnF g _ _ else _)=_
   rw [if_neg hj];exact e
theorem rd_mono:∀ {n:Nat} {l:List Nat} {d:D},rdF n l=some d->rdF (n+1) l=some d
 | n+1,l,d,h=>by
  have h:(if l=cl "same" then some (D.tup []) else ((spo [32,124,32] 0 0 [] l).mapM (stF (rdF n))).map .tup)=some d:=h
  show (if l=cl "same" then some (D.tup []) else ((spo [32,124,32] 0 0 [] l).mapM (stF (rdF (n+1)))).map .tup)=some d
  split at h
  ·rename_i e
   rw [if_pos e];exact h
  ·rename_i e
   rw [if_neg e]
   cases hx:(spo [32,124,32] 0 0 [] l).mapM (stF (rdF n)) with
   | none=>rw [hx] at h;cases h
   | some ts =>
    rw [hx] at h
    rw [mapM_mono (st_mono fun l d e=>rd_mono e) hx];exact h
theorem stepB_of {nb:Str->Bool} {P:D->Prop} {f:D->Bool} (hf:∀ d,P d->f d=true) {s:D} (h:TStep (fun z=>nb z=true) P s):stepB nb f s=true:=by
 have q1:∀ {a:Rat},Fq12 a->isfrD (qD a)=true:=fun h=>isfr_fr h
 have q2:∀ {a:Rat},Fq12 a->0 < a->posD (qD a)=true:=fun {a} h h0=>by
  show (isfr a.num a.den && decide (0 < a.num))=true
  rw [isfr_fr h,decide_eq_true (num_pos.mpr h0)];rfl
 cases h with
 | shift a=>rw [stepB_r (by decide +kernel),rB_shift];exact q1 a
 | scale a b=>rw [stepB_r (by decide +kernel),rB_scale];exact q2 a b
 | use a=>rw [stepB_r (by decide +kernel),rB_use];exact a
 | floor a b c=>rw [stepB_r (by decide +kernel),rB_fc (.inl rfl),q2 a b,q1 c];rfl
 | ceiling a b c=>rw [stepB_r (by decide +kernel),rB_fc (.inr rfl),q2 a b,q1 c];rfl
 | nearest a b c d =>
  rw [stepB_r (by decide +kernel),rB_n,q2 a b,q1 c]
  rcases d with rfl | rfl | rfl <;> decide +kernel
 | join hw h2 h4 hp =>
  rw [stepB_j (in_jn hw),decide_eq_true h2,decide_eq_true h4,List.all_eq_true.mpr fun p hp'=>hf p (hp p hp')];rfl
theorem pipB_of {nb:Str->Bool}:∀ {n:Nat} {d:D},TPipe (fun z=>nb z=true) n d->pipB nb n d=true
 | n+1,d,⟨ss,e,hl,hs⟩=>by
  subst e
  show (decide (ss.length<=12) && ss.all (stepB nb (pipB nb n)))=true
  rw [decide_eq_true hl,List.all_eq_true.mpr fun s hs'=>stepB_of (fun d hd=>pipB_of hd) (hs s hs')];rfl
def IsT (nb:Str->Bool) (l:List Nat) (d:D):Prop:=TPipe (fun z=>nb z=true) 4 d/\l=wPipe 4 d
theorem par_good {nb:Str->Bool} (hnb:∀ z,nb z=true->Wd (cl z)) {l:List Nat} {d:D} (h:IsT nb l d):rdF 5 l=some d/\pipB nb 4 d=true/\Mx 4 0 l:=by
 obtain ⟨h1,rfl⟩:=h
 exact ⟨rd_mono (rd_fw hnb h1),pipB_of h1,(pipe_wr hnb h1).mx.mono (by decide)⟩
theorem par_bad {nb:Str->Bool} {l:List Nat} (h:∀ d,¬ IsT nb l d) {v:D} (hv:rdF 5 l=some v):pipB nb 4 v=false:=by
 cases hp:pipB nb 4 v with
 | false=>rfl
 | true =>
  have ht:=(pipB_p hp).t
  exact absurd ⟨ht,(rd_back hv ht).symm⟩ (h v)
theorem parts_n {S:List Nat} (hS:S≠[]) {ps:List (List Nat)} {l:List Nat} (h:TL.joinL S ps=l) (hne:ps≠[]):ps.length<=l.length+1/\∀ p∈ps,p.length<=l.length:=by
 subst h
 refine ⟨?_,fun p hp=>joinL_part hp⟩
 have e:=joinL_len (S:=S) hne
 have h1:1<=S.length:=List.length_pos_iff.mpr hS
 have h2:(ps.length - 1) * 1<=(ps.length - 1) * S.length:=Nat.mul_le_mul_left _ h1
 have h3:ps.length * S.length=(ps.length - 1) * S.length+S.length:=by
  have:ps.length=(ps.length - 1)+1:=by
   have:=List.length_pos_iff.mpr hne
   omega
  conv=>lhs;rw [this,Nat.succ_mul]
 omega
theorem st_pl {f:List Nat->Option D} {N:Nat} (hN:N<=1000000) (hf:∀ l d,l.length<=N->f l=some d->PlS d) {l:List Nat} {s:D} (hl:l.length<=N) (h:stF f l=some s):PlS s:=by
 have zl:sizeLine=16777216:=rfl
 rcases stF_some h with h | ⟨a,b,rfl,hj,h⟩
 ·obtain ⟨w,ts,xs,e,hx,rfl⟩:=plF_some h
  have hb:=spl_back (s:=32) l []
  rw [List.nil_append,e] at hb
  obtain ⟨n1,n2⟩:=parts_n (S:=[32]) (by simp) hb (by simp)
  obtain ⟨h3,h4⟩:=mapM_all (R:=fun t=>t.length<=l.length) (P:=PlS) (fun a b ha hb=>by
   rcases (thF_back hb).2 with ⟨z,rfl,hz⟩ | ⟨i,j,rfl⟩
   ·exact ⟨rfl,decide_eq_true (by omega)⟩
   ·exact ⟨rfl,rfl⟩) (fun t ht=>n2 t (List.mem_cons_of_mem _ ht)) hx
  rw [List.length_cons] at n1
  refine .mk (by rw [List.length_cons];omega) fun x hx'=>?_
  rcases List.mem_cons.mp hx' with rfl | hx'
  ·exact ⟨rfl,decide_eq_true (by rw [SX.S_len];have:=n2 w (List.mem_cons_self ..);omega)⟩
  ·exact h4 x hx'
 ·obtain ⟨ps,hx,rfl,hb⟩:=jnF_some h
  simp only [List.length_append,List.length_cons] at hl
  have h1:(b.take (b.length - 1)).length<=b.length:=by rw [List.length_take];omega
  obtain ⟨n1,n2⟩:=parts_n (S:=[59,32]) (l:=b.take (b.length - 1)) (by simp) (spo_j (by simp)) (spo_ne _ _ _ _ _)
  obtain ⟨h3,h4⟩:=mapM_all (R:=fun t=>t.length<=N) (P:=PlS) (fun a b ha hb=>hf a b ha hb) (fun t ht=>by have:=n2 t ht;omega) hx
  refine .mk (by rw [List.length_cons];omega) fun x hx'=>?_
  rcases List.mem_cons.mp hx' with rfl | hx'
  ·exact ⟨rfl,decide_eq_true (by rw [SX.S_len];omega)⟩
  ·exact h4 x hx'
theorem rd_pl {N:Nat} (hN:N<=1000000):∀ {n:Nat} {l:List Nat} {v:D},l.length<=N->rdF n l=some v->PlS v
 | n+1,l,v,hl,h=>by
  have zl:sizeLine=16777216:=rfl
  have h:(if l=cl "same" then some (D.tup []) else ((spo [32,124,32] 0 0 [] l).mapM (stF (rdF n))).map .tup)=some v:=h
  split at h
  ·cases h
   exact ⟨rfl,rfl⟩
  ·cases hx:(spo [32,124,32] 0 0 [] l).mapM (stF (rdF n)) with
   | none=>rw [hx] at h;cases h
   | some ts =>
    rw [hx] at h
    cases h
    obtain ⟨n1,n2⟩:=parts_n (S:=[32,124,32]) (l:=l) (by simp) (spo_j (by simp)) (spo_ne _ _ _ _ _)
    obtain ⟨h3,h4⟩:=mapM_all (R:=fun t=>t.length<=N) (P:=PlS) (fun a b ha hb=>st_pl hN (fun l d h1 h2=>rd_pl hN h1 h2) ha hb) (fun t ht=>by have:=n2 t ht;omega) hx
    exact .mk (by omega) h4
theorem sl_last (b:List Nat):Txt.slice (SX.S b) (some (-1)) none=SX.S (b.drop (b.length - 1)):=by
 by_cases h:b=[]
 ·subst h;decide +kernel
 ·exact SX.slice_last h
theorem sl_but (b:List Nat):Txt.slice (SX.S b) none (some (-1))=SX.S (b.take (b.length - 1)):=by
 by_cases h:b=[]
 ·subst h;decide +kernel
 ·exact SX.slice_butlast h
theorem cut_mid1 (l:List Nat) (b:Nat):cutS (SX.S l) (some (b:Int)) (some (-1))=SX.S ((l.take (l.length - 1)).drop b):=by
 rw [<- cutS_mid]
 unfold cutS
 have e:HT.sIx (SX.S l).length (SX.S l).length (some (-1))=HT.sIx (SX.S l).length (SX.S l).length (some ((l.length - 1:Nat):Int)):=by
  rw [HT.sIx_nat,SX.S_len]
  unfold HT.sIx
  simp
  omega
 rw [e]
abbrev TPD:=XD->Rho->Mem->(KD->Mem->Prop)->Prop
def liftP (K:PySem.W.Frag) (Tb:List (Addr×Str)) (EV:XK) (t:TPD) (σ:L2.St) (H:Hp) (QV:List (V×V)->Hp->Prop):Prop:=∃ al rho M E Q,At K Tb EV al σ H rho M E/\t E rho M Q/\∀ al' kvs M' (vs:List (Key×V)) H',Stp al M H al' M' H'->Wf K Tb al' H' M'->Rpk K al' M' H' kvs vs->Q kvs M'->QV (vs.map fun kv=>(kV kv.1,kv.2)) H'
def PDP (X:Cx) (Tb:List (Addr×Str)) (EV:XK) (pos:Pos) (keys:List (Option Expr)) (values:List Expr) (t:TPD):Prop:=∃ trs,PPs X pos keys values trs/\∀ σ H QV,liftP X.K Tb EV t σ H QV->tPairs trs σ H QV
@[reducible] def dPnil:TPD:=fun _ _ M Q=>Q [] M
@[reducible] def dPair (tk tv:TED) (t:TPD):TPD:=fun E rho M Q=>tk E rho M fun x M1=>tv E rho M1 fun y M2=>∃ k,keyOf x=some k/\t E rho M2 fun kvs M3=>Q ((k,y) :: kvs) M3
section
variable {X:Cx} {Tb:List (Addr×Str)} {EV:XK} {pos:Pos}
theorem pdp_nil:PDP X Tb EV pos [] [] dPnil:=⟨[],pps_nil,fun σ H QV h=>by
 obtain ⟨al,rho,M,E,Q,a,t,p⟩:=h
 exact p al [] M [] H (Stp.refl ..) a.wf Rpk.nil t⟩
theorem pdp_cons {k v:Expr} {ks:List (Option Expr)} {vs:List Expr} {tk tv:TED} {t:TPD} (hk:PD X Tb EV k tk) (hv:PD X Tb EV v tv) (hr:PDP X Tb EV pos ks vs t):PDP X Tb EV pos (some k :: ks) (v :: vs) (dPair tk tv t):=by
 obtain ⟨trs,h1,h2⟩:=hr
 refine ⟨_,pps_cons hk hv h1,fun σ H QV h=>?_⟩
 obtain ⟨al,rho,M,E,Q,a,tt,p⟩:=h
 show lift X.K Tb EV tk σ H _
 refine seq1 a tt fun al1 x M1 vx H1 s1 a1 r1 q1=>?_
 show lift X.K Tb EV tv σ H1 _
 refine seq1 a1 q1 fun al2 y M2 vy H2 s2 a2 r2 q2=>?_
 obtain ⟨k,ek,q⟩:=q2
 refine h2 _ _ _ ⟨al2,rho,M2,E,_,a2,q,fun al' kvs M' vs H' s w r q'=>?_⟩
 cases keyOf_rp ek (r1.mono (s2.trans s))
 exact p al' ((k,y) :: kvs) M' ((k,vy) :: vs) H' ((s1.trans s2).trans s) w (Rpk.cons (r2.mono s) r) q'
end
def mergeKD (kvs:KD):KD:=kvs.foldl (fun acc kv=>putKD acc kv.1 kv.2) []
theorem Rpk.merge {K:PySem.W.Frag} {al:Al} {M:Mem} {H:Hp}:∀ {kvs:KD} {vs:List (Key×V)} {acc:KD} {acc':List (Key×V)},Rpk K al M H acc acc'->Rpk K al M H kvs vs->Rpk K al M H (kvs.foldl (fun acc kv=>putKD acc kv.1 kv.2) acc) (L2.mergeK acc' vs)
 | [],vs,acc,acc',h,h2=>by
  have:vs=[]:=by
   cases vs with
   | nil=>rfl
   | cons a r=>simp [Rpk] at h2
  subst this
  exact h
 | (k,d) :: kvs,vs,acc,acc',h,h2=>by
  obtain ⟨x,r,rfl,rx,hr⟩:=h2.cases
  show Rpk K al M H (kvs.foldl (fun acc kv=>putKD acc kv.1 kv.2) (putKD acc k d)) (L2.mergeK (putK acc' k x) r)
  exact Rpk.merge (h.put rx) hr
@[reducible] def dDispN (t:TPD):TED:=fun E rho M Q=>t E rho (M ++ [some (.dK [])]) fun kvs M2=>kvs.length<=15/\M2[M.length]?=some (some (.dK []))/\Q (.mt M.length) (M2.set M.length (some (.dK (mergeKD kvs))))
theorem dv_dispN {X:Cx} {Tb:List (Addr×Str)} {EV:XK} {pos:Pos} {keys:List (Option Expr)} {values:List Expr} {t:TPD} (h:PDP X Tb EV pos keys values t) (hall:keys.all (·.isSome)=true) (hl:keys.length=values.length) (h0:keys≠[]) (h15:keys.length<=15):PD X Tb EV (.Dict keys values pos) (dDispN t):=by
 obtain ⟨trs,h1,h2⟩:=h
 refine pe_imp (pe_disp h1 hall hl h0 h15) fun σ H QV h=>?_
 obtain ⟨al,rho,M,E,Q,a,tt,p⟩:=h
 intro b hb
 have s:=stp_mut a.wf hb (.dK []) (.dK [])
 have w1:Wf X.K Tb (al.push b) (upd H b (.dK [])) (M ++ [some (.dK [])]):=wf_mut a.wf hb (fun _ z=>by cases z) ⟨[],upd_same,Rpk.nil⟩
 have a1:=a.go s w1
 refine h2 _ _ _ ⟨al.push b,rho,_,E,_,a1,tt,fun al2 kvs M2 vs H2 s2 w2 r2 q2=>?_⟩
 obtain ⟨h15',hm,q⟩:=q2
 have hal:al2.a[M.length]?=some b:=s2.pre _ _ (al_last a.wf)
 obtain ⟨zs,hz,hr⟩:=w2.rep _ _ _ hal hm
 have hz0:zs=[]:=by
  have:=Rpk.len hr
  cases zs with
  | nil=>rfl
  | cons z zs=>cases this
 subst hz0
 refine ⟨hz,vs,rfl,by have:=Rpk.len r2;omega,?_⟩
 have s4:Stp al2 M2 H2 al2 (M2.set M.length (some (.dK (mergeKD kvs)))) (upd H2 b (.dK (mergeK [] vs))):=stp_set w2 hal hm _
 have rk:Rpk X.K al2 M2 H2 (mergeKD kvs) (mergeK [] vs):=Rpk.merge Rpk.nil r2
 have w4:Wf X.K Tb al2 (upd H2 b (.dK (mergeK [] vs))) (M2.set M.length (some (.dK (mergeKD kvs)))) :=
  wf_set w2 hal hm (fun _ z=>by cases z) ⟨_,upd_same,rk.mono s4⟩ (fun cc q z=>by rw [hz] at z;unfold LamX.CodeO at z;cases z)
 exact p _ (.mt M.length) _ _ _ ((s.trans s2).trans s4) w4 ⟨b,hal,rfl⟩ q
theorem room65 {k:Nat} {A:Around} (r:Room k A):A.units+65 < cLine:=by have:=r.un;omega
def rInW (neg:Bool):RD2:=fun x y M Q=>(∃ d ds,toPyM M x=some d/\toPyM M y=some (.list ds)/\SeqAt.shaped d=true/\SeqAt.shaped (.list ds)=true/\Q (.bl (if neg then !(ds.any fun z=>PyData.eqv z d) else ds.any fun z=>PyData.eqv z d)) M)\/rInX neg x y M Q
def rInWV (neg:Bool) (K:PySem.W.Frag):R2:=if neg then L2.rNotInD K else L2.rInD K
section
variable {X:Cx} {Tb:List (Addr×Str)} {EV:XK} {a b:Expr} {ta tb:TED} {pos:Pos}
theorem ref_inW (neg:Bool):RefOp X.K Tb (fun x y H Q=>rInWV neg X.K x y H Q\/((∃ (c:Nat) (z:Str),x = .str ⟨#[c]⟩/\y = .str z/\Q (.bl (if neg then !decide (c∈z.cps.toList) else decide (c∈z.cps.toList))) H)\/L2.rIn X.K neg x y H Q)) (rInW neg):=by
 intro al M H x y dx dy Q QV w rx ry h p
 rcases h with ⟨d,ds,e1,e2,h1,h2,h⟩ | h
 ·refine .inl ?_
  unfold rInWV
  cases neg
  ·exact ⟨d,ds,toPyM_ok w e1 rx,toPyM_ok w e2 ry,h1,h2,p al (.bl _) M _ H (Stp.refl ..) w rfl h⟩
  ·exact ⟨d,ds,toPyM_ok w e1 rx,toPyM_ok w e2 ry,h1,h2,p al (.bl _) M _ H (Stp.refl ..) w rfl h⟩
 ·exact .inr (ref_inX al M H x y dx dy Q QV w rx ry h p)
theorem op_inW (hu:X.A.units+65 < cLine):OpR X (compareOp .In) (rInWV false X.K):=op_inD hu
theorem op_notinW (hu:X.A.units+65 < cLine):OpR X (compareOp .NotIn) (rInWV true X.K):=op_notInD hu
theorem dt_inW (hr:Room 0 X.A) (ha:PD X Tb EV a ta) (hb:PD X Tb EV b tb) (hm:behindInMarks .In b=false:=by rfl):PDT X Tb EV (.Compare a [.In] [b] pos) (dB (dOp (rInW false) ta tb)):=dt_cmp ((op_inW (room65 hr)).or (op_in_sign.or op_in_seq)) (ref_inW false) ha hb hm
theorem dt_notinW (hr:Room 0 X.A) (ha:PD X Tb EV a ta) (hb:PD X Tb EV b tb) (hm:behindInMarks .NotIn b=false:=by rfl):PDT X Tb EV (.Compare a [.NotIn] [b] pos) (dB (dOp (rInW true) ta tb)):=dt_cmp ((op_notinW (room65 hr)).or (op_notIn_sign.or op_notIn_seq)) (ref_inW true) ha hb hm
end
theorem any_non:∀ {xs:List D} {ps:List PyData},(∀ x∈xs,x = .non\/∃ us,x = .tup us)->toPys xs=some ps->(ps.any fun z=>PyData.eqv z .none)=xs.any isNon
 | [],ps,_,h=>by cases h;rfl
 | x :: xs,ps,hx,h=>by
  unfold toPys at h
  split at h
  ·rename_i p r e1 e2
   cases h
   rw [List.any_cons,List.any_cons,any_non (fun y hy=>hx y (List.mem_cons_of_mem _ hy)) e2]
   congr 1
   rcases hx x (List.mem_cons_self ..) with rfl | ⟨us,rfl⟩
   ·cases e1;rfl
   ·unfold toPy at e1
    cases q:toPys us with
    | none=>rw [q] at e1;cases e1
    | some q'=>rw [q] at e1;cases e1;rfl
  ·cases h
theorem e_inW0 {neg:Bool} {xs:List D} {M:Mem} {Q:VD} (hx:∀ x∈xs,x = .non\/∃ us,x = .tup us) (hz:pzs xs=true) (hd:dps xs<=60) (h:Q (.bl (if neg then !(xs.any isNon) else xs.any isNon)) M):rInW neg .non (.lst xs) M Q:=by
 obtain ⟨ps,e,a1,b1⟩:=pzs_ok hz
 refine .inl ⟨.none,ps,rfl,?_,rfl,?_,by rw [any_non hx e];exact h⟩
 ·show (toPys xs).map _=_
  rw [e];rfl
 ·obtain ⟨p,e2,a2,b2⟩:=pz_ok (show pz (.lst xs)=true from hz)
  have e3:toPy (.lst xs)=some (.list ps):=by show (toPys xs).map _=_;rw [e];rfl
  rw [e3] at e2
  cases e2
  exact shaped_of a2 b2 (by show dps xs+1<=64;omega)
def ival (l:List Nat):Int:=(PySem.intText? (SX.S l)).getD 0
theorem fig_val {l:List Nat} (h:figB l=true):PySem.intText? (SX.S l)=some (ival l)/\(ival l).natAbs < 10 ^ 12/\(itx (ival l)).length<=l.length/\l.length<=13:=by
 obtain ⟨n,e1,e2,e3,_⟩:=fig_num (z:=SX.S l) h
 have en:ival l=n:=by unfold ival;rw [e1];rfl
 rw [en]
 refine ⟨e1,e2,?_,by rwa [SX.S_len] at e3⟩
 obtain ⟨h1,h2,h3⟩:=figB_iff.mp h
 have hv:=digitsVal_lt (figs l) 0 h3
 unfold figs at h1 h2 h3 hv
 split at h1
 ·rename_i hm
  rw [if_pos hm] at h2 h3 hv
  have e:l=45 :: l.drop 1:=by
   cases l with
   | nil=>simp at hm
   | cons c cs=>simp at hm;rw [hm];rfl
  have hlen:l.length=(l.drop 1).length+1:=by conv=>lhs;rw [e,List.length_cons]
  have hn:=intText_neg (x:=SX.S l) e h3 (fun z=>by rw [z] at h1;simp at h1) (by rw [SX.S_len];omega)
  rw [hn] at e1
  have e1:=Option.some.inj e1
  have hv':NumText.digitsVal (l.drop 1)+1<=(0+1) * 10 ^ (l.drop 1).length:=hv
  rw [<- e1]
  by_cases h0:NumText.digitsVal (l.drop 1)=0
  ·rw [h0]
   have:(itx (-((0:Nat):Int))).length=1:=by decide +kernel
   omega
  ·rw [itx_neg _ (by omega),SX.S_len,List.length_cons]
   have:=TL.numL_len (n:=NumText.digitsVal (l.drop 1)) (k:=(l.drop 1).length) (by omega) (by omega)
   omega
 ·rename_i hm
  rw [if_neg hm] at h2 h3 hv
  have hn:=intText_digits (x:=SX.S l) h3 (fun e=>by rw [show l=[] from e] at h1;simp at h1) (by rw [SX.S_len];omega)
  rw [hn] at e1
  have e1:=Option.some.inj e1
  have hv':NumText.digitsVal l+1<=(0+1) * 10 ^ l.length:=hv
  rw [<- e1]
  show (itx ((NumText.digitsVal l:Nat):Int)).length<=_
  rw [itx_nat,SX.S_len]
  exact TL.numL_len (by omega) (by omega)
theorem fig_itx {n:Int} (h:n.natAbs < 10 ^ 12):figB (cl (itx n))=true/\ival (cl (itx n))=n:=by
 have f:=fg_itx h
 unfold fgN at f
 split at f
 ·rename_i hf
  split at f
  ·refine ⟨hf,?_⟩
   have:=Option.some.inj f
   unfold ival
   rw [S_cl];exact this
  ·cases f
 ·cases f
def lnF (t:List Nat):Option (Int×Int) :=
 if (TL.spl [47] 0 [] t).all figB=true then
  match TL.spl [47] 0 [] t with
  | [a]=>some (ival a,1)
  | [a,b]=>if ival b < 1 then none else if Int.gcd (ival a) (ival b)=1 then some (ival a,ival b) else none
  | _=>none
 else none
def pairD (p:Int×Int):D:=.tup [.int p.1,.int p.2]
theorem lnF_some {t:List Nat} {p:Int×Int} (h:lnF t=some p):∃ q:Rat,pairD p=qD q/\Fq12 q/\(0 < p.1->0 < q)/\(thT (pairD p)).length<=t.length:=by
 unfold lnF at h
 split at h
 ·rename_i hall
  rw [List.all_eq_true] at hall
  split at h
  ·rename_i a e
   cases h
   rw [e] at hall
   obtain ⟨_,n1,n2,_⟩:=fig_val (hall a (by simp))
   have hb:=spl_back (s:=47) t []
   rw [e,List.nil_append] at hb
   have hb:a=t:=hb
   have hi:isfr (ival a) 1=true:=by
    unfold isfr
    rw [decide_eq_true n1,show Int.gcd (ival a) 1=1 from Int.gcd_one_right _];rfl
   obtain ⟨q,h1,h2,h3⟩:=isfr_rat hi
   refine ⟨q,h1,fr_12 h2,h3,?_⟩
   show (cl (if (1:Int)=1 then itx (ival a) else _)).length<=_
   rw [if_pos rfl,<- hb]
   exact Nat.le_trans (Nat.le_of_eq Array.length_toList) n2
  ·rename_i a b e
   rw [e] at hall
   obtain ⟨_,n1,n2,_⟩:=fig_val (hall a (by simp))
   obtain ⟨_,m1,m2,_⟩:=fig_val (hall b (by simp))
   have hb:=spl_back (s:=47) t []
   rw [e,List.nil_append] at hb
   have hb:a ++ ([47] ++ b)=t:=hb
   split at h
   ·cases h
   ·rename_i hb1
    split at h
    ·rename_i hg
     cases h
     have hi:isfr (ival a) (ival b)=true:=by
      unfold isfr
      rw [decide_eq_true n1,decide_eq_true (show 0 < ival b by omega),decide_eq_true (show ival b < 10 ^ 12 by omega),decide_eq_true hg];rfl
     obtain ⟨q,h1,h2,h3⟩:=isfr_rat hi
     refine ⟨q,h1,fr_12 h2,h3,?_⟩
     show (cl (if ival b=1 then itx (ival a) else itx (ival a) ++ (Str.ofString "/" ++ itx (ival b)))).length<=_
     have l1:(cl (itx (ival a))).length<=a.length:=Nat.le_trans (Nat.le_of_eq Array.length_toList) n2
     have l2:(cl (itx (ival b))).length<=b.length:=Nat.le_trans (Nat.le_of_eq Array.length_toList) m2
     rw [<- hb]
     split
     ·simp only [List.length_append]
      omega
     ·rw [show cl (itx (ival a) ++ (Str.ofString "/" ++ itx (ival b)))=_ from TL.tl_append _ _,TL.tl_append]
      have l3:(TL.tl (Str.ofString "/")).length=1:=by decide +kernel
      simp only [List.length_append,List.length_singleton,l3]
      have l1:(TL.tl (itx (ival a))).length<=a.length:=l1
      have l2:(TL.tl (itx (ival b))).length<=b.length:=l2
      omega
    ·cases h
  ·cases h
 ·cases h
theorem lnF_q {q:Rat} (h:Fq12 q):lnF (thT (qD q))=some (q.num,(q.den:Int)):=by
 obtain ⟨a1,a2⟩:=fig_itx h.1
 obtain ⟨b1,b2⟩:=fig_itx (n:=(q.den:Int)) (by have:=h.2;omega)
 have n1:=(fgN_some (fg_itx h.1)).2.2.1
 have n2:=(fgN_some (fg_itx (n:=(q.den:Int)) (by have:=h.2;omega))).2.2.1
 have hp:=q.den_pos
 rw [thT_q]
 unfold qtx
 by_cases hd:q.den=1
 ·rw [if_pos hd]
  have e:TL.spl [47] 0 [] (cl (itx q.num))=[cl (itx q.num)]:=TL.spl_last1 n1
  unfold lnF
  rw [e,if_pos (by rw [List.all_cons,a1];rfl)]
  show some (ival (cl (itx q.num)),(1:Int))=_
  rw [a2,hd];rfl
 ·rw [if_neg hd]
  have e0:cl (itx q.num ++ (Str.ofString "/" ++ itx (q.den:Int)))=cl (itx q.num) ++ ([47] ++ cl (itx (q.den:Int))):=by
   rw [show cl (itx q.num ++ (Str.ofString "/" ++ itx (q.den:Int)))=_ from TL.tl_append _ _,TL.tl_append]
   rfl
  have e:TL.spl [47] 0 [] (cl (itx q.num) ++ ([47] ++ cl (itx (q.den:Int))))=[cl (itx q.num),cl (itx (q.den:Int))]:=by
   rw [show TL.spl [47] 0 [] (cl (itx q.num) ++ ([47] ++ cl (itx (q.den:Int))))=_ from TL.spl_part1 (s:=47) (S:=[]) (acc:=[]) n1,TL.spl_last1 n2]
   rfl
  unfold lnF
  rw [e0,e,if_pos (by rw [List.all_cons,List.all_cons,a1,b1];rfl)]
  show (if ival (cl (itx (q.den:Int))) < 1 then none else if Int.gcd (ival (cl (itx q.num))) (ival (cl (itx (q.den:Int))))=1 then some (ival (cl (itx q.num)),ival (cl (itx (q.den:Int)))) else none)=_
  rw [a2,b2,if_neg (by omega),if_pos (show Int.gcd q.num (q.den:Int)=1 from q.reduced)]
def szF (w:Str):Option Nat:=if w="shift" then some 1 else if w="scale" then some 1 else if w="floor" then some 2 else if w="ceiling" then some 2 else if w="nearest" then some 3 else none
def lUse (nb:Str->Bool):List (List Nat)->Option D
 | [t]=>if nb (SX.S t)=true then some (.tup [.str "use",.str (SX.S t)]) else none
 | _=>none
def lEnd (w:Str) (ps:List (Int×Int)) (t3:List Nat):Option D :=
 if w≠"shift"/\(ps.headD (0,0)).1 < 1 then none
 else if w="nearest" then (if SX.S t3∈updn then some (.tup (.str w :: (ps.map pairD ++ [.str (SX.S t3)]))) else none)
 else some (.tup (.str w :: ps.map pairD))
def lBody (w:Str) (ts:List (List Nat)):Option D:=match (ts.take 2).mapM lnF with
 | none=>none
 | some ps=>lEnd w ps (ts.getD 2 [])
def lplF (nb:Str->Bool):List (List Nat)->Option D
 | []=>none
 | w :: ts=>if SX.S w="use" then lUse nb ts else match szF (SX.S w) with
  | none=>none
  | some k=>if ts.length=k then lBody (SX.S w) ts else none
def ljB (w l:List Nat):Bool:=decide (l.take (w.length+1)=w ++ [40]) && decide (l.drop (l.length - 1)=[41])
def ljF (f:List Nat->Option D) (w l:List Nat):Option D:=match (spo [59,32] 0 0 [] ((l.take (l.length - 1)).drop (w.length+1))).mapM f with
 | none=>none
 | some ps=>if 2<=ps.length/\ps.length<=4 then some (.tup (.str (SX.S w) :: ps)) else none
abbrev wSum:List Nat:=[115,117,109]
abbrev wLea:List Nat:=[108,101,97,115,116]
abbrev wGre:List Nat:=[103,114,101,97,116,101,115,116]
def lstF (nb:Str->Bool) (f:List Nat->Option D) (l:List Nat):Option D :=
 if ljB wSum l=true then ljF f wSum l else if ljB wLea l=true then ljF f wLea l else if ljB wGre l=true then ljF f wGre l else lplF nb (TL.spl [32] 0 [] l)
def lrdF (nb:Str->Bool):Nat->List Nat->Option D
 | 0,_=>none
 | n+1,l=>if l=cl "same" then some (.tup []) else match (spo [32,124,32] 0 0 [] l).mapM (lstF nb (lrdF nb n)) with
  | none=>none
  | some ss=>if ss.length < 13 then some (.tup ss) else none
theorem szF_w {w:Str} {k:Nat} (h:szF w=some k):(w="shift"/\k=1)\/(w="scale"/\k=1)\/(w="floor"/\k=2)\/(w="ceiling"/\k=2)\/(w="nearest"/\k=3):=by
 unfold szF at h
 repeat' split at h
 all_goals first
  | (cases h;done)
  | (rename_i e;cases h;simp [e])
theorem mapM_two {α β:Type} {f:α->Option β} {l:List α} {bs:List β} (h:l.mapM f=some bs):bs.length=l.length:=(mapM_all (R:=fun _=>True) (P:=fun _=>True) (fun _ _ _ _=>trivial) (fun _ _=>trivial) h).1
theorem len1A {α:Type} {l:List α} (h:l.length=1):∃ x,l=[x]:=List.length_eq_one_iff.mp h
theorem len2A {α:Type} {l:List α} (h:l.length=2):∃ x y,l=[x,y]:=by
 match l,h with
 | [x,y],_=>exact ⟨x,y,rfl⟩
theorem len3A {α:Type} {l:List α} (h:l.length=3):∃ x y z,l=[x,y,z]:=by
 match l,h with
 | [x,y,z],_=>exact ⟨x,y,z,rfl⟩
theorem lpl_ok {nb:Str->Bool} {P:D->Prop} {g:D->List Nat} {l:List Nat} {s:D} (h:lplF nb (TL.spl [32] 0 [] l)=some s):TStep (fun z=>nb z=true) P s/\(wStep g s).length<=l.length:=by
 have hb:=spl_back (s:=32) l []
 rw [List.nil_append] at hb
 generalize TL.spl [32] 0 [] l=ws at h hb
 subst hb
 have jl:∀ (ps qs:List (List Nat)),ps.length=qs.length->ps≠[]->((ps.map (·.length)).sum<=(qs.map (·.length)).sum)->(TL.joinL [32] ps).length<=(TL.joinL [32] qs).length:=fun ps qs h1 h2 h3=>by
  have e1:=joinL_len (S:=[32]) h2
  have e2:=joinL_len (S:=[32]) (ps:=qs) (fun e=>by rw [e] at h1;exact h2 (List.length_eq_zero_iff.mp h1))
  rw [h1] at e1
  omega
 cases ws with
 | nil=>cases h
 | cons w ts =>
  replace h:(if SX.S w="use" then lUse nb ts else match szF (SX.S w) with
   | none=>none
   | some k=>if ts.length=k then lBody (SX.S w) ts else none)=some s:=h
  by_cases hu:SX.S w="use"
  ·rw [if_pos hu] at h
   unfold lUse at h
   split at h
   ·rename_i t
    split at h
    ·rename_i hn
     cases h
     refine ⟨.use hn,?_⟩
     rw [wStep_plain (by decide +kernel)]
     refine jl _ _ rfl (by simp) ?_
     have:w=cl "use":=by rw [<- hu]
     rw [this]
     exact Nat.le_refl _
    ·cases h
   ·cases h
  rw [if_neg hu] at h
  cases hk:szF (SX.S w) with
  | none=>rw [hk] at h;cases h
  | some k =>
  rw [hk] at h
  replace h:(if ts.length=k then lBody (SX.S w) ts else none)=some s:=h
  by_cases hl:ts.length=k
  rotate_left
  ·rw [if_neg hl] at h;cases h
  rw [if_pos hl] at h
  unfold lBody at h
  cases hps:(ts.take 2).mapM lnF with
  | none=>rw [hps] at h;cases h
  | some ps =>
  rw [hps] at h
  replace h:lEnd (SX.S w) ps (ts.getD 2 [])=some s:=h
  have hpl:=mapM_two hps
  have hq:=(mapM_all (R:=fun _=>True) (P:=fun p=>∃ q:Rat,pairD p=qD q/\Fq12 q/\(0 < p.1->0 < q)) (fun a b _ hb=>let ⟨q,h1,h2,h3,_⟩:=lnF_some hb;⟨q,h1,h2,h3⟩) (fun _ _=>trivial) hps).2
  have hlen:∀ (us:List (List Nat)) (qs:List (Int×Int)),us.mapM lnF=some qs->(((qs.map fun p=>thT (pairD p)).map (·.length)).sum<=(us.map (·.length)).sum):=by
   intro us
   induction us with
   | nil=>intro qs h;cases h;exact Nat.le_refl _
   | cons u us ih =>
    intro qs h
    obtain ⟨b,r,h1,h2,rfl⟩:=mapM_cons' h
    obtain ⟨_,_,_,_,h3⟩:=lnF_some h1
    have:=ih r h2
    simp only [List.map_cons,List.sum_cons]
    omega
  replace hlen:=hlen _ _ hps
  unfold lEnd at h
  by_cases hpos:SX.S w≠"shift"/\(ps.headD (0,0)).1 < 1
  ·rw [if_pos hpos] at h;cases h
  rw [if_neg hpos] at h
  have ew:(cl (SX.S w)).length=w.length:=rfl
  have fin:∀ (hj:L2.inV (.str (SX.S w)) jnV=false) (r:List D),(r.map thT).length=ts.length->(((r.map thT).map (·.length)).sum<=(ts.map (·.length)).sum)->(wStep g (.tup (.str (SX.S w) :: r))).length<=(TL.joinL [32] (w :: ts)).length:=fun hj r h1 h2=>by
   rw [wStep_plain hj]
   refine jl _ _ (by rw [List.length_cons,List.length_cons,h1]) (by simp) ?_
   simp only [List.map_cons,List.sum_cons]
   have e0:(cl (SX.S w)).length=w.length:=rfl
   omega
  have h0:∀ {q:Rat} {r:List (Int×Int)} {p:Int×Int},ps=p :: r->SX.S w≠"shift"->(0 < p.1->0 < q)->0 < q:=fun {q r p} e hw h=>h (by
   rw [e] at hpos
   have:¬ p.1 < 1:=fun z=>hpos ⟨hw,z⟩
   omega)
  rcases szF_w hk with ⟨hw,rfl⟩ | ⟨hw,rfl⟩ | ⟨hw,rfl⟩ | ⟨hw,rfl⟩ | ⟨hw,rfl⟩
  ·rw [if_neg (by rw [hw];decide +kernel)] at h
   cases h
   obtain ⟨t,rfl⟩:=len1A hl
   obtain ⟨p,rfl⟩:=len1A hpl
   obtain ⟨q,e1,e2,_⟩:=hq p (by simp)
   refine ⟨?_,fin (by rw [hw];decide +kernel) _ rfl hlen⟩
   rw [hw]
   show TStep _ _ (.tup [.str "shift",pairD p])
   rw [e1];exact .shift e2
  ·rw [if_neg (by rw [hw];decide +kernel)] at h
   cases h
   obtain ⟨t,rfl⟩:=len1A hl
   obtain ⟨p,rfl⟩:=len1A hpl
   obtain ⟨q,e1,e2,e3⟩:=hq p (by simp)
   refine ⟨?_,fin (by rw [hw];decide +kernel) _ rfl hlen⟩
   have h1:=h0 rfl (by rw [hw];decide +kernel) e3
   rw [hw]
   show TStep _ _ (.tup [.str "scale",pairD p])
   rw [e1];exact .scale e2 h1
  ·rw [if_neg (by rw [hw];decide +kernel)] at h
   cases h
   obtain ⟨t,t',rfl⟩:=len2A hl
   obtain ⟨p,p',rfl⟩:=len2A hpl
   obtain ⟨q,e1,e2,e3⟩:=hq p (by simp)
   obtain ⟨q',e1',e2',_⟩:=hq p' (by simp)
   refine ⟨?_,fin (by rw [hw];decide +kernel) _ rfl hlen⟩
   have h1:=h0 rfl (by rw [hw];decide +kernel) e3
   rw [hw]
   show TStep _ _ (.tup [.str "floor",pairD p,pairD p'])
   rw [e1,e1'];exact .floor e2 h1 e2'
  ·rw [if_neg (by rw [hw];decide +kernel)] at h
   cases h
   obtain ⟨t,t',rfl⟩:=len2A hl
   obtain ⟨p,p',rfl⟩:=len2A hpl
   obtain ⟨q,e1,e2,e3⟩:=hq p (by simp)
   obtain ⟨q',e1',e2',_⟩:=hq p' (by simp)
   refine ⟨?_,fin (by rw [hw];decide +kernel) _ rfl hlen⟩
   have h1:=h0 rfl (by rw [hw];decide +kernel) e3
   rw [hw]
   show TStep _ _ (.tup [.str "ceiling",pairD p,pairD p'])
   rw [e1,e1'];exact .ceiling e2 h1 e2'
  ·rw [if_pos hw] at h
   by_cases ht:SX.S (ts.getD 2 [])∈updn
   rotate_left
   ·rw [if_neg ht] at h;cases h
   rw [if_pos ht] at h
   cases h
   obtain ⟨t,t',t3,rfl⟩:=len3A hl
   obtain ⟨p,p',rfl⟩:=len2A hpl
   obtain ⟨q,e1,e2,e3⟩:=hq p (by simp)
   obtain ⟨q',e1',e2',_⟩:=hq p' (by simp)
   refine ⟨?_,fin (by rw [hw];decide +kernel) _ rfl ?_⟩
   ·have h1:=h0 rfl (by rw [hw];decide +kernel) e3
    rw [hw]
    show TStep _ _ (.tup [.str "nearest",pairD p,pairD p',.str (SX.S t3)])
    rw [e1,e1']
    refine .nearest e2 h1 e2' ?_
    have ht:SX.S t3∈updn:=ht
    unfold updn at ht
    simpa using ht
   ·have hlen:(thT (pairD p)).length+((thT (pairD p')).length+0)<=t.length+(t'.length+0):=hlen
    show (thT (pairD p)).length+((thT (pairD p')).length+(t3.length+0))<=t.length+(t'.length+(t3.length+0))
    omega
theorem lj_ok {nb:Str->Bool} {P:D->Prop} {f:List Nat->Option D} {g:D->List Nat} (hf:∀ l d,f l=some d->P d/\(g d).length<=l.length) {w l:List Nat} {s:D} (hw:SX.S w="sum"\/SX.S w="least"\/SX.S w="greatest") (hj:ljB w l=true) (h:ljF f w l=some s):TStep (fun z=>nb z=true) P s/\(wStep g s).length<=l.length:=by
 unfold ljB at hj
 rw [Bool.and_eq_true] at hj
 have h1:=of_decide_eq_true hj.1
 have h2:=of_decide_eq_true hj.2
 unfold ljF at h
 cases hx:(spo [59,32] 0 0 [] ((l.take (l.length - 1)).drop (w.length+1))).mapM f with
 | none=>rw [hx] at h;cases h
 | some ps =>
 rw [hx] at h
 replace h:(if 2<=ps.length/\ps.length<=4 then some (D.tup (.str (SX.S w) :: ps)) else none)=some s:=h
 split at h
 ·rename_i h24
  cases h
  have hall:=(mapM_all (R:=fun _=>True) (P:=fun d=>P d) (fun a b _ hb=>(hf a b hb).1) (fun _ _=>trivial) hx).2
  refine ⟨.join hw h24.1 h24.2 hall,?_⟩
  rw [join_text hw]
  have hlen:∀ (us:List (List Nat)) (qs:List D),us.mapM f=some qs->(((qs.map g).map (·.length)).sum<=(us.map (·.length)).sum):=by
   intro us
   induction us with
   | nil=>intro qs h;cases h;exact Nat.le_refl _
   | cons u us ih =>
    intro qs h
    obtain ⟨b,r,h1,h2,rfl⟩:=mapM_cons' h
    have h3:=(hf _ _ h1).2
    have:=ih r h2
    simp only [List.map_cons,List.sum_cons]
    omega
  have hlen:=hlen _ _ hx
  have hpl:=mapM_two hx
  have e1:=joinL_len (S:=[59,32]) (ps:=ps.map g) (fun e=>by rw [List.map_eq_nil_iff] at e;rw [e] at h24;exact absurd h24.1 (by decide))
  have e2:=joinL_len (S:=[59,32]) (spo_ne [59,32] 0 0 [] ((l.take (l.length - 1)).drop (w.length+1)))
  rw [spo_j (by simp),<- hpl] at e2
  rw [List.length_map] at e1
  have n1:w.length+1<=l.length:=by
   have:=congrArg List.length h1
   rw [List.length_take,List.length_append,List.length_singleton] at this
   omega
  have n2:w.length+1<=l.length - 1:=by
   rcases Nat.lt_or_ge (w.length+1) l.length with h | h
   ·omega
   ·have e:l=w ++ [40]:=by rw [<- h1,List.take_of_length_le (by omega)]
    rw [e] at h2
    simp at h2
  have n3:((l.take (l.length - 1)).drop (w.length+1)).length=l.length - 1 - (w.length+1):=by
   rw [List.length_drop,List.length_take,Nat.min_eq_left (by omega)]
  have e0:(cl (SX.S w)).length=w.length:=rfl
  simp only [List.length_append,List.length_cons,List.length_nil] at e1 e2 ⊢
  omega
 ·cases h
theorem lst_ok {nb:Str->Bool} {P:D->Prop} {f:List Nat->Option D} {g:D->List Nat} (hf:∀ l d,f l=some d->P d/\(g d).length<=l.length) {l:List Nat} {s:D} (h:lstF nb f l=some s):TStep (fun z=>nb z=true) P s/\(wStep g s).length<=l.length:=by
 unfold lstF at h
 split at h
 ·rename_i hj;exact lj_ok hf (.inl (by decide +kernel)) hj h
 ·split at h
  ·rename_i hj;exact lj_ok hf (.inr (.inl (by decide +kernel))) hj h
  ·split at h
   ·rename_i hj;exact lj_ok hf (.inr (.inr (by decide +kernel))) hj h
   ·exact lpl_ok h
theorem lrd_ok {nb:Str->Bool}:∀ {n:Nat} {l:List Nat} {v:D},lrdF nb n l=some v->TPipe (fun z=>nb z=true) n v/\(wPipe n v).length<=l.length
 | n+1,l,v,h=>by
  replace h:(if l=cl "same" then some (D.tup []) else match (spo [32,124,32] 0 0 [] l).mapM (lstF nb (lrdF nb n)) with
   | none=>none
   | some ss=>if ss.length < 13 then some (.tup ss) else none)=some v:=h
  by_cases hs:l=cl "same"
  ·rw [if_pos hs] at h
   cases h
   refine ⟨⟨[],rfl,by decide,fun _ h=>nomatch h⟩,?_⟩
   rw [hs]
   exact Nat.le_refl _
  rw [if_neg hs] at h
  cases hx:(spo [32,124,32] 0 0 [] l).mapM (lstF nb (lrdF nb n)) with
  | none=>rw [hx] at h;cases h
  | some ss =>
  rw [hx] at h
  replace h:(if ss.length < 13 then some (D.tup ss) else none)=some v:=h
  split at h
  ·rename_i h13
   cases h
   have hall:=(mapM_all (R:=fun _=>True) (P:=fun d=>TStep (fun z=>nb z=true) (TPipe (fun z=>nb z=true) n) d) (fun a b _ hb=>(lst_ok (P:=TPipe (fun z=>nb z=true) n) (g:=wPipe n) (fun l d h=>lrd_ok h) hb).1) (fun _ _=>trivial) hx).2
   refine ⟨⟨ss,rfl,by omega,hall⟩,?_⟩
   have hlen:∀ (us:List (List Nat)) (qs:List D),us.mapM (lstF nb (lrdF nb n))=some qs->(((qs.map (wStep (wPipe n))).map (·.length)).sum<=(us.map (·.length)).sum):=by
    intro us
    induction us with
    | nil=>intro qs h;cases h;exact Nat.le_refl _
    | cons u us ih =>
     intro qs h
     obtain ⟨b,r,h1,h2,rfl⟩:=mapM_cons' h
     have h3:=(lst_ok (P:=TPipe (fun z=>nb z=true) n) (g:=wPipe n) (fun l d h=>lrd_ok h) h1).2
     have:=ih r h2
     simp only [List.map_cons,List.sum_cons]
     omega
   have hlen:=hlen _ _ hx
   have hpl:=mapM_two hx
   have hne:=spo_ne [32,124,32] 0 0 [] l
   cases ss with
   | nil=>exact absurd (List.length_eq_zero_iff.mp hpl.symm) hne
   | cons s ss =>
    have e1:=joinL_len (S:=[32,124,32]) (ps:=(s :: ss).map (wStep (wPipe n))) (by simp)
    have e2:=joinL_len (S:=[32,124,32]) hne
    rw [spo_j (by simp),<- hpl] at e2
    rw [List.length_map] at e1
    show (TL.joinL [32,124,32] ((s :: ss).map (wStep (wPipe n)))).length<=_
    omega
  ·cases h
theorem lj_no {w l:List Nat} (h:(40:Nat) ∉ l):ljB w l=false:=by
 unfold ljB
 rw [decide_eq_false (fun e=>h (List.mem_of_mem_take (show (40:Nat)∈l.take (w.length+1) by rw [e];simp))),Bool.false_and]
theorem lpl_fw {nb:Str->Bool} {P:D->Prop} {w:Str} {rest:List D} (hd:TStep (fun z=>nb z=true) P (.tup (.str w :: rest))) (hj:L2.inV (.str w) jnV=false):lplF nb (cl w :: rest.map thT)=some (.tup (.str w :: rest)):=by
 have e0:SX.S (cl w)=w:=S_cl w
 have q1:∀ {a:Rat},Fq12 a->lnF (thT (qD a))=some (a.num,(a.den:Int)):=fun h=>lnF_q h
 have ps:∀ {a:Rat},0 < a->¬ a.num < 1:=fun h=>by have:=num_pos.mpr h;omega
 have top:lplF nb (cl w :: rest.map thT)=(if w="use" then lUse nb (rest.map thT) else match szF w with
  | none=>none
  | some k=>if (rest.map thT).length=k then lBody w (rest.map thT) else none):=by
  show (if SX.S (cl w)="use" then lUse nb (rest.map thT) else match szF (SX.S (cl w)) with
   | none=>none
   | some k=>if (rest.map thT).length=k then lBody (SX.S (cl w)) (rest.map thT) else none)=_
  rw [e0]
 rw [top]
 generalize hs:D.tup (.str w :: rest)=s at hd
 have key:∀ {w':Str} {r:List D},D.tup (.str w :: rest)=D.tup (.str w' :: r)->w=w'/\rest=r:=fun e=>by injection e with e;injection e with e1 e2;injection e1 with e1;exact ⟨e1,e2⟩
 cases hd with
 | shift a =>
  obtain ⟨rfl,rfl⟩:=key hs
  rw [if_neg (by decide +kernel),show szF "shift"=some 1 by decide +kernel]
  show lBody "shift" [thT (qD _)]=_
  show (match [thT (qD _)].mapM lnF with | none=>none | some ps=>lEnd "shift" ps [])=_
  rw [List.mapM_cons,q1 a]
  show lEnd "shift" [_] []=_
  unfold lEnd
  rw [if_neg (fun h=>h.1 rfl),if_neg (by decide +kernel)]
  rfl
 | scale a b =>
  obtain ⟨rfl,rfl⟩:=key hs
  rw [if_neg (by decide +kernel),show szF "scale"=some 1 by decide +kernel]
  show (match [thT (qD _)].mapM lnF with | none=>none | some ps=>lEnd "scale" ps [])=_
  rw [List.mapM_cons,q1 a]
  show lEnd "scale" [_] []=_
  unfold lEnd
  rw [if_neg (fun h=>ps b h.2),if_neg (by decide +kernel)]
  rfl
 | use a =>
  obtain ⟨rfl,rfl⟩:=key hs
  rw [if_pos rfl]
  show (if nb (SX.S (cl _))=true then some (D.tup [.str "use",.str (SX.S (cl _))]) else none)=_
  rw [S_cl,if_pos a]
 | floor a b c =>
  obtain ⟨rfl,rfl⟩:=key hs
  rw [if_neg (by decide +kernel),show szF "floor"=some 2 by decide +kernel]
  show (match [thT (qD _),thT (qD _)].mapM lnF with | none=>none | some ps=>lEnd "floor" ps [])=_
  rw [List.mapM_cons,q1 a,List.mapM_cons,q1 c]
  show lEnd "floor" [_,_] []=_
  unfold lEnd
  rw [if_neg (fun h=>ps b h.2),if_neg (by decide +kernel)]
  rfl
 | ceiling a b c =>
  obtain ⟨rfl,rfl⟩:=key hs
  rw [if_neg (by decide +kernel),show szF "ceiling"=some 2 by decide +kernel]
  show (match [thT (qD _),thT (qD _)].mapM lnF with | none=>none | some ps=>lEnd "ceiling" ps [])=_
  rw [List.mapM_cons,q1 a,List.mapM_cons,q1 c]
  show lEnd "ceiling" [_,_] []=_
  unfold lEnd
  rw [if_neg (fun h=>ps b h.2),if_neg (by decide +kernel)]
  rfl
 | @nearest u o t a b c d =>
  obtain ⟨rfl,rfl⟩:=key hs
  rw [if_neg (by decide +kernel),show szF "nearest"=some 3 by decide +kernel]
  show (match [thT (qD u),thT (qD o)].mapM lnF with | none=>none | some ps=>lEnd "nearest" ps (cl t))=_
  rw [List.mapM_cons,q1 a,List.mapM_cons,q1 c]
  show lEnd "nearest" [_,_] (cl t)=_
  unfold lEnd
  rw [if_neg (fun h=>ps b h.2),if_pos rfl,S_cl,if_pos (by rcases d with rfl | rfl | rfl <;> simp [updn])]
  rfl
 | join hw _ _ _ =>
  obtain ⟨rfl,rfl⟩:=key hs
  rw [in_jn hw] at hj
  cases hj
theorem lst_fw {nb:Str->Bool} (hnb:∀ z,nb z=true->Wd (cl z)) {n:Nat} {f:List Nat->Option D} (hf:∀ d,TPipe (fun z=>nb z=true) n d->f (wPipe n d)=some d) {s:D} (hd:TStep (fun z=>nb z=true) (TPipe (fun z=>nb z=true) n) s):lstF nb f (wStep (wPipe n) s)=some s:=by
 rcases hd.cases2 with ⟨w,rest,rfl,hj,hr,hw,_⟩ | ⟨w,ps,rfl,hw,h2,h4,hp⟩
 ·have hall:=plain_txt hnb hw hr
  have n40:(40:Nat) ∉ TL.joinL [32] (cl w :: rest.map thT):=fun h=>(sp_join hall 40 h).1 rfl
  rw [wStep_plain hj]
  unfold lstF
  rw [if_neg (by rw [lj_no n40];decide),if_neg (by rw [lj_no n40];decide),if_neg (by rw [lj_no n40];decide),SX.spl_join (by simp) (fun p hp h=>(hall p hp 32 h).1 rfl)]
  exact lpl_fw hd hj
 ·have inner:ljF f (cl w) (cl w ++ 40 :: (TL.joinL [59,32] (ps.map (wPipe n)) ++ [41]))=some (.tup (.str w :: ps)):=by
   unfold ljF
   have e1:((cl w ++ 40 :: (TL.joinL [59,32] (ps.map (wPipe n)) ++ [41])).take ((cl w ++ 40 :: (TL.joinL [59,32] (ps.map (wPipe n)) ++ [41])).length - 1)).drop ((cl w).length+1)=TL.joinL [59,32] (ps.map (wPipe n)):=by
    have e2:cl w ++ 40 :: (TL.joinL [59,32] (ps.map (wPipe n)) ++ [41])=(cl w ++ [40] ++ TL.joinL [59,32] (ps.map (wPipe n))) ++ [41]:=by simp
    rw [e2,List.length_append,List.length_singleton,Nat.add_sub_cancel,List.take_left' rfl,List.drop_left' (by simp)]
   rw [e1,spo_semi (fun e=>by rw [List.map_eq_nil_iff] at e;rw [e] at h2;exact absurd h2 (by decide)) fun p hp'=>by
    obtain ⟨t,ht,rfl⟩:=List.mem_map.mp hp'
    exact ⟨(pipe_wr hnb (hp t ht)).bal,(pipe_wr hnb (hp t ht)).n59⟩,mapM_of fun t ht=>hf t (hp t ht)]
   show (if 2<=ps.length/\ps.length<=4 then some (D.tup (.str (SX.S (cl w)) :: ps)) else none)=_
   rw [if_pos ⟨h2,h4⟩,S_cl]
  have yes:ljB (cl w) (cl w ++ 40 :: (TL.joinL [59,32] (ps.map (wPipe n)) ++ [41]))=true:=by
   unfold ljB
   have e2:cl w ++ 40 :: (TL.joinL [59,32] (ps.map (wPipe n)) ++ [41])=(cl w ++ [40]) ++ (TL.joinL [59,32] (ps.map (wPipe n)) ++ [41]):=by simp
   have e3:cl w ++ 40 :: (TL.joinL [59,32] (ps.map (wPipe n)) ++ [41])=(cl w ++ 40 :: TL.joinL [59,32] (ps.map (wPipe n))) ++ [41]:=by simp
   rw [Bool.and_eq_true]
   refine ⟨decide_eq_true ?_,decide_eq_true ?_⟩
   ·rw [e2,List.take_left' (by simp)]
   ·rw [e3,List.length_append,List.length_singleton,Nat.add_sub_cancel,List.drop_left' rfl]
  rw [join_text hw]
  have nh:∀ (c d:Nat) (v:List Nat) (l:List Nat),c≠d->ljB (c :: v) (d :: l)=false:=fun c d v l h=>by
   unfold ljB
   have hne:¬ (d :: l).take ((c :: v).length+1)=c :: v ++ [40]:=fun e=>h (List.cons.inj (show d :: l.take (v.length+1)=c :: (v ++ [40]) from e)).1.symm
   rw [decide_eq_false hne,Bool.false_and]
  unfold lstF
  rcases hw with rfl | rfl | rfl
  ·have e:cl "sum"=wSum:=by decide +kernel
   rw [e] at inner yes ⊢
   rw [if_pos yes];exact inner
  ·have e:cl "least"=wLea:=by decide +kernel
   rw [e] at inner yes ⊢
   rw [if_neg (by rw [show ljB wSum (wLea ++ 40 :: (TL.joinL [59,32] (ps.map (wPipe n)) ++ [41]))=false from nh _ _ _ _ (by decide)];decide),if_pos yes];exact inner
  ·have e:cl "greatest"=wGre:=by decide +kernel
   rw [e] at inner yes ⊢
   rw [if_neg (by rw [show ljB wSum (wGre ++ 40 :: (TL.joinL [59,32] (ps.map (wPipe n)) ++ [41]))=false from nh _ _ _ _ (by decide)];decide),if_neg (by rw [show ljB wLea (wGre ++ 40 :: (TL.joinL [59,32] (ps.map (wPipe n)) ++ [41]))=false from nh _ _ _ _ (by decide)];decide),if_pos yes];exact inner
theorem lrd_fw {nb:Str->Bool} (hnb:∀ z,nb z=true->Wd (cl z)):∀ {n:Nat} {d:D},TPipe (fun z=>nb z=true) n d->lrdF nb n (wPipe n d)=some d
 | n+1,d,⟨ss,e,hl,hs⟩=>by
  subst e
  show (if wPipe (n+1) (.tup ss)=cl "same" then some (D.tup []) else match (spo [32,124,32] 0 0 [] (wPipe (n+1) (.tup ss))).mapM (lstF nb (lrdF nb n)) with
   | none=>none
   | some ss=>if ss.length < 13 then some (.tup ss) else none)=_
  cases ss with
  | nil=>exact if_pos rfl
  | cons s ss =>
   have ew:wPipe (n+1) (.tup (s :: ss))=TL.joinL [32,124,32] ((s :: ss).map (wStep (wPipe n))):=rfl
   have hst:∀ t∈s :: ss,Wr (((n:Int) - 1)+1) (wStep (wPipe n) t)/\NoC 124 0 (wStep (wPipe n) t)/\(32∈wStep (wPipe n) t\/40∈wStep (wPipe n) t):=fun t ht=>step_wr hnb (by omega) (fun ⟨d,hd⟩=>by
    cases n with
    | zero=>exact hd.elim
    | succ n=>omega) (fun d hd=>pipe_wr hnb hd) (hs t ht)
   have hne:wPipe (n+1) (.tup (s :: ss))≠cl "same":=fun h=>by
    rw [show cl "same"=[115,97,109,101] by decide +kernel,ew] at h
    have sub:∀ c∈wStep (wPipe n) s,c∈TL.joinL [32,124,32] ((s :: ss).map (wStep (wPipe n))):=fun c hc=>by
     cases ss with
     | nil=>exact hc
     | cons t r=>exact List.mem_append_left _ hc
    rw [h] at sub
    rcases (hst s (List.mem_cons_self ..)).2.2 with hc | hc
    ·exact absurd (sub _ hc) (by decide)
    ·exact absurd (sub _ hc) (by decide)
   rw [if_neg hne,ew,spo_bar (by simp) fun p hp=>by
    obtain ⟨t,ht,rfl⟩:=List.mem_map.mp hp
    exact ⟨(hst t ht).1.bal,(hst t ht).2.1⟩]
   rw [mapM_of fun t ht=>lst_fw hnb (fun d hd=>lrd_fw hnb hd) (hs t ht)]
   show (if (s :: ss).length < 13 then some (D.tup (s :: ss)) else none)=_
   rw [if_pos (by omega)]
theorem law_good {nb:Str->Bool} (hnb:∀ z,nb z=true->Wd (cl z)) {l:List Nat}:(∃ d,IsT nb l d/\lrdF nb 4 l=some d)\/((∀ d,¬ IsT nb l d)/\(lrdF nb 4 l=none\/∃ v,lrdF nb 4 l=some v/\TPipe (fun z=>nb z=true) 4 v/\(wPipe 4 v).length<=l.length/\wPipe 4 v≠l)):=by
 by_cases h:∃ d,IsT nb l d
 ·obtain ⟨d,hd⟩:=h
  refine .inl ⟨d,hd,?_⟩
  obtain ⟨h1,rfl⟩:=hd
  exact lrd_fw hnb h1
 ·refine .inr ⟨fun d hd=>h ⟨d,hd⟩,?_⟩
  cases hv:lrdF nb 4 l with
  | none=>exact .inl rfl
  | some v =>
   obtain ⟨h1,h2⟩:=lrd_ok hv
   exact .inr ⟨v,rfl,h1,h2,fun e=>h ⟨v,h1,e.symm⟩⟩
@[reducible] def rRepU_:RD2:=fun x y M Q=>match x,y with
 | .str a,.int k=>(1<=k/\k<=10000/\a.length<=1000)/\Q (.str (Txt.mul a k)) M
 | _,_=>False
section
variable {X:Cx} {Tb:List (Addr×Str)} {EV:XK}
theorem ref_repU:RefOp X.K Tb (fun x y H Q=>∃ a k,x = .str a/\y = .int k/\MulOk a k/\Q (.str (Txt.mul a k)) H) rRepU_:=by
 intro al M H x y dx dy Q QV w rx ry h p
 unfold rRepU_ at h
 split at h
 ·rename_i a k
  cases rx
  cases ry
  exact ⟨a,k,rfl,rfl,PyProof.Rows.mulOk_of 1000 10000 h.1.2.2 (by have:=h.1.2.1;omega) (by have:=h.1.1;omega) (by decide) (by decide),p _ (.str (Txt.mul a k)) _ _ _ (Stp.refl ..) w rfl h.2⟩
 ·exact h.elim
theorem dv_repU {a b:Expr} {ta tb:TED} {pos:Pos} (ha:PD X Tb EV a ta) (hb:PD X Tb EV b tb):PD X Tb EV (.BinOp a .Mult b pos) (dOp rRepU_ ta tb):=dv_op op_repS ref_repU ha hb
end
end DL
namespace LW
open PySem PySem.Spec PyProof.Rows L2 DL Mt
section
variable {P:Program} {w:World} {K:PySem.W.Frag} {mg:Str->Option Value} {base:Heap} {Tb:List (Addr×Str)}
abbrev CC_LETTERS (K:PySem.W.Frag) (mg:Str->Option Value):Prop:=CcD K mg "LETTERS" (.str "abcdefghijklmnopqrstuvwxyz")
abbrev CC_MAX_FIGURES (K:PySem.W.Frag) (mg:Str->Option Value):Prop:=CcD K mg "MAX_FIGURES" (.int 12)
abbrev CC_MAX_NUMBER (K:PySem.W.Frag) (mg:Str->Option Value):Prop:=CcD K mg "MAX_NUMBER" (.int 1000000000000)
abbrev CC_JOINS (K:PySem.W.Frag) (mg:Str->Option Value):Prop:=CcD K mg "JOINS" (.tup [(.str "sum"),(.str "least"),(.str "greatest")])
abbrev CC_SAME (K:PySem.W.Frag) (mg:Str->Option Value):Prop:=CcD K mg "SAME" (.str "same")
abbrev CC_BETWEEN (K:PySem.W.Frag) (mg:Str->Option Value):Prop:=CcD K mg "BETWEEN" (.str " | ")
abbrev CC_MAX_PARTS (K:PySem.W.Frag) (mg:Str->Option Value):Prop:=CcD K mg "MAX_PARTS" (.int 4)
abbrev CC_MAX_STEPS (K:PySem.W.Frag) (mg:Str->Option Value):Prop:=CcD K mg "MAX_STEPS" (.int 12)
abbrev CC_MAX_DEPTH (K:PySem.W.Frag) (mg:Str->Option Value):Prop:=CcD K mg "MAX_DEPTH" (.int 4)
theorem sc_InvalidTextu_initu:FnScope ["self"] ["self"] (defScope s_InvalidTextu_initu):=⟨rfl,rfl,rfl,by decide +kernel,rfl,by decide +kernel,by decide +kernel⟩
abbrev F_InvalidTextu_initu (K:PySem.W.Frag) (f:Addr) (fd:FuncData):Prop:=FunD K "__init__" "InvalidText.__init__" (defArgs s_InvalidTextu_initu) (defBody s_InvalidTextu_initu) (defScope s_InvalidTextu_initu) [] [] f fd
theorem bd_InvalidTextu_initu {K:PySem.W.Frag} {f:Addr} {fd:FuncData} (F:F_InvalidTextu_initu K f fd):Binds K fd ["self"] []:=F.bindsN fun _ _ _ _ _ _ us hl=>match us,hl with | [_],_=>rfl
abbrev XC_InvalidText (P:Program) (w:World) (K:PySem.W.Frag) (mg:Str->Option Value) (base:Heap):=XCal P w K mg base "InvalidText" [("code",.k "InvalidText")] 0 1
theorem ok_InvalidTextu_initu {C fI:Addr} {fdI:FuncData} (F:F_InvalidTextu_initu K fI fdI) (T:OexC K C) (h_code:PySem.W.findIn K (.ref C) "code"=some none):FnOk P w K mg base (L2.CX P w) 1 fI fdI ["self"] (spX C [("code",.k "InvalidText")] 0):=by
 refine F.ok sc_InvalidTextu_initu (fun vs H Q E h=>?_) (fun cdv A outer s H vs Q E hr h=>⟨_,(pss_one (ps_ost (pv 0) pe_str)),?_⟩)
 ·obtain ⟨a,ws,rfl,hl,_⟩:=h
  show ws.length+1=_
  rw [hl];rfl
 ·obtain ⟨a,ws,rfl,hl,h0,hQ⟩:=h
  match ws,hl with
  | [],_=>exact init_first T h_code h0 ev_c (ev_var rfl) fun dx h1 h2=>hQ dx h1 h2
theorem sc__law_told:FnScope ["_law_ask","_law_e"] ["_law_ask"] (defScope s__law_told):=⟨rfl,rfl,rfl,by decide +kernel,rfl,by decide +kernel,by decide +kernel⟩
abbrev F__law_told (K:PySem.W.Frag) (f:Addr) (fd:FuncData):Prop:=FunD K "_law_told" "_law_told" (defArgs s__law_told) (defBody s__law_told) (defScope s__law_told) [] [] f fd
theorem bd__law_told {K:PySem.W.Frag} {f:Addr} {fd:FuncData} (F:F__law_told K f fd):Binds K fd ["_law_ask"] []:=F.bindsN fun _ _ _ _ _ _ us hl=>match us,hl with | [_],_=>rfl
theorem sc_is_name:FnScope ["text","sign"] ["text"] (defScope s_is_name):=⟨rfl,rfl,rfl,by decide +kernel,rfl,by decide +kernel,by decide +kernel⟩
abbrev F_is_name (K:PySem.W.Frag) (f:Addr) (fd:FuncData):Prop:=FunD K "is_name" "is_name" (defArgs s_is_name) (defBody s_is_name) (defScope s_is_name) [] [] f fd
theorem bd_is_name {K:PySem.W.Frag} {f:Addr} {fd:FuncData} (F:F_is_name K f fd):Binds K fd ["text"] []:=F.bindsN fun _ _ _ _ _ _ us hl=>match us,hl with | [_],_=>rfl
def az:Str:="abcdefghijklmnopqrstuvwxyz"
def nameB (z:Str):Bool:=if decide (1<=(z.length:Int))=true then (if decide ((z.length:Int)<=8)=true then (z.cps.toList.map fun k=>decide (k∈az.cps.toList)).all _root_.id else false) else false
def sp_is_name:DSp:=fun ds M Q E=>∃ z:Str,ds=[.str z]/\z.length<=sizeLine/\Q (.bl (nameB z)) M
abbrev Cal_is_name (P:Program) (w:World) (K:PySem.W.Frag) (mg:Str->Option Value) (base:Heap) (Tb:List (Addr×Str)):=Cal P w K mg base Tb "is_name" "is_name" s_is_name [] [] 1 ["text"] sp_is_name
theorem sc__law_fields:FnScope ["_law_e"] ["_law_e"] (defScope s__law_fields):=⟨rfl,rfl,rfl,by decide +kernel,rfl,by decide +kernel,by decide +kernel⟩
abbrev F__law_fields (K:PySem.W.Frag) (f:Addr) (fd:FuncData):Prop:=FunD K "_law_fields" "_law_fields" (defArgs s__law_fields) (defBody s__law_fields) (defScope s__law_fields) [] [] f fd
theorem bd__law_fields {K:PySem.W.Frag} {f:Addr} {fd:FuncData} (F:F__law_fields K f fd):Binds K fd ["_law_e"] []:=F.bindsN fun _ _ _ _ _ _ us hl=>match us,hl with | [_],_=>rfl
abbrev sp__law_fields (K:PySem.W.Frag):DSp:=fieldsSp K
theorem sc__law_begin:FnScope ["_law_script","_law_salt","_law_cell"] ["_law_script"] (defScope s__law_begin):=⟨rfl,rfl,rfl,by decide +kernel,rfl,by decide +kernel,by decide +kernel⟩
abbrev F__law_begin (K:PySem.W.Frag) (f:Addr) (fd:FuncData):Prop:=FunD K "_law_begin" "_law_begin" (defArgs s__law_begin) (defBody s__law_begin) (defScope s__law_begin) [] [] f fd
theorem bd__law_begin {K:PySem.W.Frag} {f:Addr} {fd:FuncData} (F:F__law_begin K f fd):Binds K fd ["_law_script"] []:=F.bindsN fun _ _ _ _ _ _ us hl=>match us,hl with | [_],_=>rfl
def sp__law_begin:DSp:=fun ds M Q E=>∃ ns:List Int,ds=[.rol (ns.map D.int)]/\∀ r:Rng,r.Ok->Q (.mt M.length) (M ++ [some r.mo])
abbrev Cal__law_begin (P:Program) (w:World) (K:PySem.W.Frag) (mg:Str->Option Value) (base:Heap) (Tb:List (Addr×Str)):=Cal P w K mg base Tb "_law_begin" "_law_begin" s__law_begin [] [] 1 ["_law_script"] sp__law_begin
theorem sc__law_fraction_words:FnScope ["_law_value"] ["_law_value"] (defScope s__law_fraction_words):=⟨rfl,rfl,rfl,by decide +kernel,rfl,by decide +kernel,by decide +kernel⟩
abbrev F__law_fraction_words (K:PySem.W.Frag) (f:Addr) (fd:FuncData):Prop:=FunD K "_law_fraction_words" "_law_fraction_words" (defArgs s__law_fraction_words) (defBody s__law_fraction_words) (defScope s__law_fraction_words) [] [] f fd
theorem bd__law_fraction_words {K:PySem.W.Frag} {f:Addr} {fd:FuncData} (F:F__law_fraction_words K f fd):Binds K fd ["_law_value"] []:=F.bindsN fun _ _ _ _ _ _ us hl=>match us,hl with | [_],_=>rfl
def sp__law_fraction_words:DSp:=fun ds M Q E=>∃ q:Rat,ds=[qD q]/\qs q<=1900/\Q (.str (qtx q)) M
abbrev Cal__law_fraction_words (P:Program) (w:World) (K:PySem.W.Frag) (mg:Str->Option Value) (base:Heap) (Tb:List (Addr×Str)):=Cal P w K mg base Tb "_law_fraction_words" "_law_fraction_words" s__law_fraction_words [] [] 1 ["_law_value"] sp__law_fraction_words
theorem sc__law_step_text:FnScope ["_law_step","_law_part","_law_words","_law_thing"] ["_law_step"] (defScope s__law_step_text):=⟨rfl,rfl,rfl,by decide +kernel,rfl,by decide +kernel,by decide +kernel⟩
abbrev F__law_step_text (K:PySem.W.Frag) (f:Addr) (fd:FuncData):Prop:=FunD K "_law_step_text" "_law_step_text" (defArgs s__law_step_text) (defBody s__law_step_text) (defScope s__law_step_text) [] [] f fd
theorem bd__law_step_text {K:PySem.W.Frag} {f:Addr} {fd:FuncData} (F:F__law_step_text K f fd):Binds K fd ["_law_step"] []:=F.bindsN fun _ _ _ _ _ _ us hl=>match us,hl with | [_],_=>rfl
theorem sc__law_text:FnScope ["_law_pipeline_here","_law_step"] ["_law_pipeline_here"] (defScope s__law_text):=⟨rfl,rfl,rfl,by decide +kernel,rfl,by decide +kernel,by decide +kernel⟩
abbrev F__law_text (K:PySem.W.Frag) (f:Addr) (fd:FuncData):Prop:=FunD K "_law_text" "_law_text" (defArgs s__law_text) (defBody s__law_text) (defScope s__law_text) [] [] f fd
theorem bd__law_text {K:PySem.W.Frag} {f:Addr} {fd:FuncData} (F:F__law_text K f fd):Binds K fd ["_law_pipeline_here"] []:=F.bindsN fun _ _ _ _ _ _ us hl=>match us,hl with | [_],_=>rfl
def sp__law_text_n (n:Nat):DSp:=fun ds M Q E=>∃ (nm:Str->Prop) (d:D),ds=[d]/\TPipe nm n d/\(∀ z,nm z->PyData.strOk z=true)/\n<=4/\(wPipe n d).length<=1000000/\Q (.str (SX.S (wPipe n d))) M
def sp__law_step_text_n (n:Nat):DSp:=fun ds M Q E=>∃ (nm:Str->Prop) (d:D),ds=[d]/\TStep nm (TPipe nm n) d/\(∀ z,nm z->PyData.strOk z=true)/\n<=4/\(wStep (wPipe n) d).length<=1000000/\Q (.str (SX.S (wStep (wPipe n) d))) M
def sp__law_text:DSp:=fun ds M Q E=>∃ n:Nat,n<=4/\sp__law_text_n n ds M Q E
abbrev Cal__law_text (P:Program) (w:World) (K:PySem.W.Frag) (mg:Str->Option Value) (base:Heap) (Tb:List (Addr×Str)):=Cal P w K mg base Tb "_law_text" "_law_text" s__law_text [] [] 30 ["_law_pipeline_here"] sp__law_text
theorem sc__law_draw:FnScope ["_law_rng","_law_many","_law_cell","_law_got","_law_seed"] ["_law_rng","_law_many"] (defScope s__law_draw):=⟨rfl,rfl,rfl,by decide +kernel,rfl,by decide +kernel,by decide +kernel⟩
abbrev F__law_draw (K:PySem.W.Frag) (f:Addr) (fd:FuncData):Prop:=FunD K "_law_draw" "_law_draw" (defArgs s__law_draw) (defBody s__law_draw) (defScope s__law_draw) [] [] f fd
theorem bd__law_draw {K:PySem.W.Frag} {f:Addr} {fd:FuncData} (F:F__law_draw K f fd):Binds K fd ["_law_rng","_law_many"] []:=F.bindsN fun _ _ _ _ _ _ us hl=>match us,hl with | [_,_],_=>rfl
abbrev sp__law_draw:DSp:=drawSp
abbrev Cal__law_draw (P:Program) (w:World) (K:PySem.W.Frag) (mg:Str->Option Value) (base:Heap) (Tb:List (Addr×Str)):=Cal P w K mg base Tb "_law_draw" "_law_draw" s__law_draw [] [] 1 ["_law_rng","_law_many"] sp__law_draw
theorem sc__law_pick:FnScope ["_law_rng","_law_some"] ["_law_rng","_law_some"] (defScope s__law_pick):=⟨rfl,rfl,rfl,by decide +kernel,rfl,by decide +kernel,by decide +kernel⟩
abbrev F__law_pick (K:PySem.W.Frag) (f:Addr) (fd:FuncData):Prop:=FunD K "_law_pick" "_law_pick" (defArgs s__law_pick) (defBody s__law_pick) (defScope s__law_pick) [] [] f fd
theorem bd__law_pick {K:PySem.W.Frag} {f:Addr} {fd:FuncData} (F:F__law_pick K f fd):Binds K fd ["_law_rng","_law_some"] []:=F.bindsN fun _ _ _ _ _ _ us hl=>match us,hl with | [_,_],_=>rfl
abbrev sp__law_pick:DSp:=pickSp
abbrev Cal__law_pick (P:Program) (w:World) (K:PySem.W.Frag) (mg:Str->Option Value) (base:Heap) (Tb:List (Addr×Str)):=Cal P w K mg base Tb "_law_pick" "_law_pick" s__law_pick [] [] 2 ["_law_rng","_law_some"] sp__law_pick
theorem sc__law_lowest:FnScope ["_law_top","_law_bottom","_law_one","_law_other"] ["_law_top","_law_bottom"] (defScope s__law_lowest):=⟨rfl,rfl,rfl,by decide +kernel,rfl,by decide +kernel,by decide +kernel⟩
abbrev F__law_lowest (K:PySem.W.Frag) (f:Addr) (fd:FuncData):Prop:=FunD K "_law_lowest" "_law_lowest" (defArgs s__law_lowest) (defBody s__law_lowest) (defScope s__law_lowest) [] [] f fd
theorem bd__law_lowest {K:PySem.W.Frag} {f:Addr} {fd:FuncData} (F:F__law_lowest K f fd):Binds K fd ["_law_top","_law_bottom"] []:=F.bindsN fun _ _ _ _ _ _ us hl=>match us,hl with | [_,_],_=>rfl
def sp__law_lowest:DSp:=fun ds M Q E=>∃ (a b:Int),ds=[.int a,.int b]/\b≠0/\bz b<=16000000/\Q (qD (Rat.divInt a b)) M
abbrev Cal__law_lowest (P:Program) (w:World) (K:PySem.W.Frag) (mg:Str->Option Value) (base:Heap) (Tb:List (Addr×Str)):=Cal P w K mg base Tb "_law_lowest" "_law_lowest" s__law_lowest [] [] 33 ["_law_top","_law_bottom"] sp__law_lowest
theorem sc__law_small:FnScope ["_law_rng"] ["_law_rng"] (defScope s__law_small):=⟨rfl,rfl,rfl,by decide +kernel,rfl,by decide +kernel,by decide +kernel⟩
abbrev F__law_small (K:PySem.W.Frag) (f:Addr) (fd:FuncData):Prop:=FunD K "_law_small" "_law_small" (defArgs s__law_small) (defBody s__law_small) (defScope s__law_small) [] [] f fd
theorem bd__law_small {K:PySem.W.Frag} {f:Addr} {fd:FuncData} (F:F__law_small K f fd):Binds K fd ["_law_rng"] []:=F.bindsN fun _ _ _ _ _ _ us hl=>match us,hl with | [_],_=>rfl
def sp__law_small:DSp:=fun ds M Q E=>∃ (i:Nat),ds=[.mt i]/\RgAt M i/\∀ (q:Rat) (M':Mem),RgTo M i M'->Of q->Q (qD q) M'
theorem of_divInt {n d:Int} (h1:-6<=n) (h2:n<=6) (h3:1<=d) (h4:d<=4):(∃ z:Int,12 * Rat.divInt n d=z)/\-6<=Rat.divInt n d/\Rat.divInt n d<=6:=by
 have hd:d=1\/d=2\/d=3\/d=4:=by omega
 have e:Rat.divInt n d=(n:Rat) / (d:Rat):=Rat.divInt_eq_div ..
 have n1:(-6:Rat)<=n:=by
  have:=Rat.intCast_le_intCast.mpr h1
  have z:((-6:Int):Rat) = -6:=rfl
  rwa [z] at this
 have n2:(n:Rat)<=6:=by
  have:=Rat.intCast_le_intCast.mpr h2
  have z:((6:Int):Rat)=6:=rfl
  rwa [z] at this
 rw [e]
 rcases hd with rfl | rfl | rfl | rfl
 ·have z:((1:Int):Rat)=1:=rfl
  rw [z]
  refine ⟨⟨12 * n,?_⟩,by grind,by grind⟩
  rw [Rat.intCast_mul];have z:((12:Int):Rat)=12:=rfl
  rw [z];grind
 ·have z:((2:Int):Rat)=2:=rfl
  rw [z]
  refine ⟨⟨6 * n,?_⟩,by grind,by grind⟩
  rw [Rat.intCast_mul];have z:((6:Int):Rat)=6:=rfl
  rw [z];grind
 ·have z:((3:Int):Rat)=3:=rfl
  rw [z]
  refine ⟨⟨4 * n,?_⟩,by grind,by grind⟩
  rw [Rat.intCast_mul];have z:((4:Int):Rat)=4:=rfl
  rw [z];grind
 ·have z:((4:Int):Rat)=4:=rfl
  rw [z]
  refine ⟨⟨3 * n,?_⟩,by grind,by grind⟩
  rw [Rat.intCast_mul];have z:((3:Int):Rat)=3:=rfl
  rw [z];grind
abbrev Cal__law_small (P:Program) (w:World) (K:PySem.W.Frag) (mg:Str->Option Value) (base:Heap) (Tb:List (Addr×Str)):=Cal P w K mg base Tb "_law_small" "_law_small" s__law_small [] [] 34 ["_law_rng"] sp__law_small
theorem sc__law_unit:FnScope ["_law_rng"] ["_law_rng"] (defScope s__law_unit):=⟨rfl,rfl,rfl,by decide +kernel,rfl,by decide +kernel,by decide +kernel⟩
abbrev F__law_unit (K:PySem.W.Frag) (f:Addr) (fd:FuncData):Prop:=FunD K "_law_unit" "_law_unit" (defArgs s__law_unit) (defBody s__law_unit) (defScope s__law_unit) [] [] f fd
theorem bd__law_unit {K:PySem.W.Frag} {f:Addr} {fd:FuncData} (F:F__law_unit K f fd):Binds K fd ["_law_rng"] []:=F.bindsN fun _ _ _ _ _ _ us hl=>match us,hl with | [_],_=>rfl
def sp__law_unit:DSp:=fun ds M Q E=>∃ (i:Nat),ds=[.mt i]/\RgAt M i/\∀ (q:Rat) (M':Mem),RgTo M i M'->qs q<=3->Un q->Q (qD q) M'
abbrev Cal__law_unit (P:Program) (w:World) (K:PySem.W.Frag) (mg:Str->Option Value) (base:Heap) (Tb:List (Addr×Str)):=Cal P w K mg base Tb "_law_unit" "_law_unit" s__law_unit [] [] 3 ["_law_rng"] sp__law_unit
theorem sc__law_rounding:FnScope ["_law_rng","_law_word_here","_law_rest"] ["_law_rng"] (defScope s__law_rounding):=⟨rfl,rfl,rfl,by decide +kernel,rfl,by decide +kernel,by decide +kernel⟩
abbrev F__law_rounding (K:PySem.W.Frag) (f:Addr) (fd:FuncData):Prop:=FunD K "_law_rounding" "_law_rounding" (defArgs s__law_rounding) (defBody s__law_rounding) (defScope s__law_rounding) [] [] f fd
theorem bd__law_rounding {K:PySem.W.Frag} {f:Addr} {fd:FuncData} (F:F__law_rounding K f fd):Binds K fd ["_law_rng"] []:=F.bindsN fun _ _ _ _ _ _ us hl=>match us,hl with | [_],_=>rfl
def sp__law_rounding:DSp:=fun ds M Q E=>∃ (i:Nat),ds=[.mt i]/\RgAt M i/\∀ (d:D) (M':Mem),RgTo M i M'->GStep (fun _=>False) (fun _=>False) d 1->Q d M'
abbrev Cal__law_rounding (P:Program) (w:World) (K:PySem.W.Frag) (mg:Str->Option Value) (base:Heap) (Tb:List (Addr×Str)):=Cal P w K mg base Tb "_law_rounding" "_law_rounding" s__law_rounding [] [] 35 ["_law_rng"] sp__law_rounding
theorem sc__law_plain:FnScope ["_law_rng","_law_way"] ["_law_rng"] (defScope s__law_plain):=⟨rfl,rfl,rfl,by decide +kernel,rfl,by decide +kernel,by decide +kernel⟩
abbrev F__law_plain (K:PySem.W.Frag) (f:Addr) (fd:FuncData):Prop:=FunD K "_law_plain" "_law_plain" (defArgs s__law_plain) (defBody s__law_plain) (defScope s__law_plain) [] [] f fd
theorem bd__law_plain {K:PySem.W.Frag} {f:Addr} {fd:FuncData} (F:F__law_plain K f fd):Binds K fd ["_law_rng"] []:=F.bindsN fun _ _ _ _ _ _ us hl=>match us,hl with | [_],_=>rfl
def sp__law_plain:DSp:=fun ds M Q E=>∃ (i:Nat),ds=[.mt i]/\RgAt M i/\∀ (d:D) (r:Rat) (M':Mem),RgTo M i M'->GStep (fun _=>False) (fun _=>False) d r->Q d M'
abbrev Cal__law_plain (P:Program) (w:World) (K:PySem.W.Frag) (mg:Str->Option Value) (base:Heap) (Tb:List (Addr×Str)):=Cal P w K mg base Tb "_law_plain" "_law_plain" s__law_plain [] [] 36 ["_law_rng"] sp__law_plain
theorem sc__law_times:FnScope ["_law_one","_law_other"] ["_law_one","_law_other"] (defScope s__law_times):=⟨rfl,rfl,rfl,by decide +kernel,rfl,by decide +kernel,by decide +kernel⟩
abbrev F__law_times (K:PySem.W.Frag) (f:Addr) (fd:FuncData):Prop:=FunD K "_law_times" "_law_times" (defArgs s__law_times) (defBody s__law_times) (defScope s__law_times) [] [] f fd
theorem bd__law_times {K:PySem.W.Frag} {f:Addr} {fd:FuncData} (F:F__law_times K f fd):Binds K fd ["_law_one","_law_other"] []:=F.bindsN fun _ _ _ _ _ _ us hl=>match us,hl with | [_,_],_=>rfl
def sp__law_times:DSp:=fun ds M Q E=>∃ (a b:Rat),ds=[qD a,qD b]/\qs a<=8000000/\qs a+qs b<=8000000/\Q (qD (a * b)) M
abbrev Cal__law_times (P:Program) (w:World) (K:PySem.W.Frag) (mg:Str->Option Value) (base:Heap) (Tb:List (Addr×Str)):=Cal P w K mg base Tb "_law_times" "_law_times" s__law_times [] [] 34 ["_law_one","_law_other"] sp__law_times
theorem sc__law_slope:FnScope ["_law_pipeline_here","_law_slope_here","_law_step"] ["_law_pipeline_here"] (defScope s__law_slope):=⟨rfl,rfl,rfl,by decide +kernel,rfl,by decide +kernel,by decide +kernel⟩
abbrev F__law_slope (K:PySem.W.Frag) (f:Addr) (fd:FuncData):Prop:=FunD K "_law_slope" "_law_slope" (defArgs s__law_slope) (defBody s__law_slope) (defScope s__law_slope) [] [] f fd
theorem bd__law_slope {K:PySem.W.Frag} {f:Addr} {fd:FuncData} (F:F__law_slope K f fd):Binds K fd ["_law_pipeline_here"] []:=F.bindsN fun _ _ _ _ _ _ us hl=>match us,hl with | [_],_=>rfl
def sp__law_slope:DSp:=fun ds M Q E=>∃ (P:D) (ps:List (D×Rat)),ds=[P]/\asS P=some (ps.map (·.1))/\ps.length<=12/\(∀ p∈ps,GStep (fun _=>True) (fun _=>True) p.1 p.2)/\Q (qD (slopeP ps)) M
abbrev Cal__law_slope (P:Program) (w:World) (K:PySem.W.Frag) (mg:Str->Option Value) (base:Heap) (Tb:List (Addr×Str)):=Cal P w K mg base Tb "_law_slope" "_law_slope" s__law_slope [] [] 35 ["_law_pipeline_here"] sp__law_slope
theorem sc__law_over:FnScope ["_law_one","_law_other"] ["_law_one","_law_other"] (defScope s__law_over):=⟨rfl,rfl,rfl,by decide +kernel,rfl,by decide +kernel,by decide +kernel⟩
abbrev F__law_over (K:PySem.W.Frag) (f:Addr) (fd:FuncData):Prop:=FunD K "_law_over" "_law_over" (defArgs s__law_over) (defBody s__law_over) (defScope s__law_over) [] [] f fd
theorem bd__law_over {K:PySem.W.Frag} {f:Addr} {fd:FuncData} (F:F__law_over K f fd):Binds K fd ["_law_one","_law_other"] []:=F.bindsN fun _ _ _ _ _ _ us hl=>match us,hl with | [_,_],_=>rfl
def sp__law_over:DSp:=fun ds M Q E=>∃ (a b:Rat),ds=[qD a,qD b]/\qs a<=8000000/\qs a+qs b<=8000000/\b≠0/\Q (qD (a / b)) M
abbrev Cal__law_over (P:Program) (w:World) (K:PySem.W.Frag) (mg:Str->Option Value) (base:Heap) (Tb:List (Addr×Str)):=Cal P w K mg base Tb "_law_over" "_law_over" s__law_over [] [] 34 ["_law_one","_law_other"] sp__law_over
theorem sc__law_pipeline:FnScope ["_law_rng","_law_names_here","_law_most","_law_deep","_law_steps","_law_k","_law_way","_law_word_here","_law_parts","_law_part","_law_slope_here"] ["_law_rng","_law_names_here","_law_most","_law_deep"] (defScope s__law_pipeline):=⟨rfl,rfl,rfl,by decide +kernel,rfl,by decide +kernel,by decide +kernel⟩
abbrev F__law_pipeline (K:PySem.W.Frag) (f:Addr) (fd:FuncData):Prop:=FunD K "_law_pipeline" "_law_pipeline" (defArgs s__law_pipeline) (defBody s__law_pipeline) (defScope s__law_pipeline) [] [] f fd
theorem bd__law_pipeline {K:PySem.W.Frag} {f:Addr} {fd:FuncData} (F:F__law_pipeline K f fd):Binds K fd ["_law_rng","_law_names_here","_law_most","_law_deep"] []:=F.bindsN fun _ _ _ _ _ _ us hl=>match us,hl with | [_,_,_,_],_=>rfl
def sp_pipe_n (n:Nat):DSp:=fun ds M Q E=>∃ (i:Nat) (zs:List Str) (m:Int),ds=[.mt i,.lst (zs.map D.str),.int m,.int n]/\RgAt M i/\AllL M/\(∀ z∈zs,PyData.strOk z=true)/\zs.length<=1000/\0<=m/\m<=4/\n<=4/\1<=n/\∀ (d:D) (M':Mem),RgTo M i M'->GPipe (fun z=>z∈zs) n m.toNat d->Q d M'
def sp__law_pipeline:DSp:=fun ds M Q E=>∃ n:Nat,n<=4/\sp_pipe_n n ds M Q E
abbrev Cal__law_pipeline (P:Program) (w:World) (K:PySem.W.Frag) (mg:Str->Option Value) (base:Heap) (Tb:List (Addr×Str)):=Cal P w K mg base Tb "_law_pipeline" "_law_pipeline" s__law_pipeline [] [] 60 ["_law_rng","_law_names_here","_law_most","_law_deep"] sp__law_pipeline
theorem sc__law_word:FnScope ["_law_rng","_law_most","_law_k"] ["_law_rng","_law_most"] (defScope s__law_word):=⟨rfl,rfl,rfl,by decide +kernel,rfl,by decide +kernel,by decide +kernel⟩
abbrev F__law_word (K:PySem.W.Frag) (f:Addr) (fd:FuncData):Prop:=FunD K "_law_word" "_law_word" (defArgs s__law_word) (defBody s__law_word) (defScope s__law_word) [] [] f fd
theorem bd__law_word {K:PySem.W.Frag} {f:Addr} {fd:FuncData} (F:F__law_word K f fd):Binds K fd ["_law_rng","_law_most"] []:=F.bindsN fun _ _ _ _ _ _ us hl=>match us,hl with | [_,_],_=>rfl
def sp__law_word:DSp:=fun ds M Q E=>∃ (i:Nat) (m:Int),ds=[.mt i,.int m]/\RgAt M i/\0 < m/\m<=60/\∀ (cs:List Nat) (M':Mem),RgTo M i M'->cs≠[]->(cs.length:Int)<=m->(∀ c∈cs,c∈("abcdefghijklmnopqrstuvwxyz":Str).cps.toList)->Q (.str (SX.S cs)) M'
abbrev Cal__law_word (P:Program) (w:World) (K:PySem.W.Frag) (mg:Str->Option Value) (base:Heap) (Tb:List (Addr×Str)):=Cal P w K mg base Tb "_law_word" "_law_word" s__law_word [] [] 3 ["_law_rng","_law_most"] sp__law_word
theorem sc__law_names:FnScope ["_law_rng","_law_many","_law_width","_law_step","_law_base","_law_at","_law_lead","_law_letters","_law_k"] ["_law_rng","_law_many"] (defScope s__law_names):=⟨rfl,rfl,rfl,by decide +kernel,rfl,by decide +kernel,by decide +kernel⟩
abbrev F__law_names (K:PySem.W.Frag) (f:Addr) (fd:FuncData):Prop:=FunD K "_law_names" "_law_names" (defArgs s__law_names) (defBody s__law_names) (defScope s__law_names) [] [] f fd
theorem bd__law_names {K:PySem.W.Frag} {f:Addr} {fd:FuncData} (F:F__law_names K f fd):Binds K fd ["_law_rng","_law_many"] []:=F.bindsN fun _ _ _ _ _ _ us hl=>match us,hl with | [_,_],_=>rfl
def sp__law_names:DSp:=fun ds M Q E=>∃ (i:Nat) (m:Int),ds=[.mt i,.int m]/\RgAt M i/\0<=m/\m<=26/\∀ (zs:List Str) (M':Mem),RgTo M i M'->(zs.length:Int)=m->(∀ z∈zs,nameB z=true/\z.length<=sizeLine)->zs.Nodup->Q (.lst (zs.map D.str)) M'
abbrev azL:List Nat:=("abcdefghijklmnopqrstuvwxyz":Str).cps.toList
theorem az_at {i:Int} (h0:0<=i) (h1:i < 26):L2.atI azL i=some (97+i.toNat):=by
 have:i=0\/i=1\/i=2\/i=3\/i=4\/i=5\/i=6\/i=7\/i=8\/i=9\/i=10\/i=11\/i=12\/i=13\/i=14\/i=15\/i=16\/i=17\/i=18\/i=19\/i=20\/i=21\/i=22\/i=23\/i=24\/i=25:=by omega
 rcases this with rfl | rfl | rfl | rfl | rfl | rfl | rfl | rfl | rfl | rfl | rfl | rfl | rfl | rfl | rfl | rfl | rfl | rfl | rfl | rfl | rfl | rfl | rfl | rfl | rfl | rfl <;> decide +kernel
theorem az_mem {i:Nat} (h1:i < 26):97+i∈azL:=by
 have h:=az_at (i:=i) (by omega) (by omega)
 unfold L2.atI L2.ixN at h
 rw [if_pos (by omega),if_pos (by show (i:Int) < azL.length;rw [show azL.length=26 by decide +kernel];omega)] at h
 have h:azL[(i:Int).toNat]?=some (97+(i:Int).toNat):=h
 rw [Int.toNat_natCast] at h
 exact List.mem_of_getElem? h
theorem mul_S {c:Nat} {k:Int} (h:1<=k):Txt.mul ⟨#[c]⟩ k=SX.S (List.replicate k.toNat c):=by
 by_cases h1:1 < k
 ·rw [<- mul_one h1,SX.S_tl]
 ·have:k=1:=by omega
  subst this
  unfold Txt.mul
  rw [if_neg (by omega),if_pos (by rfl)];rfl
theorem name_ok {l:List Nat} (h1:1<=l.length) (h2:l.length<=8) (h3:∀ c∈l,c∈azL):nameB (SX.S l)=true:=by
 have e:(SX.S l).length=l.length:=SX.S_len l
 unfold nameB
 rw [if_pos (decide_eq_true (by omega)),if_pos (decide_eq_true (by omega))]
 rw [List.all_eq_true]
 intro b hb
 obtain ⟨c,hc,rfl⟩:=List.mem_map.mp hb
 exact decide_eq_true (h3 c (by simpa [SX.S] using hc))
def nmL (w a c:Nat) (l:Int):List Nat:=List.replicate a c ++ (97+(l % 26).toNat) :: List.replicate (w - a - 1) c
theorem nmL_at {w a c:Nat} {l:Int}:(nmL w a c l)[a]?=some (97+(l % 26).toNat):=by
 unfold nmL
 rw [List.getElem?_append_right (by simp)]
 simp
abbrev Cal__law_names (P:Program) (w:World) (K:PySem.W.Frag) (mg:Str->Option Value) (base:Heap) (Tb:List (Addr×Str)):=Cal P w K mg base Tb "_law_names" "_law_names" s__law_names [] [] 4 ["_law_rng","_law_many"] sp__law_names
theorem sc__law_split:FnScope ["_law_text_here","_law_mark","_law_parts","_law_deep","_law_now","_law_k"] ["_law_text_here","_law_mark"] (defScope s__law_split):=⟨rfl,rfl,rfl,by decide +kernel,rfl,by decide +kernel,by decide +kernel⟩
abbrev F__law_split (K:PySem.W.Frag) (f:Addr) (fd:FuncData):Prop:=FunD K "_law_split" "_law_split" (defArgs s__law_split) (defBody s__law_split) (defScope s__law_split) [] [] f fd
theorem bd__law_split {K:PySem.W.Frag} {f:Addr} {fd:FuncData} (F:F__law_split K f fd):Binds K fd ["_law_text_here","_law_mark"] []:=F.bindsN fun _ _ _ _ _ _ us hl=>match us,hl with | [_,_],_=>rfl
def sp__law_split:DSp:=fun ds M Q E=>∃ (l mk:List Nat),ds=[.str (SX.S l),.str (SX.S mk)]/\1<=mk.length/\mk.length<=10/\l.length<=1000000/\Q (.lst ((spo mk 0 0 [] l).map fun p=>D.str (SX.S p))) M
abbrev Cal__law_split (P:Program) (w:World) (K:PySem.W.Frag) (mg:Str->Option Value) (base:Heap) (Tb:List (Addr×Str)):=Cal P w K mg base Tb "_law_split" "_law_split" s__law_split [] [] 1 ["_law_text_here","_law_mark"] sp__law_split
theorem sc__law_is_word:FnScope ["_law_text_here","_law_sign"] ["_law_text_here"] (defScope s__law_is_word):=⟨rfl,rfl,rfl,by decide +kernel,rfl,by decide +kernel,by decide +kernel⟩
abbrev F__law_is_word (K:PySem.W.Frag) (f:Addr) (fd:FuncData):Prop:=FunD K "_law_is_word" "_law_is_word" (defArgs s__law_is_word) (defBody s__law_is_word) (defScope s__law_is_word) [] [] f fd
theorem bd__law_is_word {K:PySem.W.Frag} {f:Addr} {fd:FuncData} (F:F__law_is_word K f fd):Binds K fd ["_law_text_here"] []:=F.bindsN fun _ _ _ _ _ _ us hl=>match us,hl with | [_],_=>rfl
def sp__law_is_word:DSp:=fun ds M Q E=>∃ z:Str,ds=[.str z]/\z.length<=sizeLine/\Q (.bl (nameB z)) M
abbrev Cal__law_is_word (P:Program) (w:World) (K:PySem.W.Frag) (mg:Str->Option Value) (base:Heap) (Tb:List (Addr×Str)):=Cal P w K mg base Tb "_law_is_word" "_law_is_word" s__law_is_word [] [] 1 ["_law_text_here"] sp__law_is_word
theorem sc__law_number:FnScope ["_law_text_here","_law_parts","_law_part","_law_figures","_law_sign","_law_pair"] ["_law_text_here"] (defScope s__law_number):=⟨rfl,rfl,rfl,by decide +kernel,rfl,by decide +kernel,by decide +kernel⟩
abbrev F__law_number (K:PySem.W.Frag) (f:Addr) (fd:FuncData):Prop:=FunD K "_law_number" "_law_number" (defArgs s__law_number) (defBody s__law_number) (defScope s__law_number) [] [] f fd
theorem bd__law_number {K:PySem.W.Frag} {f:Addr} {fd:FuncData} (F:F__law_number K f fd):Binds K fd ["_law_text_here"] []:=F.bindsN fun _ _ _ _ _ _ us hl=>match us,hl with | [_],_=>rfl
def lnD:Option (Int×Int)->D
 | some p=>pairD p
 | none=>.non
def sp__law_number:DSp:=fun ds M Q E=>∃ t:List Nat,ds=[.str (SX.S t)]/\t.length<=1000000/\Q (lnD (lnF t)) M
abbrev Cal__law_number (P:Program) (w:World) (K:PySem.W.Frag) (mg:Str->Option Value) (base:Heap) (Tb:List (Addr×Str)):=Cal P w K mg base Tb "_law_number" "_law_number" s__law_number [] [] 34 ["_law_text_here"] sp__law_number
theorem sc__law_read_step:FnScope ["_law_text_here","_law_deep","_law_word_here","_law_parts","_law_part","_law_words","_law_sizes","_law_things","_law_thing"] ["_law_text_here","_law_deep"] (defScope s__law_read_step):=⟨rfl,rfl,rfl,by decide +kernel,rfl,by decide +kernel,by decide +kernel⟩
abbrev F__law_read_step (K:PySem.W.Frag) (f:Addr) (fd:FuncData):Prop:=FunD K "_law_read_step" "_law_read_step" (defArgs s__law_read_step) (defBody s__law_read_step) (defScope s__law_read_step) [] [] f fd
theorem bd__law_read_step {K:PySem.W.Frag} {f:Addr} {fd:FuncData} (F:F__law_read_step K f fd):Binds K fd ["_law_text_here","_law_deep"] []:=F.bindsN fun _ _ _ _ _ _ us hl=>match us,hl with | [_,_],_=>rfl
def optD:Option D->D
 | some d=>d
 | none=>.non
def sp__law_read_step_n (n:Nat):DSp:=fun ds M Q E=>∃ (l:List Nat) (k:Int),ds=[.str (SX.S l),.int k]/\l.length<=1000000/\k=(n:Int)+1/\n<=4/\Q (optD (lstF nameB (lrdF nameB n) l)) M
theorem sc__law_read:FnScope ["_law_text_here","_law_deep","_law_steps","_law_part"] ["_law_text_here","_law_deep"] (defScope s__law_read):=⟨rfl,rfl,rfl,by decide +kernel,rfl,by decide +kernel,by decide +kernel⟩
abbrev F__law_read (K:PySem.W.Frag) (f:Addr) (fd:FuncData):Prop:=FunD K "_law_read" "_law_read" (defArgs s__law_read) (defBody s__law_read) (defScope s__law_read) [] [] f fd
theorem bd__law_read {K:PySem.W.Frag} {f:Addr} {fd:FuncData} (F:F__law_read K f fd):Binds K fd ["_law_text_here","_law_deep"] []:=F.bindsN fun _ _ _ _ _ _ us hl=>match us,hl with | [_,_],_=>rfl
def sp__law_read_n (n:Nat):DSp:=fun ds M Q E=>∃ (l:List Nat) (k:Int),ds=[.str (SX.S l),.int k]/\l.length<=1000000/\k=(n:Int)/\n<=4/\Q (optD (lrdF nameB n l)) M
def sp__law_read:DSp:=sp__law_read_n 4
abbrev Cal__law_read (P:Program) (w:World) (K:PySem.W.Frag) (mg:Str->Option Value) (base:Heap) (Tb:List (Addr×Str)):=Cal P w K mg base Tb "_law_read" "_law_read" s__law_read [] [] 70 ["_law_text_here","_law_deep"] sp__law_read
theorem sc__law_same:FnScope ["_law_found","_law_due","_law_k"] ["_law_found","_law_due"] (defScope s__law_same):=⟨rfl,rfl,rfl,by decide +kernel,rfl,by decide +kernel,by decide +kernel⟩
abbrev F__law_same (K:PySem.W.Frag) (f:Addr) (fd:FuncData):Prop:=FunD K "_law_same" "_law_same" (defArgs s__law_same) (defBody s__law_same) (defScope s__law_same) [] [] f fd
theorem bd__law_same {K:PySem.W.Frag} {f:Addr} {fd:FuncData} (F:F__law_same K f fd):Binds K fd ["_law_found","_law_due"] []:=F.bindsN fun _ _ _ _ _ _ us hl=>match us,hl with | [_,_],_=>rfl
abbrev sp__law_same:DSp:=sm_sp 12
abbrev Cal__law_same (P:Program) (w:World) (K:PySem.W.Frag) (mg:Str->Option Value) (base:Heap) (Tb:List (Addr×Str)):=Cal P w K mg base Tb "_law_same" "_law_same" s__law_same [] [] 12 ["_law_found","_law_due"] sp__law_same
theorem sc_depth_of:FnScope ["text","depth","most","sign"] ["text"] (defScope s_depth_of):=⟨rfl,rfl,rfl,by decide +kernel,rfl,by decide +kernel,by decide +kernel⟩
abbrev F_depth_of (K:PySem.W.Frag) (f:Addr) (fd:FuncData):Prop:=FunD K "depth_of" "depth_of" (defArgs s_depth_of) (defBody s_depth_of) (defScope s_depth_of) [] [] f fd
theorem bd_depth_of {K:PySem.W.Frag} {f:Addr} {fd:FuncData} (F:F_depth_of K f fd):Binds K fd ["text"] []:=F.bindsN fun _ _ _ _ _ _ us hl=>match us,hl with | [_],_=>rfl
def sp_depth_of:DSp:=fun ds M Q E=>∃ (l:List Nat),ds=[.str (SX.S l)]/\l.length<=1000000/\∀ m:Int,0<=m->Mx m 0 l->(∀ k:Int,0<=k->Mx k 0 l->m<=k)->Q (.int m) M
abbrev Cal_depth_of (P:Program) (w:World) (K:PySem.W.Frag) (mg:Str->Option Value) (base:Heap) (Tb:List (Addr×Str)):=Cal P w K mg base Tb "depth_of" "depth_of" s_depth_of [] [] 1 ["text"] sp_depth_of
theorem sc_split_outside:FnScope ["text","mark","parts","depth","begin","place","sign"] ["text","mark"] (defScope s_split_outside):=⟨rfl,rfl,rfl,by decide +kernel,rfl,by decide +kernel,by decide +kernel⟩
abbrev F_split_outside (K:PySem.W.Frag) (f:Addr) (fd:FuncData):Prop:=FunD K "split_outside" "split_outside" (defArgs s_split_outside) (defBody s_split_outside) (defScope s_split_outside) [] [] f fd
theorem bd_split_outside {K:PySem.W.Frag} {f:Addr} {fd:FuncData} (F:F_split_outside K f fd):Binds K fd ["text","mark"] []:=F.bindsN fun _ _ _ _ _ _ us hl=>match us,hl with | [_,_],_=>rfl
def sp_split_outside:DSp:=fun ds M Q E=>∃ (l mk:List Nat),ds=[.str (SX.S l),.str (SX.S mk)]/\1<=mk.length/\mk.length<=10/\l.length<=1000000/\Q (.lst ((spo mk 0 0 [] l).map fun p=>D.str (SX.S p))) M
abbrev Cal_split_outside (P:Program) (w:World) (K:PySem.W.Frag) (mg:Str->Option Value) (base:Heap) (Tb:List (Addr×Str)):=Cal P w K mg base Tb "split_outside" "split_outside" s_split_outside [] [] 1 ["text","mark"] sp_split_outside
theorem sc_parse_integer:FnScope ["text","figures","sign"] ["text"] (defScope s_parse_integer):=⟨rfl,rfl,rfl,by decide +kernel,rfl,by decide +kernel,by decide +kernel⟩
abbrev F_parse_integer (K:PySem.W.Frag) (f:Addr) (fd:FuncData):Prop:=FunD K "parse_integer" "parse_integer" (defArgs s_parse_integer) (defBody s_parse_integer) (defScope s_parse_integer) [] [] f fd
theorem bd_parse_integer {K:PySem.W.Frag} {f:Addr} {fd:FuncData} (F:F_parse_integer K f fd):Binds K fd ["text"] []:=F.bindsN fun _ _ _ _ _ _ us hl=>match us,hl with | [_],_=>rfl
def sp_parse_integer:DSp:=fun ds M Q E=>∃ z:Str,ds=[.str z]/\z.length<=1000000/\Q (oiD (fgN z)) M
abbrev Cal_parse_integer (P:Program) (w:World) (K:PySem.W.Frag) (mg:Str->Option Value) (base:Heap) (Tb:List (Addr×Str)):=Cal P w K mg base Tb "parse_integer" "parse_integer" s_parse_integer [] [] 1 ["text"] sp_parse_integer
theorem sc_fraction_text:FnScope ["value"] ["value"] (defScope s_fraction_text):=⟨rfl,rfl,rfl,by decide +kernel,rfl,by decide +kernel,by decide +kernel⟩
abbrev F_fraction_text (K:PySem.W.Frag) (f:Addr) (fd:FuncData):Prop:=FunD K "fraction_text" "fraction_text" (defArgs s_fraction_text) (defBody s_fraction_text) (defScope s_fraction_text) [] [] f fd
theorem bd_fraction_text {K:PySem.W.Frag} {f:Addr} {fd:FuncData} (F:F_fraction_text K f fd):Binds K fd ["value"] []:=F.bindsN fun _ _ _ _ _ _ us hl=>match us,hl with | [_],_=>rfl
def sp_fraction_text:DSp:=fun ds M Q E=>∃ a b:Int,ds=[.tup [.int a,.int b]]/\bz a<=1900/\bz b<=1900/\Q (.str (if b=1 then itx a else itx a ++ (Str.ofString "/" ++ itx b))) M
abbrev Cal_fraction_text (P:Program) (w:World) (K:PySem.W.Frag) (mg:Str->Option Value) (base:Heap) (Tb:List (Addr×Str)):=Cal P w K mg base Tb "fraction_text" "fraction_text" s_fraction_text [] [] 1 ["value"] sp_fraction_text
theorem sc_is_integer:FnScope ["thing"] ["thing"] (defScope s_is_integer):=⟨rfl,rfl,rfl,by decide +kernel,rfl,by decide +kernel,by decide +kernel⟩
abbrev F_is_integer (K:PySem.W.Frag) (f:Addr) (fd:FuncData):Prop:=FunD K "is_integer" "is_integer" (defArgs s_is_integer) (defBody s_is_integer) (defScope s_is_integer) [] [] f fd
theorem bd_is_integer {K:PySem.W.Frag} {f:Addr} {fd:FuncData} (F:F_is_integer K f fd):Binds K fd ["thing"] []:=F.bindsN fun _ _ _ _ _ _ us hl=>match us,hl with | [_],_=>rfl
def sp_is_integer:DSp:=fun ds M Q E=>∃ d:D,ds=[d]/\pu d=true/\Q (.bl (isZI d)) M
abbrev Cal_is_integer (P:Program) (w:World) (K:PySem.W.Frag) (mg:Str->Option Value) (base:Heap) (Tb:List (Addr×Str)):=Cal P w K mg base Tb "is_integer" "is_integer" s_is_integer [] [] 1 ["thing"] sp_is_integer
theorem sc_common_divisor:FnScope ["one","other"] ["one","other"] (defScope s_common_divisor):=⟨rfl,rfl,rfl,by decide +kernel,rfl,by decide +kernel,by decide +kernel⟩
abbrev F_common_divisor (K:PySem.W.Frag) (f:Addr) (fd:FuncData):Prop:=FunD K "common_divisor" "common_divisor" (defArgs s_common_divisor) (defBody s_common_divisor) (defScope s_common_divisor) [] [] f fd
theorem bd_common_divisor {K:PySem.W.Frag} {f:Addr} {fd:FuncData} (F:F_common_divisor K f fd):Binds K fd ["one","other"] []:=F.bindsN fun _ _ _ _ _ _ us hl=>match us,hl with | [_,_],_=>rfl
def sp_common_divisor:DSp:=fun ds M Q E=>∃ (a b:Int),ds=[.int a,.int b]/\Q (.int (Int.gcd a b)) M
abbrev Cal_common_divisor (P:Program) (w:World) (K:PySem.W.Frag) (mg:Str->Option Value) (base:Heap) (Tb:List (Addr×Str)):=Cal P w K mg base Tb "common_divisor" "common_divisor" s_common_divisor [] [] 1 ["one","other"] sp_common_divisor
theorem sc_is_fraction:FnScope ["thing","part"] ["thing"] (defScope s_is_fraction):=⟨rfl,rfl,rfl,by decide +kernel,rfl,by decide +kernel,by decide +kernel⟩
abbrev F_is_fraction (K:PySem.W.Frag) (f:Addr) (fd:FuncData):Prop:=FunD K "is_fraction" "is_fraction" (defArgs s_is_fraction) (defBody s_is_fraction) (defScope s_is_fraction) [] [] f fd
theorem bd_is_fraction {K:PySem.W.Frag} {f:Addr} {fd:FuncData} (F:F_is_fraction K f fd):Binds K fd ["thing"] []:=F.bindsN fun _ _ _ _ _ _ us hl=>match us,hl with | [_],_=>rfl
def sp_is_fraction:DSp:=fun ds M Q E=>∃ d:D,ds=[d]/\pu d=true/\Q (.bl (isfrD d)) M
abbrev Cal_is_fraction (P:Program) (w:World) (K:PySem.W.Frag) (mg:Str->Option Value) (base:Heap) (Tb:List (Addr×Str)):=Cal P w K mg base Tb "is_fraction" "is_fraction" s_is_fraction [] [] 2 ["thing"] sp_is_fraction
theorem sc_parse_fraction:FnScope ["text","above","mark","below","parts"] ["text"] (defScope s_parse_fraction):=⟨rfl,rfl,rfl,by decide +kernel,rfl,by decide +kernel,by decide +kernel⟩
abbrev F_parse_fraction (K:PySem.W.Frag) (f:Addr) (fd:FuncData):Prop:=FunD K "parse_fraction" "parse_fraction" (defArgs s_parse_fraction) (defBody s_parse_fraction) (defScope s_parse_fraction) [] [] f fd
theorem bd_parse_fraction {K:PySem.W.Frag} {f:Addr} {fd:FuncData} (F:F_parse_fraction K f fd):Binds K fd ["text"] []:=F.bindsN fun _ _ _ _ _ _ us hl=>match us,hl with | [_],_=>rfl
def sp_parse_fraction (K:PySem.W.Frag):DSp:=fun ds M Q E=>∃ z:Str,ds=[.str z]/\z.length<=1000000/\(match pfN z with
 | some p=>Q (.tup [.int p.1,.int p.2]) M
 | none=>E ⟨He.ga K "InvalidText",[("code",.str "InvalidText")]⟩ M)
abbrev Cal_parse_fraction (P:Program) (w:World) (K:PySem.W.Frag) (mg:Str->Option Value) (base:Heap) (Tb:List (Addr×Str)):=Cal P w K mg base Tb "parse_fraction" "parse_fraction" s_parse_fraction [] [] 3 ["text"] (sp_parse_fraction K)
theorem sc_read_thing:FnScope ["word","text"] ["word","text"] (defScope s_read_thing):=⟨rfl,rfl,rfl,by decide +kernel,rfl,by decide +kernel,by decide +kernel⟩
abbrev F_read_thing (K:PySem.W.Frag) (f:Addr) (fd:FuncData):Prop:=FunD K "read_thing" "read_thing" (defArgs s_read_thing) (defBody s_read_thing) (defScope s_read_thing) [] [] f fd
theorem bd_read_thing {K:PySem.W.Frag} {f:Addr} {fd:FuncData} (F:F_read_thing K f fd):Binds K fd ["word","text"] []:=F.bindsN fun _ _ _ _ _ _ us hl=>match us,hl with | [_,_],_=>rfl
def txX (K:PySem.W.Frag):Exn:=⟨He.ga K "InvalidText",[("code",.str "InvalidText")]⟩
def sp_read_thing (K:PySem.W.Frag):DSp:=fun ds M Q E=>∃ (w t:List Nat),ds=[.str (SX.S w),.str (SX.S t)]/\t.length<=1000000/\(thF w t=none->E (txX K) M)/\(∀ x,thF w t=some x->Q x M)
abbrev Cal_read_thing (P:Program) (w:World) (K:PySem.W.Frag) (mg:Str->Option Value) (base:Heap) (Tb:List (Addr×Str)):=Cal P w K mg base Tb "read_thing" "read_thing" s_read_thing [] [] 4 ["word","text"] (sp_read_thing K)
theorem sc_read_step:FnScope ["text","head","mark","rest","part","word","things","thing"] ["text"] (defScope s_read_step):=⟨rfl,rfl,rfl,by decide +kernel,rfl,by decide +kernel,by decide +kernel⟩
abbrev F_read_step (K:PySem.W.Frag) (f:Addr) (fd:FuncData):Prop:=FunD K "read_step" "read_step" (defArgs s_read_step) (defBody s_read_step) (defScope s_read_step) [] [] f fd
theorem bd_read_step {K:PySem.W.Frag} {f:Addr} {fd:FuncData} (F:F_read_step K f fd):Binds K fd ["text"] []:=F.bindsN fun _ _ _ _ _ _ us hl=>match us,hl with | [_],_=>rfl
def sp_read_step_n (n:Nat) (K:PySem.W.Frag):DSp:=fun ds M Q E=>∃ l:List Nat,ds=[.str (SX.S l)]/\l.length<=1000000/\Mx (n:Int) 0 l/\(stF (rdF n) l=none->E (txX K) M)/\(∀ x,stF (rdF n) l=some x->Q x M)
theorem sc_read:FnScope ["text","part"] ["text"] (defScope s_read):=⟨rfl,rfl,rfl,by decide +kernel,rfl,by decide +kernel,by decide +kernel⟩
abbrev F_read (K:PySem.W.Frag) (f:Addr) (fd:FuncData):Prop:=FunD K "read" "read" (defArgs s_read) (defBody s_read) (defScope s_read) [] [] f fd
theorem bd_read {K:PySem.W.Frag} {f:Addr} {fd:FuncData} (F:F_read K f fd):Binds K fd ["text"] []:=F.bindsN fun _ _ _ _ _ _ us hl=>match us,hl with | [_],_=>rfl
def sp_read_n (n:Nat) (K:PySem.W.Frag):DSp:=fun ds M Q E=>∃ l:List Nat,ds=[.str (SX.S l)]/\l.length<=1000000/\Mx (n:Int) 0 l/\(rdF (n+1) l=none->E (txX K) M)/\(∀ x,rdF (n+1) l=some x->Q x M)
def sp_read (K:PySem.W.Frag):DSp:=sp_read_n 4 K
abbrev Cal_read (P:Program) (w:World) (K:PySem.W.Frag) (mg:Str->Option Value) (base:Heap) (Tb:List (Addr×Str)):=Cal P w K mg base Tb "read" "read" s_read [] [] 50 ["text"] (sp_read K)
theorem sc_written_step:FnScope ["step","word","rest","part","thing"] ["step"] (defScope s_written_step):=⟨rfl,rfl,rfl,by decide +kernel,rfl,by decide +kernel,by decide +kernel⟩
abbrev F_written_step (K:PySem.W.Frag) (f:Addr) (fd:FuncData):Prop:=FunD K "written_step" "written_step" (defArgs s_written_step) (defBody s_written_step) (defScope s_written_step) [] [] f fd
theorem bd_written_step {K:PySem.W.Frag} {f:Addr} {fd:FuncData} (F:F_written_step K f fd):Binds K fd ["step"] []:=F.bindsN fun _ _ _ _ _ _ us hl=>match us,hl with | [_],_=>rfl
theorem sc_written:FnScope ["pipeline","step"] ["pipeline"] (defScope s_written):=⟨rfl,rfl,rfl,by decide +kernel,rfl,by decide +kernel,by decide +kernel⟩
abbrev F_written (K:PySem.W.Frag) (f:Addr) (fd:FuncData):Prop:=FunD K "written" "written" (defArgs s_written) (defBody s_written) (defScope s_written) [] [] f fd
theorem bd_written {K:PySem.W.Frag} {f:Addr} {fd:FuncData} (F:F_written K f fd):Binds K fd ["pipeline"] []:=F.bindsN fun _ _ _ _ _ _ us hl=>match us,hl with | [_],_=>rfl
def sp_written_n (n:Nat):DSp:=fun ds M Q E=>∃ (nm:Str->Prop) (d:D),ds=[d]/\TPipe nm n d/\(wPipe n d).length<=1000000/\Q (.str (SX.S (wPipe n d))) M
def sp_written_step_n (n:Nat):DSp:=fun ds M Q E=>∃ (nm:Str->Prop) (d:D),ds=[d]/\TStep nm (TPipe nm n) d/\(wStep (wPipe n) d).length<=1000000/\Q (.str (SX.S (wStep (wPipe n) d))) M
def sp_written:DSp:=fun ds M Q E=>∃ n:Nat,n<=4/\sp_written_n n ds M Q E
abbrev Cal_written (P:Program) (w:World) (K:PySem.W.Frag) (mg:Str->Option Value) (base:Heap) (Tb:List (Addr×Str)):=Cal P w K mg base Tb "written" "written" s_written [] [] 30 ["pipeline"] sp_written
theorem sc_is_positive:FnScope ["thing"] ["thing"] (defScope s_is_positive):=⟨rfl,rfl,rfl,by decide +kernel,rfl,by decide +kernel,by decide +kernel⟩
abbrev F_is_positive (K:PySem.W.Frag) (f:Addr) (fd:FuncData):Prop:=FunD K "is_positive" "is_positive" (defArgs s_is_positive) (defBody s_is_positive) (defScope s_is_positive) [] [] f fd
theorem bd_is_positive {K:PySem.W.Frag} {f:Addr} {fd:FuncData} (F:F_is_positive K f fd):Binds K fd ["thing"] []:=F.bindsN fun _ _ _ _ _ _ us hl=>match us,hl with | [_],_=>rfl
def sp_is_positive:DSp:=fun ds M Q E=>∃ d:D,ds=[d]/\pu d=true/\Q (.bl (posD d)) M
abbrev Cal_is_positive (P:Program) (w:World) (K:PySem.W.Frag) (mg:Str->Option Value) (base:Heap) (Tb:List (Addr×Str)):=Cal P w K mg base Tb "is_positive" "is_positive" s_is_positive [] [] 3 ["thing"] sp_is_positive
theorem sc_is_step:FnScope ["thing","depth","word","rest","part","amount","name","unit","offset","ties"] ["thing","depth"] (defScope s_is_step):=⟨rfl,rfl,rfl,by decide +kernel,rfl,by decide +kernel,by decide +kernel⟩
abbrev F_is_step (K:PySem.W.Frag) (f:Addr) (fd:FuncData):Prop:=FunD K "is_step" "is_step" (defArgs s_is_step) (defBody s_is_step) (defScope s_is_step) [] [] f fd
theorem bd_is_step {K:PySem.W.Frag} {f:Addr} {fd:FuncData} (F:F_is_step K f fd):Binds K fd ["thing","depth"] []:=F.bindsN fun _ _ _ _ _ _ us hl=>match us,hl with | [_,_],_=>rfl
theorem nameB_in {z:Str} (h:nameB z=true):(∀ c∈z.cps.toList,c∈az.cps.toList)/\z.length<=8:=by
 unfold nameB at h
 split at h
 ·split at h
  ·rename_i h2
   refine ⟨fun c hc=>?_,by have:=of_decide_eq_true h2;omega⟩
   rw [List.all_eq_true] at h
   have:=h (decide (c∈az.cps.toList)) (List.mem_map_of_mem hc)
   exact of_decide_eq_true this
  ·cases h
 ·cases h
theorem nameB_strOk {z:Str} (h:nameB z=true):PyData.strOk z=true:=by
 show z.cps.all _=true
 rw [<- Array.all_toList,List.all_eq_true]
 intro c hc
 have h2:=(nameB_in h).1 c hc
 have:∀ c∈az.cps.toList,c < 0x110000:=by decide +kernel
 exact decide_eq_true (this c h2)
theorem nameB_Wd {z:Str} (h:nameB z=true):Wd (cl z):=fun c hc=>by
 have h2:=(nameB_in h).1 c hc
 have:∀ c∈az.cps.toList,c≠32/\c≠40/\c≠41/\c≠59/\c≠124:=by decide +kernel
 exact this c h2
def sp_is_step_n (n:Nat):DSp:=fun ds M Q E=>∃ (d:D) (k:Int),ds=[d,.int k]/\PlS d/\k=(n:Int)+1/\Q (.bl (stepB nameB (pipB nameB n) d)) M
theorem sc_is_deep_pipeline:FnScope ["thing","depth","step"] ["thing","depth"] (defScope s_is_deep_pipeline):=⟨rfl,rfl,rfl,by decide +kernel,rfl,by decide +kernel,by decide +kernel⟩
abbrev F_is_deep_pipeline (K:PySem.W.Frag) (f:Addr) (fd:FuncData):Prop:=FunD K "is_deep_pipeline" "is_deep_pipeline" (defArgs s_is_deep_pipeline) (defBody s_is_deep_pipeline) (defScope s_is_deep_pipeline) [] [] f fd
theorem bd_is_deep_pipeline {K:PySem.W.Frag} {f:Addr} {fd:FuncData} (F:F_is_deep_pipeline K f fd):Binds K fd ["thing","depth"] []:=F.bindsN fun _ _ _ _ _ _ us hl=>match us,hl with | [_,_],_=>rfl
def sp_is_deep_n (n:Nat):DSp:=fun ds M Q E=>∃ (d:D) (k:Int),ds=[d,.int k]/\PlS d/\k=(n:Int)/\Q (.bl (pipB nameB n d)) M
abbrev sp_is_deep_pipeline:DSp:=sp_is_deep_n 4
abbrev Cal_is_deep_pipeline (P:Program) (w:World) (K:PySem.W.Frag) (mg:Str->Option Value) (base:Heap) (Tb:List (Addr×Str)):=Cal P w K mg base Tb "is_deep_pipeline" "is_deep_pipeline" s_is_deep_pipeline [] [] 18 ["thing","depth"] sp_is_deep_pipeline
theorem sc_is_pipeline:FnScope ["thing"] ["thing"] (defScope s_is_pipeline):=⟨rfl,rfl,rfl,by decide +kernel,rfl,by decide +kernel,by decide +kernel⟩
abbrev F_is_pipeline (K:PySem.W.Frag) (f:Addr) (fd:FuncData):Prop:=FunD K "is_pipeline" "is_pipeline" (defArgs s_is_pipeline) (defBody s_is_pipeline) (defScope s_is_pipeline) [] [] f fd
theorem bd_is_pipeline {K:PySem.W.Frag} {f:Addr} {fd:FuncData} (F:F_is_pipeline K f fd):Binds K fd ["thing"] []:=F.bindsN fun _ _ _ _ _ _ us hl=>match us,hl with | [_],_=>rfl
def sp_is_pipeline:DSp:=fun ds M Q E=>∃ d:D,ds=[d]/\PlS d/\Q (.bl (pipB nameB 4 d)) M
abbrev Cal_is_pipeline (P:Program) (w:World) (K:PySem.W.Frag) (mg:Str->Option Value) (base:Heap) (Tb:List (Addr×Str)):=Cal P w K mg base Tb "is_pipeline" "is_pipeline" s_is_pipeline [] [] 19 ["thing"] sp_is_pipeline
theorem sc_parse_pipeline:FnScope ["text","found"] ["text"] (defScope s_parse_pipeline):=⟨rfl,rfl,rfl,by decide +kernel,rfl,by decide +kernel,by decide +kernel⟩
abbrev F_parse_pipeline (K:PySem.W.Frag) (f:Addr) (fd:FuncData):Prop:=FunD K "parse_pipeline" "parse_pipeline" (defArgs s_parse_pipeline) (defBody s_parse_pipeline) (defScope s_parse_pipeline) [] [] f fd
theorem bd_parse_pipeline {K:PySem.W.Frag} {f:Addr} {fd:FuncData} (F:F_parse_pipeline K f fd):Binds K fd ["text"] []:=F.bindsN fun _ _ _ _ _ _ us hl=>match us,hl with | [_],_=>rfl
def sp_parse_pipeline (K:PySem.W.Frag):DSp:=fun ds M Q E=>∃ l:List Nat,ds=[.str (SX.S l)]/\l.length<=1000000/\(∀ d,IsT nameB l d->Q d M)/\((∀ d,¬ IsT nameB l d)->E (txX K) M)
abbrev Cal_parse_pipeline (P:Program) (w:World) (K:PySem.W.Frag) (mg:Str->Option Value) (base:Heap) (Tb:List (Addr×Str)):=Cal P w K mg base Tb "parse_pipeline" "parse_pipeline" s_parse_pipeline [] [] 51 ["text"] (sp_parse_pipeline K)
theorem sc_law:FnScope ["_law_script","_law_rng","_law_signs","_law_odd","_law_turn","_law_text_here","_law_change","_law_at","_law_some","_law_found","_law_good","_law_many","_law_deep"] ["_law_script"] (defScope s_law):=⟨rfl,rfl,rfl,by decide +kernel,rfl,by decide +kernel,by decide +kernel⟩
abbrev F_law (K:PySem.W.Frag) (f:Addr) (fd:FuncData):Prop:=FunD K "law" "law" (defArgs s_law) (defBody s_law) (defScope s_law) [] [] f fd
abbrev sp_law:DSp:=lawSp0
theorem gp_mid {nm:Str->Prop} (hn:∀ z,nm z->z.length<=8) {d:D} (h:GPipe nm 3 3 d):TPipe nm 4 d/\(wPipe 4 d).length<=120020:=by
 obtain ⟨ss,rfl,hl,hs⟩:=gp_stp h
 have hc:cTx 2<=5400:=by decide
 have key:∀ s∈ss,TStep nm (fun d=>TPipe nm 3 d/\(wPipe 3 d).length<=cTx 2+4) s:=fun s hs'=>(hs s hs').t fun d hd=>gp_text hn hd (by omega)
 have k1:∀ s∈ss,TStep nm (TPipe nm 3) s:=fun s hs'=>(key s hs').mono fun d hd=>hd.1
 have k2:∀ s∈ss,(wStep (wPipe 3) s).length<=30000:=fun s hs'=>Nat.le_trans (step_len hn (fun d hd=>hd.2) (key s hs')) (by omega)
 refine ⟨⟨ss,rfl,by omega,k1⟩,?_⟩
 have h1:=steps_len (f:=3) (c:=30000) k2
 change (wPipe 4 _).length<=_ at h1
 have h2:ss.length * (30000+3)<=4 * (30000+3):=Nat.mul_le_mul_right _ (by omega)
 omega
def strLe (k:Nat):D->Bool
 | .str z=>decide (z.length<=k)
 | _=>false
def OkS (xs:List D):Prop:=xs≠[]/\xs.length<=100/\xs.all (strLe 6000)=true
theorem OkS.mem {xs:List D} (h:OkS xs) {d:D} (hd:d∈xs):∃ z,d = .str z/\z.length<=6000:=by
 have:=List.all_eq_true.mp h.2.2 d hd
 cases d with
 | str z=>exact ⟨z,rfl,of_decide_eq_true this⟩
 | _=>cases this
theorem e_addS {xs ys:List D} {M:Mem} {Q:VD} (h0:xs≠[]) (hl:xs.length+ys.length<=100) (hx:xs.all (strLe 6000)=true) (hy:ys.all (strLe 6000)=true) (h:∀ zs,OkS zs->zs.length=xs.length+ys.length->Q (.lst zs) M):rAdd_ (.lst xs) (.lst ys) M Q:=by
 have zl:sizeLine=16777216:=rfl
 exact e_addl (by omega) (h _ ⟨by simp [h0],by rw [List.length_append];omega,by rw [List.all_append,hx,hy];rfl⟩ List.length_append)
theorem len9:(Txt.mul (Str.ofString "9") 5000).length=5000:=by
 have e:Str.ofString "9"=⟨#[57]⟩:=by decide +kernel
 rw [e]
 have:=congrArg List.length (mul_one (c:=57) (k:=5000) (by decide))
 rw [List.length_replicate] at this
 exact (Array.length_toList).symm.trans this
def sgn:List D:=[.str "",.str " ",.str "|",.str " | ",.str "(",.str ")",.str "; ",.str ";",.str "0",.str "7",.str "/",.str "-",.str "a",.str "A",.str "same",.str "up",.str "sum(",.str "use x",.str "1/2",.str "\n",.str "_"]
theorem sgn_mem {d:D} (hd:d∈sgn):∃ z,d = .str z/\z.length<=5:=by
 have:sgn.all (strLe 5)=true:=by decide +kernel
 have:=List.all_eq_true.mp this d hd
 cases d with
 | str z=>exact ⟨z,rfl,of_decide_eq_true this⟩
 | _=>cases this
theorem isT_eq {l:List Nat} {d d':D} (h:IsT nameB l d) (e:lrdF nameB 4 l=some d'):d=d':=by
 have e2:=lrd_fw (nb:=nameB) (fun z hz=>nameB_Wd hz) h.1
 rw [<- h.2,e] at e2
 exact (Option.some.inj e2).symm
theorem isT_no {l:List Nat} (e:lrdF nameB 4 l=none) (d:D):¬ IsT nameB l d:=fun h=>by
 have e2:=lrd_fw (nb:=nameB) (fun z hz=>nameB_Wd hz) h.1
 rw [<- h.2,e] at e2
 cases e2
def mZ:Str:=Txt.join (Str.ofString " | ") (List.replicate 12 (Str.ofString "shift 1"))
def mD:D:=.tup (List.replicate 12 (.tup [.str "shift",.tup [.int 1,.int 1]]))
theorem mZ_len:(cl mZ).length<=200:=by decide +kernel
theorem mZ_rd:lrdF nameB 4 (cl mZ)=some mD:=by kernel_rfl
theorem mZ_wr:wPipe 4 mD=cl mZ:=by kernel_rfl
theorem mZ3_len:(cl (mZ ++ Str.ofString " | shift 1")).length<=200:=by decide +kernel
theorem mZ3_rd:lrdF nameB 4 (cl (mZ ++ Str.ofString " | shift 1"))=none:=by kernel_rfl
theorem mZ_is:IsT nameB (cl mZ) mD:=by
 rcases law_good (nb:=nameB) (fun z hz=>nameB_Wd hz) (l:=cl mZ) with ⟨d,hd,hl⟩ | ⟨hno,hb | ⟨v,hb,hv,hvl,hvn⟩⟩
 ·rw [mZ_rd] at hl
  cases hl
  exact hd
 ·rw [mZ_rd] at hb
  cases hb
 ·rw [mZ_rd] at hb
  cases hb
  exact absurd mZ_wr hvn
def dZ:Str:=Txt.mul (Str.ofString "sum(") 40 ++ Str.ofString "same" ++ Txt.mul (Str.ofString "; same)") 40
theorem dZ_len:(cl dZ).length<=1000:=by decide +kernel
theorem dZ_rd:lrdF nameB 4 (cl dZ)=none:=by kernel_rfl
end
def tfq:List (He.Defn×Str):=[(("law",none),(envOfC "law" (defScope s_law) 0 0 .none).qual ++ "<lambda>")]
def csL (K:PySem.W.Frag):List ((Addr×Addr)×Str):=tfq.map fun q=>(He.cT K q.1,q.2)
theorem ob_eq (s:PySem.W.SharedT):ob s=hk.obs s.abs:=He.obsZ_eq (HandSHeadRun.getT_eq s)
open PySem.W PySem.Calls in
theorem hold_of (hc:WalkO (view (OpenLaw.row PySem.Challenge.rw_roundmaps_k60_strings_that_are_no_texts).prog [87]) ("_wall" :: "common_divisor" :: "fraction" :: "add" :: "subtract" :: "multiply" :: "divide" :: "times" :: "compare" :: "floor_of" :: "ordered" :: "is_fraction" :: "is_integer" :: "fraction_text" :: "parse_integer" :: "parse_fraction" :: "moved" :: "slope_between" :: "check_points" :: "true_points" :: "repeats" :: "equal_parts" :: "is_name" :: "is_positive" :: "is_step" :: "is_deep_pipeline" :: "is_pipeline" :: "written" :: "written_step" :: "split_outside" :: "read_thing" :: "read_step" :: "read" :: "depth_of" :: "parse_pipeline" :: "_law_begin" :: "_law_draw" :: "_law_pick" :: "_law_same" :: "_law_fields" :: "_law_told" :: "_law_lowest" :: "_law_times" :: "_law_over" :: "_law_unit" :: "_law_small" :: "_law_word" :: "_law_names" :: "_law_rounding" :: "_law_plain" :: "_law_slope" :: "_law_pipeline" :: "_law_fraction_words" :: "_law_step_text" :: "_law_text" :: "_law_is_word" :: "_law_split" :: "_law_number" :: "_law_read_step" :: "_law_read" :: "ZERO" :: "ONE" :: "MAX_FIGURES" :: "MAX_NUMBER" :: "MAX_STEPS" :: "MAX_PARTS" :: "MAX_DEPTH" :: "JOINS" :: "LETTERS" :: "SAME" :: "BETWEEN" :: "RoundError" :: "InvalidFraction" :: "InvalidText" :: "InvalidCurve" :: "InvalidStep" :: "TooMany" :: "TooLong" :: "Missing" :: "NothingLeft" :: "Curve" :: []) (XL (view (OpenLaw.row PySem.Challenge.rw_roundmaps_k60_strings_that_are_no_texts).prog [87]) []) hk.says (OpenLaw.row PySem.Challenge.rw_roundmaps_k60_strings_that_are_no_texts).toRowW (HandSHeadRun.topDef (OpenLaw.row PySem.Challenge.rw_roundmaps_k60_strings_that_are_no_texts).prog 87) [] fun f vs=>PySem.call f vs):PySem.Challenge.rw_roundmaps_k60_strings_that_are_no_texts.Holds:=by
 w_on;o_law
 refine HandSHeadRun.head_any (r:=OpenLaw.row PySem.Challenge.rw_roundmaps_k60_strings_that_are_no_texts) (q:=view (OpenLaw.row PySem.Challenge.rw_roundmaps_k60_strings_that_are_no_texts).prog [87]) (H:=hk) (ob:=ob) (M:=8000) (loose:=("_wall" :: "common_divisor" :: "fraction" :: "add" :: "subtract" :: "multiply" :: "divide" :: "times" :: "compare" :: "floor_of" :: "ordered" :: "is_fraction" :: "is_integer" :: "fraction_text" :: "parse_integer" :: "parse_fraction" :: "moved" :: "slope_between" :: "check_points" :: "true_points" :: "repeats" :: "equal_parts" :: "is_name" :: "is_positive" :: "is_step" :: "is_deep_pipeline" :: "is_pipeline" :: "written" :: "written_step" :: "split_outside" :: "read_thing" :: "read_step" :: "read" :: "depth_of" :: "parse_pipeline" :: "_law_begin" :: "_law_draw" :: "_law_pick" :: "_law_same" :: "_law_fields" :: "_law_told" :: "_law_lowest" :: "_law_times" :: "_law_over" :: "_law_unit" :: "_law_small" :: "_law_word" :: "_law_names" :: "_law_rounding" :: "_law_plain" :: "_law_slope" :: "_law_pipeline" :: "_law_fraction_words" :: "_law_step_text" :: "_law_text" :: "_law_is_word" :: "_law_split" :: "_law_number" :: "_law_read_step" :: "_law_read" :: "ZERO" :: "ONE" :: "MAX_FIGURES" :: "MAX_NUMBER" :: "MAX_STEPS" :: "MAX_PARTS" :: "MAX_DEPTH" :: "JOINS" :: "LETTERS" :: "SAME" :: "BETWEEN" :: "RoundError" :: "InvalidFraction" :: "InvalidText" :: "InvalidCurve" :: "InvalidStep" :: "TooMany" :: "TooLong" :: "Missing" :: "NothingLeft" :: "Curve" :: [])) (d:=HandSHeadRun.topDef (OpenLaw.row PySem.Challenge.rw_roundmaps_k60_strings_that_are_no_texts).prog 87) (kwd:=[]) ob_eq
  (by kernel_rfl) (fun s=>by kernel_rfl) run (by kernel_rfl) (by kernel_rfl) (by kernel_rfl) (by rfl) (by first | assumption | decide +kernel) (by decide +kernel) ⟨rfl,rfl,rfl,rfl,rfl,by decide +kernel⟩ ?hw ?hc
 case hw=>w_witness2
 case hc=>exact hc
end LW
namespace LW
open PySem PySem.Spec PyProof.Rows L2 DL Mt
local macro_rules | `(tactic| walk_at "dlns") => `(tactic| (first | ((with_reducible apply e_var); · exact rfl) | ((with_reducible apply e_sz); · exact rfl) | ((with_reducible apply e_aug); · exact rfl) | ((with_reducible apply e_arg); (· exact rfl); (· exact rfl)) | ((with_reducible apply e_ix); (· first | exact seq_at (by assumption) | exact rfl); (· exact rfl)) | ((with_reducible apply e_fldC); · exact rfl) | ((with_reducible apply e_fldo); · exact rfl) | ((with_reducible apply e_isiK); · exact rfl) | ((with_reducible apply e_ixpt); · exact rfl) | ((with_reducible apply e_ixar); · exact rfl) | with_reducible refine e_cls ?_ | with_reducible refine e_ix0t ?_ | with_reducible refine e_star1 ?_ | with_reducible refine e_star1l ?_ | with_reducible refine e_star2l ?_ | ((with_reducible apply e_mhit); (· exact rfl)) | ((with_reducible apply e_mmiss); (· exact rfl)) | with_reducible refine e_istup ?_ | with_reducible refine e_isstr ?_ | ((with_reducible apply e_isi); · exact rfl) | with_reducible refine e_add ?_ | with_reducible refine e_sub ?_ | ((with_reducible apply e_subc); (· assumption); (· exact rfl)) | with_reducible refine e_ift ?_ | with_reducible refine e_iff ?_ | ((with_reducible apply e_ht); · exact rfl) | ((with_reducible apply e_htl); · exact rfl) | with_reducible refine e_htq ?_ | with_reducible refine e_htpt ?_ | with_reducible refine e_eqi ?_ | ((with_reducible apply e_len); · first | exact seq_at (by assumption) | exact rfl) | with_reducible refine e_eqs ?_ | with_reducible refine e_eqq ?_ | with_reducible refine e_neq ?_ | with_reducible refine e_isrfC ?_ | with_reducible refine e_isCC ?_ | with_reducible refine e_min2 ?_ | with_reducible refine pts_l ?_ | with_reducible refine e_max2 ?_ | with_reducible refine e_neq0 ?_ | with_reducible refine e_eq0 ?_ | ((with_reducible apply e_int); · first | with_reducible assumption | with_reducible exact nz (by decide) | with_reducible exact mok_r (by decide) (by decide) | with_reducible exact mok_l (by decide) (by decide) | with_reducible exact cdx_d (by decide) | with_reducible exact cpow (by decide) (by decide) (by omega) (by omega)) | with_reducible refine e_nei ?_ | with_reducible refine e_isc ?_ | ((with_reducible apply e_cono); · exact rfl) | with_reducible refine e_fmt ?_ | with_reducible refine e_isB ?_ | with_reducible refine e_isnotB ?_ | with_reducible refine e_inO ?_ | with_reducible refine e_blq ?_ | ((with_reducible apply e_conC); · exact rfl) | with_reducible refine e_htar ?_ | with_reducible refine e_abs ?_ | with_reducible refine e_tpl ?_ | with_reducible refine e_tpt ?_ | with_reducible refine e_lsl ?_ | with_reducible refine e_lst' ?_ | with_reducible refine e_slnil ?_ | with_reducible refine e_fzl ?_ | with_reducible refine e_isrf ?_ | ((with_reducible apply e_eqO); · exact rfl) | ((with_reducible apply e_neO); · exact rfl) | ((with_reducible apply e_eqOo); · first | exact rfl | (rw [kind_obj]; rfl)) | ((with_reducible apply e_neOo); · first | exact rfl | (rw [kind_obj]; rfl)) | ((with_reducible apply e_eqQs); · exact rfl) | ((with_reducible apply e_neQs); · exact rfl) | with_reducible refine e_join0 ?_ | with_reducible refine e_js0 ?_ | with_reducible refine e_js1 ?_ | with_reducible refine e_nes ?_ | with_reducible refine e_tyS ?_ | with_reducible refine e_sls (by assumption) ?_ | with_reducible refine e_chain ?_ | with_reducible refine e_dchain ?_ | with_reducible refine e_in ?_ | with_reducible refine e_zip2 ?_ | with_reducible refine e_zip3 ?_ | with_reducible refine e_lenS (by assumption) ?_ | ((with_reducible apply e_lenOn); · exact rfl) | with_reducible refine e_dn ?_ | with_reducible refine e_int1 ?_ | with_reducible refine e_int2 ?_ | with_reducible refine e_ib ?_ | with_reducible refine e_ii ?_ | with_reducible refine e_is ?_ | with_reducible refine e_isn ?_ | with_reducible refine e_eqb ?_ | with_reducible refine e_neb ?_ | with_reducible refine e_rg1 ?_ | with_reducible refine isi_l (by assumption) ?_ | with_reducible refine isi_t (by assumption) ?_ | with_reducible refine isi_lt (by assumption) ?_ | with_reducible refine isi_b (by assumption) ?_ | with_reducible refine isi_i (by assumption) ?_ | with_reducible refine isi_s (by assumption) ?_))
local macro_rules | `(tactic| walk_at "S") => `(tactic| ((first | with_reducible refine e_seq ?_ | walk_at "dlns"); (try (with_reducible conv => whnf))))
local macro_rules | `(tactic| walk_at "R") => `(tactic| ((try (with_reducible conv => whnf)); repeat walk_at "S"))
local macro_rules | `(tactic| walk_at "r") => `(tactic| ((try (with_reducible conv => whnf)); repeat (walk_at "dlns"; (try (with_reducible conv => whnf)))))
local macro_rules | `(tactic| walk_at "A") => `(tactic| ((try (with_reducible conv => whnf)); repeat' ((first | with_reducible refine e_seq ?_ | walk_at "dlns" | refine ifd (fun _ => ?_) (fun _ => ?_) | refine ifn (fun _ => ?_) (fun _ => ?_) | refine ifb (fun _ => ?_) (fun _ => ?_)) <;> (try (with_reducible conv => whnf)))))
section
variable {P:Program} {w:World} {K:PySem.W.Frag} {mg:Str->Option Value} {base:Heap} {Tb:List (Addr×Str)}
theorem ok_is_name {f:Addr} {fd:FuncData} (F:F_is_name K f fd) (g_all:mg "all"=none) (g_len:mg "len"=none) (c_LETTERS:CC_LETTERS K mg):FnD P w K mg base Tb 1 f fd ["text"] sp_is_name:=by
 refine fnD_of _ F sc_is_name (by rintro ds M Q E ⟨z,rfl,_⟩;rfl) (fun cdv A outer s H EV hr=>(ds_one (dp_ret (dv_and (dv_chain op_le (ref_int0 (gD:=fun i j=>.bl (decide (i<=j))) fun _ _ _ _ _=>rfl) op_le (ref_int0 (gD:=fun i j=>.bl (decide (i<=j))) fun _ _ _ _ _=>rfl) dv_int (dv_callB call_len ref_len (by rfl) g_len PySem.boot_len (da_cons (dv_var 0) da_nil)) dv_int) (dv_one (dv_callB (cr_all rfl) ref_all (by rfl) g_all (by decide +kernel) (da_cons (dv_lc rfl sc_is_name.nd (di_seq (dv_var 0)) (blkOk_by (own:=[("sign",1)]) (N:=["text","sign"]) (sc:=defScope s_is_name) (by decide +kernel)) (tgn_name (i:=1) (by decide)) (fun _ _ _ _ _=>pg_name (i:=1) sc_is_name.nd rfl (by first | exact Or.inl rfl | exact Or.inr rfl)) (fun _ _ _ _ _=>dts_nil) (fun _ _ _ _ _=>(dv_in (dv_var 1) (dv_gl c_LETTERS (by rfl))))) da_nil))))))) ?_
 rintro ds M Q E hM hD ⟨z,rfl,hz,hQ⟩
 unfold nameB at hQ
 have fin:∀ b,Q (.bl b) M->Cut M.length Q (.bl b) M:=fun b h=>Cut.same rfl hM h
 walk_at "R"
 refine ifd (fun h1=>?_) (fun h1=>fin _ (by rw [decide_eq_false h1] at hQ;exact hQ))
 rw [decide_eq_true h1,if_pos rfl] at hQ
 walk_at "R"
 refine ifd (fun h2=>?_) (fun h2=>fin _ (by rw [decide_eq_false h2] at hQ;exact hQ))
 rw [decide_eq_true h2,if_pos rfl] at hQ
 walk_at "R"
 refine lc_map (fun c=>D.str ⟨#[c]⟩) (fun c=>D.bl (decide (c∈az.cps.toList))) z.cps.toList (by show z.length<=_;exact hz) ?_ ?_
 ·intro c _ N hN
  walk_at "R"
  exact hN
 ·walk_at "R"
  refine e_allM (fin _ hQ)
theorem ok__law_fields {f:Addr} {fd:FuncData} (F:F__law_fields K f fd)  : FnDC P w K mg base Tb 1 f fd ["_law_e"] (sp__law_fields K):=by
 refine fnDC_of _ F sc__law_fields (by rintro ds M Q E ⟨C,ns,xs,z,ys,rfl,_⟩;rfl) (fun cdv A outer s H EV hr=>(ds_cons (dp_if (dt_in (dv_xf K (dv_var 0)) (dv_tup (da_cons dv_str (da_cons dv_str (da_cons dv_str (da_cons dv_str da_nil)))))) (ds_one (dp_ret (dv_tup (da_cons (dv_xf K (dv_var 0)) da_nil)))) ds_nil)
 (ds_cons (dp_if (dt_in (dv_xf K (dv_var 0)) (dv_tup (da_cons dv_str (da_cons dv_str da_nil)))) (ds_one (dp_ret (dv_tup (da_cons (dv_xf K (dv_var 0)) da_nil)))) ds_nil)
 (ds_cons (dp_if (dt_eq (roomH_units hr) (dv_xf K (dv_var 0)) dv_str) (ds_one (dp_ret (dv_tup (da_cons (dv_xf K (dv_var 0)) (da_cons (dv_xf K (dv_var 0)) da_nil))))) ds_nil)
 (ds_cons (dp_if (dt_eq (roomH_units hr) (dv_xf K (dv_var 0)) dv_str) (ds_one (dp_ret (dv_tup (da_cons (dv_xf K (dv_var 0)) (da_cons (dv_xf K (dv_var 0)) da_nil))))) ds_nil)
 (ds_cons (dp_if (dt_eq (roomH_units hr) (dv_xf K (dv_var 0)) dv_str) (ds_one (dp_ret (dv_tup (da_cons (dv_xf K (dv_var 0)) da_nil)))) ds_nil)
 (ds_cons (dp_if (dt_eq (roomH_units hr) (dv_xf K (dv_var 0)) dv_str) (ds_one (dp_ret (dv_tup (da_cons (dv_xf K (dv_var 0)) da_nil)))) ds_nil)
 (ds_one (dp_ret (dv_if (dt_eq (roomH_units hr) (dv_xf K (dv_var 0)) dv_str) (dv_tup (da_cons (dv_xf K (dv_var 0)) da_nil)) (dv_tup da_nil))))))))))) ?_
 rintro ds M Q E hM hD ⟨C,ns,xs,z,ys,rfl,T,hn,hz,hy,hQ⟩
 have hc:=hn "code" List.mem_cons_self
 have hys:D.hbs M.length ys=true->Cut M.length Q (.tup ys) M:=fun h=>Cut.same h hM hQ
 have hlk:∀ (f:Str) (d:D),(ns.zip xs).lookup f=some d->d.hb M.length=true:=fun f d e=>zip_hb (by have h:(_ && _)=true:=hD;simp only [Bool.and_eq_true] at h;exact h.1) e
 unfold xfields at hy hn
 change dSeq _ _ _ _ [some (.exc C ns xs)] M
 walk_at "R"
 with_reducible refine e_xf0 T hc hz ?_
 walk_at "R"
 refine ifb (fun h=>?_) (fun h=>?_)
 ·try simp only [Bool.false_eq_true,if_false] at h
  rw [if_pos h] at hy hn
  obtain ⟨y,e,rfl⟩:=map1 hy
  walk_at "R"
  with_reducible refine e_xf0 T (hn _ (by simp)) e ?_
  walk_at "R"
  exact hys (by show (_ && true)=true;rw [hlk _ _ e];rfl)
 try simp only [Bool.false_eq_true,if_false] at h
 rw [if_neg (by rw [h];decide)] at hy hn
 walk_at "R"
 with_reducible refine e_xf0 T hc hz ?_
 walk_at "R"
 refine ifb (fun h=>?_) (fun h=>?_)
 ·try simp only [Bool.false_eq_true,if_false] at h
  rw [if_pos h] at hy hn
  obtain ⟨y,e,rfl⟩:=map1 hy
  walk_at "R"
  with_reducible refine e_xf0 T (hn _ (by simp)) e ?_
  walk_at "R"
  exact hys (by show (_ && true)=true;rw [hlk _ _ e];rfl)
 try simp only [Bool.false_eq_true,if_false] at h
 rw [if_neg (by rw [h];decide)] at hy hn
 walk_at "R"
 with_reducible refine e_xf0 T hc hz ?_
 walk_at "R"
 refine ifb (fun h=>?_) (fun h=>?_)
 ·try simp only [Bool.false_eq_true,if_false] at h
  rw [if_pos h] at hy hn
  obtain ⟨y,w,e,e2,rfl⟩:=map2 hy
  walk_at "R"
  with_reducible refine e_xf0 T (hn _ (by simp)) e ?_
  walk_at "R"
  with_reducible refine e_xf0 T (hn _ (by simp)) e2 ?_
  walk_at "R"
  exact hys (by show (_ && (_ && true))=true;rw [hlk _ _ e,hlk _ _ e2];rfl)
 try simp only [Bool.false_eq_true,if_false] at h
 rw [if_neg (by rw [h];decide)] at hy hn
 walk_at "R"
 with_reducible refine e_xf0 T hc hz ?_
 walk_at "R"
 refine ifb (fun h=>?_) (fun h=>?_)
 ·try simp only [Bool.false_eq_true,if_false] at h
  rw [if_pos h] at hy hn
  obtain ⟨y,w,e,e2,rfl⟩:=map2 hy
  walk_at "R"
  with_reducible refine e_xf0 T (hn _ (by simp)) e ?_
  walk_at "R"
  with_reducible refine e_xf0 T (hn _ (by simp)) e2 ?_
  walk_at "R"
  exact hys (by show (_ && (_ && true))=true;rw [hlk _ _ e,hlk _ _ e2];rfl)
 try simp only [Bool.false_eq_true,if_false] at h
 rw [if_neg (by rw [h];decide)] at hy hn
 walk_at "R"
 with_reducible refine e_xf0 T hc hz ?_
 walk_at "R"
 refine ifb (fun h=>?_) (fun h=>?_)
 ·try simp only [Bool.false_eq_true,if_false] at h
  rw [if_pos h] at hy hn
  obtain ⟨y,e,rfl⟩:=map1 hy
  walk_at "R"
  with_reducible refine e_xf0 T (hn _ (by simp)) e ?_
  walk_at "R"
  exact hys (by show (_ && true)=true;rw [hlk _ _ e];rfl)
 try simp only [Bool.false_eq_true,if_false] at h
 rw [if_neg (by rw [h];decide)] at hy hn
 walk_at "R"
 with_reducible refine e_xf0 T hc hz ?_
 walk_at "R"
 refine ifb (fun h=>?_) (fun h=>?_)
 ·try simp only [Bool.false_eq_true,if_false] at h
  rw [if_pos h] at hy hn
  obtain ⟨y,e,rfl⟩:=map1 hy
  walk_at "R"
  with_reducible refine e_xf0 T (hn _ (by simp)) e ?_
  walk_at "R"
  exact hys (by show (_ && true)=true;rw [hlk _ _ e];rfl)
 try simp only [Bool.false_eq_true,if_false] at h
 rw [if_neg (by rw [h];decide)] at hy hn
 walk_at "R"
 with_reducible refine e_xf0 T hc hz ?_
 walk_at "R"
 refine ifb (fun h=>?_) (fun h=>?_)
 ·try simp only [Bool.false_eq_true,if_false] at h
  rw [if_pos h] at hy hn
  obtain ⟨y,e,rfl⟩:=map1 hy
  walk_at "R"
  with_reducible refine e_xf0 T (hn _ (by simp)) e ?_
  walk_at "R"
  exact hys (by show (_ && true)=true;rw [hlk _ _ e];rfl)
 try simp only [Bool.false_eq_true,if_false] at h
 rw [if_neg (by rw [h];decide)] at hy hn
 cases map0 hy
 walk_at "R"
 exact hys rfl
theorem ok__law_begin {f:Addr} {fd:FuncData} (F:F__law_begin K f fd) (g_list:mg "list"=none):FnD P w K mg base Tb 1 f fd ["_law_script"] sp__law_begin:=by
 refine fnD_of _ F sc__law_begin (by rintro ds M Q E ⟨ns,rfl,_⟩;rfl) (fun cdv A outer s H EV hr=>(ds_cons (dp_set 1 sc__law_begin.nd dv_int)
 (ds_cons (dp_for PassesOwn.leaving rfl (di_seq (dv_slice (dv_var 0) do_none (do_some dv_int))) (dg_name 2 sc__law_begin.nd) (ds_one (dp_set 1 sc__law_begin.nd (dv_mod (dv_add (dv_add (dv_mul (dv_var 1) dv_int) (dv_mod (dv_var 2) dv_int)) dv_int) dv_int))))
 (ds_one (dp_ret (dv_lstM (da_cons (dv_callTy call_list_of ref_list (by rfl) g_list (by decide +kernel) (da_cons (dv_slice (dv_var 0) do_none (do_some dv_int)) da_nil)) (da_cons dv_int (da_cons dv_int (da_cons (dv_var 1) (da_cons dv_int da_nil))))))))))) ?_
 rintro ds M Q E hM hD ⟨ns,rfl,hQ⟩
 have hall:∀ d∈cutL (ns.map D.int) none (some 63),∃ n,d=D.int n:=fun d hd=>by
  have:=List.mem_of_mem_drop (List.mem_of_mem_take hd)
  obtain ⟨n,_,rfl⟩:=List.mem_map.mp this
  exact ⟨n,rfl⟩
 have hcut:cutL (ns.map D.int) none (some 63)=(cutL ns none (some 63)).map D.int:=by
  unfold cutL
  simp [List.map_drop,List.map_take]
 refine for_inv (fun ds rho M'=>(∀ d∈ds,∃ n,d=D.int n)/\M'=M/\∃ (s:Int) (c:Option D),rho=[some (.rol (ns.map D.int)),some (.int s),c]/\0<=s/\s < 2147483647) ?_ ?_ _ _ _ ⟨hall,rfl,3809,none,rfl,by decide,by decide⟩
 ·rintro d r rho M' N ⟨hd,rfl,s,c,rfl,h0,h1⟩ hN
  obtain ⟨n,rfl⟩:=hd _ List.mem_cons_self
  refine ⟨mok_r (by decide) (by decide),nz (by decide),nz (by decide),?_⟩
  refine hN _ _ ⟨fun d h=>hd d (List.mem_cons_of_mem _ h),rfl,_,_,rfl,?_⟩
  exact fmod_pos (by decide)
 ·rintro rho M' ⟨_,rfl,s,c,rfl,h0,h1⟩
  have r:=hQ ⟨cutL ns none (some 63),0,0,s,0⟩ ⟨Int.le_refl 0,Int.le_refl 0,h0,h1,Int.le_refl 0⟩
  refine ⟨by show 5<=sizeLine;decide,?_⟩
  rw [hcut]
  exact Cut.new hM (Rng.hb ⟨cutL ns none (some 63),0,0,s,0⟩ _) r
theorem ok__law_fraction_words {f:Addr} {fd:FuncData} (F:F__law_fraction_words K f fd) (g_str:mg "str"=none):FnD P w K mg base Tb 1 f fd ["_law_value"] sp__law_fraction_words:=by
 refine fnD_of _ F sc__law_fraction_words (by rintro ds M Q E ⟨q,rfl,_⟩;rfl) (fun cdv A outer s H EV hr=>(ds_one (dp_ret (dv_add (dv_callTy call_str_int ref_str (by rfl) g_str (by decide +kernel) (da_cons (dv_ix (dv_var 0) dv_int) da_nil)) (dv_if (dt_ne hr.units (dv_ix (dv_var 0) dv_int) dv_int) (dv_add dv_str (dv_callTy call_str_int ref_str (by rfl) g_str (by decide +kernel) (da_cons (dv_ix (dv_var 0) dv_int) da_nil))) dv_str))))) ?_
 rintro ds M Q E hM hD ⟨q,rfl,hq,hQ⟩
 have h1:=Nat.le_trans (qs_num q) hq
 have h2:=Nat.le_trans (qs_den' q) hq
 have l1:=itx_len h1
 have l2:=itx_len h2
 have e1:(Str.ofString "/").length=1:=by decide +kernel
 have z:sizeLine=16777216:=rfl
 walk_at "R"
 refine e_str (lg_of h1) ?_
 walk_at "R"
 unfold qtx at hQ
 refine ifn (fun h=>?_) (fun h=>?_)
 ·rw [if_neg (by omega)] at hQ
  walk_at "R"
  refine e_str (lg_of h2) ?_
  walk_at "R"
  refine e_adds (by omega) ?_
  walk_at "R"
  refine e_adds (by rw [str_len];omega) ?_
  exact Cut.same rfl hM hQ
 ·rw [if_pos (by omega)] at hQ
  walk_at "R"
  refine e_adds (by rw [show (Str.ofString "").length=0 from rfl];omega) ?_
  refine Cut.same rfl hM ?_
  rw [str_nil2]
  exact hQ
theorem _law_text_all {f:Addr} {fd:FuncData} (F:F__law_text K f fd) (I__law_step_text:∃ (f2:Addr) (fd2:FuncData),F__law_step_text K f2 fd2/\mg "_law_step_text"=some (.ref f2)) (mgs:mg "_law_text"=some (.ref f)) (C__law_fraction_words:Cal__law_fraction_words P w K mg base Tb) (g_str:mg "str"=none) (g_isinstance:mg "isinstance"=none):∀ n,FnD P w K mg base Tb (2 * n+10) f fd ["_law_pipeline_here"] (sp__law_text_n n)
 | 0=>⟨⟨fun vs H Q E h=>by obtain ⟨_,_,_,_,_,_,_,⟨_,_,_,h,_⟩,_⟩:=h;exact h.elim,fun A outer s H args us vs Q E hr he hb hv h=>by obtain ⟨_,_,_,_,_,_,_,⟨_,_,_,h,_⟩,_⟩:=h;exact h.elim⟩⟩
 | n+1=>by
  obtain ⟨f2,fd2,F2,m2⟩:=id I__law_step_text
  have C__law_text:Cal P w K mg base Tb "_law_text" "_law_text" s__law_text [] [] (2 * n+10) ["_law_pipeline_here"] (sp__law_text_n n):=⟨f,fd,F,_law_text_all F I__law_step_text mgs C__law_fraction_words g_str g_isinstance n,mgs⟩
  have ok2:FnD P w K mg base Tb (2 * n+11) f2 fd2 ["_law_step"] (sp__law_step_text_n n):=by
   refine fnD_of _ F2 sc__law_step_text (by rintro ds M Q E ⟨nm,d,rfl,_⟩;rfl) (fun cdv A outer s H EV hr=>(ds_cons (dp_if (dt_in (dv_ix (dv_var 0) dv_int) (dv_tup (da_cons dv_str (da_cons dv_str (da_cons dv_str da_nil))))) (ds_one (dp_ret (dv_add (dv_add (dv_add (dv_ix (dv_var 0) dv_int) dv_str) (dv_bm PySem.F.plainAttrs_str PySem.F.slot_str_join PySem.F.type_str_join mt_join ref_join dv_str (da_cons (dv_lc rfl sc__law_step_text.nd (di_seq (dv_slice (dv_var 0) (do_some dv_int) do_none)) (blkOk_by (own:=[("_law_part",1)]) (N:=["_law_step","_law_part","_law_words","_law_thing"]) (sc:=defScope s__law_step_text) (by decide +kernel)) (tgn_name (i:=1) (by decide)) (fun _ _ _ _ _=>pg_name (i:=1) sc__law_step_text.nd rfl (by first | exact Or.inl rfl | exact Or.inr rfl)) (fun _ _ _ _ _=>dts_nil) (fun _ _ _ _ _=>(dv_call C__law_text.fn (hr.mono (by omega)) (by rfl) C__law_text.mgx C__law_text.F.kp (bd__law_text C__law_text.F) passL (da_cons (dv_var 1) da_nil)))) da_nil))) dv_str))) ds_nil)
 (ds_cons (dp_setLc 2 rfl sc__law_step_text.nd (di_seq (dv_var 0)) (blkOk_by (own:=[("_law_thing",3)]) (N:=["_law_step","_law_part","_law_words","_law_thing"]) (sc:=defScope s__law_step_text) (by decide +kernel)) (tgn_name (i:=3) (by decide)) (fun _ _ _ _ _=>pg_name (i:=3) sc__law_step_text.nd rfl (by first | exact Or.inl rfl | exact Or.inr rfl)) (fun _ _ _ _ _=>dts_nil) (fun _ _ _ _ _=>(dv_if (dt_tru (dv_callB (call_isi.or (call_isiT.or call_isiK)) ref_isi (by rfl) g_isinstance (by decide +kernel) (da_cons (dv_var 3) (da_cons (dv_bltn (by rfl) g_str (v:=.ty "str") (d:=.ty "str") DL.boot_str rfl fun _ _ _=>rfl) da_nil)))) (dv_var 3) (dv_call C__law_fraction_words.fn (hr.mono (by omega)) (by rfl) C__law_fraction_words.mgx C__law_fraction_words.F.kp (bd__law_fraction_words C__law_fraction_words.F) passL (da_cons (dv_var 3) da_nil)))) (sw_true rfl rfl rfl (by decide +kernel)))
 (ds_one (dp_ret (dv_bm PySem.F.plainAttrs_str PySem.F.slot_str_join PySem.F.type_str_join mt_join ref_join dv_str (da_cons (dv_var 2) da_nil))))))) ?_
   rintro ds M Q E hM hD ⟨nm,d,rfl,hd,hok,n4,hl,hQ⟩
   have zl:sizeLine=16777216:=rfl
   rcases hd.cases2 with ⟨w,rest,rfl,hj,hr,_,_⟩ | ⟨w,ps,rfl,hw,h2,h4,hp⟩
   ·walk_at "R"
    refine e_instr (vs:=jnV) rfl ?_
    rw [hj]
    walk_at "R"
    have ew:wStep (wPipe n) (.tup (.str w :: rest))=TL.joinL [32] (cl w :: rest.map thT):=by
     show (if L2.inV (.str w) jnV=true then _ else _)=_
     rw [hj];rfl
    rw [ew] at hl hQ
    have hrl:rest.length<=1000000:=by
     have e:=joinL_len (S:=[32]) (ps:=cl w :: rest.map thT) (by simp)
     have e2:([32]:List Nat).length=1:=rfl
     have e3:(cl w :: rest.map thT).length=rest.length+1:=by rw [List.length_cons,List.length_map]
     rw [e2,e3] at e
     omega
    have hr':∀ t∈rest,(∃ z,t = .str z)\/∃ q,t=qD q/\Fq12 q:=fun t ht=>by
     rcases hr with ⟨_,z,rfl,_⟩ | ⟨_,_,hr⟩
     ·exact .inl ⟨z,List.mem_singleton.mp ht⟩
     ·rcases hr t ht with ⟨q,e,hq⟩ | ⟨z,e,_⟩
      ·exact .inr ⟨q,e,hq⟩
      ·exact .inl ⟨z,e⟩
    refine lc_mapD (fun t=>D.str (SX.S (thT t))) (.str w :: rest) (by rw [List.length_cons];omega) (fun t ht N hN=>?_) ?_
    ·rcases (List.mem_cons.mp ht).elim (fun e=>.inl ⟨w,e⟩) (hr' t) with ⟨z,rfl⟩ | ⟨q,rfl,hq⟩
     ·walk_at "R"
      rw [show SX.S (thT (.str z))=z from S_cl z] at hN
      exact hN
     ·obtain ⟨b1,b2⟩:=q_bz hq
      walk_at "R"
      refine isi_s rfl ?_
      rw [show isStr (qD q)=false from rfl]
      walk_at "R"
      refine ⟨q,rfl,Nat.max_le.mpr ⟨by omega,by show bs q.den<=_;have e9:bs q.den=bz (q.den:Int):=rfl;omega⟩,?_⟩
      rw [show qtx q=SX.S (thT (qD q)) by rw [thT_q,S_cl]]
      exact hN
    walk_at "R"
    refine e_joinS (S:=[32]) (ps:=cl w :: rest.map thT) (by decide +kernel) (by decide) (by simp) hl ?_ ?_
    ·rw [List.map_cons,List.map_cons,List.map_map];rfl
    exact Cut.same rfl hM hQ
   ·walk_at "R"
    refine e_instr (vs:=jnV) rfl ?_
    rw [in_jn hw]
    walk_at "R"
    have ew:wStep (wPipe n) (.tup (.str w :: ps))=cl w ++ 40 :: (TL.joinL [59,32] (ps.map (wPipe n)) ++ [41]):=by
     show (if L2.inV (.str w) jnV=true then _ else _)=_
     rw [in_jn hw];rfl
    rw [ew] at hl hQ
    have hl2:(TL.joinL [59,32] (ps.map (wPipe n))).length<=1000000:=by
     simp at hl
     omega
    have hwl:w.length<=8:=by rcases hw with rfl | rfl | rfl <;> decide +kernel
    have o1:(Str.ofString "(").length=1:=by decide +kernel
    have o2:(Str.ofString ")").length=1:=by decide +kernel
    refine e_adds (by omega) ?_
    walk_at "R"
    refine e_slt (ys:=ps) (cut_from 1) ?_
    walk_at "R"
    refine lc_mapD (fun p=>D.str (SX.S (wPipe n p))) ps (by omega) (fun p hp' N hN=>?_) ?_
    ·walk_at "R"
     exact ⟨nm,p,rfl,hp p hp',hok,by omega,Nat.le_trans (joinL_part (S:=[59,32]) (List.mem_map_of_mem hp')) hl2,hN⟩
    walk_at "R"
    refine e_joinS (S:=[59,32]) (ps:=ps.map (wPipe n)) (by decide +kernel) (by decide) (fun e=>by rw [List.map_eq_nil_iff] at e;rw [e] at h2;exact absurd h2 (by decide)) hl2 (by rw [List.map_map];rfl) ?_
    walk_at "R"
    have hjl:(SX.S (TL.joinL [59,32] (ps.map (wPipe n)))).length=(TL.joinL [59,32] (ps.map (wPipe n))).length:=S_len' _
    refine e_adds (by rw [str_len];omega) ?_
    walk_at "R"
    refine e_adds (by rw [str_len,str_len];omega) ?_
    refine Cut.same rfl hM ?_
    have ev:((w ++ Str.ofString "(") ++ SX.S (TL.joinL [59,32] (ps.map (wPipe n)))) ++ Str.ofString ")"=SX.S (cl w ++ 40 :: (TL.joinL [59,32] (ps.map (wPipe n)) ++ [41])):=by
     rw [show Str.ofString "("=SX.S [40] by decide +kernel,show Str.ofString ")"=SX.S [41] by decide +kernel]
     conv=>lhs;rw [<- S_cl w]
     rw [SX.S_cat,SX.S_cat,SX.S_cat]
     congr 1
     simp
    rw [ev]
    exact hQ
  have C__law_step_text:Cal P w K mg base Tb "_law_step_text" "_law_step_text" s__law_step_text [] [] (2 * n+11) ["_law_step"] (sp__law_step_text_n n):=⟨f2,fd2,F2,ok2,m2⟩
  refine fnD_of _ F sc__law_text (by rintro ds M Q E ⟨nm,d,rfl,_⟩;rfl) (fun cdv A outer s H EV hr=>(ds_one (dp_ret (dv_if (dt_ne hr.units (dv_var 0) (dv_tup da_nil)) (dv_bm PySem.F.plainAttrs_str PySem.F.slot_str_join PySem.F.type_str_join mt_join ref_join dv_str (da_cons (dv_lc rfl sc__law_text.nd (di_seq (dv_var 0)) (blkOk_by (own:=[("_law_step",1)]) (N:=["_law_pipeline_here","_law_step"]) (sc:=defScope s__law_text) (by decide +kernel)) (tgn_name (i:=1) (by decide)) (fun _ _ _ _ _=>pg_name (i:=1) sc__law_text.nd rfl (by first | exact Or.inl rfl | exact Or.inr rfl)) (fun _ _ _ _ _=>dts_nil) (fun _ _ _ _ _=>(dv_call C__law_step_text.fn (hr.mono (by omega)) (by rfl) C__law_step_text.mgx C__law_step_text.F.kp (bd__law_step_text C__law_step_text.F) passL (da_cons (dv_var 1) da_nil)))) da_nil)) dv_str)))) ?_
  rintro ds M Q E hM hD ⟨nm,d,rfl,⟨ss,rfl,hl,hs⟩,hok,n4,hlen,hQ⟩
  have zl:sizeLine=16777216:=rfl
  walk_at "R"
  cases ss with
  | nil =>
   refine e_neT1 ?_
   walk_at "R"
   rw [show SX.S (wPipe (n+1) (.tup []))=Str.ofString "same" from S_cl _] at hQ
   exact Cut.same rfl hM hQ
  | cons s ss =>
   obtain ⟨z1,z2⟩:=TPipe.pzd hok (n:=n+1) ⟨s :: ss,rfl,hl,hs⟩
   refine e_neT0 z1 (by omega) ?_
   walk_at "R"
   have ew:wPipe (n+1) (.tup (s :: ss))=TL.joinL [32,124,32] ((s :: ss).map (wStep (wPipe n))):=rfl
   rw [ew] at hlen hQ
   refine lc_mapD (fun t=>D.str (SX.S (wStep (wPipe n) t))) (s :: ss) (by omega) (fun t ht N hN=>?_) ?_
   ·walk_at "R"
    exact ⟨nm,t,rfl,hs t ht,hok,by omega,Nat.le_trans (joinL_part (S:=[32,124,32]) (List.mem_map_of_mem ht)) hlen,hN⟩
   walk_at "R"
   refine e_joinS (S:=[32,124,32]) (ps:=(s :: ss).map (wStep (wPipe n))) (by decide +kernel) (by decide) (by simp) hlen (by rw [List.map_map];rfl) ?_
   exact Cut.same rfl hM hQ
theorem ok__law_text {f:Addr} {fd:FuncData} (F:F__law_text K f fd) (I__law_step_text:∃ (f2:Addr) (fd2:FuncData),F__law_step_text K f2 fd2/\mg "_law_step_text"=some (.ref f2)) (mgs:mg "_law_text"=some (.ref f)) (C__law_fraction_words:Cal__law_fraction_words P w K mg base Tb) (g_str:mg "str"=none) (g_isinstance:mg "isinstance"=none):FnD P w K mg base Tb 30 f fd ["_law_pipeline_here"] sp__law_text:=by
 refine ⟨⟨fun vs H Q E h=>?_,fun A outer s H args us vs Q E hr he hb hv h=>?_⟩⟩
 ·obtain ⟨al,M,ds,Q',E',w',r,⟨n,hn,h⟩,p,px⟩:=h
  exact (_law_text_all F I__law_step_text mgs C__law_fraction_words g_str g_isinstance n).ok.len vs H Q E ⟨al,M,ds,Q',E',w',r,h,p,px⟩
 ·obtain ⟨al,M,ds,Q',E',w',r,⟨n,hn,h⟩,p,px⟩:=h
  exact ((_law_text_all F I__law_step_text mgs C__law_fraction_words g_str g_isinstance n).mono (show 2 * n+10<=30 by omega)).ok.run A outer s H args us vs Q E hr he hb hv ⟨al,M,ds,Q',E',w',r,h,p,px⟩
theorem ok__law_draw {f:Addr} {fd:FuncData} (F:F__law_draw K f fd) (g_len:mg "len"=none):FnD P w K mg base Tb 1 f fd ["_law_rng","_law_many"] sp__law_draw:=by
 refine fnD_of _ F sc__law_draw (by rintro ds M Q E ⟨i,m,rfl,_⟩;rfl) (fun cdv A outer s H EV hr=>(ds_cons (dp_if (dt_w (dw_and (dt_eq hr.units (dv_ix (dv_var 0) dv_int) dv_int) (dw_and1 (dt_lt (dv_ix (dv_var 0) dv_int) (dv_callB call_len ref_len (by rfl) g_len PySem.boot_len (da_cons (dv_ix (dv_var 0) dv_int) da_nil)))))) (ds_cons (dp_set 2 sc__law_draw.nd (dv_ix (dv_ix (dv_var 0) dv_int) (dv_ix (dv_var 0) dv_int)))
 (ds_cons (dp_asg (dv_add (dv_ix (dv_var 0) dv_int) dv_int) (dg_sub (dv_var 0) dv_int))
 (ds_one (dp_if (dt_ge (dv_var 2) (dv_pow dv_int dv_int)) (ds_one (dp_asg (dv_var 2) (dg_sub (dv_var 0) dv_int))) (ds_one (dp_asg (dv_mod (dv_add (dv_add (dv_mul (dv_ix (dv_var 0) dv_int) dv_int) (dv_mod (dv_var 2) dv_int)) dv_int) dv_int) (dg_sub (dv_var 0) dv_int))))))) ds_nil)
 (ds_cons (dp_if (dt_gt (dv_ix (dv_var 0) dv_int) dv_int) (ds_cons (dp_set 3 sc__law_draw.nd (dv_mod (dv_ix (dv_var 0) dv_int) (dv_var 1)))
 (ds_cons (dp_asg (dv_fdiv (dv_ix (dv_var 0) dv_int) (dv_var 1)) (dg_sub (dv_var 0) dv_int))
 (ds_one (dp_ret (dv_var 3))))) ds_nil)
 (ds_cons (dp_asg (dv_add (dv_ix (dv_var 0) dv_int) dv_int) (dg_sub (dv_var 0) dv_int))
 (ds_cons (dp_set 4 sc__law_draw.nd (dv_mod (dv_add (dv_ix (dv_var 0) dv_int) (dv_mul (dv_ix (dv_var 0) dv_int) dv_int)) dv_int))
 (ds_cons (dp_asg (dv_mod (dv_add (dv_add (dv_pow (dv_var 4) dv_int) (dv_mul dv_int (dv_var 4))) dv_int) dv_int) (dg_sub (dv_var 0) dv_int))
 (ds_one (dp_ret (dv_mod (dv_add (dv_fdiv (dv_ix (dv_var 0) dv_int) dv_int) (dv_mul (dv_mod (dv_ix (dv_var 0) dv_int) dv_int) dv_int)) (dv_var 1)))))))))) ?_
 rintro ds M Q E hM hD ⟨i,m,rfl,⟨r,hi,ok⟩,hm,hm2,hQ⟩
 have hl:i < M.length:=(List.getElem?_eq_some_iff.mp hi).1
 have nm:m≠0:=by omega
 have cm:CDivX m:=cdx_small hm hm2
 refine e_cut (fun rho M1=>∃ (r':Rng) (c:Option D),rho=[some (.mt i),some (.int m),c,none,none]/\r'.Ok/\M1=M.set i (some r'.mo)) ?_ ?_
 ·rintro rho M1 ⟨r',c,rfl,ok',e1⟩
  have h1:M1[i]?=some (some r'.mo):=by rw [e1,List.getElem?_set_self hl]
  unfold Rng.mo Rng.items at h1
  walk_at "R"
  refine ifd (fun hc=>?_) (fun hc=>?_)
  ·walk_at "R"
   intro M2 e2 h2
   walk_at "R"
   subst e1
   rw [List.set_set] at e2
   exact Cut.rg ⟨⟨r'.ns,r'.p,r'.c.fdiv m,r'.s,r'.k⟩,⟨ok'.p0,Int.fdiv_nonneg ok'.c0 (by omega),ok'.s0,ok'.s1,ok'.k0⟩,e2⟩ rfl hM (hQ _ _ ⟨⟨r'.ns,r'.p,r'.c.fdiv m,r'.s,r'.k⟩,⟨ok'.p0,Int.fdiv_nonneg ok'.c0 (by omega),ok'.s0,ok'.s1,ok'.k0⟩,e2⟩ (fmod_pos hm).1 (fmod_pos hm).2)
  ·walk_at "R"
   intro M2 e2 h2
   have b3:=fmod_pos (a:=r'.s+(r'.k+1) * 7927) (b:=2147483647) (by decide)
   walk_at "R"
   intro M3 e3 h3
   walk_at "R"
   have b4:=fmod_pos (a:=((r'.s+(r'.k+1) * 7927).fmod 2147483647 ^ (3:Int).toNat+30013 * (r'.s+(r'.k+1) * 7927).fmod 2147483647+1999)) (b:=2147483647) (by decide)
   subst e1
   rw [List.set_set] at e2
   rw [e2,List.set_set] at e3
   have q:RgTo M i M3:=⟨⟨r'.ns,r'.p,r'.c,_,r'.k+1⟩,⟨ok'.p0,ok'.c0,b4.1,b4.2,by have:=ok'.k0;show 0<=r'.k+1;omega⟩,e3⟩
   exact Cut.rg q rfl hM (hQ _ _ q (fmod_pos hm).1 (fmod_pos hm).2)
 ·intro N hN
  have h1:=hi
  unfold Rng.mo Rng.items at h1
  have hN':N [some (.mt i),some (.int m),none,none,none] M:=hN _ _ ⟨r,none,rfl,ok,(RgTo.same hi)⟩
  walk_at "R"
  refine ifd (fun hc=>?_) (fun hc=>hN')
  walk_at "R"
  refine ifd (fun hp=>?_) (fun hp=>hN')
  obtain ⟨x,hn,hx⟩:=at_ex ok.p0 hp
  obtain ⟨n,_,rfl⟩:=List.mem_map.mp hx
  walk_at "R"
  refine e_ix (d:=.lst _) rfl hn ?_
  walk_at "R"
  intro M2 e2 h2
  walk_at "R"
  refine ifd (fun hg=>?_) (fun hg=>?_)
  ·walk_at "R"
   intro M3 e3 h3
   refine hN _ _ ⟨⟨r.ns,r.p+1,n,r.s,r.k⟩,_,rfl,⟨?_,?_,ok.s0,ok.s1,ok.k0⟩,?_⟩
   ·have:=ok.p0;show 0<=r.p+1;omega
   ·exact Int.le_trans (by decide) hg
   ·rw [e3,e2,List.set_set];rfl
  ·walk_at "R"
   intro M3 e3 h3
   refine hN _ _ ⟨⟨r.ns,r.p+1,r.c,(r.s * 36217+n.fmod 2147483579+19).fmod 2147483647,r.k⟩,_,rfl,⟨?_,ok.c0,(fmod_pos (by decide)).1,(fmod_pos (by decide)).2,ok.k0⟩,?_⟩
   ·have:=ok.p0;show 0<=r.p+1;omega
   ·rw [e3,e2,List.set_set];rfl
theorem ok__law_pick {f:Addr} {fd:FuncData} (F:F__law_pick K f fd) (C__law_draw:Cal__law_draw P w K mg base Tb) (g_len:mg "len"=none):FnD P w K mg base Tb 2 f fd ["_law_rng","_law_some"] sp__law_pick:=by
 refine fnD_of _ F sc__law_pick (by rintro ds M Q E ⟨i,x,xs,rfl,_⟩;rfl) (fun cdv A outer s H EV hr=>(ds_one (dp_ret (dv_ix (dv_var 1) (dv_call C__law_draw.fn (hr.mono (by decide)) (by rfl) C__law_draw.mgx C__law_draw.F.kp (bd__law_draw C__law_draw.F) hxF (da_cons (dv_var 0) (da_cons (dv_callB call_len ref_len (by rfl) g_len PySem.boot_len (da_cons (dv_var 1) da_nil)) da_nil))))))) ?_
 rintro ds M Q E hM hD ⟨i,x,xs,rfl,ha,hx,h0,hz,hQ⟩
 have hhb:∀ d∈xs,d.hb M.length=true:=pk_hb hx (by have h:(_ && (_ && _))=true:=hD;simp only [Bool.and_eq_true] at h;exact h.2.1)
 have hlen:0 < xs.length:=List.length_pos_iff.mpr h0
 walk_at "R"
 refine pk_len hx ?_
 walk_at "R"
 refine ⟨i,xs.length,rfl,ha,by omega,Int.lt_of_le_of_lt (Int.ofNat_le.mpr hz) (by decide +kernel),fun k M' ht k0 k1=>?_⟩
 obtain ⟨d,hd,hm⟩:=at_ex k0 k1
 refine pk_ix hx hd ?_
 exact Cut.rg ht (hhb d hm) hM (hQ d M' ht hm)
theorem ok__law_lowest {f:Addr} {fd:FuncData} (F:F__law_lowest K f fd) (g_abs:mg "abs"=none) (NS:Seer P base):FnD P w K mg base Tb 33 f fd ["_law_top","_law_bottom"] sp__law_lowest:=by
 refine fnD_of _ F sc__law_lowest (by rintro ds M Q E ⟨a,b,rfl,_⟩;rfl) (fun cdv A outer s H EV hr=>(ds_cons (dp_par 2 3 rfl sc__law_lowest.nd (da_cons (dv_callB call_abs ref_abs (by rfl) g_abs (by decide +kernel) (da_cons (dv_var 0) da_nil)) (da_cons (dv_callB call_abs ref_abs (by rfl) g_abs (by decide +kernel) (da_cons (dv_var 1) da_nil)) da_nil)) (by rfl))
 (ds_cons (dp_while PassesOwn.leaving (dt_ne hr.units (dv_var 3) dv_int) (ds_one (dp_par 2 3 rfl sc__law_lowest.nd (da_cons (dv_var 3) (da_cons (dv_mod (dv_var 2) (dv_var 3)) da_nil)) (by rfl))))
 (ds_cons (dp_if (dt_lt (dv_var 1) dv_int) (ds_one (dp_set 2 sc__law_lowest.nd (dv_sub dv_int (dv_var 2)))) ds_nil)
 (ds_one (dp_ret (dv_tup (da_cons (dv_fdivP NS (hr.mono (by decide)) (dv_var 0) (dv_var 2)) (da_cons (dv_fdivP NS (hr.mono (by decide)) (dv_var 1) (dv_var 2)) da_nil))))))))) ?_
 rintro ds M Q E hM hD ⟨a,b,rfl,hb,hs,hQ⟩
 refine wh_inv (fun rho M'=>M'=M/\∃ p q:Nat,rho=[some (.int a),some (.int b),some (.int (p:Int)),some (.int (q:Int))]/\Nat.gcd p q=Nat.gcd a.natAbs b.natAbs) (fun rho _=>match rho with
  | [_,_,_,some (.int q)]=>q.natAbs
  | _=>0) ?_ _ _ ⟨rfl,a.natAbs,b.natAbs,rfl,rfl⟩
 rintro rho M' N ⟨rfl,p,q,rfl,hg⟩ hN
 refine ifn (fun h=>?_) (fun h=>?_)
 ·have hq:q≠0:=fun e=>h (by rw [e];rfl)
  refine ⟨fun e=>hq (Int.ofNat.inj e),?_⟩
  refine hN _ _ ⟨rfl,q,p % q,?_,?_⟩ ?_
  ·show [some (D.int a),some (D.int b),some (D.int (q:Int)),some (D.int ((p:Int).fmod (q:Int)))]=_
   rw [fmod_nat]
  ·rw [<- hg,Nat.gcd_comm q (p % q),<- Nat.gcd_rec,Nat.gcd_comm]
  ·show (Int.fmod (p:Int) (q:Int)).natAbs < (q:Int).natAbs
   rw [fmod_nat]
   exact Nat.mod_lt p (Nat.pos_of_ne_zero hq)
 ·have hq:q=0:=Int.ofNat.inj h
  subst hq
  rw [Nat.gcd_zero_right] at hg
  have hp:p≠0:=by
   rw [hg]
   exact Nat.pos_iff_ne_zero.mp (Nat.gcd_pos_of_pos_right _ (by omega))
  have hz:bz (p:Int)<=16000000:=Nat.le_trans (bs_mono (by
   show p<=b.natAbs
   rw [hg];exact Nat.le_of_dvd (by omega) (Nat.gcd_dvd_right _ _))) hs
  refine ifd (fun hn=>?_) (fun hn=>?_)
  ·have cp:(0 - (p:Int))≠0:=by omega
   refine ⟨cp,cp,by show 2<=sizeLine;decide,?_⟩
   refine Cut.same rfl hM ?_
   have e:(D.tup [.int (a.fdiv (0 - (p:Int))),.int (b.fdiv (0 - (p:Int)))])=qD (Rat.divInt a b):=by
    have h1:=low_num a b hb
    have h2:=low_den a b hb
    rw [if_pos hn] at h1 h2
    have e:(0 - (p:Int)) = -(Int.gcd a b:Int):=by rw [hg,Int.zero_sub];rfl
    rw [e,h1,h2];rfl
   exact e ▸ hQ
  ·have cp:(p:Int)≠0:=by omega
   refine ⟨cp,cp,by show 2<=sizeLine;decide,?_⟩
   refine Cut.same rfl hM ?_
   have e:(D.tup [.int (a.fdiv (p:Int)),.int (b.fdiv (p:Int))])=qD (Rat.divInt a b):=by
    have h1:=low_num a b hb
    have h2:=low_den a b hb
    rw [if_neg hn] at h1 h2
    have e:(p:Int)=(Int.gcd a b:Int):=by rw [hg];rfl
    rw [e,h1,h2];rfl
   exact e ▸ hQ
theorem ok__law_small {f:Addr} {fd:FuncData} (F:F__law_small K f fd) (C__law_pick:Cal__law_pick P w K mg base Tb) (C__law_lowest:Cal__law_lowest P w K mg base Tb) (C__law_draw:Cal__law_draw P w K mg base Tb):FnD P w K mg base Tb 34 f fd ["_law_rng"] sp__law_small:=by
 refine fnD_of _ F sc__law_small (by rintro ds M Q E ⟨i,rfl,_⟩;rfl) (fun cdv A outer s H EV hr=>(ds_one (dp_ret (dv_call C__law_pick.fn (hr.mono (by decide)) (by rfl) C__law_pick.mgx C__law_pick.F.kp (bd__law_pick C__law_pick.F) hxF (da_cons (dv_var 0) (da_cons (dv_lst (da_cons (dv_tup (da_cons dv_int (da_cons dv_int da_nil))) (da_cons (dv_tup (da_cons dv_int (da_cons dv_int da_nil))) (da_cons (dv_call C__law_lowest.fn (hr.mono (by decide)) (by rfl) C__law_lowest.mgx C__law_lowest.F.kp (bd__law_lowest C__law_lowest.F) hxF (da_cons (dv_sub (dv_call C__law_draw.fn (hr.mono (by decide)) (by rfl) C__law_draw.mgx C__law_draw.F.kp (bd__law_draw C__law_draw.F) hxF (da_cons (dv_var 0) (da_cons dv_int da_nil))) dv_int) (da_cons (dv_add dv_int (dv_call C__law_draw.fn (hr.mono (by decide)) (by rfl) C__law_draw.mgx C__law_draw.F.kp (bd__law_draw C__law_draw.F) hxF (da_cons (dv_var 0) (da_cons dv_int da_nil)))) da_nil))) da_nil)))) da_nil)))))) ?_
 rintro ds M Q E hM hD ⟨i,rfl,ha,hQ⟩
 walk_at "R"
 refine ⟨i,13,rfl,ha,by decide,by decide +kernel,fun k M1 t1 k0 k1=>?_⟩
 have a1:=t1.at ha
 walk_at "R"
 refine ⟨i,4,rfl,a1,by decide,by decide +kernel,fun j M2 t2 j0 j1=>?_⟩
 have a2:=t2.at a1
 walk_at "R"
 have hb:bz (1+j)<=3:=bi_lt (by omega) (by omega)
 have hb2:bz (k - 6)<=4:=bi_lt (by omega) (by omega)
 refine ⟨k - 6,1+j,rfl,by omega,by omega,?_⟩
 walk_at "R"
 refine ⟨i,_,_,rfl,a2,.inl fun _=>rfl,(by intro h;cases h),by show 3<=sizeLine;decide,fun d M3 t3 hd=>?_⟩
 have t:=(t1.trans t2).trans t3
 have h1:=qs_divInt (k - 6) (1+j) (by omega)
 have hb6:-6<=k - 6:=by omega
 have hb7:k - 6<=6:=by have:k < 13:=k1;omega
 have hj1:1<=1+j:=by omega
 have hj4:1+j<=4:=by have:j < 4:=j1;omega
 obtain ⟨q,rfl,hq⟩:∃ q:Rat,d=qD q/\Of q:=by
  simp only [List.mem_cons,List.not_mem_nil,or_false] at hd
  rcases hd with rfl | rfl | rfl
  ·exact ⟨0,rfl,by decide +kernel,⟨0,by decide +kernel⟩,by decide +kernel,by decide +kernel⟩
  ·exact ⟨qHalf,rfl,by decide +kernel,⟨6,by decide +kernel⟩,by decide +kernel,by decide +kernel⟩
  ·have hz:=of_divInt hb6 hb7 hj1 hj4
   exact ⟨_,rfl,by omega,hz.1,hz.2.1,hz.2.2⟩
 exact Cut.rg t rfl hM (hQ _ _ t hq)
theorem ok__law_unit {f:Addr} {fd:FuncData} (F:F__law_unit K f fd) (C__law_pick:Cal__law_pick P w K mg base Tb):FnD P w K mg base Tb 3 f fd ["_law_rng"] sp__law_unit:=by
 refine fnD_of _ F sc__law_unit (by rintro ds M Q E ⟨i,rfl,_⟩;rfl) (fun cdv A outer s H EV hr=>(ds_one (dp_ret (dv_call C__law_pick.fn (hr.mono (by decide)) (by rfl) C__law_pick.mgx C__law_pick.F.kp (bd__law_pick C__law_pick.F) hxF (da_cons (dv_var 0) (da_cons (dv_lst (da_cons (dv_tup (da_cons dv_int (da_cons dv_int da_nil))) (da_cons (dv_tup (da_cons dv_int (da_cons dv_int da_nil))) (da_cons (dv_tup (da_cons dv_int (da_cons dv_int da_nil))) (da_cons (dv_tup (da_cons dv_int (da_cons dv_int da_nil))) (da_cons (dv_tup (da_cons dv_int (da_cons dv_int da_nil))) (da_cons (dv_tup (da_cons dv_int (da_cons dv_int da_nil))) (da_cons (dv_tup (da_cons dv_int (da_cons dv_int da_nil))) (da_cons (dv_tup (da_cons dv_int (da_cons dv_int da_nil))) (da_cons (dv_tup (da_cons dv_int (da_cons dv_int da_nil))) (da_cons (dv_tup (da_cons dv_int (da_cons dv_int da_nil))) da_nil))))))))))) da_nil)))))) ?_
 rintro ds M Q E hM hD ⟨i,rfl,ha,hQ⟩
 walk_at "R"
 refine ⟨i,_,_,rfl,ha,.inl fun _=>rfl,(by intro h;cases h),by show 10<=sizeLine;decide,fun d M3 t hd=>?_⟩
 obtain ⟨q,rfl,hq,h0⟩:∃ q:Rat,d=qD q/\qs q<=3/\Un q:=by
  simp only [List.mem_cons,List.not_mem_nil,or_false] at hd
  rcases hd with rfl | rfl | rfl | rfl | rfl | rfl | rfl | rfl | rfl | rfl
  ·exact ⟨1,rfl,by decide +kernel,⟨by decide +kernel,⟨12,by decide +kernel⟩,⟨12,by decide +kernel⟩,by decide +kernel,by decide +kernel⟩⟩
  ·exact ⟨⟨1,2,by decide,by decide⟩,rfl,by decide +kernel,⟨by decide +kernel,⟨6,by decide +kernel⟩,⟨24,by decide +kernel⟩,by decide +kernel,by decide +kernel⟩⟩
  ·exact ⟨2,rfl,by decide +kernel,⟨by decide +kernel,⟨24,by decide +kernel⟩,⟨6,by decide +kernel⟩,by decide +kernel,by decide +kernel⟩⟩
  ·exact ⟨1,rfl,by decide +kernel,⟨by decide +kernel,⟨12,by decide +kernel⟩,⟨12,by decide +kernel⟩,by decide +kernel,by decide +kernel⟩⟩
  ·exact ⟨⟨3,2,by decide,by decide⟩,rfl,by decide +kernel,⟨by decide +kernel,⟨18,by decide +kernel⟩,⟨8,by decide +kernel⟩,by decide +kernel,by decide +kernel⟩⟩
  ·exact ⟨⟨1,3,by decide,by decide⟩,rfl,by decide +kernel,⟨by decide +kernel,⟨4,by decide +kernel⟩,⟨36,by decide +kernel⟩,by decide +kernel,by decide +kernel⟩⟩
  ·exact ⟨3,rfl,by decide +kernel,⟨by decide +kernel,⟨36,by decide +kernel⟩,⟨4,by decide +kernel⟩,by decide +kernel,by decide +kernel⟩⟩
  ·exact ⟨⟨1,4,by decide,by decide⟩,rfl,by decide +kernel,⟨by decide +kernel,⟨3,by decide +kernel⟩,⟨48,by decide +kernel⟩,by decide +kernel,by decide +kernel⟩⟩
  ·exact ⟨⟨2,3,by decide,by decide⟩,rfl,by decide +kernel,⟨by decide +kernel,⟨8,by decide +kernel⟩,⟨18,by decide +kernel⟩,by decide +kernel,by decide +kernel⟩⟩
  ·exact ⟨4,rfl,by decide +kernel,⟨by decide +kernel,⟨48,by decide +kernel⟩,⟨3,by decide +kernel⟩,by decide +kernel,by decide +kernel⟩⟩
 exact Cut.rg t rfl hM (hQ _ _ t hq h0)
theorem ok__law_rounding {f:Addr} {fd:FuncData} (F:F__law_rounding K f fd) (C__law_pick:Cal__law_pick P w K mg base Tb) (C__law_small:Cal__law_small P w K mg base Tb) (C__law_unit:Cal__law_unit P w K mg base Tb):FnD P w K mg base Tb 35 f fd ["_law_rng"] sp__law_rounding:=by
 refine fnD_of _ F sc__law_rounding (by rintro ds M Q E ⟨i,rfl,_⟩;rfl) (fun cdv A outer s H EV hr=>(ds_cons (dp_set 1 sc__law_rounding.nd (dv_call C__law_pick.fn (hr.mono (by decide)) (by rfl) C__law_pick.mgx C__law_pick.F.kp (bd__law_pick C__law_pick.F) hxF (da_cons (dv_var 0) (da_cons (dv_lst (da_cons dv_str (da_cons dv_str (da_cons dv_str da_nil)))) da_nil))))
 (ds_cons (dp_set 2 sc__law_rounding.nd (dv_tup (da_cons (dv_call C__law_unit.fn (hr.mono (by decide)) (by rfl) C__law_unit.mgx C__law_unit.F.kp (bd__law_unit C__law_unit.F) hxF (da_cons (dv_var 0) da_nil)) (da_cons (dv_call C__law_small.fn (hr.mono (by decide)) (by rfl) C__law_small.mgx C__law_small.F.kp (bd__law_small C__law_small.F) hxF (da_cons (dv_var 0) da_nil)) da_nil))))
 (ds_cons (dp_if (dt_eq hr.units (dv_var 1) dv_str) (ds_one (dp_set 2 sc__law_rounding.nd (dv_add (dv_var 2) (dv_tup (da_cons (dv_call C__law_pick.fn (hr.mono (by decide)) (by rfl) C__law_pick.mgx C__law_pick.F.kp (bd__law_pick C__law_pick.F) hxF (da_cons (dv_var 0) (da_cons (dv_lst (da_cons dv_str (da_cons dv_str (da_cons dv_str da_nil)))) da_nil))) da_nil))))) ds_nil)
 (ds_one (dp_ret (dv_add (dv_tup (da_cons (dv_var 1) da_nil)) (dv_var 2)))))))) ?_
 rintro ds M Q E hM hD ⟨i,rfl,ha,hQ⟩
 walk_at "R"
 refine ⟨i,_,_,rfl,ha,.inl fun _=>rfl,(by intro h;cases h),by show 3<=sizeLine;decide,fun d M1 t1 hd=>?_⟩
 have a1:=t1.at ha
 have hd':d = .str "floor"\/d = .str "ceiling"\/d = .str "nearest":=by simpa only [List.mem_cons,List.not_mem_nil,or_false] using hd
 clear hd
 walk_at "R"
 refine ⟨i,rfl,a1,fun u M2 t2 hu u0=>?_⟩
 have a2:=t2.at a1
 walk_at "R"
 refine ⟨i,rfl,a2,fun o M3 t3 ho=>?_⟩
 have a3:=t3.at a2
 have t:=(t1.trans t2).trans t3
 walk_at "R"
 rcases hd' with rfl | rfl | rfl
 ·walk_at "R"
  refine ifd (fun h=>absurd h (by decide +kernel)) (fun _=>?_)
  walk_at "R"
  refine ⟨by show 1+2<=sizeLine;decide,?_⟩
  exact Cut.rg t rfl hM (hQ _ _ t (.floor hu u0 ho))
 ·walk_at "R"
  refine ifd (fun h=>absurd h (by decide +kernel)) (fun _=>?_)
  walk_at "R"
  refine ⟨by show 1+2<=sizeLine;decide,?_⟩
  exact Cut.rg t rfl hM (hQ _ _ t (.ceiling hu u0 ho))
 ·walk_at "R"
  refine ifd (fun _=>?_) (fun h=>absurd rfl h)
  walk_at "R"
  refine ⟨i,_,_,rfl,a3,.inl fun _=>rfl,(by intro h;cases h),by show 3<=sizeLine;decide,fun d M4 t4 hd=>?_⟩
  obtain ⟨z,rfl,hz⟩:∃ z:Str,d = .str z/\(z="up"\/z="down"\/z="even"):=by
   simp only [List.mem_cons,List.not_mem_nil,or_false] at hd
   rcases hd with rfl | rfl | rfl
   ·exact ⟨_,rfl,.inl rfl⟩
   ·exact ⟨_,rfl,.inr (.inl rfl)⟩
   ·exact ⟨_,rfl,.inr (.inr rfl)⟩
  have t':=t.trans t4
  walk_at "R"
  refine ⟨by show 2+1<=sizeLine;decide,?_⟩
  walk_at "R"
  refine ⟨by show 1+3<=sizeLine;decide,?_⟩
  exact Cut.rg t' rfl hM (hQ _ _ t' (.nearest hu u0 ho hz))
theorem ok__law_plain {f:Addr} {fd:FuncData} (F:F__law_plain K f fd) (C__law_draw:Cal__law_draw P w K mg base Tb) (C__law_small:Cal__law_small P w K mg base Tb) (C__law_unit:Cal__law_unit P w K mg base Tb) (C__law_rounding:Cal__law_rounding P w K mg base Tb):FnD P w K mg base Tb 36 f fd ["_law_rng"] sp__law_plain:=by
 refine fnD_of _ F sc__law_plain (by rintro ds M Q E ⟨i,rfl,_⟩;rfl) (fun cdv A outer s H EV hr=>(ds_cons (dp_set 1 sc__law_plain.nd (dv_call C__law_draw.fn (hr.mono (by decide)) (by rfl) C__law_draw.mgx C__law_draw.F.kp (bd__law_draw C__law_draw.F) hxF (da_cons (dv_var 0) (da_cons dv_int da_nil))))
 (ds_cons (dp_if (dt_eq hr.units (dv_var 1) dv_int) (ds_one (dp_ret (dv_tup (da_cons dv_str (da_cons (dv_call C__law_small.fn (hr.mono (by decide)) (by rfl) C__law_small.mgx C__law_small.F.kp (bd__law_small C__law_small.F) hxF (da_cons (dv_var 0) da_nil)) da_nil))))) ds_nil)
 (ds_cons (dp_if (dt_eq hr.units (dv_var 1) dv_int) (ds_one (dp_ret (dv_tup (da_cons dv_str (da_cons (dv_call C__law_unit.fn (hr.mono (by decide)) (by rfl) C__law_unit.mgx C__law_unit.F.kp (bd__law_unit C__law_unit.F) hxF (da_cons (dv_var 0) da_nil)) da_nil))))) ds_nil)
 (ds_one (dp_ret (dv_call C__law_rounding.fn (hr.mono (by decide)) (by rfl) C__law_rounding.mgx C__law_rounding.F.kp (bd__law_rounding C__law_rounding.F) hxF (da_cons (dv_var 0) da_nil)))))))) ?_
 rintro ds M Q E hM hD ⟨i,rfl,ha,hQ⟩
 walk_at "R"
 refine ⟨i,6,rfl,ha,by decide,by decide +kernel,fun k M1 t1 k0 k1=>?_⟩
 have a1:=t1.at ha
 walk_at "R"
 refine ifd (fun h=>?_) (fun h=>?_)
 ·walk_at "R"
  refine ⟨i,rfl,a1,fun q M2 t2 hq=>?_⟩
  walk_at "R"
  exact Cut.rg (t1.trans t2) rfl hM (hQ _ _ _ (t1.trans t2) (.shift hq))
 walk_at "R"
 refine ifd (fun h=>?_) (fun h=>?_)
 ·walk_at "R"
  refine ⟨i,rfl,a1,fun q M2 t2 hq h0=>?_⟩
  walk_at "R"
  exact Cut.rg (t1.trans t2) rfl hM (hQ _ _ _ (t1.trans t2) (.scale hq h0))
 walk_at "R"
 refine ⟨i,rfl,a1,fun d M2 t2 hd=>?_⟩
 exact Cut.rg (t1.trans t2) (hd.hb fun _ z=>z.elim) hM (hQ _ _ _ (t1.trans t2) hd)
theorem ok__law_times {f:Addr} {fd:FuncData} (F:F__law_times K f fd) (C__law_lowest:Cal__law_lowest P w K mg base Tb):FnD P w K mg base Tb 34 f fd ["_law_one","_law_other"] sp__law_times:=by
 refine fnD_of _ F sc__law_times (by rintro ds M Q E ⟨a,b,rfl,_⟩;rfl) (fun cdv A outer s H EV hr=>(ds_one (dp_ret (dv_call C__law_lowest.fn (hr.mono (by decide)) (by rfl) C__law_lowest.mgx C__law_lowest.F.kp (bd__law_lowest C__law_lowest.F) hxF (da_cons (dv_mul (dv_ix (dv_var 0) dv_int) (dv_ix (dv_var 1) dv_int)) (da_cons (dv_mul (dv_ix (dv_var 0) dv_int) (dv_ix (dv_var 1) dv_int)) da_nil)))))) ?_
 rintro ds M Q E hM hD ⟨a,b,rfl,ha,hb,hQ⟩
 have:=qs_num a
 have:=qs_num b
 have:=qs_den' a
 have:=qs_den' b
 refine ⟨mok_b (by omega),mok_b (by omega),_,_,rfl,den_ne a b,Nat.le_trans (bi_mul _ _) (by omega),Cut.same rfl hM ?_⟩
 rw [divInt_mul];exact hQ
theorem ok__law_slope {f:Addr} {fd:FuncData} (F:F__law_slope K f fd) (C__law_times:Cal__law_times P w K mg base Tb) (g_len:mg "len"=none):FnD P w K mg base Tb 35 f fd ["_law_pipeline_here"] sp__law_slope:=by
 refine fnD_of _ F sc__law_slope (by rintro ds M Q E ⟨P,ps,rfl,_⟩;rfl) (fun cdv A outer s H EV hr=>(ds_cons (dp_set 1 sc__law_slope.nd (dv_tup (da_cons dv_int (da_cons dv_int da_nil))))
 (ds_cons (dp_for PassesOwn.leaving rfl (di_seq (dv_var 0)) (dg_name 2 sc__law_slope.nd) (ds_cons (dp_if (dt_eq hr.units (dv_ix (dv_var 2) dv_int) dv_str) (ds_one (dp_set 1 sc__law_slope.nd (dv_call C__law_times.fn (hr.mono (by decide)) (by rfl) C__law_times.mgx C__law_times.F.kp (bd__law_times C__law_times.F) hxF (da_cons (dv_var 1) (da_cons (dv_ix (dv_var 2) dv_int) da_nil))))) ds_nil)
 (ds_one (dp_if (dt_eq hr.units (dv_ix (dv_var 2) dv_int) dv_str) (ds_one (dp_set 1 sc__law_slope.nd (dv_call C__law_times.fn (hr.mono (by decide)) (by rfl) C__law_times.mgx C__law_times.F.kp (bd__law_times C__law_times.F) hxF (da_cons (dv_var 1) (da_cons (dv_tup (da_cons (dv_sub (dv_callB call_len ref_len (by rfl) g_len PySem.boot_len (da_cons (dv_var 2) da_nil)) dv_int) (da_cons dv_int da_nil))) da_nil))))) ds_nil))))
 (ds_one (dp_ret (dv_var 1)))))) ?_
 rintro ds M Q E hM hD ⟨P,ps,rfl,hP,hl,hs,hQ⟩
 walk_at "R"
 refine e_forS hP ?_
 refine for_list (fun p:D×Rat=>p.1) ps (fun r rho M'=>M'=M/\∃ (s:Rat) (c2:Option D),rho=[some P,some (qD s),c2]/\s * slopeP r=slopeP ps/\qs s+3 * r.length<=37/\∀ p∈r,GStep (fun _=>True) (fun _=>True) p.1 p.2) ⟨rfl,1,_,rfl,Rat.one_mul _,(by rw [show qs 1=1 by decide +kernel];omega),hs⟩ ?_ ?_
 ·rintro p r rho M1 N ⟨rfl,s,c2,rfl,h1,h2,h3⟩ hN
  have hp:=h3 p (List.mem_cons_self ..)
  have h4:∀ q∈r,GStep (fun _=>True) (fun _=>True) q.1 q.2:=fun q hq=>h3 q (List.mem_cons_of_mem _ hq)
  have hsl:=hp.sl
  rw [List.length_cons] at h2
  have next:∀ s',s'=s * p.2->N [some P,some (qD s'),some p.1] M1:=fun s' e=>hN _ _ ⟨rfl,s',_,rfl,by
   rw [e,<- h1];show s * p.2 * slopeP r=s * (p.2 * slopeP r);grind,by
   have:=qs_mul s p.2
   rw [e];omega,h4⟩
  have hqs:qs s<=37:=by omega
  obtain ⟨d,x⟩:=p
  replace hp:GStep (fun _=>True) (fun _=>True) d x:=hp
  cases hp with
  | shift a =>
   walk_at "R"
   refine ifd (fun h=>absurd h (by decide +kernel)) (fun _=>?_)
   walk_at "R"
   refine ifd (fun h=>absurd h (by decide +kernel)) (fun _=>?_)
   walk_at "R"
   exact next _ (by show s=s * 1;grind)
  | scale a b =>
   walk_at "R"
   refine ifd (fun _=>?_) (fun h=>absurd rfl h)
   walk_at "R"
   refine ⟨_,_,rfl,by omega,by omega,?_⟩
   walk_at "R"
   refine ifd (fun h=>absurd h (by decide +kernel)) (fun _=>?_)
   walk_at "R"
   exact next _ rfl
  | use a =>
   walk_at "R"
   refine ifd (fun h=>absurd h (by decide +kernel)) (fun _=>?_)
   walk_at "R"
   refine ifd (fun h=>absurd h (by decide +kernel)) (fun _=>?_)
   walk_at "R"
   exact next _ (by show s=s * 1;grind)
  | floor a b c =>
   walk_at "R"
   refine ifd (fun h=>absurd h (by decide +kernel)) (fun _=>?_)
   walk_at "R"
   refine ifd (fun h=>absurd h (by decide +kernel)) (fun _=>?_)
   walk_at "R"
   exact next _ (by show s=s * 1;grind)
  | ceiling a b c =>
   walk_at "R"
   refine ifd (fun h=>absurd h (by decide +kernel)) (fun _=>?_)
   walk_at "R"
   refine ifd (fun h=>absurd h (by decide +kernel)) (fun _=>?_)
   walk_at "R"
   exact next _ (by show s=s * 1;grind)
  | nearest a b c e =>
   walk_at "R"
   refine ifd (fun h=>absurd h (by decide +kernel)) (fun _=>?_)
   walk_at "R"
   refine ifd (fun h=>absurd h (by decide +kernel)) (fun _=>?_)
   walk_at "R"
   exact next _ (by show s=s * 1;grind)
  | @sum ps a b c =>
   walk_at "R"
   refine ifd (fun h=>absurd h (by decide +kernel)) (fun _=>?_)
   walk_at "R"
   refine ifd (fun _=>?_) (fun h=>absurd rfl h)
   walk_at "R"
   refine ⟨s,((ps.length:Nat):Rat),?_,by omega,by have:=qs_small _ b;omega,?_⟩
   ·show [qD s,D.tup [.int (((ps.length+1:Nat):Int) - 1),.int 1]]=_
    rw [show ((ps.length+1:Nat):Int) - 1=(ps.length:Int) by omega];rfl
   ·walk_at "R"
    exact next _ rfl
  | @pick w ps a b c e =>
   rcases a with rfl | rfl
   ·walk_at "R"
    refine ifd (fun h=>absurd h (by decide +kernel)) (fun _=>?_)
    walk_at "R"
    refine ifd (fun h=>absurd h (by decide +kernel)) (fun _=>?_)
    walk_at "R"
    exact next _ (by show s=s * 1;grind)
   ·walk_at "R"
    refine ifd (fun h=>absurd h (by decide +kernel)) (fun _=>?_)
    walk_at "R"
    refine ifd (fun h=>absurd h (by decide +kernel)) (fun _=>?_)
    walk_at "R"
    exact next _ (by show s=s * 1;grind)
 ·rintro rho M1 ⟨rfl,s,c2,rfl,h1,h2,h3⟩
  walk_at "R"
  refine Cut.same rfl hM ?_
  have:s=slopeP ps:=by rw [<- h1];show s=s * 1;grind
  rw [this];exact hQ
theorem ok__law_over {f:Addr} {fd:FuncData} (F:F__law_over K f fd) (C__law_lowest:Cal__law_lowest P w K mg base Tb):FnD P w K mg base Tb 34 f fd ["_law_one","_law_other"] sp__law_over:=by
 refine fnD_of _ F sc__law_over (by rintro ds M Q E ⟨a,b,rfl,_⟩;rfl) (fun cdv A outer s H EV hr=>(ds_one (dp_ret (dv_call C__law_lowest.fn (hr.mono (by decide)) (by rfl) C__law_lowest.mgx C__law_lowest.F.kp (bd__law_lowest C__law_lowest.F) hxF (da_cons (dv_mul (dv_ix (dv_var 0) dv_int) (dv_ix (dv_var 1) dv_int)) (da_cons (dv_mul (dv_ix (dv_var 0) dv_int) (dv_ix (dv_var 1) dv_int)) da_nil)))))) ?_
 rintro ds M Q E hM hD ⟨a,b,rfl,ha,hb,hQ⟩
 have:=qs_num a
 have:=qs_num b
 have:=qs_den' a
 have:=qs_den' b
 have hd:(a.den:Int)≠0:=by have:=a.den_nz;omega
 refine ⟨mok_b (by omega),mok_b (by omega),_,_,rfl,fun h=>?_,Nat.le_trans (bi_mul _ _) (by omega),Cut.same rfl hM ?_⟩
 ·exact hQ.1 (Rat.num_eq_zero.mp ((Int.mul_eq_zero.mp h).resolve_left hd))
 ·rw [divInt_div _ _ hQ.1];exact hQ.2
theorem pipe_all {f:Addr} {fd:FuncData} (F:F__law_pipeline K f fd) (mgs:mg "_law_pipeline"=some (.ref f)) (C__law_draw:Cal__law_draw P w K mg base Tb) (C__law_pick:Cal__law_pick P w K mg base Tb) (C__law_plain:Cal__law_plain P w K mg base Tb) (C__law_slope:Cal__law_slope P w K mg base Tb) (C__law_over:Cal__law_over P w K mg base Tb) (g_range:mg "range"=none) (g_tuple:mg "tuple"=none):∀ n,FnD P w K mg base Tb (n+56) f fd ["_law_rng","_law_names_here","_law_most","_law_deep"] (sp_pipe_n n)
 | 0=>⟨⟨fun vs H Q E h=>by obtain ⟨_,_,_,_,_,_,_,⟨_,_,_,_,_,_,_,_,_,_,_,h,_⟩,_⟩:=h;omega,fun A outer s H args us vs Q E hr he hb hv h=>by obtain ⟨_,_,_,_,_,_,_,⟨_,_,_,_,_,_,_,_,_,_,_,h,_⟩,_⟩:=h;omega⟩⟩
 | n+1=>by
  have C__law_pipeline:Cal P w K mg base Tb "_law_pipeline" "_law_pipeline" s__law_pipeline [] [] (n+56) ["_law_rng","_law_names_here","_law_most","_law_deep"] (sp_pipe_n n):=⟨f,fd,F,pipe_all F mgs C__law_draw C__law_pick C__law_plain C__law_slope C__law_over g_range g_tuple n,mgs⟩
  refine fnD_of _ F sc__law_pipeline (by rintro ds M Q E ⟨i,zs,m,rfl,_⟩;rfl) (fun cdv A outer s H EV hr=>(ds_cons (dp_set 4 sc__law_pipeline.nd (dv_lstM da_nil))
 (ds_cons (dp_for PassesOwn.leaving rfl (di_range1 (by rfl) g_range (da_cons (dv_call C__law_draw.fn (hr.mono (by omega)) (by rfl) C__law_draw.mgx C__law_draw.F.kp (bd__law_draw C__law_draw.F) hxF (da_cons (dv_var 0) (da_cons (dv_add (dv_var 2) dv_int) da_nil))) da_nil)) (dg_name 5 sc__law_pipeline.nd) (ds_cons (dp_set 6 sc__law_pipeline.nd (dv_call C__law_draw.fn (hr.mono (by omega)) (by rfl) C__law_draw.mgx C__law_draw.F.kp (bd__law_draw C__law_draw.F) hxF (da_cons (dv_var 0) (da_cons dv_int da_nil))))
 (ds_one (dp_if (dt_w (dw_and (dt_eq hr.units (dv_var 6) dv_int) (dw_and1 (dt_ne hr.units (dv_var 1) (dv_lst da_nil))))) (ds_one (dp_expr (dv_bm PySem.F.plainAttrs_list PySem.F.slot_list_append PySem.F.type_list_append mt_append ref_app (dv_var 4) (da_cons (dv_tup (da_cons dv_str (da_cons (dv_call C__law_pick.fn (hr.mono (by omega)) (by rfl) C__law_pick.mgx C__law_pick.F.kp (bd__law_pick C__law_pick.F) hxF (da_cons (dv_var 0) (da_cons (dv_var 1) da_nil))) da_nil))) da_nil)))) (ds_one (dp_if (dt_w (dw_and (dt_eq hr.units (dv_var 6) dv_int) (dw_and1 (dt_gt (dv_var 3) dv_int)))) (ds_cons (dp_par 7 8 rfl sc__law_pipeline.nd (da_cons (dv_call C__law_pick.fn (hr.mono (by omega)) (by rfl) C__law_pick.mgx C__law_pick.F.kp (bd__law_pick C__law_pick.F) hxF (da_cons (dv_var 0) (da_cons (dv_lst (da_cons dv_str (da_cons dv_str (da_cons dv_str da_nil)))) da_nil))) (da_cons (dv_lstM da_nil) da_nil)) (by rfl))
 (ds_cons (dp_for PassesOwn.leaving rfl (di_range1 (by rfl) g_range (da_cons (dv_add dv_int (dv_call C__law_draw.fn (hr.mono (by omega)) (by rfl) C__law_draw.mgx C__law_draw.F.kp (bd__law_draw C__law_draw.F) hxF (da_cons (dv_var 0) (da_cons (dv_if (dt_eq hr.units (dv_var 3) dv_int) dv_int dv_int) da_nil)))) da_nil)) (dg_name 9 sc__law_pipeline.nd) (ds_one (dp_expr (dv_bm PySem.F.plainAttrs_list PySem.F.slot_list_append PySem.F.type_list_append mt_append ref_app (dv_var 8) (da_cons (dv_call C__law_pipeline.fn (hr.mono (by omega)) (by rfl) C__law_pipeline.mgx C__law_pipeline.F.kp (bd__law_pipeline C__law_pipeline.F) hxF (da_cons (dv_var 0) (da_cons (dv_var 1) (da_cons dv_int (da_cons (dv_sub (dv_var 3) dv_int) da_nil))))) da_nil)))))
 (ds_one (dp_expr (dv_bm PySem.F.plainAttrs_list PySem.F.slot_list_append PySem.F.type_list_append mt_append ref_app (dv_var 4) (da_cons (dv_add (dv_tup (da_cons (dv_var 7) da_nil)) (dv_callTy call_tuple_of ref_tuple (by rfl) g_tuple (by decide +kernel) (da_cons (dv_var 8) da_nil))) da_nil)))))) (ds_one (dp_expr (dv_bm PySem.F.plainAttrs_list PySem.F.slot_list_append PySem.F.type_list_append mt_append ref_app (dv_var 4) (da_cons (dv_call C__law_plain.fn (hr.mono (by omega)) (by rfl) C__law_plain.mgx C__law_plain.F.kp (bd__law_plain C__law_plain.F) hxF (da_cons (dv_var 0) da_nil)) da_nil))))))))))
 (ds_cons (dp_set 10 sc__law_pipeline.nd (dv_call C__law_slope.fn.lend (hr.mono (by omega)) (by rfl) C__law_slope.mgx C__law_slope.F.kp (bd__law_slope C__law_slope.F) hxF (da_cons (dv_var 4) da_nil)))
 (ds_cons (dp_if (dt_ne hr.units (dv_var 10) (dv_tup (da_cons dv_int (da_cons dv_int da_nil)))) (ds_one (dp_expr (dv_bm PySem.F.plainAttrs_list PySem.F.slot_list_append PySem.F.type_list_append mt_append ref_app (dv_var 4) (da_cons (dv_tup (da_cons dv_str (da_cons (dv_call C__law_over.fn (hr.mono (by omega)) (by rfl) C__law_over.mgx C__law_over.F.kp (bd__law_over C__law_over.F) hxF (da_cons (dv_tup (da_cons dv_int (da_cons dv_int da_nil))) (da_cons (dv_var 10) da_nil))) da_nil))) da_nil)))) ds_nil)
 (ds_one (dp_ret (dv_callTy call_tuple_of ref_tuple (by rfl) g_tuple (by decide +kernel) (da_cons (dv_var 4) da_nil))))))))) ?_
  rintro ds M Q E hM hD ⟨i,zs,m,rfl,ha,hL,hzs,hz,m0,m4,n4,n1,hQ⟩
  have zl:sizeLine=16777216:=rfl
  walk_at "R"
  have g0:RgX M i [some (.lst [])] (M ++ [some (.lst [])]):=(RgX.of (RgTo.refl ha)).app
  generalize M ++ [some (.lst [])]=M0 at g0 ⊢
  refine ⟨i,_,rfl,g0.at ha,by omega,Int.lt_of_le_of_lt (b:=5) (by omega) (by decide +kernel),fun k M1 t1 k0 k1=>?_⟩
  have g1:=g0.to ha t1
  walk_at "R"
  refine ⟨⟨by omega,by omega⟩,?_⟩
  refine for_range (fun j rho M'=>∃ ps:List (D×Rat),ps.length=j/\(∀ p∈ps,GStep (fun z=>z∈zs) (GPipe (fun z=>z∈zs) n 2) p.1 p.2)/\(∃ L,AllL L/\RgX M i (some (.lst (ps.map (·.1))) :: L) M')/\∃ c5 c6 c7 c8 c9 c10,rho=[some (.mt i),some (.lst (zs.map D.str)),some (.int m),some (.int (n+1:Nat)),some (.mt M.length),c5,c6,c7,c8,c9,c10]) ⟨[],rfl,(fun p hp=>nomatch hp),⟨[],.nil,g1⟩,_,_,_,_,_,_,rfl⟩ ?_ ?_
  ·rintro j rho M2 N hj ⟨ps,hl,hps,⟨L,hLL,g2⟩,c5,c6,c7,c8,c9,c10,rfl⟩ hN
   have hj4:j<=4:=by omega
   have push:∀ (d:D) (r:Rat) (M3 L:Mem) (c6 c7 c8 c9 c10:Option D),AllL L->RgX M i (some (.lst (ps.map (·.1))) :: L) M3->GStep (fun z=>z∈zs) (GPipe (fun z=>z∈zs) n 2) d r ->
     N [some (.mt i),some (.lst (zs.map D.str)),some (.int m),some (.int (n+1:Nat)),some (.mt M.length),some (.int j),c6,c7,c8,c9,c10] (M3.set M.length (some (.lst (ps.map (·.1) ++ [d])))):=by
    intro d r M3 L c6 c7 c8 c9 c10 hLL g3 hd
    have g4:=g3.set (o:=some (.lst (ps.map (·.1) ++ [d]))) 0
    refine hN _ _ ⟨ps ++ [(d,r)],by simp [hl],fun p hp=>?_,⟨L,hLL,?_⟩,_,_,_,_,_,_,rfl⟩
    ·rcases List.mem_append.mp hp with hp | hp
     ·exact hps p hp
     ·rw [List.mem_singleton.mp hp];exact hd
    ·rw [List.map_append];exact g4
   walk_at "R"
   refine ⟨i,7,rfl,g2.at ha,by decide,by decide +kernel,fun w M3 t3 w0 w1=>?_⟩
   have g3:=g2.to ha t3
   walk_at "R"
   refine ifd (fun hw=>?_) (fun hw=>?_)
   ·walk_at "R"
    refine e_neS0 hzs ?_
    refine ifn (fun hne=>?_) (fun he=>?_)
    ·walk_at "R"
     refine e_tyL (g3.get 0) ?_
     walk_at "R"
     refine ⟨i,_,_,rfl,g3.at ha,.inl fun _=>rfl,(fun h=>hne (List.map_eq_nil_iff.mp h)),by rw [List.length_map];omega,fun d M4 t4 hd=>?_⟩
     have g4:=g3.to ha t4
     obtain ⟨z,hz1,rfl⟩:=List.mem_map.mp hd
     walk_at "R"
     refine e_app (g4.get 0) (by rw [List.length_map,hl];omega) ?_
     exact push _ 1 M4 L _ _ _ _ _ hLL g4 (.use hz1)
    ·walk_at "R"
     refine ifd (fun h=>absurd h (by omega)) (fun _=>?_)
     walk_at "R"
     refine e_tyL (g3.get 0) ?_
     walk_at "R"
     refine ⟨i,rfl,g3.at ha,fun d r M4 t4 hd=>?_⟩
     have g4:=g3.to ha t4
     walk_at "R"
     refine e_app (g4.get 0) (by rw [List.length_map,hl];omega) ?_
     exact push d r M4 L _ _ _ _ _ hLL g4 (hd.mono (fun _ z=>z.elim) fun _ z=>z.elim)
   walk_at "R"
   refine ifd (fun hw1=>?_) (fun _=>?_)
   rotate_left
   ·skip
    walk_at "R"
    refine e_tyL (g3.get 0) ?_
    walk_at "R"
    refine ⟨i,rfl,g3.at ha,fun d r M4 t4 hd=>?_⟩
    have g4:=g3.to ha t4
    walk_at "R"
    refine e_app (g4.get 0) (by rw [List.length_map,hl];omega) ?_
    exact push d r M4 L _ _ _ _ _ hLL g4 (hd.mono (fun _ z=>z.elim) fun _ z=>z.elim)
   walk_at "R"
   refine ifd (fun hn=>?_) (fun _=>?_)
   rotate_left
   ·skip
    walk_at "R"
    refine e_tyL (g3.get 0) ?_
    walk_at "R"
    refine ⟨i,rfl,g3.at ha,fun d r M4 t4 hd=>?_⟩
    have g4:=g3.to ha t4
    walk_at "R"
    refine e_app (g4.get 0) (by rw [List.length_map,hl];omega) ?_
    exact push d r M4 L _ _ _ _ _ hLL g4 (hd.mono (fun _ z=>z.elim) fun _ z=>z.elim)
   walk_at "R"
   refine ⟨i,_,_,rfl,g3.at ha,.inl fun _=>rfl,(by intro h;cases h),by show 3<=sizeLine;decide,fun d M4 t4 hd=>?_⟩
   have g4:=g3.to ha t4
   obtain ⟨z,rfl,hzw⟩:∃ z:Str,d = .str z/\(z="sum"\/z="least"\/z="greatest"):=by
    simp only [List.mem_cons,List.not_mem_nil,or_false] at hd
    rcases hd with rfl | rfl | rfl
    ·exact ⟨_,rfl,.inl rfl⟩
    ·exact ⟨_,rfl,.inr (.inl rfl)⟩
    ·exact ⟨_,rfl,.inr (.inr rfl)⟩
   clear hd
   have el:M4.length=M.length+(1+L.length):=by rw [g4.len,List.length_cons];omega
   walk_at "R"
   rw [el]
   have g5:RgX M i (some (.lst (ps.map (·.1))) :: (L ++ [some (.lst [])])) (M4 ++ [some (.lst [])]):=g4.app
   generalize M4 ++ [some (.lst [])]=M5 at g5 ⊢
   walk_at "R"
   refine ifd (fun _=>?_) (fun _=>?_)
   all_goals
    walk_at "R"
    refine ⟨i,_,rfl,g5.at ha,by decide,by decide +kernel,fun q M6 t6 q0 q1=>?_⟩
    have hq:q<=2:=by omega
    clear q1
    have g6:=g5.to ha t6
    walk_at "R"
    refine ⟨⟨by omega,by omega⟩,?_⟩
    refine for_range (fun b rho M'=>∃ xs:List D,xs.length=b/\(∀ x∈xs,GPipe (fun z=>z∈zs) n 2 x)/\RgX M i (some (.lst (ps.map (·.1))) :: (L ++ [some (.lst xs)])) M'/\∃ c9 c10,rho=[some (.mt i),some (.lst (zs.map D.str)),some (.int m),some (.int (n+1:Nat)),some (.mt M.length),some (.int j),some (.int w),some (.str z),some (.mt (M.length+(1+L.length))),c9,c10]) ⟨[],rfl,(fun x hx=>nomatch hx),g6,_,_,rfl⟩ ?_ ?_
    ·rintro b rho M7 N2 hb ⟨xs,hx,hxs,g7,c9,c10,rfl⟩ hN2
     have hL7:AllL M7:=by
      obtain ⟨M8,t,rfl⟩:=g7
      exact AllL.app (RgTo.allL hL t) (AllL.cons (AllL.app hLL .one))
     walk_at "R"
     refine e_tyL g7.getL ?_
     walk_at "R"
     refine ⟨i,zs,2,?_,g7.at ha,hL7,hzs,hz,by decide,by decide,by omega,by omega,fun d M8 t8 hd=>?_⟩
     ·show [D.mt i,.lst (zs.map D.str),.int 2,.int (((n+1:Nat):Int) - 1)]=_
      rw [show ((n+1:Nat):Int) - 1=(n:Int) by omega]
     have g8:=g7.to ha t8
     walk_at "R"
     refine e_app g8.getL (by rw [hx];omega) ?_
     refine hN2 _ _ ⟨xs ++ [d],by simp [hx],fun x hx'=>?_,g8.setL,_,_,rfl⟩
     rcases List.mem_append.mp hx' with h | h
     ·exact hxs x h
     ·rw [List.mem_singleton.mp h];exact hd
    ·rintro rho M7 ⟨xs,hx,hxs,g7,c9,c10,rfl⟩
     have hx2:2<=xs.length:=by omega
     have hx4:xs.length<=4:=by omega
     walk_at "R"
     refine e_tyL (g7.get 0) ?_
     walk_at "R"
     refine e_tpM g7.getL ?_
     walk_at "R"
     refine ⟨by show 1+xs.length<=sizeLine;omega,?_⟩
     walk_at "R"
     refine e_app (g7.get 0) (by rw [List.length_map,hl];omega) ?_
     have hd:∃ r,GStep (fun z=>z∈zs) (GPipe (fun z=>z∈zs) n 2) (.tup (.str z :: xs)) r:=by
      rcases hzw with rfl | hz2
      ·exact ⟨_,.sum hx2 hx4 hxs⟩
      ·exact ⟨_,.pick hz2 hx2 hx4 hxs⟩
     obtain ⟨r,hd⟩:=hd
     exact push _ r M7 _ _ _ _ _ _ (AllL.app hLL .one) g7 hd
  ·rintro rho M2 ⟨ps,hl,hps,⟨L,hLL,g2⟩,c5,c6,c7,c8,c9,c10,rfl⟩
   have hok:=slopeP_ok fun p hp=>(hps p hp).sl
   have hL2:AllL M2:=by
    obtain ⟨M3,t,rfl⟩:=g2
    exact AllL.app (RgTo.allL hL t) (AllL.cons hLL)
   walk_at "R"
   refine lend_one hL2 (g2.get 0) (qD (slopeP ps)) rfl (fun M0 Q0 E0 q=>⟨_,ps,rfl,rfl,by omega,fun p hp=>(hps p hp).mono (fun _ _=>trivial) fun _ _=>trivial,q⟩) ?_
   walk_at "R"
   show rNe_ (qD (slopeP ps)) (qD 1) M2 _
   refine e_neq ?_
   have hmp:D.hbs M.length (ps.map (·.1))=true:=hbs_all fun x hx=>by
    obtain ⟨p,hp,rfl⟩:=List.mem_map.mp hx
    exact (hps p hp).hb fun _ q=>GPipe.hb q
   refine ifn (fun hne=>?_) (fun he=>?_)
   ·walk_at "R"
    refine e_tyL (g2.get 0) ?_
    walk_at "R"
    have q1:qs 1=1:=by decide +kernel
    refine ⟨1,slopeP ps,rfl,by omega,by omega,(fun h=>by have:=hok.2;rw [h] at this;exact Rat.lt_irrefl this),?_⟩
    walk_at "R"
    refine e_app (g2.get 0) (by rw [List.length_map,hl];omega) ?_
    have g3:RgX M i (some (.lst (ps.map (·.1) ++ [D.tup [D.str "scale",qD (1 / slopeP ps)]])) :: L) (M2.set M.length (some (.lst (ps.map (·.1) ++ [D.tup [D.str "scale",qD (1 / slopeP ps)]])))):=g2.set (o:=some (.lst (ps.map (·.1) ++ [D.tup [D.str "scale",qD (1 / slopeP ps)]]))) 0
    generalize M2.set M.length (some (.lst (ps.map (·.1) ++ [D.tup [D.str "scale",qD (1 / slopeP ps)]])))=M3 at g3 ⊢
    walk_at "R"
    refine e_tpM (g3.get 0) ?_
    exact g3.cut (hbs_snoc hmp rfl) hM fun M4 t=>hQ _ _ t ⟨ps,by omega,by omega,hps,.inr ⟨hne,rfl⟩⟩
   ·walk_at "R"
    refine e_tpM (g2.get 0) ?_
    exact g2.cut hmp hM fun M4 t=>hQ _ _ t ⟨ps,by omega,by omega,hps,.inl ⟨he,rfl⟩⟩
theorem ok__law_pipeline {f:Addr} {fd:FuncData} (F:F__law_pipeline K f fd) (mgs:mg "_law_pipeline"=some (.ref f)) (C__law_draw:Cal__law_draw P w K mg base Tb) (C__law_pick:Cal__law_pick P w K mg base Tb) (C__law_plain:Cal__law_plain P w K mg base Tb) (C__law_slope:Cal__law_slope P w K mg base Tb) (C__law_over:Cal__law_over P w K mg base Tb) (g_range:mg "range"=none) (g_tuple:mg "tuple"=none):FnD P w K mg base Tb 60 f fd ["_law_rng","_law_names_here","_law_most","_law_deep"] sp__law_pipeline:=by
 refine ⟨⟨fun vs H Q E h=>?_,fun A outer s H args us vs Q E hr he hb hv h=>?_⟩⟩
 ·obtain ⟨al,M,ds,Q',E',w',r,⟨n,hn,h⟩,p,px⟩:=h
  exact (pipe_all F mgs C__law_draw C__law_pick C__law_plain C__law_slope C__law_over g_range g_tuple n).ok.len vs H Q E ⟨al,M,ds,Q',E',w',r,h,p,px⟩
 ·obtain ⟨al,M,ds,Q',E',w',r,⟨n,hn,h⟩,p,px⟩:=h
  exact ((pipe_all F mgs C__law_draw C__law_pick C__law_plain C__law_slope C__law_over g_range g_tuple n).mono (show n+56<=60 by omega)).ok.run A outer s H args us vs Q E hr he hb hv ⟨al,M,ds,Q',E',w',r,h,p,px⟩
theorem ok__law_word {f:Addr} {fd:FuncData} (F:F__law_word K f fd) (C__law_draw:Cal__law_draw P w K mg base Tb) (C__law_pick:Cal__law_pick P w K mg base Tb) (g_range:mg "range"=none):FnD P w K mg base Tb 3 f fd ["_law_rng","_law_most"] sp__law_word:=by
 refine fnD_of _ F sc__law_word (by rintro ds M Q E ⟨i,m,rfl,_⟩;rfl) (fun cdv A outer s H EV hr=>(ds_one (dp_ret (dv_bm PySem.F.plainAttrs_str PySem.F.slot_str_join PySem.F.type_str_join mt_join ref_join dv_str (da_cons (dv_lc rfl sc__law_word.nd (di_range1 (by rfl) g_range (da_cons (dv_add dv_int (dv_call C__law_draw.fn (hr.mono (by decide)) (by rfl) C__law_draw.mgx C__law_draw.F.kp (bd__law_draw C__law_draw.F) hxF (da_cons (dv_var 0) (da_cons (dv_var 1) da_nil)))) da_nil)) (blkOk_by (own:=[("_law_k",2)]) (N:=["_law_rng","_law_most","_law_k"]) (sc:=defScope s__law_word) (by decide +kernel)) (tgn_name (i:=2) (by decide)) (fun _ _ _ _ _=>pg_name (i:=2) sc__law_word.nd rfl (by first | exact Or.inl rfl | exact Or.inr rfl)) (fun _ _ _ _ _=>dts_nil) (fun _ _ _ _ _=>(dv_call C__law_pick.fn (hr.mono (by decide)) (by rfl) C__law_pick.mgx C__law_pick.F.kp (bd__law_pick C__law_pick.F) passL (da_cons (dv_var 0) (da_cons dv_str da_nil))))) da_nil))))) ?_
 rintro ds M Q E hM hD ⟨i,m,rfl,ha,m0,m1,hQ⟩
 have zl:sizeLine=16777216:=rfl
 walk_at "R"
 refine ⟨i,m,rfl,ha,m0,Int.lt_of_le_of_lt m1 (by decide +kernel),fun k M1 t1 k0 k1=>?_⟩
 walk_at "R"
 refine ⟨⟨by omega,by omega⟩,?_⟩
 obtain ⟨n,hn⟩:∃ n:Nat,1+k=((n+1:Nat):Int):=⟨k.toNat,by omega⟩
 rw [hn,Int.toNat_natCast]
 refine lc_range (fun j acc M'=>RgTo M i M'/\∃ cs:List Nat,acc=cs.map (fun c=>D.str ⟨#[c]⟩)/\cs.length=j/\∀ c∈cs,c∈("abcdefghijklmnopqrstuvwxyz":Str).cps.toList) ⟨t1,[],rfl,rfl,fun g hg=>nomatch hg⟩ ?_ ?_
 ·rintro j acc M2 N hj ⟨t2,cs,rfl,hl,hcs⟩ hN
  walk_at "R"
  refine ⟨i,_,_,rfl,t2.at ha,.inr ⟨_,rfl,by decide +kernel,rfl⟩,by decide +kernel,by decide +kernel,fun d M3 t3 hd=>?_⟩
  obtain ⟨c,hc,rfl⟩:=sign_ex hd
  refine ⟨by rw [List.length_map];omega,hN _ _ ⟨t2.trans t3,cs ++ [c],by rw [List.map_append];rfl,by rw [List.length_append,hl];rfl,fun x hx=>?_⟩⟩
  rcases List.mem_append.mp hx with hx | hx
  ·exact hcs x hx
  ·rw [List.mem_singleton.mp hx];exact hc
 ·rintro acc M2 ⟨t2,cs,rfl,hl,hcs⟩
  have e:(cs.map fun c=>D.str ⟨#[c]⟩)=(cs.map fun c=>(⟨#[c]⟩:Str)).map D.str:=by rw [List.map_map];rfl
  rw [e]
  walk_at "R"
  refine e_join (by rw [sum_ones,List.length_map];show cs.length+cs.length * 0<=_;omega) ?_
  rw [show Txt.join (Str.ofString "") (cs.map fun c=>(⟨#[c]⟩:Str))=SX.S cs from join_chars cs]
  exact Cut.rg t2 rfl hM (hQ cs M2 t2 (fun z=>by rw [z] at hl;cases hl) (by omega) hcs)
theorem ok__law_names {f:Addr} {fd:FuncData} (F:F__law_names K f fd) (C__law_pick:Cal__law_pick P w K mg base Tb) (C__law_draw:Cal__law_draw P w K mg base Tb) (C__law_word:Cal__law_word P w K mg base Tb) (g_range:mg "range"=none):FnD P w K mg base Tb 4 f fd ["_law_rng","_law_many"] sp__law_names:=by
 refine fnD_of _ F sc__law_names (by rintro ds M Q E ⟨i,m,rfl,_⟩;rfl) (fun cdv A outer s H EV hr=>(ds_cons (dp_asg (dv_tup (da_cons (dv_add dv_int (dv_call C__law_draw.fn (hr.mono (by decide)) (by rfl) C__law_draw.mgx C__law_draw.F.kp (bd__law_draw C__law_draw.F) hxF (da_cons (dv_var 0) (da_cons dv_int da_nil)))) (da_cons (dv_call C__law_pick.fn (hr.mono (by decide)) (by rfl) C__law_pick.mgx C__law_pick.F.kp (bd__law_pick C__law_pick.F) hxF (da_cons (dv_var 0) (da_cons (dv_lst (da_cons dv_int (da_cons dv_int (da_cons dv_int (da_cons dv_int (da_cons dv_int da_nil)))))) da_nil))) da_nil))) (dg_tup (n:=2) rfl (dgs_cons (dg_name 2 sc__law_names.nd) (dgs_cons (dg_name 3 sc__law_names.nd) dgs_nil))))
 (ds_cons (dp_set 4 sc__law_names.nd (dv_repS (dv_call C__law_word.fn (hr.mono (by decide)) (by rfl) C__law_word.mgx C__law_word.F.kp (bd__law_word C__law_word.F) hxF (da_cons (dv_var 0) (da_cons dv_int da_nil))) (dv_var 2)))
 (ds_cons (dp_set 5 sc__law_names.nd (dv_call C__law_draw.fn (hr.mono (by decide)) (by rfl) C__law_draw.mgx C__law_draw.F.kp (bd__law_draw C__law_draw.F) hxF (da_cons (dv_var 0) (da_cons (dv_var 2) da_nil))))
 (ds_cons (dp_set 6 sc__law_names.nd (dv_call C__law_draw.fn (hr.mono (by decide)) (by rfl) C__law_draw.mgx C__law_draw.F.kp (bd__law_draw C__law_draw.F) hxF (da_cons (dv_var 0) (da_cons dv_int da_nil))))
 (ds_cons (dp_set 7 sc__law_names.nd dv_str)
 (ds_one (dp_ret (dv_lc rfl sc__law_names.nd (di_range1 (by rfl) g_range (da_cons (dv_var 1) da_nil)) (blkOk_by (own:=[("_law_k",8)]) (N:=["_law_rng","_law_many","_law_width","_law_step","_law_base","_law_at","_law_lead","_law_letters","_law_k"]) (sc:=defScope s__law_names) (by decide +kernel)) (tgn_name (i:=8) (by decide)) (fun _ _ _ _ _=>pg_name (i:=8) sc__law_names.nd rfl (by first | exact Or.inl rfl | exact Or.inr rfl)) (fun _ _ _ _ _=>dts_nil) (fun _ _ _ _ _=>(dv_add (dv_add (dv_slice (dv_var 4) do_none (do_some (dv_var 5))) (dv_ix (dv_var 7) (dv_mod (dv_add (dv_var 6) (dv_mul (dv_var 3) (dv_var 8))) dv_int))) (dv_slice (dv_var 4) (do_some (dv_add (dv_var 5) dv_int)) do_none)))))))))))) ?_
 rintro ds M Q E hM hD ⟨i,m,rfl,ha,m0,m1,hQ⟩
 have zl:sizeLine=16777216:=rfl
 walk_at "R"
 refine ⟨i,7,rfl,ha,by decide,by decide +kernel,fun k M1 t1 k0 k1=>?_⟩
 walk_at "R"
 refine ⟨i,_,_,rfl,t1.at ha,.inl fun _=>rfl,(by intro h;cases h),by show 5<=sizeLine;decide,fun d M2 t2 hd=>?_⟩
 have t:=t1.trans t2
 obtain ⟨s,rfl,hs⟩:∃ s:Int,d = .int s/\(s=1\/s=3\/s=5\/s=7\/s=9):=by
  simp only [List.mem_cons,List.not_mem_nil,or_false] at hd
  rcases hd with rfl | rfl | rfl | rfl | rfl
  ·exact ⟨_,rfl,.inl rfl⟩
  ·exact ⟨_,rfl,.inr (.inl rfl)⟩
  ·exact ⟨_,rfl,.inr (.inr (.inl rfl))⟩
  ·exact ⟨_,rfl,.inr (.inr (.inr (.inl rfl)))⟩
  ·exact ⟨_,rfl,.inr (.inr (.inr (.inr rfl)))⟩
 clear hd
 walk_at "R"
 refine ⟨i,1,rfl,t.at ha,by decide,by decide,fun cs M3 t3 hcs hl hc=>?_⟩
 replace t:=t.trans t3
 obtain ⟨c,rfl⟩:∃ c,cs=[c]:=by
  match cs,hcs,hl with
  | [c],_,_=>exact ⟨c,rfl⟩
  | _ :: _ :: _,_,h=>simp at h;omega
 have hc:=hc c (List.mem_singleton_self c)
 obtain ⟨w,hw,w7⟩:∃ w:Nat,1+k=((w+1:Nat):Int)/\w < 7:=⟨k.toNat,by omega,by omega⟩
 rw [hw]
 walk_at "R"
 refine ⟨⟨by omega,by omega,rfl⟩,?_⟩
 rw [mul_S (by omega),Int.toNat_natCast]
 walk_at "R"
 refine ⟨i,_,rfl,t.at ha,by omega,by omega,fun a M4 t4 a0 a1=>?_⟩
 replace t:=t.trans t4
 obtain ⟨a,rfl⟩:∃ b:Nat,a=(b:Int):=⟨a.toNat,by omega⟩
 walk_at "R"
 refine ⟨i,26,rfl,t.at ha,by decide,by decide +kernel,fun l M5 t5 l0 l1=>?_⟩
 replace t:=t.trans t5
 walk_at "R"
 refine ⟨⟨by omega,by omega⟩,?_⟩
 obtain ⟨n,rfl⟩:∃ n:Nat,m=(n:Int):=⟨m.toNat,by omega⟩
 rw [Int.toNat_natCast]
 have ha':a<=w:=by omega
 refine lc_range (fun j acc M'=>M'=M5/\acc=(List.range j).map fun j:Nat=>D.str (SX.S (nmL (w+1) a c (l+s * (j:Int))))) ⟨rfl,rfl⟩ ?_ ?_
 ·rintro j acc M' N hj ⟨rfl,rfl⟩ hN
  have b1:(SX.S (List.replicate (w+1) c)).length=w+1:=by rw [SX.S_len,List.length_replicate]
  have c1:cutS (SX.S (List.replicate (w+1) c)) none (some (a:Int))=SX.S (List.replicate a c):=by
   rw [C8.cutS_slice]
   have:=SX.slice_to (a:=List.replicate (w+1) c) (i:=(a:Int)) (by omega)
   rw [this,Int.toNat_natCast,List.take_replicate,Nat.min_eq_left (by omega)]
  have c2:cutS (SX.S (List.replicate (w+1) c)) (some ((a:Int)+1)) none=SX.S (List.replicate (w+1 - a - 1) c):=by
   rw [C8.cutS_slice]
   have:=SX.slice_from (a:=List.replicate (w+1) c) (i:=(a:Int)+1) (by omega)
   rw [this,show ((a:Int)+1).toNat=a+1 by omega,List.drop_replicate,show w+1 - (a+1)=w+1 - a - 1 by omega]
  walk_at "R"
  refine e_sls (by omega) ?_
  rw [c1]
  walk_at "R"
  have sj:0<=s * (j:Int)/\s * (j:Int)<=9 * 26:=by
   rcases hs with rfl | rfl | rfl | rfl | rfl <;> omega
  refine e_int (mok_l (by rcases hs with rfl | rfl | rfl | rfl | rfl <;> omega) (by rcases hs with rfl | rfl | rfl | rfl | rfl <;> omega)) ?_
  walk_at "R"
  have hm0:0<=(l+s * (j:Int)) % 26:=Int.emod_nonneg _ (by decide)
  have hm1:(l+s * (j:Int)) % 26 < 26:=Int.emod_lt_of_pos _ (by decide)
  refine ⟨by decide +kernel,?_⟩
  rw [show L2.atI (Str.ofString "abcdefghijklmnopqrstuvwxyz").cps.toList ((l+s * (j:Int)).fmod 26)=some (97+((l+s * (j:Int)) % 26).toNat) by rw [Int.fmod_eq_emod_of_nonneg _ (by decide)];exact az_at hm0 hm1]
  walk_at "R"
  refine e_adds (by rw [SX.S_len,List.length_replicate];show a+1<=sizeLine;omega) ?_
  walk_at "R"
  refine e_sls (by omega) ?_
  rw [c2]
  walk_at "R"
  refine e_adds (by
   rw [show (⟨#[97+((l+s * (j:Int)) % 26).toNat]⟩:Str)=SX.S [97+((l+s * (j:Int)) % 26).toNat] from rfl,SX.S_cat,SX.S_len,SX.S_len,List.length_append,List.length_replicate,List.length_replicate]
   show a+1+(w+1 - a - 1)<=sizeLine;omega) ?_
  rw [show (⟨#[97+((l+s * (j:Int)) % 26).toNat]⟩:Str)=SX.S [97+((l+s * (j:Int)) % 26).toNat] from rfl,SX.S_cat,SX.S_cat,show List.replicate a c ++ [97+((l+s * (j:Int)) % 26).toNat] ++ List.replicate (w+1 - a - 1) c=nmL (w+1) a c (l+s * (j:Int)) by unfold nmL;simp]
  refine ⟨by rw [List.length_map,List.length_range];omega,hN _ _ ⟨rfl,?_⟩⟩
  rw [List.range_succ,List.map_append];rfl
 ·rintro acc M' ⟨rfl,rfl⟩
  walk_at "R"
  have inj:∀ x y:Nat,x < n->y < n->nmL (w+1) a c (l+s * (x:Int))=nmL (w+1) a c (l+s * (y:Int))->x=y:=fun x y hx hy e=>by
   have e1:(nmL (w+1) a c (l+s * (x:Int)))[a]?=(nmL (w+1) a c (l+s * (y:Int)))[a]?:=by rw [e]
   rw [nmL_at,nmL_at] at e1
   have e2:=Option.some.inj e1
   rcases hs with rfl | rfl | rfl | rfl | rfl <;> omega
  refine Cut.rg t (hbs_map (fun _=>rfl) _) hM ?_
  have em:(List.range n).map (fun j:Nat=>D.str (SX.S (nmL (w+1) a c (l+s * (j:Int)))))=((List.range n).map fun j:Nat=>SX.S (nmL (w+1) a c (l+s * (j:Int)))).map D.str:=by rw [List.map_map];rfl
  rw [em]
  refine hQ _ _ t (by simp) (fun z hz=>?_) ?_
  ·obtain ⟨j,_,rfl⟩:=List.mem_map.mp hz
   have ll:(nmL (w+1) a c (l+s * (j:Int))).length=w+1:=by
    unfold nmL
    rw [List.length_append,List.length_cons,List.length_replicate,List.length_replicate];omega
   refine ⟨name_ok (by omega) (by omega) fun x hx=>?_,by rw [SX.S_len];omega⟩
   unfold nmL at hx
   rcases List.mem_append.mp hx with hx | hx
   ·rw [(List.mem_replicate.mp hx).2];exact hc
   rcases List.mem_cons.mp hx with rfl | hx
   ·exact az_mem (by omega)
   ·rw [(List.mem_replicate.mp hx).2];exact hc
  ·rw [List.nodup_iff_pairwise_ne,List.pairwise_map]
   refine List.Pairwise.imp_of_mem ?_ List.nodup_range
   intro x y hx hy hne e
   exact hne (inj x y (List.mem_range.mp hx) (List.mem_range.mp hy) (SX.S_inj e))
theorem ok__law_split {f:Addr} {fd:FuncData} (F:F__law_split K f fd) (g_len:mg "len"=none) (g_int:mg "int"=none):FnD P w K mg base Tb 1 f fd ["_law_text_here","_law_mark"] sp__law_split:=by
 refine fnD_of _ F sc__law_split (by rintro ds M Q E ⟨l,mk,rfl,_⟩;rfl) (fun cdv A outer s H EV hr=>(ds_cons (dp_asg (dv_tup (da_cons (dv_lstM da_nil) (da_cons dv_int (da_cons dv_str (da_cons dv_int da_nil))))) (dg_tup (n:=4) rfl (dgs_cons (dg_name 2 sc__law_split.nd) (dgs_cons (dg_name 3 sc__law_split.nd) (dgs_cons (dg_name 4 sc__law_split.nd) (dgs_cons (dg_name 5 sc__law_split.nd) dgs_nil))))))
 (ds_cons (dp_while PassesOwn.leaving (dt_lt (dv_var 5) (dv_callB call_len ref_len (by rfl) g_len PySem.boot_len (da_cons (dv_var 0) da_nil))) (ds_cons (dp_set 3 sc__law_split.nd (dv_sub (dv_add (dv_var 3) (dv_callTy (call_int1.or call_int_str) ref_int1 (by rfl) g_int (by decide +kernel) (da_cons (dv_eq hr.units (dv_ix (dv_var 0) (dv_var 5)) dv_str) da_nil))) (dv_callTy (call_int1.or call_int_str) ref_int1 (by rfl) g_int (by decide +kernel) (da_cons (dv_eq hr.units (dv_ix (dv_var 0) (dv_var 5)) dv_str) da_nil))))
 (ds_one (dp_if (dt_w (dw_and (dt_eq hr.units (dv_var 3) dv_int) (dw_and1 (dt_eq hr.units (dv_slice (dv_var 0) (do_some (dv_var 5)) (do_some (dv_add (dv_var 5) (dv_callB call_len ref_len (by rfl) g_len PySem.boot_len (da_cons (dv_var 1) da_nil))))) (dv_var 1))))) (ds_cons (dp_expr (dv_bm PySem.F.plainAttrs_list PySem.F.slot_list_append PySem.F.type_list_append mt_append ref_app (dv_var 2) (da_cons (dv_var 4) da_nil)))
 (ds_one (dp_par 4 5 rfl sc__law_split.nd (da_cons dv_str (da_cons (dv_add (dv_var 5) (dv_callB call_len ref_len (by rfl) g_len PySem.boot_len (da_cons (dv_var 1) da_nil))) da_nil)) (by rfl)))) (ds_one (dp_par 4 5 rfl sc__law_split.nd (da_cons (dv_add (dv_var 4) (dv_ix (dv_var 0) (dv_var 5))) (da_cons (dv_add (dv_var 5) dv_int) da_nil)) (by rfl)))))))
 (ds_one (dp_ret (dv_add (dv_var 2) (dv_lst (da_cons (dv_var 4) da_nil)))))))) ?_
 rintro ds M Q E hM hD ⟨l,mk,rfl,hm1,hm2,hl,hQ⟩
 have zl:sizeLine=16777216:=rfl
 walk_at "R"
 refine wh_inv (fun rho M'=>∃ (ps:List (List Nat)) (d:Int) (acc:List Nat) (pl:Nat),pl<=l.length/\ps.length<=pl/\acc.length<=pl/\ps ++ spo mk d 0 acc (l.drop pl)=spo mk 0 0 [] l/\M'=M ++ [some (.lst (ps.map fun p=>D.str (SX.S p)))]/\rho=[some (.str (SX.S l)),some (.str (SX.S mk)),some (.mt M.length),some (.int d),some (.str (SX.S acc)),some (.int (pl:Nat))]) (fun rho _=>match rho with
  | [_,_,_,_,_,some (.int p)]=>((l.length:Int) - p).toNat
  | _=>0) ?_ _ _ ⟨[],0,[],0,Nat.zero_le _,Nat.le_refl _,Nat.le_refl _,rfl,rfl,rfl⟩
 rintro rho M' N ⟨ps,d,acc,pl,hpl,hps,hac,he,rfl,rfl⟩ hN
 walk_at "R"
 refine e_lenS (by rw [S_len'];omega) ?_
 rw [S_len']
 walk_at "R"
 refine ifd (fun h=>?_) (fun h=>?_)
 ·obtain ⟨c,hc⟩:∃ c,l[pl]?=some c:=⟨l[pl]'(by omega),List.getElem?_eq_getElem (by omega)⟩
  have hdr:l.drop pl=c :: l.drop (pl+1):=by
   obtain ⟨h1,h2⟩:=List.getElem?_eq_some_iff.mp hc
   rw [List.drop_eq_getElem_cons h1,h2]
  walk_at "R"
  refine e_ixT (by omega) hc ?_
  walk_at "R"
  refine e_ixT (by omega) hc ?_
  walk_at "R"
  have ei:(d+if decide (SX.S [c]=Str.ofString "(")=true then (1:Int) else 0) - (if decide (SX.S [c]=Str.ofString ")")=true then (1:Int) else 0)=d+dpt c:=by
   rw [<- paren_eq];omega
  have ed:(fun (i j:Int)=>D.int (i - j)) (d+if decide (SX.S [c]=Str.ofString "(")=true then (1:Int) else 0) (if decide (SX.S [c]=Str.ofString ")")=true then (1:Int) else 0)=D.int (d+dpt c):=by
   show D.int (_ - _)=D.int _
   rw [ei]
  have miss:¬ (d+dpt c=0/\(l.drop pl).take mk.length=mk)->ps ++ spo mk (d+dpt c) 0 (acc ++ [c]) (l.drop (pl+1))=spo mk 0 0 [] l:=fun hn=>by
   rw [hdr,spo_step,if_neg (by rw [<- hdr];exact hn)] at he
   exact he
  have step:¬ (d+dpt c=0/\(l.drop pl).take mk.length=mk)->N [some (.str (SX.S l)),some (.str (SX.S mk)),some (.mt M.length),some (.int (d+dpt c)),some (.str (SX.S (acc ++ [c]))),some (.int ((pl:Int)+1))] (M ++ [some (.lst (ps.map fun p=>D.str (SX.S p)))]):=fun hn =>
   hN _ _ ⟨ps,d+dpt c,acc ++ [c],pl+1,by omega,by omega,by rw [List.length_append,List.length_singleton];omega,miss hn,rfl,rfl⟩ (by show ((l.length:Int) - ((pl:Int)+1)).toNat < ((l.length:Int) - (pl:Int)).toNat;omega)
  have more:∀ (DD:DEnds),DD.nx=N->¬ (d+dpt c=0/\(l.drop pl).take mk.length=mk)->(dPar 4 5 (dCons (dOp rAdd_ (dVar 4) (dOp rIx_ (dVar 0) (dVar 5))) (dCons (dOp rAdd_ (dVar 5) (dC (D.int 1))) dNil))) (CutX M.length E) DD [some (.str (SX.S l)),some (.str (SX.S mk)),some (.mt M.length),some (.int (d+dpt c)),some (.str (SX.S acc)),some (.int (pl:Nat))] (M ++ [some (.lst (ps.map fun p=>D.str (SX.S p)))]):=fun DD hDD hn=>by
   obtain ⟨nx,rt,bk,ct⟩:=DD
   cases hDD
   walk_at "R"
   refine e_ixT (by omega) hc ?_
   walk_at "R"
   refine e_adds (by rw [S_len',S_len',List.length_singleton];omega) ?_
   rw [SX.S_cat]
   walk_at "R"
   exact step hn
  rw [ed]
  walk_at "R"
  refine ifd (fun h0=>?_) (fun h0=>?_)
  ·rw [ei] at h0
   walk_at "R"
   refine e_lenS (by rw [S_len'];omega) ?_
   rw [S_len']
   walk_at "R"
   refine e_sls (by rw [S_len'];omega) ?_
   rw [show (pl:Int)+(mk.length:Int)=((pl+mk.length:Nat):Int) by omega,cutS_mid]
   have ecut:(l.take (pl+mk.length)).drop pl=(l.drop pl).take mk.length:=by rw [List.drop_take];congr 1;omega
   rw [ecut]
   walk_at "R"
   refine ifd (fun h1=>?_) (fun h1=>?_)
   ·have h1:=SX.S_inj h1
    have hlen:pl+mk.length<=l.length:=by
     have:=congrArg List.length h1
     rw [List.length_take,List.length_drop] at this
     omega
    walk_at "R"
    refine e_tyL mem_lst ?_
    walk_at "R"
    refine e_app mem_lst (by rw [List.length_map];omega) ?_
    rw [mem_set']
    walk_at "R"
    refine e_lenS (by rw [S_len'];omega) ?_
    rw [S_len']
    walk_at "R"
    refine hN _ _ ⟨ps ++ [acc],d+dpt c,[],pl+mk.length,hlen,by rw [List.length_append,List.length_singleton];omega,Nat.zero_le _,?_,by rw [List.map_append];rfl,?_⟩ ?_
    ·rw [hdr,spo_step,if_pos ⟨h0,by rw [<- hdr];exact h1⟩,spo_pass] at he
     rw [List.append_assoc,<- he]
     congr 1
     rw [List.singleton_append]
     congr 1
     rw [List.drop_drop]
     congr 2
     omega
    ·rw [show ((pl+mk.length:Nat):Int)=(pl:Int)+(mk.length:Int) by omega];rfl
    ·show ((l.length:Int) - ((pl:Int)+(mk.length:Int))).toNat < ((l.length:Int) - (pl:Int)).toNat
     omega
   ·exact more _ rfl fun z=>h1 (by rw [z.2])
  ·rw [ei] at h0
   exact more _ rfl fun z=>h0 z.1
 ·have:pl=l.length:=by omega
  subst this
  rw [List.drop_length,spo_nil] at he
  walk_at "R"
  refine e_addml mem_lst (by rw [List.length_map];show _+1<=_;omega) ?_
  refine Cut.app (hbs_all fun x hx=>?_) hM ?_
  ·rcases List.mem_append.mp hx with hx | hx
   ·obtain ⟨y,_,rfl⟩:=List.mem_map.mp hx
    rfl
   ·rw [List.mem_singleton.mp hx];rfl
  ·rw [<- he,List.map_append] at hQ
   exact hQ
theorem ok__law_is_word {f:Addr} {fd:FuncData} (F:F__law_is_word K f fd) (g_all:mg "all"=none) (g_len:mg "len"=none):FnD P w K mg base Tb 1 f fd ["_law_text_here"] sp__law_is_word:=by
 refine fnD_of _ F sc__law_is_word (by rintro ds M Q E ⟨z,rfl,_⟩;rfl) (fun cdv A outer s H EV hr=>(ds_one (dp_ret (dv_and (dv_chain op_le (ref_int0 (gD:=fun i j=>.bl (decide (i<=j))) fun _ _ _ _ _=>rfl) op_le (ref_int0 (gD:=fun i j=>.bl (decide (i<=j))) fun _ _ _ _ _=>rfl) dv_int (dv_callB call_len ref_len (by rfl) g_len PySem.boot_len (da_cons (dv_var 0) da_nil)) dv_int) (dv_one (dv_callB (cr_all rfl) ref_all (by rfl) g_all (by decide +kernel) (da_cons (dv_lc rfl sc__law_is_word.nd (di_seq (dv_var 0)) (blkOk_by (own:=[("_law_sign",1)]) (N:=["_law_text_here","_law_sign"]) (sc:=defScope s__law_is_word) (by decide +kernel)) (tgn_name (i:=1) (by decide)) (fun _ _ _ _ _=>pg_name (i:=1) sc__law_is_word.nd rfl (by first | exact Or.inl rfl | exact Or.inr rfl)) (fun _ _ _ _ _=>dts_nil) (fun _ _ _ _ _=>(dv_in (dv_var 1) dv_str))) da_nil))))))) ?_
 rintro ds M Q E hM hD ⟨z,rfl,hz,hQ⟩
 unfold nameB at hQ
 have fin:∀ b,Q (.bl b) M->Cut M.length Q (.bl b) M:=fun b h=>Cut.same rfl hM h
 walk_at "R"
 refine ifd (fun h1=>?_) (fun h1=>fin _ (by rw [decide_eq_false h1] at hQ;exact hQ))
 rw [decide_eq_true h1,if_pos rfl] at hQ
 walk_at "R"
 refine ifd (fun h2=>?_) (fun h2=>fin _ (by rw [decide_eq_false h2] at hQ;exact hQ))
 rw [decide_eq_true h2,if_pos rfl] at hQ
 walk_at "R"
 refine lc_map (fun c=>D.str ⟨#[c]⟩) (fun c=>D.bl (decide (c∈az.cps.toList))) z.cps.toList (by show z.length<=_;exact hz) ?_ ?_
 ·intro c _ N hN
  walk_at "R"
  exact hN
 ·walk_at "R"
  refine e_allM (fin _ hQ)
theorem ok__law_number {f:Addr} {fd:FuncData} (F:F__law_number K f fd) (C__law_lowest:Cal__law_lowest P w K mg base Tb) (g_all:mg "all"=none) (g_len:mg "len"=none) (g_int:mg "int"=none):FnD P w K mg base Tb 34 f fd ["_law_text_here"] sp__law_number:=by
 refine fnD_of _ F sc__law_number (by rintro ds M Q E ⟨t,rfl,_⟩;rfl) (fun cdv A outer s H EV hr=>(ds_cons (dp_set 1 sc__law_number.nd (dv_bm PySem.F.plainAttrs_str PySem.F.slot_str_split PySem.F.type_str_split mt_split ref_split (dv_var 0) (da_cons dv_str da_nil)))
 (ds_cons (dp_for PassesOwn.leaving rfl (di_seq (dv_var 1)) (dg_name 2 sc__law_number.nd) (ds_cons (dp_set 3 sc__law_number.nd (dv_if (dt_eq hr.units (dv_slice (dv_var 2) do_none (do_some dv_int)) dv_str) (dv_slice (dv_var 2) (do_some dv_int) do_none) (dv_var 2)))
 (ds_one (dp_if (dt_w (dw_or (dt_not (dt_chain op_le (ref_int0 (gD:=fun i j=>.bl (decide (i<=j))) fun _ _ _ _ _=>rfl) op_le (ref_int0 (gD:=fun i j=>.bl (decide (i<=j))) fun _ _ _ _ _=>rfl) dv_int (dv_callB call_len ref_len (by rfl) g_len PySem.boot_len (da_cons (dv_var 3) da_nil)) dv_int)) (dw_or1 (dt_not (dt_tru (dv_callB (cr_all rfl) ref_all (by rfl) g_all (by decide +kernel) (da_cons (dv_lc rfl sc__law_number.nd (di_seq (dv_var 3)) (blkOk_by (own:=[("_law_sign",4)]) (N:=["_law_text_here","_law_parts","_law_part","_law_figures","_law_sign","_law_pair"]) (sc:=defScope s__law_number) (by decide +kernel)) (tgn_name (i:=4) (by decide)) (fun _ _ _ _ _=>pg_name (i:=4) sc__law_number.nd rfl (by first | exact Or.inl rfl | exact Or.inr rfl)) (fun _ _ _ _ _=>dts_nil) (fun _ _ _ _ _=>(dv_in (dv_var 4) dv_str))) da_nil))))))) (ds_one (dp_ret dv_non)) ds_nil))))
 (ds_cons (dp_if (dt_w (dw_or (dt_gt (dv_callB call_len ref_len (by rfl) g_len PySem.boot_len (da_cons (dv_var 1) da_nil)) dv_int) (dw_or1 (dt_w (dw_and (dt_eq hr.units (dv_callB call_len ref_len (by rfl) g_len PySem.boot_len (da_cons (dv_var 1) da_nil)) dv_int) (dw_and1 (dt_lt (dv_callTy (call_int1.or call_int_str) ref_int1 (by rfl) g_int (by decide +kernel) (da_cons (dv_ix (dv_var 1) dv_int) da_nil)) dv_int))))))) (ds_one (dp_ret dv_non)) ds_nil)
 (ds_cons (dp_set 5 sc__law_number.nd (dv_tup (da_cons (dv_callTy (call_int1.or call_int_str) ref_int1 (by rfl) g_int (by decide +kernel) (da_cons (dv_ix (dv_var 1) dv_int) da_nil)) (da_cons (dv_if (dt_eq hr.units (dv_callB call_len ref_len (by rfl) g_len PySem.boot_len (da_cons (dv_var 1) da_nil)) dv_int) (dv_callTy (call_int1.or call_int_str) ref_int1 (by rfl) g_int (by decide +kernel) (da_cons (dv_ix (dv_var 1) dv_int) da_nil)) dv_int) da_nil))))
 (ds_one (dp_ret (dv_if (dt_eq hr.units (dv_call C__law_lowest.fn (hr.mono (by decide)) (by rfl) C__law_lowest.mgx C__law_lowest.F.kp (bd__law_lowest C__law_lowest.F) hxF (da_cons (dv_ix (dv_var 5) dv_int) (da_cons (dv_ix (dv_var 5) dv_int) da_nil))) (dv_var 5)) (dv_var 5) dv_non)))))))) ?_
 rintro ds M Q E hM hD ⟨t,rfl,hl,hQ⟩
 have zl:sizeLine=16777216:=rfl
 have fin:∀ k,lnF t=k->Cut M.length Q (lnD k) M:=fun k e=>Cut.same (by cases k <;> rfl) hM (e ▸ hQ)
 have hb:=spl_back (s:=47) t []
 rw [List.nil_append] at hb
 obtain ⟨n1,n2⟩:=parts_n (S:=[47]) (by simp) hb (splX_ne _ _ _ _)
 unfold lnF at fin
 walk_at "R"
 refine ⟨by decide +kernel,by rw [SX.S_len];omega,?_⟩
 rw [show Str.ofString "/"=SX.S [47] by decide +kernel,SX.split_S (by decide) (by decide),List.map_map]
 have hnz:=splX_ne [47] 0 [] t
 generalize TL.spl [47] 0 [] t=ps at fin n1 n2 hnz ⊢
 walk_at "R"
 have e45:(Str.ofString "-")=SX.S [45]:=by decide +kernel
 refine for_list (fun p=>D.str (SX.S p)) ps (fun r rho M'=>M'=M/\∃ pre c2 c3,ps=pre ++ r/\(∀ p∈pre,figB p=true)/\rho=[some (.str (SX.S t)),some (.lst (ps.map fun p=>D.str (SX.S p))),c2,c3,none,none]) ⟨rfl,[],none,none,rfl,(fun _ h=>nomatch h),rfl⟩ ?_ ?_
 ·rintro p r rho M' N ⟨rfl,pre,c2,c3,ep,hpre,rfl⟩ hN
  have hpm:p∈ps:=by rw [ep];simp
  have hpl:=n2 p hpm
  have no:figB p=false->Cut M'.length Q .non M':=fun h=>fin none (if_neg fun ha=>by
   rw [List.all_eq_true] at ha
   rw [ha p hpm] at h
   cases h)
  have go:figB p=true->N [some (.str (SX.S t)),some (.lst (ps.map fun p=>D.str (SX.S p))),some (.str (SX.S p)),some (.str (SX.S (figs p))),none,none] M':=fun h=>hN _ _ ⟨rfl,pre ++ [p],_,_,by rw [List.append_assoc];exact ep,fun q hq=>by
   rcases List.mem_append.mp hq with hq | hq
   ·exact hpre q hq
   ·rw [List.mem_singleton.mp hq];exact h,rfl⟩
  have c1:cutS (SX.S p) none (some 1)=SX.S (p.take 1):=by
   rw [C8.cutS_slice];exact SX.slice_to (by decide)
  have c2:cutS (SX.S p) (some 1) none=SX.S (p.drop 1):=by
   rw [C8.cutS_slice];exact SX.slice_from (by decide)
  have hfl:(figs p).length<=1000000:=by
   unfold figs
   split
   ·rw [List.length_drop];omega
   ·omega
  have rest:∀ (DD:DEnds),DD.nx=N->DD.rt=Cut M'.length Q->(dIfS (dOr (dNot (dB (dChain (rInt0D fun i j=>D.bl (decide (i<=j))) (rInt0D fun i j=>D.bl (decide (i<=j))) (dC (D.int 1)) (dCB rLen_ (dCons (dVar 3) dNil)) (dC (D.int 12))))) (dNot (dTru (dCB rAll_ (dCons (dLc (iSeq (dVar 3)) (hName 4) dYes (dOp rIn_ (dVar 4) (dC (D.str "0123456789"))) [4]) dNil))))) (dRet (dC D.non)) dNext) (CutX M'.length E) DD [some (.str (SX.S t)),some (.lst (ps.map fun p=>D.str (SX.S p))),some (.str (SX.S p)),some (.str (SX.S (figs p))),none,none] M':=fun DD h1 h2=>by
   obtain ⟨nx,rt,bk,ct⟩:=DD
   cases h1
   cases h2
   unfold figB at no go
   walk_at "R"
   refine e_lenS (by rw [SX.S_len];omega) ?_
   rw [SX.S_len]
   walk_at "R"
   refine ifd (fun h1=>?_) (fun h1=>?_)
   rotate_left
   ·walk_at "R"
    exact no (by rw [decide_eq_false h1];rfl)
   rw [decide_eq_true h1,if_pos rfl] at no go
   walk_at "R"
   refine ifn (fun h2=>?_) (fun h2=>?_)
   ·walk_at "R"
    exact no (by rw [decide_eq_false h2];rfl)
   rw [decide_eq_true h2,if_pos rfl] at no go
   walk_at "R"
   refine lc_map (fun c=>D.str ⟨#[c]⟩) (fun c=>D.bl (decide (c∈cl dg9))) (figs p) (by omega) ?_ ?_
   ·intro c _ N hN
    walk_at "R"
    exact hN
   ·walk_at "R"
    refine e_allM ?_
    cases h3:((figs p).map fun c=>decide (c∈cl dg9)).all _root_.id with
    | false =>
     walk_at "R"
     exact no h3
    | true =>
     walk_at "R"
     exact go h3
  walk_at "R"
  refine e_sls (by rw [SX.S_len];omega) ?_
  rw [c1,e45]
  walk_at "R"
  refine ifd (fun h=>?_) (fun h=>?_)
  ·have h:=SX.S_inj h
   have ef:figs p=p.drop 1:=if_pos h
   rw [ef] at rest
   walk_at "R"
   refine e_sls (by rw [SX.S_len];omega) ?_
   rw [c2]
   exact rest _ rfl rfl
  ·have ef:figs p=p:=if_neg (fun e=>h (by rw [e]))
   rw [ef] at rest
   exact rest _ rfl rfl
 ·rintro rho M' ⟨rfl,pre,c2,c3,ep,hpre,rfl⟩
  rw [List.append_nil] at ep
  subst ep
  rw [if_pos (List.all_eq_true.mpr hpre)] at fin
  rcases ps with _ | ⟨a,_ | ⟨b,_ | ⟨c,r⟩⟩⟩
  ·exact absurd rfl hnz
  ·obtain ⟨v1,v2,_,v3⟩:=fig_val (hpre a (by simp))
   have vb:=bz_12 v2
   walk_at "R"
   refine ifd (fun h=>absurd h (by simp)) (fun _=>?_)
   walk_at "R"
   refine ifd (fun h=>absurd h (by simp)) (fun _=>?_)
   walk_at "R"
   refine e_itx v1 (by rw [SX.S_len];omega) ?_
   walk_at "R"
   refine ifd (fun h=>absurd h (by simp)) (fun _=>?_)
   walk_at "R"
   refine ⟨ival a,1,rfl,by decide,by decide,?_⟩
   walk_at "R"
   refine e_eqP (x:=qD (Rat.divInt (ival a) 1)) (y:=.tup [.int (ival a),.int 1]) rfl rfl (by show 1<=64;decide) (by show 1<=64;decide) ?_
   rw [low_eq (by decide),decide_eq_true (show Int.gcd (ival a) 1=1 from Int.gcd_one_right _)]
   walk_at "R"
   exact fin (some (ival a,1)) rfl
  ·obtain ⟨v1,v2,_,v3⟩:=fig_val (hpre a (by simp))
   obtain ⟨w1,w2,_,w3⟩:=fig_val (hpre b (by simp))
   have vb:=bz_12 v2
   have wb:=bz_12 w2
   walk_at "R"
   refine ifd (fun h=>absurd h (by simp)) (fun _=>?_)
   walk_at "R"
   refine ifd (fun _=>?_) (fun h=>absurd rfl h)
   walk_at "R"
   refine e_itx w1 (by rw [SX.S_len];omega) ?_
   walk_at "R"
   refine ifd (fun h1=>?_) (fun h1=>?_)
   ·walk_at "R"
    exact fin none (if_pos h1)
   walk_at "R"
   refine e_itx v1 (by rw [SX.S_len];omega) ?_
   walk_at "R"
   refine ifd (fun _=>?_) (fun h=>absurd rfl h)
   walk_at "R"
   refine e_itx w1 (by rw [SX.S_len];omega) ?_
   walk_at "R"
   refine ⟨ival a,ival b,rfl,by omega,by omega,?_⟩
   walk_at "R"
   refine e_eqP (x:=qD (Rat.divInt (ival a) (ival b))) (y:=.tup [.int (ival a),.int (ival b)]) rfl rfl (by show 1<=64;decide) (by show 1<=64;decide) ?_
   rw [low_eq (by omega)]
   refine ifd (fun h2=>?_) (fun h2=>?_)
   ·walk_at "R"
    exact fin (some (ival a,ival b)) ((if_neg h1).trans (if_pos h2))
   ·walk_at "R"
    exact fin none ((if_neg h1).trans (if_neg h2))
  ·walk_at "R"
   refine ifd (fun _=>?_) (fun h=>absurd (by simp only [List.length_map,List.length_cons];omega) h)
   walk_at "R"
   exact fin none rfl
theorem opt_list {f:List Nat->Option D} (hf:∀ p d,f p=some d->∃ xs,d = .tup xs):∀ (ps:List (List Nat)),(∃ xs,ps.mapM f=some xs/\ps.map (fun p=>optD (f p))=xs/\xs.any isNon=false)\/(ps.mapM f=none/\(ps.map fun p=>optD (f p)).any isNon=true)
 | []=>.inl ⟨[],rfl,rfl,rfl⟩
 | p :: r=>by
  rw [List.mapM_cons,List.map_cons]
  cases hp:f p with
  | none=>exact .inr ⟨rfl,rfl⟩
  | some d =>
   obtain ⟨us,rfl⟩:=hf p d hp
   rcases opt_list hf r with ⟨xs,h1,h2,h3⟩ | ⟨h1,h2⟩
   ·refine .inl ⟨.tup us :: xs,by rw [h1];rfl,by rw [h2];rfl,?_⟩
    rw [List.any_cons,h3];rfl
   ·refine .inr ⟨by rw [h1];rfl,?_⟩
    rw [List.any_cons,h2,Bool.or_true]
theorem optD_w {f:List Nat->Option D} {k:Nat} (hf:∀ p d,f p=some d->pz d=true/\dp d<=k/\∃ xs,d = .tup xs) (ps:List (List Nat)):(∀ x∈ps.map (fun p=>optD (f p)),x = .non\/∃ us,x = .tup us)/\pzs (ps.map fun p=>optD (f p))=true/\dps (ps.map fun p=>optD (f p))<=k:=by
 have key:∀ x∈ps.map (fun p=>optD (f p)),pz x=true/\dp x<=k/\(x = .non\/∃ us,x = .tup us):=fun x hx=>by
  obtain ⟨p,_,rfl⟩:=List.mem_map.mp hx
  cases hp:f p with
  | none=>exact ⟨rfl,Nat.zero_le _,.inl rfl⟩
  | some d=>exact ⟨(hf p d hp).1,(hf p d hp).2.1,.inr (hf p d hp).2.2⟩
 exact ⟨fun x hx=>(key x hx).2.2,pzs_all fun x hx=>(key x hx).1,dps_all fun x hx=>(key x hx).2.1⟩
theorem lrd_w {n:Nat} {p:List Nat} {d:D} (h:lrdF nameB n p=some d):pz d=true/\dp d<=2 * n+1/\∃ xs,d = .tup xs:=by
 have h1:=(lrd_ok h).1
 obtain ⟨a,b⟩:=h1.pzd fun z hz=>nameB_strOk hz
 obtain ⟨ss,e,_⟩:=tp_steps h1
 exact ⟨a,b,ss,e⟩
theorem lst_w {n:Nat} {p:List Nat} {d:D} (h:lstF nameB (lrdF nameB n) p=some d):pz d=true/\dp d<=2 * n+2/\∃ xs,d = .tup xs:=by
 have h1:=(lst_ok (P:=TPipe (fun z=>nameB z=true) n) (g:=wPipe n) (fun l d h=>lrd_ok h) h).1
 obtain ⟨a,b⟩:=h1.pzd (k:=2 * n+1) (by omega) (fun z hz=>nameB_strOk hz) fun d hd=>hd.pzd fun z hz=>nameB_strOk hz
 exact ⟨a,b,by cases h1 <;> exact ⟨_,rfl⟩⟩
theorem lrd_hb {n:Nat} {p:List Nat} {m:Nat}:(optD (lrdF nameB n p)).hb m=true:=by
 cases h:lrdF nameB n p with
 | none=>rfl
 | some d=>exact (lrd_ok h).1.hb
theorem lst_hb {n:Nat} {p:List Nat} {m:Nat}:(optD (lstF nameB (lrdF nameB n) p)).hb m=true:=by
 cases h:lstF nameB (lrdF nameB n) p with
 | none=>rfl
 | some d=>exact (lst_ok (P:=TPipe (fun z=>nameB z=true) n) (g:=wPipe n) (fun l d h=>lrd_ok h) h).1.hb fun d hd=>hd.hb
theorem cut_13 {α:Type} {x:α} {r:List α}:cutL (x :: r) (some 1) (some 3)=r.take 2:=by
 unfold cutL
 rw [show (some (1:Int))=some ((1:Nat):Int) from rfl,show (some (3:Int))=some ((3:Nat):Int) from rfl,HT.sIx_nat,HT.sIx_nat,List.length_cons,show min 1 (r.length+1)=1 by omega,List.drop_succ_cons,List.drop_zero,List.take_eq_take_iff]
 omega
theorem at_3 {w:List Nat} {ts:List (List Nat)} (h:ts.length=3):L2.atI (D.str (SX.S w) :: ts.map fun t=>D.str (SX.S t)) 3=some (.str (SX.S (ts.getD 2 []))):=by
 obtain ⟨a,b,c,rfl⟩:=len3A h
 rfl
def sizesK:KD:=[(.inr "shift",.int 1),(.inr "scale",.int 1),(.inr "floor",.int 2),(.inr "ceiling",.int 2),(.inr "nearest",.int 3)]
theorem merge5:mergeKD sizesK=sizesK:=by kernel_rfl
theorem sizes_val (z:Str):valD sizesK (.inr z)=(szF z).map fun k:Nat=>D.int (k:Int):=by
 unfold valD sizesK szF
 simp only [List.find?]
 by_cases h1:z="shift"
 ·subst h1;rfl
 rw [if_neg h1,decide_eq_false (fun e=>h1 (Sum.inr.inj e).symm)]
 by_cases h1:z="scale"
 ·subst h1;rfl
 rw [if_neg h1,decide_eq_false (fun e=>h1 (Sum.inr.inj e).symm)]
 by_cases h1:z="floor"
 ·subst h1;rfl
 rw [if_neg h1,decide_eq_false (fun e=>h1 (Sum.inr.inj e).symm)]
 by_cases h1:z="ceiling"
 ·subst h1;rfl
 rw [if_neg h1,decide_eq_false (fun e=>h1 (Sum.inr.inj e).symm)]
 by_cases h1:z="nearest"
 ·subst h1;rfl
 rw [if_neg h1,decide_eq_false (fun e=>h1 (Sum.inr.inj e).symm)]
 rfl
theorem opt_num:∀ (ps:List (List Nat)),(∃ xs,ps.mapM lnF=some xs/\ps.map (fun p=>lnD (lnF p))=xs.map DL.pairD)\/(ps.mapM lnF=none/\(ps.map fun p=>lnD (lnF p)).any isNon=true)
 | []=>.inl ⟨[],rfl,rfl⟩
 | p :: r=>by
  rw [List.mapM_cons,List.map_cons]
  cases hp:lnF p with
  | none=>exact .inr ⟨rfl,rfl⟩
  | some d =>
   rcases opt_num r with ⟨xs,h1,h2⟩ | ⟨h1,h2⟩
   ·exact .inl ⟨d :: xs,by rw [h1];rfl,by rw [h2];rfl⟩
   ·refine .inr ⟨by rw [h1];rfl,?_⟩
    rw [List.any_cons,h2,Bool.or_true]
theorem num_w (ps:List (List Nat)):(∀ x∈ps.map (fun p=>lnD (lnF p)),x = .non\/∃ us,x = .tup us)/\pzs (ps.map fun p=>lnD (lnF p))=true/\dps (ps.map fun p=>lnD (lnF p))<=2:=by
 have key:∀ x∈ps.map (fun p=>lnD (lnF p)),pz x=true/\dp x<=2/\(x = .non\/∃ us,x = .tup us):=fun x hx=>by
  obtain ⟨p,_,rfl⟩:=List.mem_map.mp hx
  cases hp:lnF p with
  | none=>exact ⟨rfl,Nat.zero_le _,.inl rfl⟩
  | some d=>exact ⟨rfl,by show 1<=2;decide,.inr ⟨_,rfl⟩⟩
 exact ⟨fun x hx=>(key x hx).2.2,pzs_all fun x hx=>(key x hx).1,dps_all fun x hx=>(key x hx).2.1⟩
theorem nonP (xs:List (Int×Int)):(xs.map DL.pairD).any isNon=false:=by
 rw [List.any_eq_false]
 intro x hx
 obtain ⟨p,_,rfl⟩:=List.mem_map.mp hx
 exact Bool.false_ne_true
def lloop (n:Nat) (l:List Nat):List (List Nat)->Option D
 | []=>lplF nameB (TL.spl [32] 0 [] l)
 | w :: r=>if ljB w l=true then ljF (lrdF nameB n) w l else lloop n l r
theorem lrd_key {f f2:Addr} {fd2:FuncData} (F2:F__law_read_step K f2 fd2) (I__law_read_step:∃ (f2:Addr) (fd2:FuncData),F__law_read_step K f2 fd2/\mg "_law_read_step"=some (.ref f2)) (mgs:mg "_law_read"=some (.ref f)) (C__law_split:Cal__law_split P w K mg base Tb) (C__law_is_word:Cal__law_is_word P w K mg base Tb) (C__law_number:Cal__law_number P w K mg base Tb) (g_len:mg "len"=none) (g_tuple:mg "tuple"=none) (n:Nat) (C__law_read:Cal P w K mg base Tb "_law_read" "_law_read" s__law_read [] [] (2 * n+50) ["_law_text_here","_law_deep"] (sp__law_read_n n)):FnD P w K mg base Tb (2 * n+51) f2 fd2 ["_law_text_here","_law_deep"] (sp__law_read_step_n n):=by
 refine fnD_of _ F2 sc__law_read_step (by rintro ds M Q E ⟨l,k,rfl,_⟩;rfl) (fun cdv A outer s H EV hr=>(ds_cons (dp_for PassesOwn.leaving rfl (di_seq (dv_tup (da_cons dv_str (da_cons dv_str (da_cons dv_str da_nil))))) (dg_name 2 sc__law_read_step.nd) (ds_one (dp_if (dt_w (dw_and (dt_eq hr.units (dv_slice (dv_var 0) do_none (do_some (dv_add (dv_callB call_len ref_len (by rfl) g_len PySem.boot_len (da_cons (dv_var 2) da_nil)) dv_int))) (dv_add (dv_var 2) dv_str)) (dw_and1 (dt_eq hr.units (dv_slice (dv_var 0) (do_some (dv_neg dv_int)) do_none) dv_str)))) (ds_cons (dp_setLc 3 rfl sc__law_read_step.nd (di_seq (dv_call C__law_split.fn (hr.mono (by omega)) (by rfl) C__law_split.mgx C__law_split.F.kp (bd__law_split C__law_split.F) hxF (da_cons (dv_slice (dv_var 0) (do_some (dv_add (dv_callB call_len ref_len (by rfl) g_len PySem.boot_len (da_cons (dv_var 2) da_nil)) dv_int)) (do_some (dv_neg dv_int))) (da_cons dv_str da_nil)))) (blkOk_by (own:=[("_law_part",4)]) (N:=["_law_text_here","_law_deep","_law_word_here","_law_parts","_law_part","_law_words","_law_sizes","_law_things","_law_thing"]) (sc:=defScope s__law_read_step) (by decide +kernel)) (tgn_name (i:=4) (by decide)) (fun _ _ _ _ _=>pg_name (i:=4) sc__law_read_step.nd rfl (by first | exact Or.inl rfl | exact Or.inr rfl)) (fun _ _ _ _ _=>dts_nil) (fun _ _ _ _ _=>(dv_call C__law_read.fn (hr.mono (by omega)) (by rfl) C__law_read.mgx C__law_read.F.kp (bd__law_read C__law_read.F) passL (da_cons (dv_var 4) (da_cons (dv_sub (dv_var 1) dv_int) da_nil)))) (sw_true rfl rfl rfl (by decide +kernel)))
 (ds_one (dp_ret (dv_if (dt_w (dw_and (dt_notinW (hr.mono (Nat.zero_le _)) dv_non (dv_var 3)) (dw_and1 (dt_chain op_le (ref_int0 (gD:=fun i j=>.bl (decide (i<=j))) fun _ _ _ _ _=>rfl) op_le (ref_int0 (gD:=fun i j=>.bl (decide (i<=j))) fun _ _ _ _ _=>rfl) dv_int (dv_callB call_len ref_len (by rfl) g_len PySem.boot_len (da_cons (dv_var 3) da_nil)) dv_int)))) (dv_add (dv_tup (da_cons (dv_var 2) da_nil)) (dv_callTy call_tuple_of ref_tuple (by rfl) g_tuple (by decide +kernel) (da_cons (dv_var 3) da_nil))) dv_non)))) ds_nil)))
 (ds_cons (dp_set 5 sc__law_read_step.nd (dv_bm PySem.F.plainAttrs_str PySem.F.slot_str_split PySem.F.type_str_split mt_split ref_split (dv_var 0) (da_cons dv_str da_nil)))
 (ds_cons (dp_if (dt_eq hr.units (dv_ix (dv_var 5) dv_int) dv_str) (ds_one (dp_ret (dv_if (dt_w (dw_and (dt_eq hr.units (dv_callB call_len ref_len (by rfl) g_len PySem.boot_len (da_cons (dv_var 5) da_nil)) dv_int) (dw_and1 (dt_tru (dv_call C__law_is_word.fn (hr.mono (by omega)) (by rfl) C__law_is_word.mgx C__law_is_word.F.kp (bd__law_is_word C__law_is_word.F) hxF (da_cons (dv_ix (dv_var 5) dv_int) da_nil)))))) (dv_tup (da_cons dv_str (da_cons (dv_ix (dv_var 5) dv_int) da_nil))) dv_non))) ds_nil)
 (ds_cons (dp_set 6 sc__law_read_step.nd (dv_dispN (pdp_cons dv_str dv_int (pdp_cons dv_str dv_int (pdp_cons dv_str dv_int (pdp_cons dv_str dv_int (pdp_cons dv_str dv_int pdp_nil))))) rfl rfl (by simp) (by decide)))
 (ds_cons (dp_if (dt_w (dw_or (dt_notinK (units1 hr.units) (dv_ix (dv_var 5) dv_int) (dv_var 6)) (dw_or1 (dt_ne hr.units (dv_callB call_len ref_len (by rfl) g_len PySem.boot_len (da_cons (dv_var 5) da_nil)) (dv_add dv_int (dv_ixK (units1 hr.units) (dv_var 6) (dv_ix (dv_var 5) dv_int))))))) (ds_one (dp_ret dv_non)) ds_nil)
 (ds_cons (dp_setLc 7 rfl sc__law_read_step.nd (di_seq (dv_slice (dv_var 5) (do_some dv_int) (do_some dv_int))) (blkOk_by (own:=[("_law_thing",8)]) (N:=["_law_text_here","_law_deep","_law_word_here","_law_parts","_law_part","_law_words","_law_sizes","_law_things","_law_thing"]) (sc:=defScope s__law_read_step) (by decide +kernel)) (tgn_name (i:=8) (by decide)) (fun _ _ _ _ _=>pg_name (i:=8) sc__law_read_step.nd rfl (by first | exact Or.inl rfl | exact Or.inr rfl)) (fun _ _ _ _ _=>dts_nil) (fun _ _ _ _ _=>(dv_call C__law_number.fn (hr.mono (by omega)) (by rfl) C__law_number.mgx C__law_number.F.kp (bd__law_number C__law_number.F) passL (da_cons (dv_var 8) da_nil))) (sw_true rfl rfl rfl (by decide +kernel)))
 (ds_cons (dp_if (dt_w (dw_or (dt_inW (hr.mono (Nat.zero_le _)) dv_non (dv_var 7)) (dw_or1 (dt_w (dw_and (dt_ne hr.units (dv_ix (dv_var 5) dv_int) dv_str) (dw_and1 (dt_lt (dv_ix (dv_ix (dv_var 7) dv_int) dv_int) dv_int))))))) (ds_one (dp_ret dv_non)) ds_nil)
 (ds_cons (dp_if (dt_eq hr.units (dv_ix (dv_var 5) dv_int) dv_str) (ds_one (dp_ret (dv_if (dt_in (dv_ix (dv_var 5) dv_int) (dv_tup (da_cons dv_str (da_cons dv_str (da_cons dv_str da_nil))))) (dv_add (dv_add (dv_tup (da_cons dv_str da_nil)) (dv_callTy call_tuple_of ref_tuple (by rfl) g_tuple (by decide +kernel) (da_cons (dv_var 7) da_nil))) (dv_tup (da_cons (dv_ix (dv_var 5) dv_int) da_nil))) dv_non))) ds_nil)
 (ds_one (dp_ret (dv_add (dv_tup (da_cons (dv_ix (dv_var 5) dv_int) da_nil)) (dv_callTy call_tuple_of ref_tuple (by rfl) g_tuple (by decide +kernel) (da_cons (dv_var 7) da_nil)))))))))))))) ?_
 rintro ds M Q E hM hD ⟨l,k,rfl,hl,rfl,n4,hQ⟩
 have zl:sizeLine=16777216:=rfl
 have e40:Str.ofString "("=SX.S [40]:=by decide +kernel
 have e41:Str.ofString ")"=SX.S [41]:=by decide +kernel
 have fin:∀ k,lstF nameB (lrdF nameB n) l=k->Cut M.length Q (optD k) M:=fun k e=>e ▸ Cut.same lst_hb hM hQ
 have e3:[D.str "sum",D.str "least",D.str "greatest"]=[wSum,wLea,wGre].map fun w=>D.str (SX.S w):=by
  rw [show Str.ofString "sum"=SX.S wSum by decide +kernel,show Str.ofString "least"=SX.S wLea by decide +kernel,show Str.ofString "greatest"=SX.S wGre by decide +kernel];rfl
 walk_at "R"
 rw [e3]
 refine for_list (fun w=>D.str (SX.S w)) [wSum,wLea,wGre] (fun r rho M'=>M'=M/\(∀ w∈r,w.length<=8)/\lloop n l r=lstF nameB (lrdF nameB n) l/\∃ c2,rho=[some (.str (SX.S l)),some (.int ((n:Int)+1)),c2,none,none,none,none,none,none]) ⟨rfl,by decide,rfl,none,rfl⟩ ?_ ?_
 ·rintro wd r rho M' N ⟨rfl,hw8,hlo,c2,rfl⟩ hN
  have hw8':=hw8 wd (by simp)
  have next:ljB wd l=false->N [some (.str (SX.S l)),some (.int ((n:Int)+1)),some (.str (SX.S wd)),none,none,none,none,none,none] M':=fun h=>hN _ _ ⟨rfl,fun w hw=>hw8 w (List.mem_cons_of_mem _ hw),by rw [<- hlo];exact (if_neg (by rw [h];decide)).symm,_,rfl⟩
  have c1:cutS (SX.S l) none (some ((wd.length:Int)+1))=SX.S (l.take (wd.length+1)):=by
   rw [C8.cutS_slice,SX.slice_to (by omega)];congr 2
  walk_at "R"
  refine e_lenS (by rw [SX.S_len];omega) ?_
  rw [SX.S_len]
  walk_at "R"
  refine e_sls (by rw [SX.S_len];omega) ?_
  rw [c1]
  walk_at "R"
  refine e_adds (by rw [SX.S_len,e40,SX.S_len,List.length_singleton];omega) ?_
  rw [e40,SX.S_cat]
  walk_at "R"
  refine ifd (fun h1=>?_) (fun h1=>?_)
  rotate_left
  ·exact next (by unfold ljB;rw [decide_eq_false (fun e=>h1 (by rw [e])),Bool.false_and])
  have h1:=SX.S_inj h1
  walk_at "R"
  refine e_sls (by rw [SX.S_len];omega) ?_
  rw [C8.cutS_slice,sl_last,e41]
  walk_at "R"
  refine ifd (fun h2=>?_) (fun h2=>?_)
  rotate_left
  ·have h2':¬ l.drop (l.length - 1)=[41]:=fun e=>h2 (by rw [e])
   exact next (by unfold ljB;rw [decide_eq_false h2',Bool.and_false])
  have h2:=SX.S_inj h2
  have hjb:ljB wd l=true:=by unfold ljB;rw [decide_eq_true h1,decide_eq_true h2];rfl
  have hres:lstF nameB (lrdF nameB n) l=ljF (lrdF nameB n) wd l:=hlo.symm.trans (if_pos hjb)
  have fin:∀ k,ljF (lrdF nameB n) wd l=k->Cut M'.length Q (optD k) M':=fun k e=>fin k (hres.trans e)
  unfold ljF at fin
  walk_at "R"
  refine e_lenS (by rw [SX.S_len];omega) ?_
  rw [SX.S_len]
  walk_at "R"
  refine e_sls (by rw [SX.S_len];omega) ?_
  rw [show (wd.length:Int)+1=((wd.length+1:Nat):Int) by omega,cut_mid1]
  have hil:((l.take (l.length - 1)).drop (wd.length+1)).length<=1000000:=by rw [List.length_drop,List.length_take];omega
  refine ⟨_,[59,32],by rw [show Str.ofString "; "=SX.S [59,32] by decide +kernel],by decide,by decide,hil,?_⟩
  walk_at "R"
  obtain ⟨n1,n2⟩:=parts_n (S:=[59,32]) (l:=(l.take (l.length - 1)).drop (wd.length+1)) (by simp) (spo_j (by simp)) (spo_ne _ _ _ _ _)
  generalize spo [59,32] 0 0 [] ((l.take (l.length - 1)).drop (wd.length+1))=ps at fin n1 n2 ⊢
  refine lc_map (fun p=>D.str (SX.S p)) (fun p=>optD (lrdF nameB n p)) ps (by omega) (fun p hp N hN=>?_) ?_
  ·walk_at "R"
   exact ⟨p,_,rfl,by have:=n2 p hp;omega,by omega,by omega,hN⟩
  obtain ⟨w1,w2,w3⟩:=optD_w (f:=lrdF nameB n) (fun p d h=>lrd_w h) ps
  have ol:=opt_list (f:=lrdF nameB n) (fun p d h=>(lrd_w h).2.2) ps
  have hxl:(ps.map fun p=>optD (lrdF nameB n p)).length=ps.length:=by simp
  generalize (ps.map fun p=>optD (lrdF nameB n p))=xs at w1 w2 w3 ol hxl ⊢
  walk_at "R"
  refine e_inW0 w1 w2 (by omega) ?_
  rcases ol with ⟨us,h1,rfl,h3⟩ | ⟨h1,h2⟩
  ·rw [h1] at fin
   rw [h3]
   walk_at "R"
   refine ifd (fun h2=>?_) (fun h2=>?_)
   rotate_left
   ·walk_at "R"
    exact fin none (if_neg (by omega))
   walk_at "R"
   by_cases h4:xs.length<=4
   ·rw [decide_eq_true (show ((xs.length:Nat):Int)<=4 by omega)]
    walk_at "R"
    refine e_addt (by rw [List.length_singleton];omega) ?_
    exact fin (some (.tup (.str (SX.S wd) :: xs))) (if_pos ⟨by omega,h4⟩)
   ·rw [decide_eq_false (show ¬ ((xs.length:Nat):Int)<=4 by omega)]
    walk_at "R"
    exact fin none (if_neg (by omega))
  ·rw [h1] at fin
   rw [h2]
   walk_at "R"
   exact fin none rfl
 ·rintro rho M' ⟨rfl,_,hlo,c2,rfl⟩
  have fin:∀ k,lplF nameB (TL.spl [32] 0 [] l)=k->Cut M'.length Q (optD k) M':=fun k e=>fin k (hlo.symm.trans e)
  have fin2:∀ k,lplF nameB (TL.spl [32] 0 [] l)=k->∀ L,Cut M'.length Q (optD k) (M' ++ L):=fun k e L=>(hlo.symm.trans e) ▸ Cut.app lst_hb hM hQ
  have hb:=spl_back (s:=32) l []
  rw [List.nil_append] at hb
  obtain ⟨n1,n2⟩:=parts_n (S:=[32]) (by simp) hb (splX_ne _ _ _ _)
  walk_at "R"
  refine ⟨by decide +kernel,by rw [SX.S_len];omega,?_⟩
  rw [show Str.ofString " "=SX.S [32] by decide +kernel,SX.split_S (by decide) (by decide),List.map_map]
  obtain ⟨wd,ts,hs⟩:∃ w ts,TL.spl [32] 0 [] l=w :: ts:=by
   cases h:TL.spl [32] 0 [] l with
   | nil=>exact absurd h (splX_ne _ _ _ _)
   | cons w ts=>exact ⟨w,ts,rfl⟩
  rw [hs] at fin fin2 n1 n2 ⊢
  rw [List.length_cons] at n1
  have nts:∀ t∈ts,t.length<=1000000:=fun t ht=>by have:=n2 t (List.mem_cons_of_mem _ ht);omega
  have fin:∀ k,(if SX.S wd="use" then lUse nameB ts else match szF (SX.S wd) with
   | none=>none
   | some k=>if ts.length=k then lBody (SX.S wd) ts else none)=k->Cut M'.length Q (optD k) M':=fin
  have fin2:∀ k,(if SX.S wd="use" then lUse nameB ts else match szF (SX.S wd) with
   | none=>none
   | some k=>if ts.length=k then lBody (SX.S wd) ts else none)=k->∀ L,Cut M'.length Q (optD k) (M' ++ L):=fin2
  rw [show List.map (D.str ∘ SX.S) (wd :: ts)=D.str (SX.S wd) :: ts.map (fun t=>D.str (SX.S t)) from rfl]
  walk_at "R"
  have ix0:∀ {r:List D} {x:D} {M:Mem} {Q:VD},Q x M->rIx_ (.lst (x :: r)) (.int 0) M Q:=fun h=>e_ix (d:=.lst _) rfl at_0 h
  have ix1:∀ {r:List D} {x y:D} {M:Mem} {Q:VD},Q y M->rIx_ (.lst (x :: y :: r)) (.int 1) M Q:=fun h=>e_ix (d:=.lst _) rfl (at_nat (j:=1) (by simp)) h
  refine ix0 ?_
  walk_at "R"
  refine ifd (fun h1=>?_) (fun h1=>?_)
  ·rw [if_pos h1] at fin
   have len2:∀ {j:Nat},((D.str (SX.S wd) :: ts.map (fun t=>D.str (SX.S t))).length=j) ↔ ts.length+1=j:=by intro j;rw [List.length_cons,List.length_map]
   rcases ts with _ | ⟨t,_ | ⟨t2,r⟩⟩
   ·walk_at "R"
    refine ifd (fun h=>absurd h (by simp)) (fun _=>?_)
    walk_at "R"
    exact fin none rfl
   ·walk_at "R"
    refine ifd (fun _=>?_) (fun h=>absurd rfl h)
    walk_at "R"
    refine ⟨SX.S t,rfl,by have:=nts t (by simp);rw [SX.S_len];omega,?_⟩
    have fin:∀ k,(if nameB (SX.S t)=true then some (D.tup [.str "use",.str (SX.S t)]) else none)=k->Cut M'.length Q (optD k) M':=fin
    cases hb:nameB (SX.S t) with
    | true =>
     rw [hb] at fin
     walk_at "R"
     exact fin _ rfl
    | false =>
     rw [hb] at fin
     walk_at "R"
     exact fin none rfl
   ·walk_at "R"
    refine ifd (fun h=>absurd h (by simp only [List.map_cons,List.length_cons];omega)) (fun _=>?_)
    walk_at "R"
    exact fin none rfl
  rw [if_neg h1] at fin2
  clear fin
  walk_at "R"
  refine ⟨_,rfl,?_⟩
  walk_at "R"
  refine ⟨_,rfl,?_⟩
  walk_at "R"
  refine ⟨_,rfl,?_⟩
  walk_at "R"
  refine ⟨_,rfl,?_⟩
  walk_at "R"
  refine ⟨_,rfl,?_⟩
  walk_at "R"
  refine ⟨by decide,List.getElem?_concat_length,?_⟩
  rw [show ∀ a b:Option MO,(M' ++ [a]).set M'.length b=M' ++ [b] from fun a b=>by rw [List.set_append_right _ _ (Nat.le_refl _),Nat.sub_self];rfl]
  generalize hk:mergeKD _=kk
  cases hk.symm.trans merge5
  clear hk
  have hm:(M' ++ [some (.dK sizesK)])[M'.length]?=some (some (.dK sizesK)):=List.getElem?_concat_length
  have fin:=fun k e=>fin2 k e [some (.dK sizesK)]
  generalize M' ++ [some (.dK sizesK)]=M2 at hm fin ⊢
  walk_at "R"
  refine ix0 ?_
  walk_at "R"
  refine e_inKm hm ?_
  rw [sizes_val,if_pos rfl]
  cases hz:szF (SX.S wd) with
  | none =>
   rw [hz] at fin
   walk_at "R"
   exact fin none rfl
  | some k =>
   rw [hz] at fin
   have fin:∀ d,(if ts.length=k then lBody (SX.S wd) ts else none)=d->Cut M'.length Q (optD d) M2:=fin
   have hv:valD sizesK (.inr (SX.S wd))=some (.int (k:Int)):=by rw [sizes_val,hz];rfl
   rw [show (!(Option.map (fun k:Nat=>D.int (k:Int)) (some k)).isSome)=false from rfl]
   walk_at "R"
   refine ix0 ?_
   walk_at "R"
   refine e_ixKd (memK_at hm) rfl hv ?_
   walk_at "R"
   rw [List.length_cons,List.length_map]
   refine ifn (fun h2=>?_) (fun h2=>?_)
   ·walk_at "R"
    exact fin none (if_neg (by omega))
   have hk:ts.length=k:=by omega
   rw [if_pos hk] at fin
   walk_at "R"
   refine e_sll (ys:=(ts.take 2).map fun t=>D.str (SX.S t)) (cut_13.trans (by rw [List.map_take])) ?_
   walk_at "R"
   refine lc_map (fun p=>D.str (SX.S p)) (fun p=>lnD (lnF p)) (ts.take 2) (by rw [List.length_take];omega) (fun p hp N hN=>?_) ?_
   ·walk_at "R"
    exact ⟨p,rfl,nts p (List.mem_of_mem_take hp),hN⟩
   obtain ⟨w1,w2,w3⟩:=num_w (ts.take 2)
   unfold lBody at fin
   rcases opt_num (ts.take 2) with ⟨ps,q1,q2⟩ | ⟨q1,q2⟩
   rotate_left
   ·rw [q1] at fin
    generalize ((ts.take 2).map fun p=>lnD (lnF p))=xs at w1 w2 w3 q2 ⊢
    walk_at "R"
    refine e_inW0 w1 w2 (by omega) ?_
    rw [q2]
    walk_at "R"
    exact fin none rfl
   rw [q1] at fin
   rw [q2] at w1 w2 w3 ⊢
   have hpl:ps.length=min 2 ts.length:=(mapM_two q1).trans List.length_take
   have fin:∀ d,lEnd (SX.S wd) ps (ts.getD 2 [])=d->Cut M'.length Q (optD d) M2:=fin
   walk_at "R"
   refine e_inW0 w1 w2 (by omega) ?_
   rw [nonP,if_neg (by decide)]
   unfold lEnd at fin
   rcases ps with _ | ⟨p0,pr⟩
   ·exfalso
    rcases szF_w hz with ⟨_,h⟩ | ⟨_,h⟩ | ⟨_,h⟩ | ⟨_,h⟩ | ⟨_,h⟩ <;> (rw [hk,h] at hpl;exact absurd hpl (by decide))
   have pl0:∀ {M:Mem} {Q:VD},Q (DL.pairD p0) M->rIx_ (.lst ((p0 :: pr).map DL.pairD)) (.int 0) M Q:=fun h=>e_ix (d:=.lst _) rfl at_0 h
   have fin:∀ d,(if SX.S wd≠"shift"/\p0.1 < 1 then none
    else if SX.S wd="nearest" then (if SX.S (ts.getD 2 [])∈updn then some (.tup (.str (SX.S wd) :: ((p0 :: pr).map DL.pairD ++ [.str (SX.S (ts.getD 2 []))]))) else none)
    else some (.tup (.str (SX.S wd) :: (p0 :: pr).map DL.pairD)))=d->Cut M'.length Q (optD d) M2:=fin
   walk_at "R"
   refine ix0 ?_
   walk_at "R"
   refine ifn (fun h3=>?_) (fun h3=>?_)
   ·have h3':SX.S wd≠"shift":=h3
    walk_at "R"
    refine pl0 ?_
    walk_at "R"
    refine ifd (fun h4=>?_) (fun h4=>?_)
    ·walk_at "R"
     exact fin none (if_pos ⟨h3',h4⟩)
    rw [if_neg (fun e=>h4 e.2)] at fin
    walk_at "R"
    refine ix0 ?_
    walk_at "R"
    refine ifd (fun h5=>?_) (fun h5=>?_)
    ·rw [if_pos h5] at fin
     have h3:ts.length=3:=by
      rcases szF_w hz with ⟨h,_⟩ | ⟨h,_⟩ | ⟨h,_⟩ | ⟨h,_⟩ | ⟨_,h⟩
      ·rw [h5] at h;exact absurd h (by decide)
      ·rw [h5] at h;exact absurd h (by decide)
      ·rw [h5] at h;exact absurd h (by decide)
      ·rw [h5] at h;exact absurd h (by decide)
      ·omega
     have i3:∀ {M:Mem} {Q:VD},Q (.str (SX.S (ts.getD 2 []))) M->rIx_ (.lst (.str (SX.S wd) :: ts.map fun t=>D.str (SX.S t))) (.int 3) M Q:=fun h=>e_ix (d:=.lst _) rfl (at_3 h3) h
     rw [h5] at i3
     walk_at "R"
     rw [h5]
     refine i3 ?_
     walk_at "R"
     refine e_inT (zs:=updn) ?_
     by_cases h6:SX.S (ts.getD 2 [])∈updn
     ·rw [if_pos h6] at fin
      rw [decide_eq_true h6]
      walk_at "R"
      refine e_addt (by rw [List.length_singleton,List.length_map,hpl];omega) ?_
      walk_at "R"
      refine i3 ?_
      walk_at "R"
      refine e_addt (by rw [List.length_append,List.length_singleton,List.length_map,hpl,List.length_singleton];omega) ?_
      rw [h5] at fin
      exact fin _ rfl
     ·rw [if_neg h6] at fin
      rw [decide_eq_false h6]
      walk_at "R"
      exact fin none rfl
    ·rw [if_neg h5] at fin
     walk_at "R"
     refine ix0 ?_
     walk_at "R"
     refine e_addt (by rw [List.length_singleton,List.length_map,hpl];omega) ?_
     exact fin _ rfl
   ·rw [if_neg (fun e=>e.1 h3)] at fin
    walk_at "R"
    refine ix0 ?_
    walk_at "R"
    refine ifd (fun h5=>?_) (fun h5=>?_)
    ·rw [if_pos h5] at fin
     have h3:ts.length=3:=by
      rcases szF_w hz with ⟨h,_⟩ | ⟨h,_⟩ | ⟨h,_⟩ | ⟨h,_⟩ | ⟨_,h⟩
      ·rw [h5] at h;exact absurd h (by decide)
      ·rw [h5] at h;exact absurd h (by decide)
      ·rw [h5] at h;exact absurd h (by decide)
      ·rw [h5] at h;exact absurd h (by decide)
      ·omega
     have i3:∀ {M:Mem} {Q:VD},Q (.str (SX.S (ts.getD 2 []))) M->rIx_ (.lst (.str (SX.S wd) :: ts.map fun t=>D.str (SX.S t))) (.int 3) M Q:=fun h=>e_ix (d:=.lst _) rfl (at_3 h3) h
     rw [h5] at i3
     walk_at "R"
     rw [h5]
     refine i3 ?_
     walk_at "R"
     refine e_inT (zs:=updn) ?_
     by_cases h6:SX.S (ts.getD 2 [])∈updn
     ·rw [if_pos h6] at fin
      rw [decide_eq_true h6]
      walk_at "R"
      refine e_addt (by rw [List.length_singleton,List.length_map,hpl];omega) ?_
      walk_at "R"
      refine i3 ?_
      walk_at "R"
      refine e_addt (by rw [List.length_append,List.length_singleton,List.length_map,hpl,List.length_singleton];omega) ?_
      rw [h5] at fin
      exact fin _ rfl
     ·rw [if_neg h6] at fin
      rw [decide_eq_false h6]
      walk_at "R"
      exact fin none rfl
    ·rw [if_neg h5] at fin
     walk_at "R"
     refine ix0 ?_
     walk_at "R"
     refine e_addt (by rw [List.length_singleton,List.length_map,hpl];omega) ?_
     exact fin _ rfl
theorem lrd_main {f:Addr} {fd:FuncData} (F:F__law_read K f fd) (I__law_read_step:∃ (f2:Addr) (fd2:FuncData),F__law_read_step K f2 fd2/\mg "_law_read_step"=some (.ref f2)) (mgs:mg "_law_read"=some (.ref f)) (C__law_split:Cal__law_split P w K mg base Tb) (C__law_is_word:Cal__law_is_word P w K mg base Tb) (C__law_number:Cal__law_number P w K mg base Tb) (g_len:mg "len"=none) (g_tuple:mg "tuple"=none) (n:Nat) (C__law_read_step:Cal P w K mg base Tb "_law_read_step" "_law_read_step" s__law_read_step [] [] (2 * n+51) ["_law_text_here","_law_deep"] (sp__law_read_step_n n)):FnD P w K mg base Tb (2 * n+52) f fd ["_law_text_here","_law_deep"] (sp__law_read_n (n+1)):=by
 refine fnD_of _ F sc__law_read (by rintro ds M Q E ⟨l,k,rfl,_⟩;rfl) (fun cdv A outer s H EV hr=>(ds_cons (dp_if (dt_w (dw_or (dt_eq hr.units (dv_var 0) dv_str) (dw_or1 (dt_lt (dv_var 1) dv_int)))) (ds_one (dp_ret (dv_if (dt_gt (dv_var 1) dv_int) (dv_tup da_nil) dv_non))) ds_nil)
 (ds_cons (dp_setLc 2 rfl sc__law_read.nd (di_seq (dv_call C__law_split.fn (hr.mono (by omega)) (by rfl) C__law_split.mgx C__law_split.F.kp (bd__law_split C__law_split.F) hxF (da_cons (dv_var 0) (da_cons dv_str da_nil)))) (blkOk_by (own:=[("_law_part",3)]) (N:=["_law_text_here","_law_deep","_law_steps","_law_part"]) (sc:=defScope s__law_read) (by decide +kernel)) (tgn_name (i:=3) (by decide)) (fun _ _ _ _ _=>pg_name (i:=3) sc__law_read.nd rfl (by first | exact Or.inl rfl | exact Or.inr rfl)) (fun _ _ _ _ _=>dts_nil) (fun _ _ _ _ _=>(dv_call C__law_read_step.fn (hr.mono (by omega)) (by rfl) C__law_read_step.mgx C__law_read_step.F.kp (bd__law_read_step C__law_read_step.F) passL (da_cons (dv_var 3) (da_cons (dv_var 1) da_nil)))) (sw_true rfl rfl rfl (by decide +kernel)))
 (ds_one (dp_ret (dv_if (dt_w (dw_and (dt_notinW (hr.mono (Nat.zero_le _)) dv_non (dv_var 2)) (dw_and1 (dt_lt (dv_callB call_len ref_len (by rfl) g_len PySem.boot_len (da_cons (dv_var 2) da_nil)) dv_int)))) (dv_callTy call_tuple_of ref_tuple (by rfl) g_tuple (by decide +kernel) (da_cons (dv_var 2) da_nil)) dv_non)))))) ?_
 rintro ds M Q E hM hD ⟨l,k,rfl,hl,rfl,n4,hQ⟩
 have zl:sizeLine=16777216:=rfl
 have fin:∀ k,lrdF nameB (n+1) l=k->Cut M.length Q (optD k) M:=fun k e=>e ▸ Cut.same lrd_hb hM hQ
 have e1:lrdF nameB (n+1) l=(if l=cl "same" then some (D.tup []) else match (spo [32,124,32] 0 0 [] l).mapM (lstF nameB (lrdF nameB n)) with
  | none=>none
  | some ss=>if ss.length < 13 then some (.tup ss) else none):=rfl
 rw [e1] at fin
 walk_at "R"
 refine ifd (fun h=>?_) (fun h=>?_)
 ·walk_at "R"
  refine ifd (fun _=>?_) (fun h=>absurd (by omega) h)
  walk_at "R"
  exact fin (some (.tup [])) (if_pos (show l=cl "same" by rw [<- h]))
 rw [if_neg (fun e:l=cl "same"=>h (by rw [e]))] at fin
 walk_at "R"
 refine ifd (fun h=>absurd h (by omega)) (fun _=>?_)
 walk_at "R"
 refine ⟨l,[32,124,32],by rw [show Str.ofString " | "=SX.S [32,124,32] by decide +kernel],by decide,by decide,hl,?_⟩
 walk_at "R"
 obtain ⟨n1,n2⟩:=parts_n (S:=[32,124,32]) (l:=l) (by simp) (spo_j (by simp)) (spo_ne _ _ _ _ _)
 refine lc_map (fun p=>D.str (SX.S p)) (fun p=>optD (lstF nameB (lrdF nameB n) p)) (spo [32,124,32] 0 0 [] l) (by omega) (fun p hp N hN=>?_) ?_
 ·walk_at "R"
  exact ⟨p,_,rfl,by have:=n2 p hp;omega,by omega,by omega,hN⟩
 obtain ⟨w1,w2,w3⟩:=optD_w (f:=lstF nameB (lrdF nameB n)) (fun p d h=>lst_w h) (spo [32,124,32] 0 0 [] l)
 have ol:=opt_list (f:=lstF nameB (lrdF nameB n)) (fun p d h=>(lst_w h).2.2) (spo [32,124,32] 0 0 [] l)
 generalize ((spo [32,124,32] 0 0 [] l).map fun p=>optD (lstF nameB (lrdF nameB n) p))=xs at w1 w2 w3 ol ⊢
 walk_at "R"
 refine e_inW0 w1 w2 (by omega) ?_
 rcases ol with ⟨us,h1,rfl,h3⟩ | ⟨h1,h2⟩
 ·rw [h1] at fin
  rw [h3]
  walk_at "R"
  refine ifd (fun h=>?_) (fun h=>?_)
  ·walk_at "R"
   exact fin (some (.tup xs)) (if_pos (by omega))
  ·walk_at "R"
   exact fin none (if_neg (by omega))
 ·rw [h1] at fin
  rw [h2]
  walk_at "R"
  exact fin none rfl
theorem lrd_all {f:Addr} {fd:FuncData} (F:F__law_read K f fd) (I__law_read_step:∃ (f2:Addr) (fd2:FuncData),F__law_read_step K f2 fd2/\mg "_law_read_step"=some (.ref f2)) (mgs:mg "_law_read"=some (.ref f)) (C__law_split:Cal__law_split P w K mg base Tb) (C__law_is_word:Cal__law_is_word P w K mg base Tb) (C__law_number:Cal__law_number P w K mg base Tb) (g_len:mg "len"=none) (g_tuple:mg "tuple"=none):∀ n,FnD P w K mg base Tb (2 * n+50) f fd ["_law_text_here","_law_deep"] (sp__law_read_n n)
 | 0=>by
  obtain ⟨f2,fd2,F2,m2⟩:=id I__law_read_step
  have C__law_read_step:Cal P w K mg base Tb "_law_read_step" "_law_read_step" s__law_read_step [] [] 49 ["_law_text_here","_law_deep"] (fun _ _ _ _=>False):=⟨f2,fd2,F2,⟨⟨fun vs H Q E h=>by obtain ⟨_,_,_,_,_,_,_,h,_⟩:=h;exact h.elim,fun A outer s H args us vs Q E hr he hb hv h=>by obtain ⟨_,_,_,_,_,_,_,h,_⟩:=h;exact h.elim⟩⟩,m2⟩
  refine fnD_of _ F sc__law_read (by rintro ds M Q E ⟨l,k,rfl,_⟩;rfl) (fun cdv A outer s H EV hr=>(ds_cons (dp_if (dt_w (dw_or (dt_eq hr.units (dv_var 0) dv_str) (dw_or1 (dt_lt (dv_var 1) dv_int)))) (ds_one (dp_ret (dv_if (dt_gt (dv_var 1) dv_int) (dv_tup da_nil) dv_non))) ds_nil)
 (ds_cons (dp_setLc 2 rfl sc__law_read.nd (di_seq (dv_call C__law_split.fn (hr.mono (by omega)) (by rfl) C__law_split.mgx C__law_split.F.kp (bd__law_split C__law_split.F) hxF (da_cons (dv_var 0) (da_cons dv_str da_nil)))) (blkOk_by (own:=[("_law_part",3)]) (N:=["_law_text_here","_law_deep","_law_steps","_law_part"]) (sc:=defScope s__law_read) (by decide +kernel)) (tgn_name (i:=3) (by decide)) (fun _ _ _ _ _=>pg_name (i:=3) sc__law_read.nd rfl (by first | exact Or.inl rfl | exact Or.inr rfl)) (fun _ _ _ _ _=>dts_nil) (fun _ _ _ _ _=>(dv_call C__law_read_step.fn (hr.mono (by omega)) (by rfl) C__law_read_step.mgx C__law_read_step.F.kp (bd__law_read_step C__law_read_step.F) passL (da_cons (dv_var 3) (da_cons (dv_var 1) da_nil)))) (sw_true rfl rfl rfl (by decide +kernel)))
 (ds_one (dp_ret (dv_if (dt_w (dw_and (dt_notinW (hr.mono (Nat.zero_le _)) dv_non (dv_var 2)) (dw_and1 (dt_lt (dv_callB call_len ref_len (by rfl) g_len PySem.boot_len (da_cons (dv_var 2) da_nil)) dv_int)))) (dv_callTy call_tuple_of ref_tuple (by rfl) g_tuple (by decide +kernel) (da_cons (dv_var 2) da_nil)) dv_non)))))) ?_
  rintro ds M Q E hM hD ⟨l,k,rfl,hl,rfl,n4,hQ⟩
  have hQ:Q .non M:=hQ
  walk_at "R"
  refine ifd (fun _=>?_) (fun _=>?_)
  ·walk_at "R"
   refine ifd (fun h=>absurd h (by decide)) (fun _=>?_)
   walk_at "R"
   exact Cut.same rfl hM hQ
  ·walk_at "R"
   refine ifd (fun _=>?_) (fun h=>absurd (by decide) h)
   walk_at "R"
   refine ifd (fun h=>absurd h (by decide)) (fun _=>?_)
   walk_at "R"
   exact Cut.same rfl hM hQ
 | n+1=>by
  obtain ⟨f2,fd2,F2,m2⟩:=id I__law_read_step
  exact lrd_main F I__law_read_step mgs C__law_split C__law_is_word C__law_number g_len g_tuple n ⟨f2,fd2,F2,lrd_key (f:=f) F2 I__law_read_step mgs C__law_split C__law_is_word C__law_number g_len g_tuple n ⟨f,fd,F,lrd_all F I__law_read_step mgs C__law_split C__law_is_word C__law_number g_len g_tuple n,mgs⟩,m2⟩
theorem ok__law_read {f:Addr} {fd:FuncData} (F:F__law_read K f fd) (I__law_read_step:∃ (f2:Addr) (fd2:FuncData),F__law_read_step K f2 fd2/\mg "_law_read_step"=some (.ref f2)) (mgs:mg "_law_read"=some (.ref f)) (C__law_split:Cal__law_split P w K mg base Tb) (C__law_is_word:Cal__law_is_word P w K mg base Tb) (C__law_number:Cal__law_number P w K mg base Tb) (g_len:mg "len"=none) (g_tuple:mg "tuple"=none):FnD P w K mg base Tb 70 f fd ["_law_text_here","_law_deep"] sp__law_read:=by
 exact (lrd_all F I__law_read_step mgs C__law_split C__law_is_word C__law_number g_len g_tuple 4).mono (by decide)
theorem sm_all {f:Addr} {fd:FuncData} (F:F__law_same K f fd) (mgs:mg "_law_same"=some (.ref f)) (g_tuple:mg "tuple"=none) (g_list:mg "list"=none) (g_isinstance:mg "isinstance"=none) (g_range:mg "range"=none) (g_len:mg "len"=none) (g_all:mg "all"=none) (g_int:mg "int"=none) (g_bool:mg "bool"=none) (g_str:mg "str"=none):∀ n,FnD P w K mg base Tb n f fd ["_law_found","_law_due"] (sm_sp n)
 | 0=>⟨⟨fun vs H Q E h=>by obtain ⟨_,_,_,_,_,_,_,⟨_,_,_,_,_,h,_⟩,_⟩:=h;omega,fun A outer s H args us vs Q E hr he hb hv h=>by obtain ⟨_,_,_,_,_,_,_,⟨_,_,_,_,_,h,_⟩,_⟩:=h;omega⟩⟩
 | n+1=>by
  have C__law_same:Cal P w K mg base Tb "_law_same" "_law_same" s__law_same [] [] n ["_law_found","_law_due"] (sm_sp n):=⟨f,fd,F,sm_all F mgs g_tuple g_list g_isinstance g_range g_len g_all g_int g_bool g_str n,mgs⟩
  refine fnD_of _ F sc__law_same (by rintro ds M Q E ⟨f,d,rfl,_⟩;rfl) (fun cdv A outer s H EV hr=>(ds_cons (dp_if (dt_tru (dv_callB (call_isi.or (call_isiT.or call_isiK)) ref_isi (by rfl) g_isinstance (by decide +kernel) (da_cons (dv_var 1) (da_cons (dv_tup (da_cons (dv_bltn (by rfl) g_list (v:=.ty "list") (d:=.ty "list") DL.boot_list rfl fun _ _ _=>rfl) (da_cons (dv_bltn (by rfl) g_tuple (v:=.ty "tuple") (d:=.ty "tuple") DL.boot_tuple rfl fun _ _ _=>rfl) da_nil))) da_nil)))) (ds_cons (dp_if (dt_w (dw_or (dt_ne hr.units (dv_callB (call_isi.or (call_isiT.or call_isiK)) ref_isi (by rfl) g_isinstance (by decide +kernel) (da_cons (dv_var 0) (da_cons (dv_bltn (by rfl) g_list (v:=.ty "list") (d:=.ty "list") DL.boot_list rfl fun _ _ _=>rfl) da_nil))) (dv_callB (call_isi.or (call_isiT.or call_isiK)) ref_isi (by rfl) g_isinstance (by decide +kernel) (da_cons (dv_var 1) (da_cons (dv_bltn (by rfl) g_list (v:=.ty "list") (d:=.ty "list") DL.boot_list rfl fun _ _ _=>rfl) da_nil)))) (dw_or1 (dt_ne hr.units (dv_callB (call_isi.or (call_isiT.or call_isiK)) ref_isi (by rfl) g_isinstance (by decide +kernel) (da_cons (dv_var 0) (da_cons (dv_bltn (by rfl) g_tuple (v:=.ty "tuple") (d:=.ty "tuple") DL.boot_tuple rfl fun _ _ _=>rfl) da_nil))) (dv_callB (call_isi.or (call_isiT.or call_isiK)) ref_isi (by rfl) g_isinstance (by decide +kernel) (da_cons (dv_var 1) (da_cons (dv_bltn (by rfl) g_tuple (v:=.ty "tuple") (d:=.ty "tuple") DL.boot_tuple rfl fun _ _ _=>rfl) da_nil))))))) (ds_one (dp_ret dv_bl)) ds_nil)
 (ds_one (dp_ret (dv_and (dv_eq hr.units (dv_callB call_len ref_len (by rfl) g_len PySem.boot_len (da_cons (dv_var 0) da_nil)) (dv_callB call_len ref_len (by rfl) g_len PySem.boot_len (da_cons (dv_var 1) da_nil))) (dv_one (dv_callB (cr_all rfl) ref_all (by rfl) g_all (by decide +kernel) (da_cons (dv_lc rfl sc__law_same.nd (di_range1 (by rfl) g_range (da_cons (dv_callB call_len ref_len (by rfl) g_len PySem.boot_len (da_cons (dv_var 1) da_nil)) da_nil)) (blkOk_by (own:=[("_law_k",2)]) (N:=["_law_found","_law_due","_law_k"]) (sc:=defScope s__law_same) (by decide +kernel)) (tgn_name (i:=2) (by decide)) (fun _ _ _ _ _=>pg_name (i:=2) sc__law_same.nd rfl (by first | exact Or.inl rfl | exact Or.inr rfl)) (fun _ _ _ _ _=>dts_nil) (fun _ _ _ _ _=>(dv_call C__law_same.fn (hr.mono (Nat.le_refl _)) (by rfl) C__law_same.mgx C__law_same.F.kp (bd__law_same C__law_same.F) passL (da_cons (dv_ix (dv_var 0) (dv_var 2)) (da_cons (dv_ix (dv_var 1) (dv_var 2)) da_nil))))) da_nil))))))) ds_nil)
 (ds_cons (dp_if (dt_w (dw_or (dt_is (dv_var 1) dv_non) (dw_or1 (dt_is (dv_var 0) dv_non)))) (ds_one (dp_ret (dv_and (dv_is (dv_var 0) dv_non) (dv_one (dv_is (dv_var 1) dv_non))))) ds_nil)
 (ds_cons (dp_if (dt_w (dw_or (dt_ne hr.units (dv_callB (call_isi.or (call_isiT.or call_isiK)) ref_isi (by rfl) g_isinstance (by decide +kernel) (da_cons (dv_var 1) (da_cons (dv_bltn (by rfl) g_bool (v:=.ty "bool") (d:=.ty "bool") DL.boot_bool rfl fun _ _ _=>rfl) da_nil))) (dv_callB (call_isi.or (call_isiT.or call_isiK)) ref_isi (by rfl) g_isinstance (by decide +kernel) (da_cons (dv_var 0) (da_cons (dv_bltn (by rfl) g_bool (v:=.ty "bool") (d:=.ty "bool") DL.boot_bool rfl fun _ _ _=>rfl) da_nil)))) (dw_or1 (dt_ne hr.units (dv_callB (call_isi.or (call_isiT.or call_isiK)) ref_isi (by rfl) g_isinstance (by decide +kernel) (da_cons (dv_var 1) (da_cons (dv_bltn (by rfl) g_int (v:=.ty "int") (d:=.ty "int") DL.boot_int rfl fun _ _ _=>rfl) da_nil))) (dv_callB (call_isi.or (call_isiT.or call_isiK)) ref_isi (by rfl) g_isinstance (by decide +kernel) (da_cons (dv_var 0) (da_cons (dv_bltn (by rfl) g_int (v:=.ty "int") (d:=.ty "int") DL.boot_int rfl fun _ _ _=>rfl) da_nil))))))) (ds_one (dp_ret dv_bl)) ds_nil)
 (ds_one (dp_ret (dv_and (dv_eq hr.units (dv_callB (call_isi.or (call_isiT.or call_isiK)) ref_isi (by rfl) g_isinstance (by decide +kernel) (da_cons (dv_var 1) (da_cons (dv_bltn (by rfl) g_str (v:=.ty "str") (d:=.ty "str") DL.boot_str rfl fun _ _ _=>rfl) da_nil))) (dv_callB (call_isi.or (call_isiT.or call_isiK)) ref_isi (by rfl) g_isinstance (by decide +kernel) (da_cons (dv_var 0) (da_cons (dv_bltn (by rfl) g_str (v:=.ty "str") (d:=.ty "str") DL.boot_str rfl fun _ _ _=>rfl) da_nil)))) (dv_one (dv_eq hr.units (dv_var 0) (dv_var 1)))))))))) ?_
  rintro ds M Q E hM hD ⟨f,d,rfl,pf,pd,hdp,hQ⟩
  have fin:∀ b,smD f d=b->Cut M.length Q (.bl b) M:=fun b e=>Cut.same rfl hM (e ▸ hQ)
  walk_at "R"
  refine ifb (fun h0=>?_) (fun h0=>?_)
  ·walk_at "R"
   refine ifn (fun h1=>fin _ (sm_l h1)) (fun h1=>?_)
   walk_at "R"
   refine ifn (fun h2=>fin _ (sm_t h2)) (fun h2=>?_)
   obtain ⟨xs,ys,sx,sy,px,py,lx,ly,ed,es⟩:=seq_case pf pd h0 h1 h2
   walk_at "R"
   refine e_len (sx _) ?_
   walk_at "R"
   refine e_len (sy _) ?_
   walk_at "R"
   refine ifd (fun hl=>?_) (fun hl=>fin _ ?_)
   ·have hl:xs.length=ys.length:=Int.ofNat.inj hl
    walk_at "R"
    refine e_len (sy _) ?_
    walk_at "R"
    have:sizeLine < 2 ^ 62:=by decide
    refine ⟨⟨by omega,Int.lt_of_le_of_lt (Int.ofNat_le.mpr ly) (by decide)⟩,?_⟩
    refine lc_range (fun j acc M'=>M'=M/\acc=((List.zipWith smD xs ys).take j).map D.bl) ⟨rfl,rfl⟩ ?_ ?_
    ·rintro j acc M' N hj ⟨rfl,rfl⟩ hN
     have hx:j < xs.length:=by omega
     walk_at "R"
     refine e_ix (sx _) (at_nat hx) ?_
     walk_at "R"
     refine e_ix (sy _) (at_nat hj) ?_
     walk_at "R"
     have e2:ys[j]?=some ys[j]:=List.getElem?_eq_getElem hj
     refine ⟨_,_,rfl,pus_at px (List.getElem?_eq_getElem hx),pus_at py e2,by have:=dps_at e2;omega,?_,hN _ _ ⟨rfl,?_⟩⟩
     ·simp;omega
     ·have hz:j < (List.zipWith smD xs ys).length:=by simp;omega
      rw [List.take_add_one,List.getElem?_eq_getElem hz]
      simp
    ·rintro acc M' ⟨rfl,rfl⟩
     walk_at "R"
     refine e_all ?_
     rw [List.take_of_length_le (by simp;omega),<- smDs_zip hl]
     exact fin _ es
   ·rw [es]
    cases q:smDs xs ys with
    | false=>rfl
    | true=>exact absurd (by rw [smDs_len q]) hl
  ·walk_at "R"
   refine ifb (fun n2=>?_) (fun n2=>?_)
   ·walk_at "R"
    refine ifb (fun n1=>?_) (fun n1=>fin _ (sm_n3 n1 n2))
    walk_at "R"
    rw [n2]
    exact fin _ (sm_n1 n1 n2)
   ·walk_at "R"
    refine ifb (fun n1=>?_) (fun n1=>?_)
    ·walk_at "R"
     refine ifb (fun n3=>?_) (fun n3=>absurd n3 (by rw [n1];decide))
     walk_at "R"
     rw [n2]
     exact fin _ (sm_n2 n1 n2)
    ·walk_at "R"
     refine ifn (fun h1=>fin _ (sm_b h1)) (fun h1=>?_)
     walk_at "R"
     refine ifn (fun h2=>fin _ (sm_i h2)) (fun h2=>?_)
     walk_at "R"
     refine ifd (fun h3=>?_) (fun h3=>fin _ (sm_s h3))
     walk_at "R"
     exact sm_eq pf pd h0 n1 n2 h1 h2 h3 (fin _ rfl)
theorem ok__law_same {f:Addr} {fd:FuncData} (F:F__law_same K f fd) (mgs:mg "_law_same"=some (.ref f)) (g_tuple:mg "tuple"=none) (g_list:mg "list"=none) (g_isinstance:mg "isinstance"=none) (g_range:mg "range"=none) (g_len:mg "len"=none) (g_all:mg "all"=none) (g_int:mg "int"=none) (g_bool:mg "bool"=none) (g_str:mg "str"=none):FnD P w K mg base Tb 12 f fd ["_law_found","_law_due"] sp__law_same:=by
 exact sm_all F mgs g_tuple g_list g_isinstance g_range g_len g_all g_int g_bool g_str 12
theorem ok_depth_of {f:Addr} {fd:FuncData} (F:F_depth_of K f fd) (g_max:mg "max"=none):FnD P w K mg base Tb 1 f fd ["text"] sp_depth_of:=by
 refine fnD_of _ F sc_depth_of (by rintro ds M Q E ⟨l,rfl,_⟩;rfl) (fun cdv A outer s H EV hr=>(ds_cons (dp_asg2 dv_int (dg_name 1 sc_depth_of.nd) (dg_name 2 sc_depth_of.nd))
 (ds_cons (dp_for PassesOwn.leaving rfl (di_seq (dv_var 0)) (dg_name 3 sc_depth_of.nd) (ds_cons (dp_if (dt_eq hr.units (dv_var 3) dv_str) (ds_one (dp_augAdd 1 sc_depth_of.nd dv_int)) ds_nil)
 (ds_cons (dp_if (dt_eq hr.units (dv_var 3) dv_str) (ds_one (dp_aug 1 sc_depth_of.nd dv_int iop_sub (ref_int0 (gD:=fun i j=>.int (i - j)) fun _ _ _ _ _=>rfl))) ds_nil)
 (ds_one (dp_set 2 sc_depth_of.nd (dv_callB (call_max2 rfl) ref_max2 (by rfl) g_max (by decide +kernel) (da_cons (dv_var 2) (da_cons (dv_var 1) da_nil))))))))
 (ds_one (dp_ret (dv_var 2)))))) ?_
 rintro ds M Q E hM hD ⟨l,rfl,hl,hQ⟩
 have zl:sizeLine=16777216:=rfl
 walk_at "R"
 refine for_list (fun c=>D.str (SX.S [c])) l (fun r rho M'=>M'=M/\∃ (d m:Int) (c3:Option D),0<=m/\(∀ k:Int,m<=k->Mx k d r->Mx k 0 l)/\(∀ k:Int,0<=k->Mx k 0 l->m<=k/\Mx k d r)/\rho=[some (.str (SX.S l)),some (.int d),some (.int m),c3]) ⟨rfl,0,0,none,Int.le_refl _,fun k _ h=>h,fun k k0 h=>⟨k0,h⟩,rfl⟩ ?_ ?_
 ·rintro c r rho M' N ⟨rfl,d,m,c3,m0,hb,hm,rfl⟩ hN
  have e1:(SX.S [c]=Str.ofString "(")=(c=40):=S1_eq (by decide +kernel)
  have e2:(SX.S [c]=Str.ofString ")")=(c=41):=S1_eq (by decide +kernel)
  have fin:N [some (.str (SX.S l)),some (.int (d+dpt c)),some (.int (max m (d+dpt c))),some (.str (SX.S [c]))] M':=by
   refine hN _ _ ⟨rfl,d+dpt c,max m (d+dpt c),_,by omega,fun k hk h=>hb k (by omega) ⟨by omega,h⟩,fun k k0 h=>?_,rfl⟩
   obtain ⟨h1,h2,h3⟩:=hm k k0 h
   exact ⟨by omega,h3⟩
  have hmax:∀ x y:Int,(if y > x then y else x)=max x y:=fun x y=>by omega
  walk_at "R"
  refine ifd (fun h1=>?_) (fun h1=>?_)
  ·rw [e1] at h1
   subst h1
   walk_at "R"
   refine ifd (fun z=>absurd z (by rw [e2];decide)) (fun _=>?_)
   walk_at "R"
   exact fin
  ·rw [e1] at h1
   walk_at "R"
   refine ifd (fun h2=>?_) (fun h2=>?_)
   ·rw [e2] at h2
    subst h2
    walk_at "R"
    exact fin
   ·rw [e2] at h2
    walk_at "R"
    rw [show d+dpt c=d by rw [dpt_0 h1 h2];omega] at fin
    exact fin
 ·rintro rho M' ⟨rfl,d,m,c3,m0,hb,hm,rfl⟩
  walk_at "R"
  exact Cut.same rfl hM (hQ m m0 (hb m (Int.le_refl _) trivial) fun k k0 h=>(hm k k0 h).1)
theorem ok_split_outside {f:Addr} {fd:FuncData} (F:F_split_outside K f fd) (g_len:mg "len"=none) (g_int:mg "int"=none):FnD P w K mg base Tb 1 f fd ["text","mark"] sp_split_outside:=by
 refine fnD_of _ F sc_split_outside (by rintro ds M Q E ⟨l,mk,rfl,_⟩;rfl) (fun cdv A outer s H EV hr=>(ds_cons (dp_asg (dv_tup (da_cons (dv_lstM da_nil) (da_cons dv_int (da_cons dv_int (da_cons dv_int da_nil))))) (dg_tup (n:=4) rfl (dgs_cons (dg_name 2 sc_split_outside.nd) (dgs_cons (dg_name 3 sc_split_outside.nd) (dgs_cons (dg_name 4 sc_split_outside.nd) (dgs_cons (dg_name 5 sc_split_outside.nd) dgs_nil))))))
 (ds_cons (dp_while PassesOwn.leaving (dt_lt (dv_var 5) (dv_callB call_len ref_len (by rfl) g_len PySem.boot_len (da_cons (dv_var 0) da_nil))) (ds_cons (dp_set 6 sc_split_outside.nd (dv_ix (dv_var 0) (dv_var 5)))
 (ds_cons (dp_augAdd 3 sc_split_outside.nd (dv_sub (dv_callTy (call_int1.or call_int_str) ref_int1 (by rfl) g_int (by decide +kernel) (da_cons (dv_eq hr.units (dv_var 6) dv_str) da_nil)) (dv_callTy (call_int1.or call_int_str) ref_int1 (by rfl) g_int (by decide +kernel) (da_cons (dv_eq hr.units (dv_var 6) dv_str) da_nil))))
 (ds_one (dp_if (dt_w (dw_and (dt_eq hr.units (dv_var 3) dv_int) (dw_and1 (dt_eq hr.units (dv_slice (dv_var 0) (do_some (dv_var 5)) (do_some (dv_add (dv_var 5) (dv_callB call_len ref_len (by rfl) g_len PySem.boot_len (da_cons (dv_var 1) da_nil))))) (dv_var 1))))) (ds_cons (dp_expr (dv_bm PySem.F.plainAttrs_list PySem.F.slot_list_append PySem.F.type_list_append mt_append ref_app (dv_var 2) (da_cons (dv_slice (dv_var 0) (do_some (dv_var 4)) (do_some (dv_var 5))) da_nil)))
 (ds_cons (dp_augAdd 5 sc_split_outside.nd (dv_callB call_len ref_len (by rfl) g_len PySem.boot_len (da_cons (dv_var 1) da_nil)))
 (ds_one (dp_set 4 sc_split_outside.nd (dv_var 5))))) (ds_one (dp_augAdd 5 sc_split_outside.nd dv_int)))))))
 (ds_one (dp_ret (dv_add (dv_var 2) (dv_lst (da_cons (dv_slice (dv_var 0) (do_some (dv_var 4)) do_none) da_nil)))))))) ?_
 rintro ds M Q E hM hD ⟨l,mk,rfl,hm1,hm2,hl,hQ⟩
 have zl:sizeLine=16777216:=rfl
 walk_at "R"
 refine wh_inv (fun rho M'=>∃ (ps:List (List Nat)) (d:Int) (b pl:Nat) (c6:Option D),b<=pl/\pl<=l.length/\ps.length<=pl/\ps ++ spo mk d 0 ((l.take pl).drop b) (l.drop pl)=spo mk 0 0 [] l/\M'=M ++ [some (.lst (ps.map fun p=>D.str (SX.S p)))]/\rho=[some (.str (SX.S l)),some (.str (SX.S mk)),some (.mt M.length),some (.int d),some (.int (b:Nat)),some (.int (pl:Nat)),c6]) (fun rho _=>match rho with
  | [_,_,_,_,_,some (.int p),_]=>((l.length:Int) - p).toNat
  | _=>0) ?_ _ _ ⟨[],0,0,0,none,Nat.le_refl _,Nat.zero_le _,Nat.le_refl _,rfl,rfl,rfl⟩
 rintro rho M' N ⟨ps,d,b,pl,c6,hb,hpl,hps,he,rfl,rfl⟩ hN
 walk_at "R"
 refine e_lenS (by rw [S_len'];omega) ?_
 rw [S_len']
 walk_at "R"
 refine ifd (fun h=>?_) (fun h=>?_)
 ·obtain ⟨c,hc⟩:∃ c,l[pl]?=some c:=⟨l[pl]'(by omega),List.getElem?_eq_getElem (by omega)⟩
  have hdr:l.drop pl=c :: l.drop (pl+1):=by
   have h1:=(List.getElem?_eq_some_iff.mp hc)
   obtain ⟨h1,h2⟩:=h1
   rw [List.drop_eq_getElem_cons h1,h2]
  walk_at "R"
  refine e_ixT (by omega) hc ?_
  walk_at "R"
  simp only [paren_eq]
  have hacc:(l.take (pl+1)).drop b=(l.take pl).drop b ++ [c]:=by
   rw [List.take_succ,hc,List.drop_append_of_le_length (by rw [List.length_take];omega)];rfl
  have miss:¬ (d+dpt c=0/\(l.drop pl).take mk.length=mk)->ps ++ spo mk (d+dpt c) 0 ((l.take (pl+1)).drop b) (l.drop (pl+1))=spo mk 0 0 [] l:=fun hn=>by
   rw [hdr,spo_step,if_neg (by rw [<- hdr];exact hn),<- hacc] at he
   exact he
  have step:¬ (d+dpt c=0/\(l.drop pl).take mk.length=mk)->N [some (.str (SX.S l)),some (.str (SX.S mk)),some (.mt M.length),some (.int (d+dpt c)),some (.int (b:Nat)),some (.int ((pl:Int)+1)),some (.str (SX.S [c]))] (M ++ [some (.lst (ps.map fun p=>D.str (SX.S p)))]):=fun hn =>
   hN _ _ ⟨ps,d+dpt c,b,pl+1,_,by omega,by omega,by omega,miss hn,rfl,rfl⟩ (by show ((l.length:Int) - ((pl:Int)+1)).toNat < ((l.length:Int) - (pl:Int)).toNat;omega)
  refine ifd (fun h0=>?_) (fun h0=>?_)
  ·walk_at "R"
   refine e_lenS (by rw [S_len'];omega) ?_
   rw [S_len']
   walk_at "R"
   refine e_sls (by rw [S_len'];omega) ?_
   rw [show (pl:Int)+(mk.length:Int)=((pl+mk.length:Nat):Int) by omega,cutS_mid]
   have ecut:(l.take (pl+mk.length)).drop pl=(l.drop pl).take mk.length:=by rw [List.drop_take];congr 1;omega
   rw [ecut]
   walk_at "R"
   refine ifd (fun h1=>?_) (fun h1=>?_)
   ·have h1:=SX.S_inj h1
    have hlen:pl+mk.length<=l.length:=by
     have:=congrArg List.length h1
     rw [List.length_take,List.length_drop] at this
     omega
    walk_at "R"
    refine e_tyL mem_lst ?_
    walk_at "R"
    refine e_sls (by rw [S_len'];omega) ?_
    rw [cutS_mid]
    walk_at "R"
    refine e_app mem_lst (by rw [List.length_map];omega) ?_
    rw [mem_set']
    walk_at "R"
    refine e_lenS (by rw [S_len'];omega) ?_
    rw [S_len']
    walk_at "R"
    refine hN _ _ ⟨ps ++ [(l.take pl).drop b],d+dpt c,pl+mk.length,pl+mk.length,some (.str (SX.S [c])),Nat.le_refl _,hlen,by rw [List.length_append,List.length_singleton];omega,?_,by rw [List.map_append];rfl,?_⟩ ?_
    ·rw [hdr,spo_step,if_pos ⟨h0,by rw [<- hdr];exact h1⟩,spo_pass] at he
     rw [List.append_assoc,<- he]
     congr 1
     rw [List.singleton_append]
     congr 1
     rw [List.drop_drop,List.drop_eq_nil_of_le (by rw [List.length_take];omega)]
     congr 2
     omega
    ·rw [show ((pl+mk.length:Nat):Int)=(pl:Int)+(mk.length:Int) by omega];rfl
    ·show ((l.length:Int) - ((pl:Int)+(mk.length:Int))).toNat < ((l.length:Int) - (pl:Int)).toNat
     omega
   ·walk_at "R"
    exact step fun z=>h1 (by rw [z.2])
  ·walk_at "R"
   exact step fun z=>h0 z.1
 ·have:pl=l.length:=by omega
  subst this
  rw [List.drop_length,spo_nil,List.take_length] at he
  walk_at "R"
  refine e_sls (by rw [S_len'];omega) ?_
  rw [cutS_from]
  walk_at "R"
  refine e_addml mem_lst (by rw [List.length_map];show _+1<=_;omega) ?_
  refine Cut.app (hbs_all fun x hx=>?_) hM ?_
  ·rcases List.mem_append.mp hx with hx | hx
   ·obtain ⟨y,_,rfl⟩:=List.mem_map.mp hx
    rfl
   ·rw [List.mem_singleton.mp hx];rfl
  ·rw [<- he,List.map_append] at hQ
   exact hQ
theorem ok_parse_integer {f:Addr} {fd:FuncData} (F:F_parse_integer K f fd) (g_all:mg "all"=none) (g_len:mg "len"=none) (g_str:mg "str"=none) (g_int:mg "int"=none) (c_MAX_FIGURES:CC_MAX_FIGURES K mg):FnD P w K mg base Tb 1 f fd ["text"] sp_parse_integer:=by
 refine fnD_of _ F sc_parse_integer (by rintro ds M Q E ⟨z,rfl,_⟩;rfl) (fun cdv A outer s H EV hr=>(ds_cons (dp_set 1 sc_parse_integer.nd (dv_if (dt_eq hr.units (dv_slice (dv_var 0) do_none (do_some dv_int)) dv_str) (dv_slice (dv_var 0) (do_some dv_int) do_none) (dv_var 0)))
 (ds_cons (dp_if (dt_w (dw_or (dt_not (dt_chain op_le (ref_int0 (gD:=fun i j=>.bl (decide (i<=j))) fun _ _ _ _ _=>rfl) op_le (ref_int0 (gD:=fun i j=>.bl (decide (i<=j))) fun _ _ _ _ _=>rfl) dv_int (dv_callB call_len ref_len (by rfl) g_len PySem.boot_len (da_cons (dv_var 1) da_nil)) (dv_gl c_MAX_FIGURES (by rfl)))) (dw_or1 (dt_not (dt_tru (dv_callB (cr_all rfl) ref_all (by rfl) g_all (by decide +kernel) (da_cons (dv_lc rfl sc_parse_integer.nd (di_seq (dv_var 1)) (blkOk_by (own:=[("sign",2)]) (N:=["text","figures","sign"]) (sc:=defScope s_parse_integer) (by decide +kernel)) (tgn_name (i:=2) (by decide)) (fun _ _ _ _ _=>pg_name (i:=2) sc_parse_integer.nd rfl (by first | exact Or.inl rfl | exact Or.inr rfl)) (fun _ _ _ _ _=>dts_nil) (fun _ _ _ _ _=>(dv_in (dv_var 2) dv_str))) da_nil))))))) (ds_one (dp_ret dv_non)) ds_nil)
 (ds_one (dp_ret (dv_if (dt_eq hr.units (dv_callTy call_str_int ref_str (by rfl) g_str (by decide +kernel) (da_cons (dv_callTy (call_int1.or call_int_str) ref_int1 (by rfl) g_int (by decide +kernel) (da_cons (dv_var 0) da_nil)) da_nil)) (dv_var 0)) (dv_callTy (call_int1.or call_int_str) ref_int1 (by rfl) g_int (by decide +kernel) (da_cons (dv_var 0) da_nil)) dv_non)))))) ?_
 rintro ds M Q E hM hD ⟨z,rfl,hz,hQ⟩
 have zl:sizeLine=16777216:=rfl
 have hlen:z.length=(cl z).length:=Array.length_toList.symm
 with_reducible refine e_cut (fun rho M'=>rho=[some (.str z),some (.str (SX.S (figs (cl z)))),none]/\M'=M) ?_ ?_
 rotate_left
 ·intro N hN
  have c1:cutS z none (some 1)=SX.S ((cl z).take 1):=by
   rw [C8.cutS_slice];conv=>lhs;rw [<- SX.S_tl z]
   exact SX.slice_to (by decide)
  have c2:cutS z (some 1) none=SX.S ((cl z).drop 1):=by
   rw [C8.cutS_slice];conv=>lhs;rw [<- SX.S_tl z]
   exact SX.slice_from (by decide)
  have e45:(Str.ofString "-")=SX.S [45]:=by decide +kernel
  walk_at "R"
  refine e_sls (by omega) ?_
  rw [c1,e45]
  walk_at "R"
  unfold figs at hN
  refine ifd (fun h=>?_) (fun h=>?_)
  ·have h:=SX.S_inj h
   rw [if_pos h] at hN
   walk_at "R"
   refine e_sls (by omega) ?_
   rw [c2]
   exact hN _ _ ⟨rfl,rfl⟩
  ·rw [if_neg (fun e=>h (by rw [e]))] at hN
   walk_at "R"
   have:=hN _ _ ⟨rfl,rfl⟩
   rw [SX.S_tl] at this
   exact this
 rintro rho M1 ⟨rfl,rfl⟩
 have hfl:(figs (cl z)).length<=1000000:=by
  unfold figs
  split
  ·rw [List.length_drop];omega
  ·omega
 have sl:(SX.S (figs (cl z))).length=(figs (cl z)).length:=SX.S_len _
 have fin:∀ k,fgN z=k->Cut M1.length Q (oiD k) M1:=fun k e=>Cut.same (by cases k <;> rfl) hM (e ▸ hQ)
 unfold fgN figB at fin
 walk_at "R"
 refine e_lenS (by omega) ?_
 walk_at "R"
 rw [sl]
 refine ifd (fun h1=>?_) (fun h1=>?_)
 rotate_left
 ·walk_at "R"
  exact fin none (by rw [decide_eq_false h1];rfl)
 walk_at "R"
 refine ifn (fun h2=>?_) (fun h2=>?_)
 ·walk_at "R"
  exact fin none (by rw [decide_eq_true h1,decide_eq_false h2];rfl)
 walk_at "R"
 refine lc_map (fun c=>D.str ⟨#[c]⟩) (fun c=>D.bl (decide (c∈cl dg9))) (figs (cl z)) (by omega) ?_ ?_
 ·intro c _ N hN
  walk_at "R"
  exact hN
 refine e_allM ?_
 rw [decide_eq_true h1,decide_eq_true h2] at fin
 cases ha:((figs (cl z)).map fun c=>decide (c∈cl dg9)).all _root_.id with
 | false =>
  walk_at "R"
  exact fin none (by rw [ha];rfl)
 | true =>
  have hb:figB (cl z)=true:=by unfold figB;rw [decide_eq_true h1,decide_eq_true h2,ha];rfl
  obtain ⟨n,n1,n2,n3,_⟩:=fig_num hb
  have hn:=bz_12 n2
  rw [ha,n1] at fin
  walk_at "R"
  refine e_itx n1 (by omega) ?_
  walk_at "R"
  refine e_str (lg_of (by omega)) ?_
  walk_at "R"
  refine ifd (fun h=>?_) (fun h=>?_)
  ·walk_at "R"
   refine e_itx n1 (by omega) ?_
   exact fin (some n) (by show (if itx n=z then some n else none)=some n;exact if_pos h)
  ·walk_at "R"
   exact fin none (by show (if itx n=z then some n else none)=none;exact if_neg h)
theorem ok_fraction_text {f:Addr} {fd:FuncData} (F:F_fraction_text K f fd) (g_str:mg "str"=none):FnD P w K mg base Tb 1 f fd ["value"] sp_fraction_text:=by
 refine fnD_of _ F sc_fraction_text (by rintro ds M Q E ⟨a,b,rfl,_⟩;rfl) (fun cdv A outer s H EV hr=>(ds_one (dp_ret (dv_if (dt_ne hr.units (dv_ix (dv_var 0) dv_int) dv_int) (dv_js (dj_cons (dv_fmt (dv_ix (dv_var 0) dv_int)) (dj_cons dv_str (dj_cons (dv_fmt (dv_ix (dv_var 0) dv_int)) dj_nil)))) (dv_callTy call_str_int ref_str (by rfl) g_str (by decide +kernel) (da_cons (dv_ix (dv_var 0) dv_int) da_nil)))))) ?_
 rintro ds M Q E hM hD ⟨a,b,rfl,h1,h2,hQ⟩
 have l1:=itx_len h1
 have l2:=itx_len h2
 have e1:(Str.ofString "/").length=1:=by decide +kernel
 have z:sizeLine=16777216:=rfl
 walk_at "R"
 refine ifn (fun h=>?_) (fun h=>?_)
 ·rw [if_neg (by omega)] at hQ
  walk_at "R"
  refine ⟨lg_of h1,?_⟩
  refine e_jsd (by rw [str_nil];show (itx a).length<=_;omega) ?_
  walk_at "R"
  refine e_jsd (by rw [str_nil,str_len];show (itx a).length+_<=_;omega) ?_
  walk_at "R"
  refine ⟨lg_of h2,?_⟩
  refine e_jsd (by rw [str_nil,str_len,str_len];show (itx a).length+_+(itx b).length<=_;omega) ?_
  walk_at "R"
  refine Cut.same rfl hM ?_
  rw [str_nil,str_assoc]
  exact hQ
 ·rw [if_pos (by omega)] at hQ
  walk_at "R"
  refine e_str (lg_of h1) ?_
  exact Cut.same rfl hM hQ
theorem ok_is_integer {f:Addr} {fd:FuncData} (F:F_is_integer K f fd) (g_bool:mg "bool"=none) (g_isinstance:mg "isinstance"=none) (g_int:mg "int"=none):FnD P w K mg base Tb 1 f fd ["thing"] sp_is_integer:=by
 refine fnD_of _ F sc_is_integer (by rintro ds M Q E ⟨a,rfl,_⟩;rfl) (fun cdv A outer s H EV hr=>(ds_one (dp_ret (dv_and (dv_callB (call_isi.or (call_isiT.or call_isiK)) ref_isi (by rfl) g_isinstance (by decide +kernel) (da_cons (dv_var 0) (da_cons (dv_bltn (by rfl) g_int (v:=.ty "int") (d:=.ty "int") DL.boot_int rfl fun _ _ _=>rfl) da_nil))) (dv_one (dv_not (dv_callB (call_isi.or (call_isiT.or call_isiK)) ref_isi (by rfl) g_isinstance (by decide +kernel) (da_cons (dv_var 0) (da_cons (dv_bltn (by rfl) g_bool (v:=.ty "bool") (d:=.ty "bool") DL.boot_bool rfl fun _ _ _=>rfl) da_nil))))))))) ?_
 rintro ds M Q E hM hD ⟨d,rfl,hp,hQ⟩
 walk_at "R"
 refine ifb (fun h=>?_) (fun h=>?_)
 ·walk_at "R"
  unfold isZI at hQ;rw [h] at hQ
  exact Cut.same rfl hM hQ
 ·unfold isZI at hQ;rw [h] at hQ
  exact Cut.same rfl hM hQ
theorem ok_common_divisor {f:Addr} {fd:FuncData} (F:F_common_divisor K f fd) (g_abs:mg "abs"=none):FnD P w K mg base Tb 1 f fd ["one","other"] sp_common_divisor:=by
 refine fnD_of _ F sc_common_divisor (by rintro ds M Q E ⟨a,b,rfl,_⟩;rfl) (fun cdv A outer s H EV hr=>(ds_cons (dp_while PassesOwn.leaving (dt_ne hr.units (dv_var 1) dv_int) (ds_one (dp_par 0 1 rfl sc_common_divisor.nd (da_cons (dv_var 1) (da_cons (dv_mod (dv_var 0) (dv_var 1)) da_nil)) (by rfl))))
 (ds_one (dp_ret (dv_callB call_abs ref_abs (by rfl) g_abs (by decide +kernel) (da_cons (dv_var 0) da_nil)))))) ?_
 rintro ds M Q E hM hD ⟨a,b,rfl,hQ⟩
 refine wh_inv (fun rho M'=>M'=M/\∃ p q:Int,rho=[some (.int p),some (.int q)]/\Int.gcd p q=Int.gcd a b) (fun rho _=>match rho with
  | [_,some (.int q)]=>q.natAbs
  | _=>0) ?_ _ _ ⟨rfl,a,b,rfl,rfl⟩
 rintro rho M' N ⟨rfl,p,q,rfl,hg⟩ hN
 refine ifn (fun h=>?_) (fun h=>?_)
 ·refine ⟨h,hN _ _ ⟨rfl,q,p.fmod q,rfl,?_⟩ (fmod_abs h)⟩
  rw [fmod_gcd,hg]
 ·subst h
  refine Cut.same rfl hM ?_
  rw [<- hg,Int.gcd_zero_right] at hQ
  exact hQ
theorem ok_is_fraction {f:Addr} {fd:FuncData} (F:F_is_fraction K f fd) (C_is_integer:Cal_is_integer P w K mg base Tb) (C_common_divisor:Cal_common_divisor P w K mg base Tb) (g_all:mg "all"=none) (g_len:mg "len"=none) (g_tuple:mg "tuple"=none) (g_isinstance:mg "isinstance"=none) (g_abs:mg "abs"=none) (c_MAX_NUMBER:CC_MAX_NUMBER K mg):FnD P w K mg base Tb 2 f fd ["thing"] sp_is_fraction:=by
 refine fnD_of _ F sc_is_fraction (by rintro ds M Q E ⟨a,rfl,_⟩;rfl) (fun cdv A outer s H EV hr=>(ds_cons (dp_if (dt_w (dw_or (dt_not (dt_tru (dv_callB (call_isi.or (call_isiT.or call_isiK)) ref_isi (by rfl) g_isinstance (by decide +kernel) (da_cons (dv_var 0) (da_cons (dv_bltn (by rfl) g_tuple (v:=.ty "tuple") (d:=.ty "tuple") DL.boot_tuple rfl fun _ _ _=>rfl) da_nil))))) (dw_or (dt_ne hr.units (dv_callB call_len ref_len (by rfl) g_len PySem.boot_len (da_cons (dv_var 0) da_nil)) dv_int) (dw_or1 (dt_not (dt_tru (dv_callB (cr_all rfl) ref_all (by rfl) g_all (by decide +kernel) (da_cons (dv_lc rfl sc_is_fraction.nd (di_seq (dv_var 0)) (blkOk_by (own:=[("part",1)]) (N:=["thing","part"]) (sc:=defScope s_is_fraction) (by decide +kernel)) (tgn_name (i:=1) (by decide)) (fun _ _ _ _ _=>pg_name (i:=1) sc_is_fraction.nd rfl (by first | exact Or.inl rfl | exact Or.inr rfl)) (fun _ _ _ _ _=>dts_nil) (fun _ _ _ _ _=>(dv_call C_is_integer.fn (hr.mono (by decide)) (by rfl) C_is_integer.mgx C_is_integer.F.kp (bd_is_integer C_is_integer.F) passL (da_cons (dv_var 1) da_nil)))) da_nil)))))))) (ds_one (dp_ret dv_bl)) ds_nil)
 (ds_cons (dp_if (dt_w (dw_or (dt_ge (dv_callB call_abs ref_abs (by rfl) g_abs (by decide +kernel) (da_cons (dv_ix (dv_var 0) dv_int) da_nil)) (dv_gl c_MAX_NUMBER (by rfl))) (dw_or1 (dt_not (dt_chain op_lt (ref_int0 (gD:=fun i j=>.bl (decide (i < j))) fun _ _ _ _ _=>rfl) op_lt (ref_int0 (gD:=fun i j=>.bl (decide (i < j))) fun _ _ _ _ _=>rfl) dv_int (dv_ix (dv_var 0) dv_int) (dv_gl c_MAX_NUMBER (by rfl))))))) (ds_one (dp_ret dv_bl)) ds_nil)
 (ds_one (dp_ret (dv_eq hr.units (dv_call C_common_divisor.fn (hr.mono (by decide)) (by rfl) C_common_divisor.mgx C_common_divisor.F.kp (bd_common_divisor C_common_divisor.F) hxF (da_cons (dv_ix (dv_var 0) dv_int) (da_cons (dv_ix (dv_var 0) dv_int) da_nil))) dv_int)))))) ?_
 rintro ds M Q E hM hD ⟨d,rfl,hp,hQ⟩
 have zl:sizeLine=16777216:=rfl
 have fin:∀ k,isfrD d=k->Cut M.length Q (.bl k) M:=fun k e=>Cut.same rfl hM (e ▸ hQ)
 walk_at "R"
 cases h:isTup d with
 | false =>
  walk_at "R"
  exact fin false (isfrD_not h)
 | true =>
 obtain ⟨xs,rfl⟩:=is_tup h
 obtain ⟨hl,hps⟩:=pu_tp hp
 walk_at "R"
 refine ifn (fun h2=>?_) (fun h2=>?_)
 ·walk_at "R"
  exact fin false (isfrD_len h2)
 obtain ⟨x,y,rfl⟩:=len_2 h2
 walk_at "R"
 refine lc_mapD (fun d=>D.bl (isZI d)) [x,y] (by show 2<=sizeLine;decide) ?_ ?_
 ·intro c hc N hN
  walk_at "R"
  exact ⟨c,rfl,hps c hc,hN⟩
 refine e_allM ?_
 cases ha:isZI x && isZI y with
 | false =>
  rw [show (([x,y].map isZI).all _root_.id)=false by simpa using ha]
  walk_at "R"
  exact fin false (isfrD_zi ha)
 | true =>
 rw [show (([x,y].map isZI).all _root_.id)=true by simpa using ha]
 rw [Bool.and_eq_true] at ha
 obtain ⟨a,rfl⟩:=isZI_of ha.1
 obtain ⟨b,rfl⟩:=isZI_of ha.2
 have e0:isfrD (.tup [.int a,.int b])=isfr a b:=rfl
 rw [e0] at fin
 unfold isfr at fin
 walk_at "R"
 refine ifd (fun h=>?_) (fun h=>?_)
 ·walk_at "R"
  exact fin false (by rw [Bool.eq_false_iff];intro hh;simp at hh;omega)
 walk_at "R"
 refine ifd (fun h1=>?_) (fun h1=>?_)
 rotate_left
 ·walk_at "R"
  exact fin false (by rw [Bool.eq_false_iff];intro hh;simp at hh;omega)
 walk_at "R"
 refine ifn (fun h2=>?_) (fun h2=>?_)
 ·walk_at "R"
  exact fin false (by rw [Bool.eq_false_iff];intro hh;simp at hh;omega)
 walk_at "R"
 refine ⟨a,b,rfl,?_⟩
 walk_at "R"
 refine fin _ ?_
 have q1:a.natAbs < 10 ^ 12:=by omega
 have q2:b < 10 ^ 12:=h2
 rw [decide_eq_true q1,decide_eq_true h1,decide_eq_true q2]
 show decide (Int.gcd a b=1)=decide ((Int.gcd a b:Int)=1)
 exact decide_eq_decide.mpr (by omega)
theorem ok_parse_fraction {f:Addr} {fd:FuncData} (F:F_parse_fraction K f fd) (C_parse_integer:Cal_parse_integer P w K mg base Tb) (C_fraction_text:Cal_fraction_text P w K mg base Tb) (C_is_fraction:Cal_is_fraction P w K mg base Tb) (X_InvalidText:XC_InvalidText P w K mg base):FnD P w K mg base Tb 3 f fd ["text"] (sp_parse_fraction K):=by
 refine fnD_of _ F sc_parse_fraction (by rintro ds M Q E ⟨z,rfl,_⟩;rfl) (fun cdv A outer s H EV hr=>(ds_cons (dp_asg (dv_bm PySem.F.plainAttrs_str PySem.F.slot_str_partition PySem.F.type_str_partition mt_partition ref_part (dv_var 0) (da_cons dv_str da_nil)) (dg_tup (n:=3) rfl (dgs_cons (dg_name 1 sc_parse_fraction.nd) (dgs_cons (dg_name 2 sc_parse_fraction.nd) (dgs_cons (dg_name 3 sc_parse_fraction.nd) dgs_nil)))))
 (ds_cons (dp_set 4 sc_parse_fraction.nd (dv_tup (da_cons (dv_call C_parse_integer.fn (hr.mono (by decide)) (by rfl) C_parse_integer.mgx C_parse_integer.F.kp (bd_parse_integer C_parse_integer.F) hxF (da_cons (dv_var 1) da_nil)) (da_cons (dv_if (dt_ne hr.units (dv_var 2) dv_str) (dv_call C_parse_integer.fn (hr.mono (by decide)) (by rfl) C_parse_integer.mgx C_parse_integer.F.kp (bd_parse_integer C_parse_integer.F) hxF (da_cons (dv_var 3) da_nil)) dv_int) da_nil))))
 (ds_cons (dp_if (dt_w (dw_or (dt_is (dv_ix (dv_var 4) dv_int) dv_non) (dw_or (dt_is (dv_ix (dv_var 4) dv_int) dv_non) (dw_or (dt_not (dt_tru (dv_call C_is_fraction.fn (hr.mono (by decide)) (by rfl) C_is_fraction.mgx C_is_fraction.F.kp (bd_is_fraction C_is_fraction.F) hxF (da_cons (dv_var 4) da_nil)))) (dw_or1 (dt_ne hr.units (dv_call C_fraction_text.fn (hr.mono (by decide)) (by rfl) C_fraction_text.mgx C_fraction_text.F.kp (bd_fraction_text C_fraction_text.F) hxF (da_cons (dv_var 4) da_nil)) (dv_var 0))))))) (ds_one (dp_raise0 X_InvalidText (hr.mono (by decide)) rfl tkF hxN (by rfl))) ds_nil)
 (ds_one (dp_ret (dv_var 4))))))) ?_
 rintro ds M Q E hM hD ⟨z,rfl,hz,hQ⟩
 have zl:sizeLine=16777216:=rfl
 have e47:(Str.ofString "/")=SX.S [47]:=by decide +kernel
 have e0:(Str.ofString "")=SX.S []:=by decide +kernel
 have finE:pfN z=none->CutX M.length E ⟨He.ga K "InvalidText",[("code",.str "InvalidText")]⟩ M:=fun h=>CutX.same rfl hM (by rw [h] at hQ;exact hQ)
 have finQ:∀ x y,pfN z=some (x,y)->Cut M.length Q (.tup [.int x,.int y]) M:=fun x y h=>Cut.same rfl hM (by rw [h] at hQ;exact hQ)
 unfold pfN at finE finQ
 have hz2:z=SX.S (cl z):=(SX.S_tl z).symm
 with_reducible refine e_cut (fun rho M'=>M'=M/\((TL.par [47] [] (cl z)=none/\rho=[some (.str z),some (.str z),some (.str (SX.S [])),some (.str (SX.S [])),none])\/∃ a b,TL.par [47] [] (cl z)=some (a,b)/\cl z=a ++ 47 :: b/\rho=[some (.str z),some (.str (SX.S a)),some (.str (SX.S [47])),some (.str (SX.S b)),none])) ?_ ?_
 rotate_left
 ·intro N hN
  walk_at "R"
  refine ⟨by decide +kernel,by omega,?_⟩
  rw [e47]
  rcases cut_case (cl z) with ⟨hf,hp,_⟩ | ⟨a,b,e,ha,hp,_⟩
  ·have hpz:Txt.partition z (SX.S [47])=(z,SX.S [],SX.S []):=by
    have:=SX.partition_none (b:=[47]) (by decide) hp
    rw [SX.S_tl] at this
    exact this
   rw [hpz]
   walk_at "R"
   exact hN _ _ ⟨rfl,.inl ⟨hp,rfl⟩⟩
  ·have hpz:Txt.partition z (SX.S [47])=(SX.S a,SX.S [47],SX.S b):=by
    have:=SX.partition_some (b:=[47]) (by decide) hp
    rw [SX.S_tl] at this
    exact this
   rw [hpz]
   walk_at "R"
   exact hN _ _ ⟨rfl,.inr ⟨a,b,hp,e,rfl⟩⟩
 rintro rho M1 ⟨rfl,hc⟩
 rcases hc with ⟨hp,rfl⟩ | ⟨a,b,hp,e,rfl⟩
 ·rw [hp] at finE finQ
  walk_at "R"
  refine ⟨z,rfl,by omega,?_⟩
  walk_at "R"
  rw [e0]
  refine ifn (fun h=>absurd rfl h) (fun _=>?_)
  walk_at "R"
  cases hn:fgN z with
  | none =>
   rw [hn] at finE
   rw [show DL.isNon (oiD none)=true from rfl]
   walk_at "R"
   exact ⟨rfl,by decide,finE rfl⟩
  | some n =>
   rw [hn] at finQ
   obtain ⟨n1,n2,_,_⟩:=fgN_some hn
   have nb:=bz_12 n1
   rw [show DL.isNon (oiD (some n))=false from rfl]
   walk_at "R"
   rw [show DL.isNon (.int 1)=false from rfl]
   walk_at "R"
   refine ⟨.tup [.int n,.int 1],rfl,rfl,?_⟩
   rw [show isfrD (.tup [.int n,.int 1])=isfr n 1 from rfl]
   rw [show isfr n 1=true by unfold isfr;rw [decide_eq_true n1,show Int.gcd n 1=1 from Int.gcd_one_right _];rfl]
   walk_at "R"
   refine ⟨n,1,rfl,by omega,by decide,?_⟩
   rw [if_pos rfl,n2]
   walk_at "R"
   refine ifn (fun h=>absurd rfl h) (fun _=>?_)
   walk_at "R"
   exact finQ n 1 rfl
 ·rw [hp] at finE finQ
  have hl:z.length=a.length+(b.length+1):=by
   rw [show z.length=(cl z).length from Array.length_toList.symm,e,List.length_append,List.length_cons]
  walk_at "R"
  refine ⟨SX.S a,rfl,by rw [SX.S_len];omega,?_⟩
  walk_at "R"
  rw [e0]
  refine ifn (fun _=>?_) (fun h=>absurd h (by decide +kernel))
  walk_at "R"
  refine ⟨SX.S b,rfl,by rw [SX.S_len];omega,?_⟩
  walk_at "R"
  cases hn:fgN (SX.S a) with
  | none =>
   rw [show DL.isNon (oiD none)=true from rfl]
   walk_at "R"
   exact ⟨rfl,by decide,finE (by simp only [hn])⟩
  | some n =>
  obtain ⟨n1,n2,_,_⟩:=fgN_some hn
  have nb:=bz_12 n1
  rw [show DL.isNon (oiD (some n))=false from rfl]
  walk_at "R"
  cases hd:fgN (SX.S b) with
  | none =>
   rw [show DL.isNon (oiD none)=true from rfl]
   walk_at "R"
   exact ⟨rfl,by decide,finE (by simp only [hn,hd])⟩
  | some d =>
  obtain ⟨d1,d2,_,_⟩:=fgN_some hd
  have db:=bz_12 d1
  rw [show DL.isNon (oiD (some d))=false from rfl]
  simp only [hn,hd] at finE finQ
  walk_at "R"
  refine ⟨.tup [.int n,.int d],rfl,rfl,?_⟩
  rw [show isfrD (.tup [.int n,.int d])=isfr n d from rfl]
  walk_at "R"
  cases hf:isfr n d with
  | false =>
   walk_at "R"
   refine ⟨rfl,by decide,finE (if_neg fun h=>Bool.false_ne_true (hf.symm.trans ?_))⟩
   unfold isfr
   rw [decide_eq_true n1,decide_eq_true (show 0 < d by omega),decide_eq_true (show d < 10 ^ 12 by omega),decide_eq_true h.2]
   rfl
  | true =>
  have hf':0 < d/\Int.gcd n d=1:=by
   unfold isfr at hf
   simp at hf
   exact ⟨hf.1.1.2,hf.2⟩
  walk_at "R"
  refine ⟨n,d,rfl,by omega,by omega,?_⟩
  walk_at "R"
  refine ifn (fun hne=>?_) (fun heq=>?_)
  ·walk_at "R"
   refine ⟨rfl,by decide,finE (if_neg fun h=>hne ?_)⟩
   rw [if_neg (by omega),n2,d2,hz2,e,e47,SX.S_cat,SX.S_cat]
   rfl
  ·walk_at "R"
   have hd1:d≠1:=fun h1=>by
    subst h1
    rw [if_pos rfl,n2,hz2,e] at heq
    have:=congrArg List.length (SX.S_inj heq)
    rw [List.length_append,List.length_cons] at this
    omega
   exact finQ n d (if_pos ⟨by omega,hf'.2⟩)
theorem ok_read_thing {f:Addr} {fd:FuncData} (F:F_read_thing K f fd) (C_parse_fraction:Cal_parse_fraction P w K mg base Tb):FnD P w K mg base Tb 4 f fd ["word","text"] (sp_read_thing K):=by
 refine fnD_of _ F sc_read_thing (by rintro ds M Q E ⟨w,t,rfl,_⟩;rfl) (fun cdv A outer s H EV hr=>(ds_cons (dp_if (dt_w (dw_or (dt_eq hr.units (dv_var 0) dv_str) (dw_or1 (dt_in (dv_var 1) (dv_tup (da_cons dv_str (da_cons dv_str (da_cons dv_str da_nil)))))))) (ds_one (dp_ret (dv_var 1))) ds_nil)
 (ds_one (dp_ret (dv_call C_parse_fraction.fn (hr.mono (by decide)) (by rfl) C_parse_fraction.mgx C_parse_fraction.F.kp (bd_parse_fraction C_parse_fraction.F) hxF (da_cons (dv_var 1) da_nil)))))) ?_
 rintro ds M Q E hM hD ⟨w,t,rfl,hl,hE,hQ⟩
 have zl:sizeLine=16777216:=rfl
 unfold thF at hE hQ
 walk_at "R"
 refine ifd (fun h=>?_) (fun h=>?_)
 ·rw [if_pos (.inl h)] at hQ
  walk_at "R"
  exact Cut.same rfl hM (hQ _ rfl)
 walk_at "R"
 refine e_inT (zs:=updn) ?_
 by_cases h2:SX.S t∈updn
 ·rw [if_pos (.inr h2)] at hQ
  rw [decide_eq_true h2]
  walk_at "R"
  exact Cut.same rfl hM (hQ _ rfl)
 rw [if_neg (fun z=>z.elim h h2)] at hE hQ
 rw [decide_eq_false h2]
 walk_at "R"
 refine ⟨_,rfl,by rw [SX.S_len];omega,?_⟩
 cases hp:pfN (SX.S t) with
 | none =>
  rw [hp] at hE
  exact CutX.same rfl hM (hE rfl)
 | some p =>
  rw [hp] at hQ
  exact Cut.same rfl hM (hQ _ rfl)
theorem lcE_opt {g:TGD} {te:TED} {vs:List Nat} {rho:Rho} {Q:VD} {M:Mem} {E:XD} {X:Exn} (F:List Nat->Option D) (ps:List (List Nat)) (hl:ps.length<=sizeLine)
  (h:∀ p∈ps,∀ N:VD,(F p=none->E X M)->(∀ x,F p=some x->N x M)->g (.str (SX.S p)) noE (wipeD rho vs) M fun rho' M1=>te E rho' M1 N)
  (he:ps.mapM F=none->E X M) (hq:∀ xs,ps.mapM F=some xs->Q (.lst xs) M):lcUE E g dYes te vs (ps.map fun p=>D.str (SX.S p)) [] rho M Q:=by
 have key:∀ (r:List (List Nat)) (c0:List D),(∀ x∈r,x∈ps)->c0.length+r.length<=sizeLine->(r.mapM F=none->E X M)->(∀ xs,r.mapM F=some xs->Q (.lst (c0 ++ xs)) M)->lcUE E g dYes te vs (r.map fun p=>D.str (SX.S p)) c0 rho M Q:=by
  intro r
  induction r with
  | nil =>
   intro c0 _ _ _ hq
   have:=hq [] rfl
   rw [List.append_nil] at this
   exact this
  | cons p r ih =>
   intro c0 hm hl he hq
   rw [List.mapM_cons] at he hq
   refine h p (hm p (List.mem_cons_self ..)) _ (fun e=>he (by rw [e];rfl)) fun x e=>?_
   rw [e] at he hq
   rw [List.length_cons] at hl
   refine ⟨by omega,?_⟩
   refine ih (c0 ++ [x]) (fun y hy=>hm y (List.mem_cons_of_mem _ hy)) (by rw [List.length_append,List.length_singleton];omega) (fun e2=>he (by rw [e2];rfl)) fun xs e2=>?_
   have:=hq (x :: xs) (by rw [e2];rfl)
   rwa [List.append_assoc]
 have:=key ps [] (fun _ h=>h) (by simpa using hl) he (fun xs h=>hq xs h)
 exact this
theorem rd_key {f f2:Addr} {fd2:FuncData} (F2:F_read_step K f2 fd2) (I_read_step:∃ (f2:Addr) (fd2:FuncData),F_read_step K f2 fd2/\mg "read_step"=some (.ref f2)) (mgs:mg "read"=some (.ref f)) (C_split_outside:Cal_split_outside P w K mg base Tb) (C_read_thing:Cal_read_thing P w K mg base Tb) (g_tuple:mg "tuple"=none) (c_SAME:CC_SAME K mg) (c_BETWEEN:CC_BETWEEN K mg) (c_JOINS:CC_JOINS K mg) (X_InvalidText:XC_InvalidText P w K mg base) (n:Nat) (spR:DSp) (C_read:Cal P w K mg base Tb "read" "read" s_read [] [] (2 * n+40) ["text"] spR) (hR:∀ ds M Q E m,n=m+1->sp_read_n m K ds M Q E->spR ds M Q E):FnD P w K mg base Tb (2 * n+41) f2 fd2 ["text"] (sp_read_step_n n K):=by
 refine fnD_of _ F2 sc_read_step (by rintro ds M Q E ⟨l,rfl,_⟩;rfl) (fun cdv A outer s H EV hr=>(ds_cons (dp_asg (dv_bm PySem.F.plainAttrs_str PySem.F.slot_str_partition PySem.F.type_str_partition mt_partition ref_part (dv_var 0) (da_cons dv_str da_nil)) (dg_tup (n:=3) rfl (dgs_cons (dg_name 1 sc_read_step.nd) (dgs_cons (dg_name 2 sc_read_step.nd) (dgs_cons (dg_name 3 sc_read_step.nd) dgs_nil)))))
 (ds_cons (dp_if (dt_w (dw_and (dt_ne hr.units (dv_var 2) dv_str) (dw_and1 (dt_in (dv_var 1) (dv_gl c_JOINS (by rfl)))))) (ds_cons (dp_if (dt_ne hr.units (dv_slice (dv_var 3) (do_some (dv_neg dv_int)) do_none) dv_str) (ds_one (dp_raise0 X_InvalidText (hr.mono (by omega)) rfl tkF hxN (by rfl))) ds_nil)
 (ds_one (dp_ret (dv_tup (da_cons (dv_var 1) (da_star (dv_lcE tkF rfl rfl rfl sc_read_step.nd (di_seq (dv_call C_split_outside.fn (hr.mono (by omega)) (by rfl) C_split_outside.mgx C_split_outside.F.kp (bd_split_outside C_split_outside.F) hxF (da_cons (dv_slice (dv_var 3) do_none (do_some (dv_neg dv_int))) (da_cons dv_str da_nil)))) (blkOk_by (own:=[("part",4)]) (N:=["text","head","mark","rest","part","word","things","thing"]) (sc:=defScope s_read_step) (by decide +kernel)) (tgn_name (i:=4) (by decide)) (fun _ _ _ _ _ _ _=>pg_name (i:=4) sc_read_step.nd rfl (by first | exact Or.inl rfl | exact Or.inr rfl)) (fun _ _ _ _ _ _ _=>dts_nil) (fun _ _ _ _ _ _ hxB=>(dv_call C_read.fn (hr.mono (by omega)) (by rfl) C_read.mgx C_read.F.kp (bd_read C_read.F) hxB (da_cons (dv_var 4) da_nil)))))))))) ds_nil)
 (ds_cons (dp_asg (dv_bm PySem.F.plainAttrs_str PySem.F.slot_str_split PySem.F.type_str_split mt_split ref_split (dv_var 0) (da_cons dv_str da_nil)) (dg_star (k:=1) rfl (dgs_cons (dg_name 5 sc_read_step.nd) (dgs_consS (dg_name 6 sc_read_step.nd) dgs_nil))))
 (ds_one (dp_ret (dv_tup (da_cons (dv_var 5) (da_star (dv_lcE tkF rfl rfl rfl sc_read_step.nd (di_seq (dv_var 6)) (blkOk_by (own:=[("thing",7)]) (N:=["text","head","mark","rest","part","word","things","thing"]) (sc:=defScope s_read_step) (by decide +kernel)) (tgn_name (i:=7) (by decide)) (fun _ _ _ _ _ _ _=>pg_name (i:=7) sc_read_step.nd rfl (by first | exact Or.inl rfl | exact Or.inr rfl)) (fun _ _ _ _ _ _ _=>dts_nil) (fun _ _ _ _ _ _ hxB=>(dv_call C_read_thing.fn (hr.mono (by omega)) (by rfl) C_read_thing.mgx C_read_thing.F.kp (bd_read_thing C_read_thing.F) hxB (da_cons (dv_var 5) (da_cons (dv_var 7) da_nil)))))))))))))) ?_
 rintro ds M Q E hM hD ⟨l,rfl,hl,hx,hE,hQ⟩
 have zl:sizeLine=16777216:=rfl
 have e40:Str.ofString "("=SX.S [40]:=by decide +kernel
 have e0:Str.ofString ""=SX.S []:=by decide +kernel
 walk_at "R"
 refine ⟨by decide +kernel,by rw [SX.S_len];omega,?_⟩
 rw [e40]
 have plain:stF (rdF n) l=plF (TL.spl [32] 0 [] l)->∀ c1 c2 c3,(dSeq (dAsg (dBM "str" rSplit_ (dVar 0) (dCons (dC (D.str " ")) dNil)) (hStar 1 (hCons (hName 5) (hCons (hName 6) hNil)))) (dRet (dTup (dCons (dVar 5) (dStar (dLcE (iSeq (dVar 6)) (hName 7) dYes (dCall (sp_read_thing K) (dCons (dVar 5) (dCons (dVar 7) dNil))) [7])))))) (CutX M.length E) { nx:=fun x M'=>Cut M.length Q D.non M',rt:=Cut M.length Q } [some (.str (SX.S l)),c1,c2,c3,none,none,none,none] M:=by
  intro hst c1 c2 c3
  obtain ⟨w,ts,hs⟩:∃ w ts,TL.spl [32] 0 [] l=w :: ts:=by
   cases h:TL.spl [32] 0 [] l with
   | nil=>exact absurd h (splX_ne _ _ _ _)
   | cons w ts=>exact ⟨w,ts,rfl⟩
  rw [hst,hs] at hE hQ
  have hb:=spl_back (s:=32) l []
  rw [List.nil_append,hs] at hb
  obtain ⟨n1,n2⟩:=parts_n (S:=[32]) (by simp) hb (by simp)
  rw [List.length_cons] at n1
  walk_at "R"
  refine ⟨by decide +kernel,by rw [SX.S_len];omega,?_⟩
  rw [show Str.ofString " "=SX.S [32] by decide +kernel,SX.split_S (by decide) (by decide),hs]
  rw [show List.map D.str (List.map SX.S (w :: ts))=D.str (SX.S w) :: ts.map (fun t=>D.str (SX.S t)) by rw [List.map_cons,List.map_cons,List.map_map];rfl]
  walk_at "R"
  refine lcE_opt (X:=txX K) (thF w) ts (by omega) (fun p hp N h1 h2=>?_) (fun e=>CutX.same rfl hM (hE (by show (ts.mapM (thF w)).map _=none;rw [e];rfl))) fun xs e=>?_
  ·walk_at "R"
   exact ⟨w,p,rfl,by have:=n2 p (List.mem_cons_of_mem _ hp);omega,h1,h2⟩
  have ex:plF (w :: ts)=some (.tup (.str (SX.S w) :: xs)):=by show (ts.mapM (thF w)).map _=_;rw [e];rfl
  have hxl:=(mapM_all (R:=fun _=>True) (P:=fun _=>True) (fun _ _ _ _=>trivial) (fun _ _=>trivial) e).1
  refine e_star rfl ?_
  refine ⟨by rw [List.length_cons];omega,?_⟩
  have hpl:=st_pl (N:=1000000) (Nat.le_refl _) (fun l d h1 h2=>rd_pl (Nat.le_refl _) h1 h2) hl (show stF (rdF n) l=some _ from (hst.trans (by rw [hs])).trans ex)
  exact Cut.same (hpl.hb _) hM (hQ _ ex)
 cases hp:TL.par [40] [] l with
 | none =>
  have hpz:=SX.partition_none (b:=[40]) (by decide) hp
  have hst:stF (rdF n) l=plF (TL.spl [32] 0 [] l):=by unfold stF;rw [hp]
  rw [hpz]
  walk_at "R"
  refine ifn (fun h=>absurd (show SX.S []=Str.ofString "" by decide +kernel) h) (fun _=>?_)
  exact plain hst _ _ _
 | some p =>
  obtain ⟨a,b⟩:=p
  have hpz:=SX.partition_some (b:=[40]) (by decide) hp
  have hlab:=par_at hp
  rw [hpz]
  walk_at "R"
  refine ifn (fun _=>?_) (fun h=>absurd h (by show ¬ SX.S [40]=Str.ofString "";decide +kernel))
  walk_at "R"
  refine e_instr (vs:=jnV) rfl ?_
  show (fun b=>_) (L2.inV (.str (SX.S a)) jnV)
  cases hj:L2.inV (.str (SX.S a)) jnV with
  | false =>
   have hst:stF (rdF n) l=plF (TL.spl [32] 0 [] l):=by
    unfold stF
    rw [hp]
    exact if_neg (by rw [hj];decide)
   exact plain hst _ _ _
  | true =>
   have hst:stF (rdF n) l=jnF (rdF n) a b:=by
    unfold stF
    rw [hp]
    exact if_pos hj
   have hst0:=hst
   rw [hst] at hE hQ
   have hbl:b.length<=1000000:=by
    rw [hlab] at hl
    simp only [List.length_append,List.length_cons] at hl
    omega
   walk_at "R"
   refine e_sls (by rw [SX.S_len];omega) ?_
   rw [C8.cutS_slice]
   show rNe_ (.str (Txt.slice (SX.S b) (some (-1)) none)) (.str ")") M _
   rw [sl_last,show Str.ofString ")"=SX.S [41] by decide +kernel]
   walk_at "R"
   refine ifn (fun h=>?_) (fun h=>?_)
   ·walk_at "R"
    refine ⟨rfl,by decide,CutX.same rfl hM (hE ?_)⟩
    unfold jnF
    exact if_neg fun e=>h (by rw [e])
   have hb:b.drop (b.length - 1)=[41]:=SX.S_inj h
   have ej:jnF (rdF n) a b=((spo [59,32] 0 0 [] (b.take (b.length - 1))).mapM (rdF n)).map fun ps=>.tup (.str (SX.S a) :: ps):=if_pos hb
   rw [ej] at hE hQ
   have hbt:(b.take (b.length - 1)).length<=1000000:=by rw [List.length_take];omega
   walk_at "R"
   refine e_sls (by show (SX.S b).length<=_;rw [SX.S_len];omega) ?_
   rw [C8.cutS_slice]
   refine ⟨b.take (b.length - 1),[59,32],by show [D.str (Txt.slice (SX.S b) none (some (-1))),_]=_;rw [sl_but,show Str.ofString "; "=SX.S [59,32] by decide +kernel],by decide,by decide,hbt,?_⟩
   walk_at "R"
   obtain ⟨n1,n2⟩:=parts_n (S:=[59,32]) (l:=b.take (b.length - 1)) (by simp) (spo_j (by simp)) (spo_ne _ _ _ _ _)
   have hax:Mx (n:Int) (0+dsum a) (40 :: b):=by
    rw [hlab] at hx
    exact (mx_app.mp hx).2
   have hda:dsum a=0:=by
    have ha:=inV_str (zs:=["sum","least","greatest"]) hj
    simp only [List.mem_cons,List.not_mem_nil,or_false] at ha
    have e:a=cl (SX.S a):=rfl
    rw [e]
    rcases ha with h | h | h <;> rw [h] <;> decide +kernel
   rw [hda] at hax
   have hn1:(1:Int)<=n:=hax.1
   obtain ⟨m,rfl⟩:∃ m,n=m+1:=⟨n - 1,by omega⟩
   have hbx:Mx (m:Int) 0 (b.take (b.length - 1)):=by
    have h1:Mx ((m+1:Nat):Int) 1 b:=hax.2
    rw [<- List.take_append_drop (b.length - 1) b] at h1
    have h2:=mx_sh (j:=-1) (mx_app.mp h1).1
    rw [show ((m+1:Nat):Int) + -1=(m:Int) by omega] at h2
    exact h2
   refine lcE_opt (X:=txX K) (rdF (m+1)) _ (by omega) (fun p hp N h1 h2=>?_) (fun e=>CutX.same rfl hM (hE (by rw [e];rfl))) fun xs e=>?_
   ·walk_at "R"
    exact hR _ _ _ _ m rfl ⟨p,rfl,by have:=n2 p hp;omega,spo_mx (by decide) (by simp) (by decide) _ 0 [] _ (Nat.le_refl _) rfl hbx p hp,h1,h2⟩
   have hxl:=(mapM_all (R:=fun _=>True) (P:=fun _=>True) (fun _ _ _ _=>trivial) (fun _ _=>trivial) e).1
   refine e_star rfl ?_
   refine ⟨by rw [List.length_cons];omega,?_⟩
   have ex:jnF (rdF (m+1)) a b=some (.tup (.str (SX.S a) :: xs)):=by rw [ej,e];rfl
   have hpl:=st_pl (N:=1000000) (Nat.le_refl _) (fun l d h1 h2=>rd_pl (Nat.le_refl _) h1 h2) hl (hst0.trans ex)
   exact Cut.same (hpl.hb _) hM (hQ _ (by rw [e];rfl))
theorem rd_main {f:Addr} {fd:FuncData} (F:F_read K f fd) (I_read_step:∃ (f2:Addr) (fd2:FuncData),F_read_step K f2 fd2/\mg "read_step"=some (.ref f2)) (mgs:mg "read"=some (.ref f)) (C_split_outside:Cal_split_outside P w K mg base Tb) (C_read_thing:Cal_read_thing P w K mg base Tb) (g_tuple:mg "tuple"=none) (c_SAME:CC_SAME K mg) (c_BETWEEN:CC_BETWEEN K mg) (c_JOINS:CC_JOINS K mg) (X_InvalidText:XC_InvalidText P w K mg base) (n:Nat) (C_read_step:Cal P w K mg base Tb "read_step" "read_step" s_read_step [] [] (2 * n+41) ["text"] (sp_read_step_n n K)):FnD P w K mg base Tb (2 * n+42) f fd ["text"] (sp_read_n n K):=by
 refine fnD_of _ F sc_read (by rintro ds M Q E ⟨l,rfl,_⟩;rfl) (fun cdv A outer s H EV hr=>(ds_cons (dp_if (dt_eq hr.units (dv_var 0) (dv_gl c_SAME (by rfl))) (ds_one (dp_ret (dv_tup da_nil))) ds_nil)
 (ds_one (dp_ret (dv_callTy call_tuple_of ref_tuple (by rfl) g_tuple (by decide +kernel) (da_cons (dv_lcE tkF rfl rfl rfl sc_read.nd (di_seq (dv_call C_split_outside.fn (hr.mono (by omega)) (by rfl) C_split_outside.mgx C_split_outside.F.kp (bd_split_outside C_split_outside.F) hxF (da_cons (dv_var 0) (da_cons (dv_gl c_BETWEEN (by rfl)) da_nil)))) (blkOk_by (own:=[("part",1)]) (N:=["text","part"]) (sc:=defScope s_read) (by decide +kernel)) (tgn_name (i:=1) (by decide)) (fun _ _ _ _ _ _ _=>pg_name (i:=1) sc_read.nd rfl (by first | exact Or.inl rfl | exact Or.inr rfl)) (fun _ _ _ _ _ _ _=>dts_nil) (fun _ _ _ _ _ _ hxB=>(dv_call C_read_step.fn (hr.mono (by omega)) (by rfl) C_read_step.mgx C_read_step.F.kp (bd_read_step C_read_step.F) hxB (da_cons (dv_var 1) da_nil)))) da_nil)))))) ?_
 rintro ds M Q E hM hD ⟨l,rfl,hl,hx,hE,hQ⟩
 have zl:sizeLine=16777216:=rfl
 have e1:rdF (n+1) l=if l=cl "same" then some (.tup []) else ((spo [32,124,32] 0 0 [] l).mapM (stF (rdF n))).map .tup:=rfl
 rw [e1] at hE hQ
 walk_at "R"
 refine ifd (fun h=>?_) (fun h=>?_)
 ·rw [if_pos (show l=cl "same" by rw [<- h])] at hQ
  walk_at "R"
  exact Cut.same rfl hM (hQ _ rfl)
 rw [if_neg (fun e:l=cl "same"=>h (by rw [e]))] at hE hQ
 walk_at "R"
 refine ⟨_,[32,124,32],by rw [show Str.ofString " | "=SX.S [32,124,32] by decide +kernel],by decide,by decide,hl,?_⟩
 walk_at "R"
 obtain ⟨n1,n2⟩:=parts_n (S:=[32,124,32]) (l:=l) (by simp) (spo_j (by simp)) (spo_ne _ _ _ _ _)
 refine lcE_opt (X:=txX K) (stF (rdF n)) _ (by omega) (fun p hp N h1 h2=>?_) (fun e=>CutX.same rfl hM (hE (by rw [e];rfl))) fun xs e=>?_
 ·walk_at "R"
  exact ⟨p,rfl,by have:=n2 p hp;omega,spo_mx (by decide) (by simp) (by decide) _ 0 [] l (Nat.le_refl _) rfl hx p hp,h1,h2⟩
 walk_at "R"
 have hpl:=rd_pl (N:=1000000) (Nat.le_refl _) hl (show rdF (n+1) l=some (.tup xs) by rw [e1,if_neg (fun e:l=cl "same"=>h (by rw [e])),e];rfl)
 exact Cut.same (hpl.hb _) hM (hQ _ (by rw [e];rfl))
theorem read_all {f:Addr} {fd:FuncData} (F:F_read K f fd) (I_read_step:∃ (f2:Addr) (fd2:FuncData),F_read_step K f2 fd2/\mg "read_step"=some (.ref f2)) (mgs:mg "read"=some (.ref f)) (C_split_outside:Cal_split_outside P w K mg base Tb) (C_read_thing:Cal_read_thing P w K mg base Tb) (g_tuple:mg "tuple"=none) (c_SAME:CC_SAME K mg) (c_BETWEEN:CC_BETWEEN K mg) (c_JOINS:CC_JOINS K mg) (X_InvalidText:XC_InvalidText P w K mg base):∀ n,FnD P w K mg base Tb (2 * n+42) f fd ["text"] (sp_read_n n K)
 | 0=>by
  obtain ⟨f2,fd2,F2,m2⟩:=id I_read_step
  exact rd_main F I_read_step mgs C_split_outside C_read_thing g_tuple c_SAME c_BETWEEN c_JOINS X_InvalidText 0 ⟨f2,fd2,F2,rd_key F2 I_read_step mgs C_split_outside C_read_thing g_tuple c_SAME c_BETWEEN c_JOINS X_InvalidText 0 (fun _ _ _ _=>False) ⟨f,fd,F,⟨⟨fun vs H Q E h=>by obtain ⟨_,_,_,_,_,_,_,h,_⟩:=h;exact h.elim,fun A outer s H args us vs Q E hr he hb hv h=>by obtain ⟨_,_,_,_,_,_,_,h,_⟩:=h;exact h.elim⟩⟩,mgs⟩ (fun _ _ _ _ m e _=>by cases e),m2⟩
 | n+1=>by
  obtain ⟨f2,fd2,F2,m2⟩:=id I_read_step
  exact rd_main F I_read_step mgs C_split_outside C_read_thing g_tuple c_SAME c_BETWEEN c_JOINS X_InvalidText (n+1) ⟨f2,fd2,F2,rd_key F2 I_read_step mgs C_split_outside C_read_thing g_tuple c_SAME c_BETWEEN c_JOINS X_InvalidText (n+1) (sp_read_n n K) ⟨f,fd,F,read_all F I_read_step mgs C_split_outside C_read_thing g_tuple c_SAME c_BETWEEN c_JOINS X_InvalidText n,mgs⟩ (fun _ _ _ _ m e h=>by cases e;exact h),m2⟩
theorem ok_read {f:Addr} {fd:FuncData} (F:F_read K f fd) (I_read_step:∃ (f2:Addr) (fd2:FuncData),F_read_step K f2 fd2/\mg "read_step"=some (.ref f2)) (mgs:mg "read"=some (.ref f)) (C_split_outside:Cal_split_outside P w K mg base Tb) (C_read_thing:Cal_read_thing P w K mg base Tb) (g_tuple:mg "tuple"=none) (c_SAME:CC_SAME K mg) (c_BETWEEN:CC_BETWEEN K mg) (c_JOINS:CC_JOINS K mg) (X_InvalidText:XC_InvalidText P w K mg base):FnD P w K mg base Tb 50 f fd ["text"] (sp_read K):=by
 exact read_all F I_read_step mgs C_split_outside C_read_thing g_tuple c_SAME c_BETWEEN c_JOINS X_InvalidText 4
theorem written_all {f:Addr} {fd:FuncData} (F:F_written K f fd) (I_written_step:∃ (f2:Addr) (fd2:FuncData),F_written_step K f2 fd2/\mg "written_step"=some (.ref f2)) (mgs:mg "written"=some (.ref f)) (C_fraction_text:Cal_fraction_text P w K mg base Tb) (g_len:mg "len"=none) (g_str:mg "str"=none) (g_isinstance:mg "isinstance"=none) (c_BETWEEN:CC_BETWEEN K mg) (c_SAME:CC_SAME K mg) (c_JOINS:CC_JOINS K mg):∀ n,FnD P w K mg base Tb (2 * n+10) f fd ["pipeline"] (sp_written_n n)
 | 0=>⟨⟨fun vs H Q E h=>by obtain ⟨_,_,_,_,_,_,_,⟨_,_,_,h,_⟩,_⟩:=h;exact h.elim,fun A outer s H args us vs Q E hr he hb hv h=>by obtain ⟨_,_,_,_,_,_,_,⟨_,_,_,h,_⟩,_⟩:=h;exact h.elim⟩⟩
 | n+1=>by
  obtain ⟨f2,fd2,F2,m2⟩:=id I_written_step
  have C_written:Cal P w K mg base Tb "written" "written" s_written [] [] (2 * n+10) ["pipeline"] (sp_written_n n):=⟨f,fd,F,written_all F I_written_step mgs C_fraction_text g_len g_str g_isinstance c_BETWEEN c_SAME c_JOINS n,mgs⟩
  have ok2:FnD P w K mg base Tb (2 * n+11) f2 fd2 ["step"] (sp_written_step_n n):=by
   refine fnD_of _ F2 sc_written_step (by rintro ds M Q E ⟨nm,d,rfl,_⟩;rfl) (fun cdv A outer s H EV hr=>(ds_cons (dp_asg (dv_var 0) (dg_star (k:=1) rfl (dgs_cons (dg_name 1 sc_written_step.nd) (dgs_consS (dg_name 2 sc_written_step.nd) dgs_nil))))
 (ds_cons (dp_if (dt_in (dv_var 1) (dv_gl c_JOINS (by rfl))) (ds_one (dp_ret (dv_js (dj_cons (dv_fmt (dv_var 1)) (dj_cons dv_str (dj_cons (dv_fmt (dv_bm PySem.F.plainAttrs_str PySem.F.slot_str_join PySem.F.type_str_join mt_join ref_join dv_str (da_cons (dv_lc rfl sc_written_step.nd (di_seq (dv_var 2)) (blkOk_by (own:=[("part",3)]) (N:=["step","word","rest","part","thing"]) (sc:=defScope s_written_step) (by decide +kernel)) (tgn_name (i:=3) (by decide)) (fun _ _ _ _ _=>pg_name (i:=3) sc_written_step.nd rfl (by first | exact Or.inl rfl | exact Or.inr rfl)) (fun _ _ _ _ _=>dts_nil) (fun _ _ _ _ _=>(dv_call C_written.fn (hr.mono (by omega)) (by rfl) C_written.mgx C_written.F.kp (bd_written C_written.F) passL (da_cons (dv_var 3) da_nil)))) da_nil))) (dj_cons dv_str dj_nil))))))) ds_nil)
 (ds_one (dp_ret (dv_bm PySem.F.plainAttrs_str PySem.F.slot_str_join PySem.F.type_str_join mt_join ref_join dv_str (da_cons (dv_add (dv_lst (da_cons (dv_var 1) da_nil)) (dv_lc rfl sc_written_step.nd (di_seq (dv_var 2)) (blkOk_by (own:=[("thing",4)]) (N:=["step","word","rest","part","thing"]) (sc:=defScope s_written_step) (by decide +kernel)) (tgn_name (i:=4) (by decide)) (fun _ _ _ _ _=>pg_name (i:=4) sc_written_step.nd rfl (by first | exact Or.inl rfl | exact Or.inr rfl)) (fun _ _ _ _ _=>dts_nil) (fun _ _ _ _ _=>(dv_if (dt_tru (dv_callB (call_isi.or (call_isiT.or call_isiK)) ref_isi (by rfl) g_isinstance (by decide +kernel) (da_cons (dv_var 4) (da_cons (dv_bltn (by rfl) g_str (v:=.ty "str") (d:=.ty "str") DL.boot_str rfl fun _ _ _=>rfl) da_nil)))) (dv_var 4) (dv_call C_fraction_text.fn (hr.mono (by omega)) (by rfl) C_fraction_text.mgx C_fraction_text.F.kp (bd_fraction_text C_fraction_text.F) passL (da_cons (dv_var 4) da_nil)))))) da_nil))))))) ?_
   rintro ds M Q E hM hD ⟨nm,d,rfl,hd,hl,hQ⟩
   have zl:sizeLine=16777216:=rfl
   rcases hd.cases2 with ⟨w,rest,rfl,hj,hr,_,_⟩ | ⟨w,ps,rfl,hw,h2,h4,hp⟩
   ·walk_at "R"
    refine e_instr (vs:=jnV) rfl ?_
    rw [hj]
    walk_at "R"
    have ew:wStep (wPipe n) (.tup (.str w :: rest))=TL.joinL [32] (cl w :: rest.map thT):=by
     show (if L2.inV (.str w) jnV=true then _ else _)=_
     rw [hj];rfl
    rw [ew] at hl hQ
    have hrl:rest.length<=1000000:=by
     have e:=joinL_len (S:=[32]) (ps:=cl w :: rest.map thT) (by simp)
     have e2:([32]:List Nat).length=1:=rfl
     have e3:(cl w :: rest.map thT).length=rest.length+1:=by rw [List.length_cons,List.length_map]
     rw [e2,e3] at e
     omega
    have hr':∀ t∈rest,(∃ z,t = .str z)\/∃ q,t=qD q/\Fq12 q:=fun t ht=>by
     rcases hr with ⟨_,z,rfl,_⟩ | ⟨_,_,hr⟩
     ·exact .inl ⟨z,List.mem_singleton.mp ht⟩
     ·rcases hr t ht with ⟨q,e,hq⟩ | ⟨z,e,_⟩
      ·exact .inr ⟨q,e,hq⟩
      ·exact .inl ⟨z,e⟩
    refine lc_mapD (fun t=>D.str (SX.S (thT t))) rest (by omega) (fun t ht N hN=>?_) ?_
    ·rcases hr' t ht with ⟨z,rfl⟩ | ⟨q,rfl,hq⟩
     ·walk_at "R"
      rw [show SX.S (thT (.str z))=z from S_cl z] at hN
      exact hN
     ·obtain ⟨b1,b2⟩:=q_bz hq
      walk_at "R"
      refine isi_s rfl ?_
      rw [show isStr (qD q)=false from rfl]
      walk_at "R"
      refine ⟨q.num,q.den,rfl,by omega,by omega,?_⟩
      rw [show (if (q.den:Int)=1 then itx q.num else itx q.num ++ (Str.ofString "/" ++ itx (q.den:Int)))=SX.S (thT (qD q)) from (S_cl _).symm]
      exact hN
    refine e_addl (by rw [List.length_map];show 1+_<=_;omega) ?_
    walk_at "R"
    refine e_joinS (S:=[32]) (ps:=cl w :: rest.map thT) (by decide +kernel) (by decide) (by simp) hl ?_ ?_
    ·rw [List.map_cons,List.map_map,S_cl];rfl
    exact Cut.same rfl hM hQ
   ·walk_at "R"
    refine e_instr (vs:=jnV) rfl ?_
    rw [in_jn hw]
    walk_at "R"
    have ew:wStep (wPipe n) (.tup (.str w :: ps))=cl w ++ 40 :: (TL.joinL [59,32] (ps.map (wPipe n)) ++ [41]):=by
     show (if L2.inV (.str w) jnV=true then _ else _)=_
     rw [in_jn hw];rfl
    rw [ew] at hl hQ
    have hl2:(TL.joinL [59,32] (ps.map (wPipe n))).length<=1000000:=by
     simp at hl
     omega
    have hwl:w.length<=8:=by rcases hw with rfl | rfl | rfl <;> decide +kernel
    have o1:(Str.ofString "(").length=1:=by decide +kernel
    have o2:(Str.ofString ")").length=1:=by decide +kernel
    refine ⟨by omega,?_⟩
    refine e_jsd (by rw [str_nil];omega) ?_
    walk_at "R"
    refine e_jsd (by rw [str_nil,str_len];omega) ?_
    walk_at "R"
    refine lc_mapD (fun p=>D.str (SX.S (wPipe n p))) ps (by omega) (fun p hp' N hN=>?_) ?_
    ·walk_at "R"
     exact ⟨nm,p,rfl,hp p hp',Nat.le_trans (joinL_part (S:=[59,32]) (List.mem_map_of_mem hp')) hl2,hN⟩
    walk_at "R"
    refine e_joinS (S:=[59,32]) (ps:=ps.map (wPipe n)) (by decide +kernel) (by decide) (fun e=>by rw [List.map_eq_nil_iff] at e;rw [e] at h2;exact absurd h2 (by decide)) hl2 (by rw [List.map_map];rfl) ?_
    walk_at "R"
    have hjl:(SX.S (TL.joinL [59,32] (ps.map (wPipe n)))).length=(TL.joinL [59,32] (ps.map (wPipe n))).length:=S_len' _
    refine ⟨by omega,?_⟩
    refine e_jsd (by rw [str_nil,str_len,str_len];omega) ?_
    walk_at "R"
    refine e_jsd (by rw [str_nil,str_len,str_len,str_len];omega) ?_
    walk_at "R"
    refine Cut.same rfl hM ?_
    have ev:((Str.empty ++ w ++ Str.ofString "(") ++ SX.S (TL.joinL [59,32] (ps.map (wPipe n)))) ++ Str.ofString ")"=SX.S (cl w ++ 40 :: (TL.joinL [59,32] (ps.map (wPipe n)) ++ [41])):=by
     rw [str_nil,show Str.ofString "("=SX.S [40] by decide +kernel,show Str.ofString ")"=SX.S [41] by decide +kernel]
     conv=>lhs;rw [<- S_cl w]
     rw [SX.S_cat,SX.S_cat,SX.S_cat]
     congr 1
     simp
    rw [ev]
    exact hQ
  have C_written_step:Cal P w K mg base Tb "written_step" "written_step" s_written_step [] [] (2 * n+11) ["step"] (sp_written_step_n n):=⟨f2,fd2,F2,ok2,m2⟩
  refine fnD_of _ F sc_written (by rintro ds M Q E ⟨nm,d,rfl,_⟩;rfl) (fun cdv A outer s H EV hr=>(ds_one (dp_ret (dv_if (dt_gt (dv_callB call_len ref_len (by rfl) g_len PySem.boot_len (da_cons (dv_var 0) da_nil)) dv_int) (dv_bm PySem.F.plainAttrs_str PySem.F.slot_str_join PySem.F.type_str_join mt_join ref_join (dv_gl c_BETWEEN (by rfl)) (da_cons (dv_lc rfl sc_written.nd (di_seq (dv_var 0)) (blkOk_by (own:=[("step",1)]) (N:=["pipeline","step"]) (sc:=defScope s_written) (by decide +kernel)) (tgn_name (i:=1) (by decide)) (fun _ _ _ _ _=>pg_name (i:=1) sc_written.nd rfl (by first | exact Or.inl rfl | exact Or.inr rfl)) (fun _ _ _ _ _=>dts_nil) (fun _ _ _ _ _=>(dv_call C_written_step.fn (hr.mono (by omega)) (by rfl) C_written_step.mgx C_written_step.F.kp (bd_written_step C_written_step.F) passL (da_cons (dv_var 1) da_nil)))) da_nil)) (dv_gl c_SAME (by rfl)))))) ?_
  rintro ds M Q E hM hD ⟨nm,d,rfl,⟨ss,rfl,hl,hs⟩,hlen,hQ⟩
  have zl:sizeLine=16777216:=rfl
  walk_at "R"
  cases ss with
  | nil =>
   refine ifd (fun z=>absurd z (by decide)) (fun _=>?_)
   walk_at "R"
   rw [show SX.S (wPipe (n+1) (.tup []))=Str.ofString "same" from S_cl _] at hQ
   exact Cut.same rfl hM hQ
  | cons s ss =>
   refine ifd (fun _=>?_) (fun z=>absurd (by rw [List.length_cons];omega) z)
   walk_at "R"
   have ew:wPipe (n+1) (.tup (s :: ss))=TL.joinL [32,124,32] ((s :: ss).map (wStep (wPipe n))):=rfl
   rw [ew] at hlen hQ
   refine lc_mapD (fun t=>D.str (SX.S (wStep (wPipe n) t))) (s :: ss) (by omega) (fun t ht N hN=>?_) ?_
   ·walk_at "R"
    exact ⟨nm,t,rfl,hs t ht,Nat.le_trans (joinL_part (S:=[32,124,32]) (List.mem_map_of_mem ht)) hlen,hN⟩
   walk_at "R"
   refine e_joinS (S:=[32,124,32]) (ps:=(s :: ss).map (wStep (wPipe n))) (by decide +kernel) (by decide) (by simp) hlen (by rw [List.map_map];rfl) ?_
   exact Cut.same rfl hM hQ
theorem ok_written {f:Addr} {fd:FuncData} (F:F_written K f fd) (I_written_step:∃ (f2:Addr) (fd2:FuncData),F_written_step K f2 fd2/\mg "written_step"=some (.ref f2)) (mgs:mg "written"=some (.ref f)) (C_fraction_text:Cal_fraction_text P w K mg base Tb) (g_len:mg "len"=none) (g_str:mg "str"=none) (g_isinstance:mg "isinstance"=none) (c_BETWEEN:CC_BETWEEN K mg) (c_SAME:CC_SAME K mg) (c_JOINS:CC_JOINS K mg):FnD P w K mg base Tb 30 f fd ["pipeline"] sp_written:=by
 refine ⟨⟨fun vs H Q E h=>?_,fun A outer s H args us vs Q E hr he hb hv h=>?_⟩⟩
 ·obtain ⟨al,M,ds,Q',E',w',r,⟨n,hn,h⟩,p,px⟩:=h
  exact (written_all F I_written_step mgs C_fraction_text g_len g_str g_isinstance c_BETWEEN c_SAME c_JOINS n).ok.len vs H Q E ⟨al,M,ds,Q',E',w',r,h,p,px⟩
 ·obtain ⟨al,M,ds,Q',E',w',r,⟨n,hn,h⟩,p,px⟩:=h
  exact ((written_all F I_written_step mgs C_fraction_text g_len g_str g_isinstance c_BETWEEN c_SAME c_JOINS n).mono (show 2 * n+10<=30 by omega)).ok.run A outer s H args us vs Q E hr he hb hv ⟨al,M,ds,Q',E',w',r,h,p,px⟩
theorem ok_is_positive {f:Addr} {fd:FuncData} (F:F_is_positive K f fd) (C_is_fraction:Cal_is_fraction P w K mg base Tb):FnD P w K mg base Tb 3 f fd ["thing"] sp_is_positive:=by
 refine fnD_of _ F sc_is_positive (by rintro ds M Q E ⟨q,rfl,_⟩;rfl) (fun cdv A outer s H EV hr=>(ds_one (dp_ret (dv_and (dv_call C_is_fraction.fn (hr.mono (by decide)) (by rfl) C_is_fraction.mgx C_is_fraction.F.kp (bd_is_fraction C_is_fraction.F) hxF (da_cons (dv_var 0) da_nil)) (dv_one (dv_gt (dv_ix (dv_var 0) dv_int) dv_int)))))) ?_
 rintro ds M Q E hM hD ⟨d,rfl,hp,hQ⟩
 walk_at "R"
 refine ⟨d,rfl,hp,?_⟩
 cases h:isfrD d with
 | false =>
  rw [posD_not h] at hQ
  walk_at "R"
  exact Cut.same rfl hM hQ
 | true =>
  obtain ⟨a,b,rfl,h2⟩:=isfrD_ab h
  rw [posD_isfr h2] at hQ
  walk_at "R"
  exact Cut.same rfl hM hQ
theorem deep_all {f:Addr} {fd:FuncData} (F:F_is_deep_pipeline K f fd) (I_is_step:∃ (f2:Addr) (fd2:FuncData),F_is_step K f2 fd2/\mg "is_step"=some (.ref f2)) (mgs:mg "is_deep_pipeline"=some (.ref f)) (C_is_fraction:Cal_is_fraction P w K mg base Tb) (C_is_positive:Cal_is_positive P w K mg base Tb) (C_is_name:Cal_is_name P w K mg base Tb) (g_len:mg "len"=none) (g_tuple:mg "tuple"=none) (g_isinstance:mg "isinstance"=none) (g_all:mg "all"=none) (g_str:mg "str"=none) (c_MAX_STEPS:CC_MAX_STEPS K mg) (c_JOINS:CC_JOINS K mg) (c_MAX_PARTS:CC_MAX_PARTS K mg) (k_Curve:CcD K mg "Curve" (.ref (He.ga K "Curve"))) (v_Curve_TIES:CValD K (He.ga K "Curve") "TIES" (.tup [(.str "up"),(.str "down"),(.str "even")])):∀ n,FnD P w K mg base Tb (2 * n+10) f fd ["thing","depth"] (sp_is_deep_n n)
 | 0=>by
  obtain ⟨f2,fd2,F2,m2⟩:=id I_is_step
  have C_is_step:Cal P w K mg base Tb "is_step" "is_step" s_is_step [] [] 9 ["thing","depth"] (fun _ _ _ _=>False):=⟨f2,fd2,F2,⟨⟨fun vs H Q E h=>by obtain ⟨_,_,_,_,_,_,_,h,_⟩:=h;exact h.elim,fun A outer s H args us vs Q E hr he hb hv h=>by obtain ⟨_,_,_,_,_,_,_,h,_⟩:=h;exact h.elim⟩⟩,m2⟩
  refine fnD_of _ F sc_is_deep_pipeline (by rintro ds M Q E ⟨d,k,rfl,_⟩;rfl) (fun cdv A outer s H EV hr=>(ds_cons (dp_if (dt_w (dw_or (dt_not (dt_tru (dv_callB (call_isi.or (call_isiT.or call_isiK)) ref_isi (by rfl) g_isinstance (by decide +kernel) (da_cons (dv_var 0) (da_cons (dv_bltn (by rfl) g_tuple (v:=.ty "tuple") (d:=.ty "tuple") DL.boot_tuple rfl fun _ _ _=>rfl) da_nil))))) (dw_or (dt_gt (dv_callB call_len ref_len (by rfl) g_len PySem.boot_len (da_cons (dv_var 0) da_nil)) (dv_gl c_MAX_STEPS (by rfl))) (dw_or1 (dt_eq hr.units (dv_var 1) dv_int))))) (ds_one (dp_ret dv_bl)) ds_nil)
 (ds_one (dp_ret (dv_callB (cr_all rfl) ref_all (by rfl) g_all (by decide +kernel) (da_cons (dv_lc rfl sc_is_deep_pipeline.nd (di_seq (dv_var 0)) (blkOk_by (own:=[("step",2)]) (N:=["thing","depth","step"]) (sc:=defScope s_is_deep_pipeline) (by decide +kernel)) (tgn_name (i:=2) (by decide)) (fun _ _ _ _ _=>pg_name (i:=2) sc_is_deep_pipeline.nd rfl (by first | exact Or.inl rfl | exact Or.inr rfl)) (fun _ _ _ _ _=>dts_nil) (fun _ _ _ _ _=>(dv_call C_is_step.fn (hr.mono (by omega)) (by rfl) C_is_step.mgx C_is_step.F.kp (bd_is_step C_is_step.F) passL (da_cons (dv_var 2) (da_cons (dv_var 1) da_nil))))) da_nil)))))) ?_
  rintro ds M Q E hM hD ⟨d,k,rfl,hp,rfl,hQ⟩
  have hQ:Q (.bl false) M:=by
   have e:pipB nameB 0 d=false:=by cases d <;> rfl
   rwa [e] at hQ
  have hp1:=hp.1
  walk_at "R"
  cases h:isTup d with
  | false =>
   walk_at "R"
   exact Cut.same rfl hM hQ
  | true =>
   obtain ⟨xs,rfl⟩:=is_tup h
   walk_at "R"
   refine ifd (fun h=>?_) (fun _=>?_)
   ·walk_at "R"
    exact Cut.same rfl hM hQ
   walk_at "R"
   refine ifd (fun _=>?_) (fun h=>absurd rfl h)
   walk_at "R"
   exact Cut.same rfl hM hQ
 | n+1=>by
  obtain ⟨f2,fd2,F2,m2⟩:=id I_is_step
  have C_is_deep_pipeline:Cal P w K mg base Tb "is_deep_pipeline" "is_deep_pipeline" s_is_deep_pipeline [] [] (2 * n+10) ["thing","depth"] (sp_is_deep_n n):=⟨f,fd,F,deep_all F I_is_step mgs C_is_fraction C_is_positive C_is_name g_len g_tuple g_isinstance g_all g_str c_MAX_STEPS c_JOINS c_MAX_PARTS k_Curve v_Curve_TIES n,mgs⟩
  have ok2:FnD P w K mg base Tb (2 * n+11) f2 fd2 ["thing","depth"] (sp_is_step_n n):=by
   refine fnD_of _ F2 sc_is_step (by rintro ds M Q E ⟨d,k,rfl,_⟩;rfl) (fun cdv A outer s H EV hr=>(ds_cons (dp_if (dt_w (dw_or (dt_not (dt_tru (dv_callB (call_isi.or (call_isiT.or call_isiK)) ref_isi (by rfl) g_isinstance (by decide +kernel) (da_cons (dv_var 0) (da_cons (dv_bltn (by rfl) g_tuple (v:=.ty "tuple") (d:=.ty "tuple") DL.boot_tuple rfl fun _ _ _=>rfl) da_nil))))) (dw_or (dt_eq hr.units (dv_callB call_len ref_len (by rfl) g_len PySem.boot_len (da_cons (dv_var 0) da_nil)) dv_int) (dw_or1 (dt_not (dt_tru (dv_callB (call_isi.or (call_isiT.or call_isiK)) ref_isi (by rfl) g_isinstance (by decide +kernel) (da_cons (dv_ix (dv_var 0) dv_int) (da_cons (dv_bltn (by rfl) g_str (v:=.ty "str") (d:=.ty "str") DL.boot_str rfl fun _ _ _=>rfl) da_nil))))))))) (ds_one (dp_ret dv_bl)) ds_nil)
 (ds_cons (dp_asg (dv_var 0) (dg_star (k:=1) rfl (dgs_cons (dg_name 2 sc_is_step.nd) (dgs_consS (dg_name 3 sc_is_step.nd) dgs_nil))))
 (ds_cons (dp_if (dt_in (dv_var 2) (dv_gl c_JOINS (by rfl))) (ds_one (dp_ret (dv_and (dv_chain op_le (ref_int0 (gD:=fun i j=>.bl (decide (i<=j))) fun _ _ _ _ _=>rfl) op_le (ref_int0 (gD:=fun i j=>.bl (decide (i<=j))) fun _ _ _ _ _=>rfl) dv_int (dv_callB call_len ref_len (by rfl) g_len PySem.boot_len (da_cons (dv_var 3) da_nil)) (dv_gl c_MAX_PARTS (by rfl))) (dv_one (dv_callB (cr_all rfl) ref_all (by rfl) g_all (by decide +kernel) (da_cons (dv_lc rfl sc_is_step.nd (di_seq (dv_var 3)) (blkOk_by (own:=[("part",4)]) (N:=["thing","depth","word","rest","part","amount","name","unit","offset","ties"]) (sc:=defScope s_is_step) (by decide +kernel)) (tgn_name (i:=4) (by decide)) (fun _ _ _ _ _=>pg_name (i:=4) sc_is_step.nd rfl (by first | exact Or.inl rfl | exact Or.inr rfl)) (fun _ _ _ _ _=>dts_nil) (fun _ _ _ _ _=>(dv_call C_is_deep_pipeline.fn (hr.mono (by omega)) (by rfl) C_is_deep_pipeline.mgx C_is_deep_pipeline.F.kp (bd_is_deep_pipeline C_is_deep_pipeline.F) passL (da_cons (dv_var 4) (da_cons (dv_sub (dv_var 1) dv_int) da_nil))))) da_nil)))))) ds_nil)
 (ds_cons (dp_match (dv_var 3) (dm_seq [5] rfl sc_is_step.nd (.cons .nil) (.cons rfl (by first | exact Or.inl rfl | exact Or.inr rfl) (by first | exact .inl rfl | exact .inr rfl) .nil) (dt_eq hr.units (dv_var 2) dv_str) (ds_one (dp_ret (dv_call C_is_fraction.fn (hr.mono (by omega)) (by rfl) C_is_fraction.mgx C_is_fraction.F.kp (bd_is_fraction C_is_fraction.F) hxF (da_cons (dv_var 5) da_nil))))
 (dm_seq [5] rfl sc_is_step.nd (.cons .nil) (.cons rfl (by first | exact Or.inl rfl | exact Or.inr rfl) (by first | exact .inl rfl | exact .inr rfl) .nil) (dt_eq hr.units (dv_var 2) dv_str) (ds_one (dp_ret (dv_call C_is_positive.fn (hr.mono (by omega)) (by rfl) C_is_positive.mgx C_is_positive.F.kp (bd_is_positive C_is_positive.F) hxF (da_cons (dv_var 5) da_nil))))
 (dm_seq [6] rfl sc_is_step.nd (.cons .nil) (.cons rfl (by first | exact Or.inl rfl | exact Or.inr rfl) (by first | exact .inl rfl | exact .inr rfl) .nil) (dt_eq hr.units (dv_var 2) dv_str) (ds_one (dp_ret (dv_and (dv_callB (call_isi.or (call_isiT.or call_isiK)) ref_isi (by rfl) g_isinstance (by decide +kernel) (da_cons (dv_var 6) (da_cons (dv_bltn (by rfl) g_str (v:=.ty "str") (d:=.ty "str") DL.boot_str rfl fun _ _ _=>rfl) da_nil))) (dv_one (dv_call C_is_name.fn (hr.mono (by omega)) (by rfl) C_is_name.mgx C_is_name.F.kp (bd_is_name C_is_name.F) hxF (da_cons (dv_var 6) da_nil))))))
 (dm_seq [7,8] rfl sc_is_step.nd (.cons (.cons .nil)) (.cons rfl (by first | exact Or.inl rfl | exact Or.inr rfl) (by first | exact .inl rfl | exact .inr rfl) (.cons rfl (by first | exact Or.inl rfl | exact Or.inr rfl) (by first | exact .inl rfl | exact .inr rfl) .nil)) (dt_in (dv_var 2) (dv_tup (da_cons dv_str (da_cons dv_str da_nil)))) (ds_one (dp_ret (dv_and (dv_call C_is_positive.fn (hr.mono (by omega)) (by rfl) C_is_positive.mgx C_is_positive.F.kp (bd_is_positive C_is_positive.F) hxF (da_cons (dv_var 7) da_nil)) (dv_one (dv_call C_is_fraction.fn (hr.mono (by omega)) (by rfl) C_is_fraction.mgx C_is_fraction.F.kp (bd_is_fraction C_is_fraction.F) hxF (da_cons (dv_var 8) da_nil))))))
 (dm_seq [7,8,9] rfl sc_is_step.nd (.cons (.cons (.cons .nil))) (.cons rfl (by first | exact Or.inl rfl | exact Or.inr rfl) (by first | exact .inl rfl | exact .inr rfl) (.cons rfl (by first | exact Or.inl rfl | exact Or.inr rfl) (by first | exact .inl rfl | exact .inr rfl) (.cons rfl (by first | exact Or.inl rfl | exact Or.inr rfl) (by first | exact .inl rfl | exact .inr rfl) .nil))) (dt_eq hr.units (dv_var 2) dv_str) (ds_one (dp_ret (dv_and (dv_call C_is_positive.fn (hr.mono (by omega)) (by rfl) C_is_positive.mgx C_is_positive.F.kp (bd_is_positive C_is_positive.F) hxF (da_cons (dv_var 7) da_nil)) (dv_and (dv_call C_is_fraction.fn (hr.mono (by omega)) (by rfl) C_is_fraction.mgx C_is_fraction.F.kp (bd_is_fraction C_is_fraction.F) hxF (da_cons (dv_var 8) da_nil)) (dv_and (dv_callB (call_isi.or (call_isiT.or call_isiK)) ref_isi (by rfl) g_isinstance (by decide +kernel) (da_cons (dv_var 9) (da_cons (dv_bltn (by rfl) g_str (v:=.ty "str") (d:=.ty "str") DL.boot_str rfl fun _ _ _=>rfl) da_nil))) (dv_one (dv_in (dv_var 9) (dv_cval v_Curve_TIES (dv_gl k_Curve (by rfl))))))))))
 dm_nil))))))
 (ds_one (dp_ret dv_bl))))))) ?_
   rintro ds M Q E hM hD ⟨d,k,rfl,hp,rfl,hQ⟩
   have fin:∀ k,stepB nameB (pipB nameB n) d=k->Cut M.length Q (.bl k) M:=fun k e=>Cut.same rfl hM (e ▸ hQ)
   have hp1:=hp.1
   walk_at "R"
   cases h:isTup d with
   | false =>
    walk_at "R"
    exact fin false (stepB_not fun w r e=>by rw [e] at h;cases h)
   | true =>
   obtain ⟨xs,rfl⟩:=is_tup h
   obtain ⟨hl,hps⟩:=hp.tp
   walk_at "R"
   cases xs with
   | nil =>
    refine ifd (fun _=>?_) (fun h=>absurd rfl h)
    walk_at "R"
    exact fin false rfl
   | cons x rest =>
   refine ifd (fun h=>absurd h (by rw [List.length_cons];omega)) (fun _=>?_)
   have hpx:=(hps x (List.mem_cons_self ..)).1
   walk_at "R"
   cases hs:isStr x with
   | false =>
    walk_at "R"
    exact fin false (stepB_not fun w r e=>by cases e;cases hs)
   | true =>
   obtain ⟨w,rfl⟩:=is_str hs
   have hpr:∀ y∈rest,PlS y:=fun y hy=>hps y (List.mem_cons_of_mem _ hy)
   walk_at "R"
   refine e_instr (vs:=jnV) rfl ?_
   cases hj:L2.inV (.str w) jnV with
   | true =>
    have hQ:Q (.bl (decide (2<=rest.length) && (decide (rest.length<=4) && rest.all (pipB nameB n)))) M:=by rwa [stepB_j hj] at hQ
    walk_at "R"
    refine ifd (fun h2=>?_) (fun h2=>?_)
    rotate_left
    ·walk_at "R"
     rw [decide_eq_false (show ¬ 2<=rest.length by omega)] at hQ
     exact Cut.same rfl hM hQ
    rw [decide_eq_true (show 2<=rest.length by omega),Bool.true_and] at hQ
    walk_at "R"
    by_cases h4:rest.length<=4
    rotate_left
    ·rw [decide_eq_false (show ¬ ((rest.length:Nat):Int)<=4 by omega)]
     rw [decide_eq_false h4] at hQ
     walk_at "R"
     exact Cut.same rfl hM hQ
    rw [decide_eq_true (show ((rest.length:Nat):Int)<=4 by omega)]
    rw [decide_eq_true h4,Bool.true_and] at hQ
    walk_at "R"
    refine lc_mapD (fun d=>D.bl (pipB nameB n d)) rest (by have:sizeLine=16777216:=rfl;omega) (fun c hc N hN=>?_) ?_
    ·walk_at "R"
     exact ⟨c,_,rfl,hpr c hc,by omega,hN⟩
    refine e_allM ?_
    rw [List.all_map]
    exact Cut.same rfl hM hQ
   | false =>
   have hQ:Q (.bl (restB nameB w rest)) M:=by rwa [stepB_r hj] at hQ
   rcases rest with _ | ⟨a,_ | ⟨o,_ | ⟨t,_ | ⟨u,r⟩⟩⟩⟩
   ·walk_at "R"
    exact Cut.same rfl hM hQ
   ·have hpa:=hpr a (by simp)
    have hpa1:=hpa.1
    walk_at "R"
    refine ifd (fun h1=>?_) (fun h1=>?_)
    ·rw [show restB nameB w [a]=isfrD a from if_pos h1] at hQ
     walk_at "R"
     refine ⟨a,rfl,hpa.1,?_⟩
     exact Cut.same rfl hM hQ
    walk_at "R"
    refine ifd (fun h2=>?_) (fun h2=>?_)
    ·rw [show restB nameB w [a]=posD a from (if_neg h1).trans (if_pos h2)] at hQ
     walk_at "R"
     refine ⟨a,rfl,hpa.1,?_⟩
     exact Cut.same rfl hM hQ
    walk_at "R"
    refine ifd (fun h3=>?_) (fun h3=>?_)
    ·rw [show restB nameB w [a]=nmD nameB a from (if_neg h1).trans ((if_neg h2).trans (if_pos h3))] at hQ
     walk_at "R"
     cases hs:isStr a with
     | false =>
      walk_at "R"
      have e:nmD nameB a=false:=by cases a <;> first | rfl | cases hs
      rw [e] at hQ
      exact Cut.same rfl hM hQ
     | true =>
      obtain ⟨z,rfl⟩:=is_str hs
      walk_at "R"
      refine ⟨z,rfl,hpa.str,?_⟩
      exact Cut.same rfl hM hQ
    ·rw [show restB nameB w [a]=false from (if_neg h1).trans ((if_neg h2).trans (if_neg h3))] at hQ
     walk_at "R"
     exact Cut.same rfl hM hQ
   ·have hpa:=hpr a (by simp)
    have hpa1:=hpa.1
    have hpo:=hpr o (by simp)
    walk_at "R"
    refine e_instr (vs:=flV) rfl ?_
    cases hf:L2.inV (.str w) flV with
    | false =>
     rw [show restB nameB w [a,o]=false from if_neg (by rw [hf];decide)] at hQ
     walk_at "R"
     exact Cut.same rfl hM hQ
    | true =>
     rw [show restB nameB w [a,o]=(posD a && isfrD o) from if_pos hf] at hQ
     walk_at "R"
     refine ⟨a,rfl,hpa.1,?_⟩
     cases hq:posD a with
     | false =>
      rw [hq] at hQ
      walk_at "R"
      exact Cut.same rfl hM hQ
     | true =>
      rw [hq] at hQ
      walk_at "R"
      refine ⟨o,rfl,hpo.1,?_⟩
      exact Cut.same rfl hM hQ
   ·have hpa:=hpr a (by simp)
    have hpa1:=hpa.1
    have hpo:=hpr o (by simp)
    have hpt:=(hpr t (by simp)).1
    walk_at "R"
    refine ifd (fun h1=>?_) (fun h1=>?_)
    rotate_left
    ·rw [show restB nameB w [a,o,t]=false from if_neg h1] at hQ
     walk_at "R"
     exact Cut.same rfl hM hQ
    rw [show restB nameB w [a,o,t]=(posD a && (isfrD o && tieD t)) from if_pos h1] at hQ
    walk_at "R"
    refine ⟨a,rfl,hpa.1,?_⟩
    cases hq:posD a with
    | false =>
     rw [hq] at hQ
     walk_at "R"
     exact Cut.same rfl hM hQ
    | true =>
    rw [hq] at hQ
    walk_at "R"
    refine ⟨o,rfl,hpo.1,?_⟩
    cases hq:isfrD o with
    | false =>
     rw [hq] at hQ
     walk_at "R"
     exact Cut.same rfl hM hQ
    | true =>
    rw [hq] at hQ
    walk_at "R"
    cases hs:isStr t with
    | false =>
     walk_at "R"
     have e:tieD t=false:=by cases t <;> first | rfl | cases hs
     rw [e] at hQ
     exact Cut.same rfl hM hQ
    | true =>
     obtain ⟨z,rfl⟩:=is_str hs
     walk_at "R"
     refine e_instr (vs:=tieV) rfl ?_
     exact Cut.same rfl hM hQ
   ·walk_at "R"
    exact Cut.same rfl hM hQ
  have C_is_step:Cal P w K mg base Tb "is_step" "is_step" s_is_step [] [] (2 * n+11) ["thing","depth"] (sp_is_step_n n):=⟨f2,fd2,F2,ok2,m2⟩
  refine fnD_of _ F sc_is_deep_pipeline (by rintro ds M Q E ⟨d,k,rfl,_⟩;rfl) (fun cdv A outer s H EV hr=>(ds_cons (dp_if (dt_w (dw_or (dt_not (dt_tru (dv_callB (call_isi.or (call_isiT.or call_isiK)) ref_isi (by rfl) g_isinstance (by decide +kernel) (da_cons (dv_var 0) (da_cons (dv_bltn (by rfl) g_tuple (v:=.ty "tuple") (d:=.ty "tuple") DL.boot_tuple rfl fun _ _ _=>rfl) da_nil))))) (dw_or (dt_gt (dv_callB call_len ref_len (by rfl) g_len PySem.boot_len (da_cons (dv_var 0) da_nil)) (dv_gl c_MAX_STEPS (by rfl))) (dw_or1 (dt_eq hr.units (dv_var 1) dv_int))))) (ds_one (dp_ret dv_bl)) ds_nil)
 (ds_one (dp_ret (dv_callB (cr_all rfl) ref_all (by rfl) g_all (by decide +kernel) (da_cons (dv_lc rfl sc_is_deep_pipeline.nd (di_seq (dv_var 0)) (blkOk_by (own:=[("step",2)]) (N:=["thing","depth","step"]) (sc:=defScope s_is_deep_pipeline) (by decide +kernel)) (tgn_name (i:=2) (by decide)) (fun _ _ _ _ _=>pg_name (i:=2) sc_is_deep_pipeline.nd rfl (by first | exact Or.inl rfl | exact Or.inr rfl)) (fun _ _ _ _ _=>dts_nil) (fun _ _ _ _ _=>(dv_call C_is_step.fn (hr.mono (by omega)) (by rfl) C_is_step.mgx C_is_step.F.kp (bd_is_step C_is_step.F) passL (da_cons (dv_var 2) (da_cons (dv_var 1) da_nil))))) da_nil)))))) ?_
  rintro ds M Q E hM hD ⟨d,k,rfl,hp,rfl,hQ⟩
  have hp1:=hp.1
  walk_at "R"
  cases h:isTup d with
  | false =>
   walk_at "R"
   rw [pipB_not h] at hQ
   exact Cut.same rfl hM hQ
  | true =>
  obtain ⟨ss,rfl⟩:=is_tup h
  obtain ⟨hl,hps⟩:=hp.tp
  have hQ:Q (.bl (decide (ss.length<=12) && ss.all (stepB nameB (pipB nameB n)))) M:=hQ
  walk_at "R"
  refine ifd (fun h=>?_) (fun h12=>?_)
  ·walk_at "R"
   rw [decide_eq_false (show ¬ ss.length<=12 by omega)] at hQ
   exact Cut.same rfl hM hQ
  rw [decide_eq_true (show ss.length<=12 by omega),Bool.true_and] at hQ
  walk_at "R"
  refine ifd (fun h=>absurd h (by omega)) (fun _=>?_)
  walk_at "R"
  refine lc_mapD (fun d=>D.bl (stepB nameB (pipB nameB n) d)) ss hl (fun c hc N hN=>?_) ?_
  ·walk_at "R"
   exact ⟨c,_,rfl,hps c hc,by omega,hN⟩
  refine e_allM ?_
  rw [List.all_map]
  exact Cut.same rfl hM hQ
theorem ok_is_deep_pipeline {f:Addr} {fd:FuncData} (F:F_is_deep_pipeline K f fd) (I_is_step:∃ (f2:Addr) (fd2:FuncData),F_is_step K f2 fd2/\mg "is_step"=some (.ref f2)) (mgs:mg "is_deep_pipeline"=some (.ref f)) (C_is_fraction:Cal_is_fraction P w K mg base Tb) (C_is_positive:Cal_is_positive P w K mg base Tb) (C_is_name:Cal_is_name P w K mg base Tb) (g_len:mg "len"=none) (g_tuple:mg "tuple"=none) (g_isinstance:mg "isinstance"=none) (g_all:mg "all"=none) (g_str:mg "str"=none) (c_MAX_STEPS:CC_MAX_STEPS K mg) (c_JOINS:CC_JOINS K mg) (c_MAX_PARTS:CC_MAX_PARTS K mg) (k_Curve:CcD K mg "Curve" (.ref (He.ga K "Curve"))) (v_Curve_TIES:CValD K (He.ga K "Curve") "TIES" (.tup [(.str "up"),(.str "down"),(.str "even")])):FnD P w K mg base Tb 18 f fd ["thing","depth"] sp_is_deep_pipeline:=by
 exact deep_all F I_is_step mgs C_is_fraction C_is_positive C_is_name g_len g_tuple g_isinstance g_all g_str c_MAX_STEPS c_JOINS c_MAX_PARTS k_Curve v_Curve_TIES 4
theorem ok_is_pipeline {f:Addr} {fd:FuncData} (F:F_is_pipeline K f fd) (C_is_deep_pipeline:Cal_is_deep_pipeline P w K mg base Tb) (c_MAX_DEPTH:CC_MAX_DEPTH K mg):FnD P w K mg base Tb 19 f fd ["thing"] sp_is_pipeline:=by
 refine fnD_of _ F sc_is_pipeline (by rintro ds M Q E ⟨d,rfl,_⟩;rfl) (fun cdv A outer s H EV hr=>(ds_one (dp_ret (dv_call C_is_deep_pipeline.fn (hr.mono (by decide)) (by rfl) C_is_deep_pipeline.mgx C_is_deep_pipeline.F.kp (bd_is_deep_pipeline C_is_deep_pipeline.F) hxF (da_cons (dv_var 0) (da_cons (dv_gl c_MAX_DEPTH (by rfl)) da_nil)))))) ?_
 rintro ds M Q E hM hD ⟨d,rfl,h1,hQ⟩
 walk_at "R"
 refine ⟨d,4,rfl,h1,rfl,?_⟩
 exact Cut.same rfl hM hQ
theorem ok_parse_pipeline {f:Addr} {fd:FuncData} (F:F_parse_pipeline K f fd) (C_depth_of:Cal_depth_of P w K mg base Tb) (C_read:Cal_read P w K mg base Tb) (C_written:Cal_written P w K mg base Tb) (C_is_pipeline:Cal_is_pipeline P w K mg base Tb) (X_InvalidText:XC_InvalidText P w K mg base):FnD P w K mg base Tb 51 f fd ["text"] (sp_parse_pipeline K):=by
 refine fnD_of _ F sc_parse_pipeline (by rintro ds M Q E ⟨l,rfl,_⟩;rfl) (fun cdv A outer s H EV hr=>(ds_cons (dp_if (dt_gt (dv_call C_depth_of.fn (hr.mono (by decide)) (by rfl) C_depth_of.mgx C_depth_of.F.kp (bd_depth_of C_depth_of.F) hxF (da_cons (dv_var 0) da_nil)) dv_int) (ds_one (dp_raise0 X_InvalidText (hr.mono (by decide)) rfl tkF hxN (by rfl))) ds_nil)
 (ds_cons (dp_set 1 sc_parse_pipeline.nd (dv_call C_read.fn (hr.mono (by decide)) (by rfl) C_read.mgx C_read.F.kp (bd_read C_read.F) hxF (da_cons (dv_var 0) da_nil)))
 (ds_cons (dp_if (dt_w (dw_or (dt_not (dt_tru (dv_call C_is_pipeline.fn (hr.mono (by decide)) (by rfl) C_is_pipeline.mgx C_is_pipeline.F.kp (bd_is_pipeline C_is_pipeline.F) hxF (da_cons (dv_var 1) da_nil)))) (dw_or1 (dt_ne hr.units (dv_call C_written.fn (hr.mono (by decide)) (by rfl) C_written.mgx C_written.F.kp (bd_written C_written.F) hxF (da_cons (dv_var 1) da_nil)) (dv_var 0))))) (ds_one (dp_raise0 X_InvalidText (hr.mono (by decide)) rfl tkF hxN (by rfl))) ds_nil)
 (ds_one (dp_ret (dv_var 1))))))) ?_
 rintro ds M Q E hM hD ⟨l,rfl,hl,hQ,hE⟩
 have zl:sizeLine=16777216:=rfl
 walk_at "R"
 refine ⟨l,rfl,hl,fun m m0 hm hmax=>?_⟩
 by_cases hd:∃ d,IsT nameB l d
 ·obtain ⟨d,hd⟩:=hd
  obtain ⟨h1,h2,h3⟩:=par_good (fun z hz=>nameB_Wd hz) hd
  have h4:=hmax 4 (by decide) h3
  have hl':l=wPipe 4 d:=hd.2
  walk_at "R"
  refine ifd (fun h=>absurd h (by omega)) (fun _=>?_)
  walk_at "R"
  refine ⟨l,rfl,hl,h3,fun e=>by (rw [h1] at e;cases e),fun x hx=>?_⟩
  rw [h1] at hx
  cases hx
  walk_at "R"
  refine ⟨d,rfl,rd_pl (Nat.le_refl _) hl h1,?_⟩
  rw [h2]
  walk_at "R"
  refine ⟨4,by decide,_,d,rfl,hd.1,by rw [<- hl'];exact hl,?_⟩
  rw [<- hl']
  walk_at "R"
  refine ifn (fun h=>absurd rfl h) (fun _=>?_)
  walk_at "R"
  exact Cut.same hd.1.hb hM (hQ d hd)
 ·have hn:∀ d,¬ IsT nameB l d:=fun d h=>hd ⟨d,h⟩
  have hE:=hE hn
  walk_at "R"
  refine ifd (fun _=>?_) (fun h4=>?_)
  ·walk_at "R"
   exact ⟨rfl,by decide,CutX.same rfl hM hE⟩
  walk_at "R"
  have hx:Mx 4 0 l:=hm.mono (by omega)
  refine ⟨l,rfl,hl,hx,fun _=>CutX.same rfl hM hE,fun v hv=>?_⟩
  have hp:=par_bad hn hv
  walk_at "R"
  refine ⟨v,rfl,rd_pl (Nat.le_refl _) hl hv,?_⟩
  rw [hp]
  walk_at "R"
  exact ⟨rfl,by decide,CutX.same rfl hM hE⟩
theorem ok_law {f:Addr} {fd:FuncData} (F:F_law K f fd) (C__law_begin:Cal__law_begin P w K mg base Tb) (C__law_text:Cal__law_text P w K mg base Tb) (C__law_pipeline:Cal__law_pipeline P w K mg base Tb) (C__law_names:Cal__law_names P w K mg base Tb) (C__law_draw:Cal__law_draw P w K mg base Tb) (C__law_pick:Cal__law_pick P w K mg base Tb) (C__law_read:Cal__law_read P w K mg base Tb) (C__law_same:Cal__law_same P w K mg base Tb) (C_parse_pipeline:Cal_parse_pipeline P w K mg base Tb) (g_range:mg "range"=none) (g_len:mg "len"=none) (LD:LamD base mg Tb fd "law" (defScope s_law)) (B_told:ToldB P w K mg base Tb s__law_told 1 (sp__law_fields K)) (Z_InvalidText:XFa K "InvalidText" []):FnD P w K mg base Tb 71 f fd ["_law_script"] sp_law:=by
 refine fnD_ofL _ F sc_law (by rintro ds M Q E ⟨_,ns,_,rfl,_⟩;rfl) (fun cdv A outer s H EV hcv hr=>(ds_cons (dp_set 1 sc_law.nd (dv_call C__law_begin.fn (hr.mono (by decide)) (by rfl) C__law_begin.mgx C__law_begin.F.kp (bd__law_begin C__law_begin.F) hxF (da_cons (dv_var 0) da_nil)))
 (ds_cons (dp_set 2 sc_law.nd (dv_lst (da_cons dv_str (da_cons dv_str (da_cons dv_str (da_cons dv_str (da_cons dv_str (da_cons dv_str (da_cons dv_str (da_cons dv_str (da_cons dv_str (da_cons dv_str (da_cons dv_str (da_cons dv_str (da_cons dv_str (da_cons dv_str (da_cons dv_str (da_cons dv_str (da_cons dv_str (da_cons dv_str (da_cons dv_str (da_cons dv_str (da_cons dv_str da_nil)))))))))))))))))))))))
 (ds_cons (dp_set 3 sc_law.nd (dv_lst (da_cons dv_str (da_cons dv_str (da_cons dv_str (da_cons dv_str (da_cons dv_str (da_cons dv_str (da_cons dv_str (da_cons dv_str (da_cons dv_str (da_cons dv_str da_nil))))))))))))
 (ds_cons (dp_set 3 sc_law.nd (dv_add (dv_var 3) (dv_lst (da_cons dv_str (da_cons dv_str (da_cons dv_str (da_cons dv_str (da_cons dv_str da_nil))))))))
 (ds_cons (dp_set 3 sc_law.nd (dv_add (dv_var 3) (dv_lst (da_cons dv_str (da_cons dv_str (da_cons dv_str (da_cons dv_str (da_cons dv_str (da_cons dv_str (da_cons dv_str (da_cons dv_str da_nil)))))))))))
 (ds_cons (dp_set 3 sc_law.nd (dv_add (dv_var 3) (dv_lst (da_cons (dv_add dv_str (dv_repU dv_str dv_int)) (da_cons dv_str (da_cons dv_str (da_cons dv_str (da_cons dv_str (da_cons dv_str da_nil)))))))))
 (ds_cons (dp_for PassesOwn.leaving rfl (di_range1 (by rfl) g_range (da_cons dv_int da_nil)) (dg_name 4 sc_law.nd) (ds_cons (dp_set 5 sc_law.nd (dv_call C__law_text.fn (hr.mono (by decide)) (by rfl) C__law_text.mgx C__law_text.F.kp (bd__law_text C__law_text.F) hxF (da_cons (dv_call C__law_pipeline.fn (hr.mono (by decide)) (by rfl) C__law_pipeline.mgx C__law_pipeline.F.kp (bd__law_pipeline C__law_pipeline.F) hxF (da_cons (dv_var 1) (da_cons (dv_call C__law_names.fn (hr.mono (by decide)) (by rfl) C__law_names.mgx C__law_names.F.kp (bd__law_names C__law_names.F) hxF (da_cons (dv_var 1) (da_cons dv_int da_nil))) (da_cons dv_int (da_cons dv_int da_nil))))) da_nil)))
 (ds_cons (dp_for PassesOwn.leaving rfl (di_range1 (by rfl) g_range (da_cons (dv_call C__law_draw.fn (hr.mono (by decide)) (by rfl) C__law_draw.mgx C__law_draw.F.kp (bd__law_draw C__law_draw.F) hxF (da_cons (dv_var 1) (da_cons dv_int da_nil))) da_nil)) (dg_name 6 sc_law.nd) (ds_cons (dp_set 7 sc_law.nd (dv_call C__law_draw.fn (hr.mono (by decide)) (by rfl) C__law_draw.mgx C__law_draw.F.kp (bd__law_draw C__law_draw.F) hxF (da_cons (dv_var 1) (da_cons (dv_add (dv_callB call_len ref_len (by rfl) g_len PySem.boot_len (da_cons (dv_var 5) da_nil)) dv_int) da_nil))))
 (ds_one (dp_set 5 sc_law.nd (dv_add (dv_add (dv_slice (dv_var 5) do_none (do_some (dv_var 7))) (dv_call C__law_pick.fn (hr.mono (by decide)) (by rfl) C__law_pick.mgx C__law_pick.F.kp (bd__law_pick C__law_pick.F) hxF (da_cons (dv_var 1) (da_cons (dv_var 2) da_nil)))) (dv_slice (dv_var 5) (do_some (dv_add (dv_var 7) (dv_call C__law_draw.fn (hr.mono (by decide)) (by rfl) C__law_draw.mgx C__law_draw.F.kp (bd__law_draw C__law_draw.F) hxF (da_cons (dv_var 1) (da_cons dv_int da_nil))))) do_none))))))
 (ds_one (dp_for PassesOwn.leaving rfl (di_seq (dv_tup (da_cons (dv_var 5) (da_cons (dv_call C__law_pick.fn (hr.mono (by decide)) (by rfl) C__law_pick.mgx C__law_pick.F.kp (bd__law_pick C__law_pick.F) hxF (da_cons (dv_var 1) (da_cons (dv_var 3) da_nil))) da_nil)))) (dg_name 8 sc_law.nd) (ds_cons (dp_set 9 sc_law.nd (dv_call C__law_read.fn (hr.mono (by decide)) (by rfl) C__law_read.mgx C__law_read.F.kp (bd__law_read C__law_read.F) hxF (da_cons (dv_var 8) (da_cons dv_int da_nil))))
 (ds_cons (dp_set 10 sc_law.nd (dv_and (dv_isnot (dv_var 9) dv_non) (dv_one (dv_eq hr.units (dv_call C__law_text.fn (hr.mono (by decide)) (by rfl) C__law_text.mgx C__law_text.F.kp (bd__law_text C__law_text.F) hxF (da_cons (dv_var 9) da_nil)) (dv_var 8)))))
 (ds_one (dp_if (dt_not (dt_tru (dv_call C__law_same.fn (hr.mono (by decide)) (by rfl) C__law_same.mgx C__law_same.F.kp (bd__law_same C__law_same.F) hxF (da_cons (dv_lam (k:=51) B_told.F (by rfl) B_told.mgx (bd__law_told B_told.F) sc__law_told rfl (.inl rfl) (fun _=>DL.told_gives K rfl rfl (.inl rfl) rfl rfl rfl rfl B_told.m1 B_told.m2 B_told.m3 B_told.mF B_told.FF B_told.kpF B_told.bF (hr.mono (by decide))) LD.TB (hcv.symm.trans LD.hco) LD.hmT LD.hu (hr.mono (by decide)) (LamX.lamS_by (sc:=defScope s_law) (by decide +kernel)) rfl (fun _ _ _ _ _=>rfl) (fun _ _ _ _ _ _ _ hr1 hx1=>(dv_call C_parse_pipeline.fn (hr1.mono (by decide)) (by rfl) C_parse_pipeline.mgx C_parse_pipeline.F.kp (bd_parse_pipeline C_parse_pipeline.F) hx1 (da_cons (dv_var 8) da_nil)))) (da_cons (dv_if (dt_tru (dv_var 10)) (dv_tup (da_cons dv_str (da_cons (dv_var 9) da_nil))) (dv_tup (da_cons dv_str (da_cons dv_str da_nil)))) da_nil))))) (ds_one (dp_ret dv_bl)) ds_nil)))))))))
 (ds_cons (dp_set 11 sc_law.nd (dv_bm PySem.F.plainAttrs_str PySem.F.slot_str_join PySem.F.type_str_join mt_join ref_join dv_str (da_cons (dv_rep (dv_lst (da_cons dv_str da_nil)) dv_int) da_nil)))
 (ds_cons (dp_if (dt_w (dw_or (dt_ne hr.units (dv_callB call_len ref_len (by rfl) g_len PySem.boot_len (da_cons (dv_call C_parse_pipeline.fn (hr.mono (by decide)) (by rfl) C_parse_pipeline.mgx C_parse_pipeline.F.kp (bd_parse_pipeline C_parse_pipeline.F) hxF (da_cons (dv_var 11) da_nil)) da_nil)) dv_int) (dw_or1 (dt_ne hr.units (dv_lam (k:=51) B_told.F (by rfl) B_told.mgx (bd__law_told B_told.F) sc__law_told rfl (.inl rfl) (fun _=>DL.told_gives K rfl rfl (.inl rfl) rfl rfl rfl rfl B_told.m1 B_told.m2 B_told.m3 B_told.mF B_told.FF B_told.kpF B_told.bF (hr.mono (by decide))) LD.TB (hcv.symm.trans LD.hco) LD.hmT LD.hu (hr.mono (by decide)) (LamX.lamS_by (sc:=defScope s_law) (by decide +kernel)) rfl (fun _ _ _ _ _=>rfl) (fun _ _ _ _ _ _ _ hr1 hx1=>(dv_call C_parse_pipeline.fn (hr1.mono (by decide)) (by rfl) C_parse_pipeline.mgx C_parse_pipeline.F.kp (bd_parse_pipeline C_parse_pipeline.F) hx1 (da_cons (dv_add (dv_var 11) dv_str) da_nil)))) (dv_tup (da_cons dv_str (da_cons dv_str da_nil))))))) (ds_one (dp_ret dv_bl)) ds_nil)
 (ds_cons (dp_set 12 sc_law.nd (dv_add (dv_add (dv_repU dv_str dv_int) dv_str) (dv_repU dv_str dv_int)))
 (ds_one (dp_ret (dv_eq hr.units (dv_lam (k:=51) B_told.F (by rfl) B_told.mgx (bd__law_told B_told.F) sc__law_told rfl (.inl rfl) (fun _=>DL.told_gives K rfl rfl (.inl rfl) rfl rfl rfl rfl B_told.m1 B_told.m2 B_told.m3 B_told.mF B_told.FF B_told.kpF B_told.bF (hr.mono (by decide))) LD.TB (hcv.symm.trans LD.hco) LD.hmT LD.hu (hr.mono (by decide)) (LamX.lamS_by (sc:=defScope s_law) (by decide +kernel)) rfl (fun _ _ _ _ _=>rfl) (fun _ _ _ _ _ _ _ hr1 hx1=>(dv_call C_parse_pipeline.fn (hr1.mono (by decide)) (by rfl) C_parse_pipeline.mgx C_parse_pipeline.F.kp (bd_parse_pipeline C_parse_pipeline.F) hx1 (da_cons (dv_var 12) da_nil)))) (dv_tup (da_cons dv_str (da_cons dv_str da_nil))))))))))))))))) ?_
 rintro ds M Q E hM hD ⟨hM0,ns,hns,rfl,hQ⟩
 have zl:sizeLine=16777216:=rfl
 walk_at "R"
 refine ⟨ns,rfl,fun r ok=>?_⟩
 have g1:RgA M (M ++ [some r.mo]):=.of ⟨r,ok,rfl⟩
 generalize M ++ [some r.mo]=M1 at *
 walk_at "R"
 refine e_addS (by simp) (by decide) (by decide +kernel) (by decide +kernel) fun o1 ho1 hl1=>?_
 walk_at "R"
 refine e_addS ho1.1 (by rw [hl1];decide) ho1.2.2 (by decide +kernel) fun o2 ho2 hl2=>?_
 walk_at "R"
 refine ⟨⟨by decide,by decide,by decide⟩,?_⟩
 walk_at "R"
 have h9:=len9
 generalize Txt.mul (Str.ofString "9") 5000=z9 at h9 ⊢
 have e9:(Str.ofString "shift ").length=6:=by decide +kernel
 refine e_adds (by omega) ?_
 have h9:(Str.ofString "shift " ++ z9).length<=6000:=by
  have:(Str.ofString "shift " ++ z9).length=(Str.ofString "shift ").length+z9.length:=Array.size_append
  omega
 generalize Str.ofString "shift " ++ z9=z9 at h9 ⊢
 walk_at "R"
 refine e_addS ho2.1 (by rw [hl2,hl1];show 10+5+8+6<=100;decide) ho2.2.2 ?_ fun od hod hlo=>?_
 ·show (decide (z9.length<=6000) && _)=true
  rw [decide_eq_true h9]
  decide +kernel
 clear h9 hlo
 walk_at "R"
 refine ⟨⟨by decide,by decide⟩,?_⟩
 refine for_range (fun j rho M'=>RgA M M'/\∃ c4 c5 c6 c7 c8 c9 c10,rho=[some (.rol (ns.map D.int)),some (.mt M.length),some (.lst sgn),some (.lst od),c4,c5,c6,c7,c8,c9,c10,none,none]) ⟨g1,_,_,_,_,_,_,_,rfl⟩ ?_ ?_
 ·rintro j rho M2 N2 hj ⟨g2,c4,c5,c6,c7,c8,c9,c10,rfl⟩ hN2
  walk_at "R"
  refine ⟨M.length,2,rfl,g2.at,by decide,by decide,fun zs M3 t3 hzl hz hnd=>?_⟩
  have g3:=g2.to t3
  have hz8:∀ z,z∈zs->z.length<=8:=fun z h=>(nameB_in (hz z h).1).2
  have hzs:∀ z∈zs,PyData.strOk z=true:=fun z h=>nameB_strOk (hz z h).1
  have hL3:AllL M3:=by subst hM0;exact g3.allL
  walk_at "R"
  refine ⟨3,by decide,M.length,zs,3,rfl,g3.at,hL3,hzs,by omega,by decide,by decide,by decide,by decide,fun d M4 t4 hd=>?_⟩
  have g4:=g3.to t4
  obtain ⟨hT4,hTl⟩:=gp_mid (nm:=fun z=>z∈zs) hz8 hd
  walk_at "R"
  refine ⟨4,by decide,fun z=>z∈zs,d,rfl,hT4,hzs,by decide,by omega,?_⟩
  have hTl:(SX.S (wPipe 4 d)).length<=120020:=by rw [SX.S_len];exact hTl
  generalize SX.S (wPipe 4 d)=tx at hTl ⊢
  walk_at "R"
  refine ⟨M.length,3,rfl,g4.at,by decide,by decide +kernel,fun n M5 t5 n0 n1=>?_⟩
  have g5:=g4.to t5
  walk_at "R"
  refine ⟨⟨by omega,by omega⟩,?_⟩
  refine for_range (fun j' rho M'=>RgA M M'/\∃ (tx:Str) (c6 c7:Option D),tx.length+10<=2 ^ j' * 120030/\rho=[some (.rol (ns.map D.int)),some (.mt M.length),some (.lst sgn),some (.lst od),some (.int (j:Nat)),some (.str tx),c6,c7,c8,c9,c10,none,none]) ⟨g5,tx,_,_,by omega,rfl⟩ ?_ ?_
  ·rintro j' rho M6 N hj' ⟨g6,tx,c6,c7,htx,rfl⟩ hN
   have hp:2 ^ j'<=2:=by
    have:j'=0\/j'=1:=by omega
    rcases this with rfl | rfl <;> decide
   have hp2:2 ^ (j'+1)=2 * 2 ^ j':=Nat.pow_succ'
   have hp3:2 ^ j' ≥ 1:=Nat.one_le_two_pow
   generalize 2 ^ j'=pw at hp hp2 hp3 htx
   walk_at "R"
   refine e_lenS (by omega) ?_
   walk_at "R"
   refine ⟨M.length,tx.length+1,rfl,g6.at,by omega,by omega,fun a M7 t7 a0 a1=>?_⟩
   have g7:=g6.to t7
   walk_at "R"
   refine e_sls (by omega) ?_
   have l1:=cut_len tx none (some a)
   generalize cutS tx none (some a)=x1 at l1 ⊢
   walk_at "R"
   refine ⟨M.length,_,sgn,rfl,g7.at,.inl fun _=>rfl,(by intro h;cases h),by decide,fun sg M8 t8 hsg=>?_⟩
   have g8:=g7.to t8
   obtain ⟨x2,rfl,l2⟩:=sgn_mem hsg
   walk_at "R"
   have e2:(x1 ++ x2).length=x1.length+x2.length:=Array.size_append
   refine e_adds (by omega) ?_
   walk_at "R"
   refine ⟨M.length,3,rfl,g8.at,by decide,by decide +kernel,fun b M9 t9 b0 b1=>?_⟩
   have g9:=g8.to t9
   walk_at "R"
   refine e_sls (by omega) ?_
   have l3:=cut_len tx (some (a+b)) none
   generalize cutS tx (some (a+b)) none=x3 at l3 ⊢
   walk_at "R"
   have e3:(x1 ++ x2 ++ x3).length=(x1 ++ x2).length+x3.length:=Array.size_append
   refine e_adds (by omega) ?_
   walk_at "R"
   refine hN _ _ ⟨g9,_,_,_,?_,rfl⟩
   rw [hp2]
   omega
  rintro rho M6 ⟨g6,tx,c6,c7,htx,rfl⟩
  have htx:tx.length<=600000:=by
   have:n.toNat=0\/n.toNat=1\/n.toNat=2:=by omega
   rcases this with h | h | h <;> rw [h] at htx <;> omega
  walk_at "R"
  refine ⟨M.length,_,od,rfl,g6.at,.inl fun _=>rfl,hod.1,by have:=hod.2.1;omega,fun zo M7 t7 hzo=>?_⟩
  have g7:=g6.to t7
  obtain ⟨zo,rfl,lo⟩:=hod.mem hzo
  walk_at "R"
  refine for_list D.str [tx,zo] (fun r rho M'=>M'=M7/\(∀ z∈r,z.length<=600000)/\∃ (c8 c9 c10:Option D),rho=[some (.rol (ns.map D.int)),some (.mt M.length),some (.lst sgn),some (.lst od),some (.int (j:Nat)),some (.str tx),c6,c7,c8,c9,c10,none,none]) ⟨rfl,?_,_,_,_,rfl⟩ ?_ ?_
  ·intro z hz
   simp only [List.mem_cons,List.not_mem_nil,or_false] at hz
   rcases hz with rfl | rfl <;> omega
  ·rintro z r rho M' N ⟨rfl,hr,c8,c9,c10,rfl⟩ hN
   have hzl:=hr z (by simp)
   have hzl2:(cl z).length<=1000000:=by
    have:(cl z).length=z.length:=Array.length_toList
    omega
   walk_at "R"
   refine ⟨cl z,4,by rw [S_cl],hzl2,rfl,by decide,?_⟩
   walk_at "R"
   rcases law_good (nb:=nameB) (fun z hz=>nameB_Wd hz) (l:=cl z) with ⟨d,hd,hl⟩ | ⟨hno,hb⟩
   ·obtain ⟨ss,rfl,_⟩:=tp_steps hd.1
    obtain ⟨hz1,hz2⟩:=hd.1.pzd fun z hz=>nameB_strOk hz
    have hdu:pu (.tup ss)=true:=hd.1.pu
    rw [hl,show optD (some (D.tup ss)) = .tup ss from rfl,show DL.isNon (.tup ss)=false from rfl]
    walk_at "R"
    refine ⟨4,by decide,_,_,rfl,hd.1,fun z hz=>nameB_strOk hz,by decide,by rw [<- hd.2];exact hzl2,?_⟩
    rw [<- hd.2,S_cl]
    walk_at "R"
    refine ⟨cl z,by rw [S_cl],hzl2,fun d' hd'=>?_,fun h=>absurd hd (h _)⟩
    have e:=lrd_fw (nb:=nameB) (fun z hz=>nameB_Wd hz) hd'.1
    rw [<- hd'.2,hl] at e
    cases e
    walk_at "R"
    refine ifd (fun _=>?_) (fun h=>absurd rfl h)
    walk_at "R"
    have pw:pu (.tup [.str "told",.tup ss])=true:=by
     show (decide (2<=sizeLine) && (true && (pu (.tup ss) && true)))=true
     rw [hdu];decide
    have pd:dp (.tup [.str "told",.tup ss]) < 12:=by
     show max 0 (max (dp (.tup ss)) 0)+1 < 12
     omega
    refine ⟨_,_,rfl,pw,pw,pd,?_⟩
    rw [smD_refl pw]
    walk_at "R"
    exact hN _ _ ⟨rfl,fun z hz=>hr z (List.mem_cons_of_mem _ hz),_,_,_,rfl⟩
   rcases hb with hb | ⟨v,hb,hv,hvl,hvn⟩
   ·rw [hb,show optD none = .non from rfl,show DL.isNon .non=true from rfl]
    walk_at "R"
    refine ⟨cl z,by rw [S_cl],hzl2,fun d' hd'=>absurd hd' (hno d'),fun _=>?_⟩
    refine toldX_0 Z_InvalidText (by decide +kernel) ?_
    walk_at "R"
    refine ⟨_,_,rfl,by decide +kernel,by decide +kernel,by decide,?_⟩
    rw [show smD (.tup [.str "no",.str "InvalidText"]) (.tup [.str "no",.str "InvalidText"])=true from smD_refl (by decide +kernel)]
    walk_at "R"
    exact hN _ _ ⟨rfl,fun z hz=>hr z (List.mem_cons_of_mem _ hz),_,_,_,rfl⟩
   ·obtain ⟨ss,rfl,_⟩:=tp_steps hv
    rw [hb,show optD (some (D.tup ss)) = .tup ss from rfl,show DL.isNon (.tup ss)=false from rfl]
    walk_at "R"
    refine ⟨4,by decide,_,_,rfl,hv,fun z hz=>nameB_strOk hz,by decide,Nat.le_trans hvl hzl2,?_⟩
    walk_at "R"
    refine ⟨cl z,by rw [S_cl],hzl2,fun d' hd'=>absurd hd' (hno d'),fun _=>?_⟩
    refine toldX_0 Z_InvalidText (by decide +kernel) ?_
    walk_at "R"
    refine ifd (fun h=>absurd (by rw [<- h]) hvn) (fun _=>?_)
    walk_at "R"
    refine ⟨_,_,rfl,by decide +kernel,by decide +kernel,by decide,?_⟩
    rw [show smD (.tup [.str "no",.str "InvalidText"]) (.tup [.str "no",.str "InvalidText"])=true from smD_refl (by decide +kernel)]
    walk_at "R"
    exact hN _ _ ⟨rfl,fun z hz=>hr z (List.mem_cons_of_mem _ hz),_,_,_,rfl⟩
  ·rintro rho M' ⟨rfl,_,c8,c9,c10,rfl⟩
   exact hN2 _ _ ⟨g7,_,_,_,_,_,_,_,rfl⟩
 ·rintro rho M2 ⟨g2,c4,c5,c6,c7,c8,c9,c10,rfl⟩
  walk_at "R"
  refine e_rep ⟨by decide,by decide,by decide⟩ ?_
  rw [show (List.replicate (Int.toNat 12) [D.str (Str.ofString "shift 1")]).flatten=(List.replicate 12 (Str.ofString "shift 1")).map D.str from rfl]
  walk_at "R"
  refine e_join (by decide +kernel) ?_
  rw [show Txt.join (Str.ofString " | ") (List.replicate 12 (Str.ofString "shift 1"))=mZ from rfl]
  walk_at "R"
  refine ⟨cl mZ,by rw [S_cl],Nat.le_trans mZ_len (by decide),fun d' hd'=>?_,fun h=>absurd mZ_is (h _)⟩
  cases isT_eq hd' mZ_rd
  walk_at "R"
  refine ifn (fun h=>absurd (by rw [List.length_replicate];rfl) h) (fun _=>?_)
  walk_at "R"
  have e1:mZ.length+(Str.ofString " | shift 1").length<=400:=by decide +kernel
  refine e_adds (by omega) ?_
  walk_at "R"
  refine ⟨cl (mZ ++ Str.ofString " | shift 1"),by rw [S_cl],Nat.le_trans mZ3_len (by decide),fun d' hd'=>absurd hd' (isT_no mZ3_rd d'),fun _=>?_⟩
  refine toldX_0 Z_InvalidText (by decide +kernel) ?_
  walk_at "R"
  have eno:=pyEq_refl (d:=D.tup [.str "no",.str "InvalidText"]) (by decide +kernel)
  refine e_neP (by decide +kernel) (by decide +kernel) (by decide) (by decide) ?_
  rw [eno]
  walk_at "R"
  refine ⟨⟨by decide,by decide,by decide⟩,?_⟩
  walk_at "R"
  refine e_adds (by decide +kernel) ?_
  walk_at "R"
  refine ⟨⟨by decide,by decide,by decide⟩,?_⟩
  walk_at "R"
  refine e_adds (by decide +kernel) ?_
  rw [show Txt.mul (Str.ofString "sum(") 40 ++ Str.ofString "same" ++ Txt.mul (Str.ofString "; same)") 40=dZ from rfl]
  walk_at "R"
  refine ⟨cl dZ,by rw [S_cl],Nat.le_trans dZ_len (by decide),fun d' hd'=>absurd hd' (isT_no dZ_rd d'),fun _=>?_⟩
  refine toldX_0 Z_InvalidText (by decide +kernel) ?_
  walk_at "R"
  refine e_eqP (by decide +kernel) (by decide +kernel) (by decide) (by decide) ?_
  rw [eno]
  exact g2.cut rfl hM hQ
end
end LW
namespace LW
open PySem PySem.Spec PyProof.Rows L2 DL Mt
theorem facts {P:Program} {w:World} {K:PySem.W.Frag} {h:Heap} {mg:Str->Option Value} {f:Addr} (X:K.In h) (G:h.Ns mainGlobals mg) (hNS:h.NoSeer) (htr:P.given.tree=none) (hfa:mg ("law":Str)=some (.ref f)) (c:He.SaysY fa fn tf exB h K) :
  ∃ fd:FuncData,(∀ (s:Shared) (v:Value),BindsTo s fd ⟨[v],[]⟩ [("_law_script",v)])/\∀ base:Heap,K.In base->base.Ns mainGlobals mg->(∀ p∈csL K,LamX.TabB base mg p.1.1 p.1.2)->FnD P w K mg base ((csL K).map fun p=>(p.1.2,p.2)) 71 f fd ["_law_script"] sp_law:=by
 obtain ⟨fd_is_name,F_is_name⟩:=c.def_ 0 (d:=dd_is_name) rfl
 have m_is_name:=He.glo_ok X G (c.fact 0 (f:=.glo "is_name") rfl)
 obtain ⟨fd__law_fields,F__law_fields⟩:=c.def_ 1 (d:=dd__law_fields) rfl
 have m__law_fields:=He.glo_ok X G (c.fact 1 (f:=.glo "_law_fields") rfl)
 obtain ⟨fd__law_begin,F__law_begin⟩:=c.def_ 2 (d:=dd__law_begin) rfl
 have m__law_begin:=He.glo_ok X G (c.fact 2 (f:=.glo "_law_begin") rfl)
 obtain ⟨fd__law_fraction_words,F__law_fraction_words⟩:=c.def_ 3 (d:=dd__law_fraction_words) rfl
 have m__law_fraction_words:=He.glo_ok X G (c.fact 3 (f:=.glo "_law_fraction_words") rfl)
 obtain ⟨fd__law_step_text,F__law_step_text⟩:=c.def_ 4 (d:=dd__law_step_text) rfl
 have m__law_step_text:=He.glo_ok X G (c.fact 4 (f:=.glo "_law_step_text") rfl)
 obtain ⟨fd__law_text,F__law_text⟩:=c.def_ 5 (d:=dd__law_text) rfl
 have m__law_text:=He.glo_ok X G (c.fact 5 (f:=.glo "_law_text") rfl)
 obtain ⟨fd__law_draw,F__law_draw⟩:=c.def_ 6 (d:=dd__law_draw) rfl
 have m__law_draw:=He.glo_ok X G (c.fact 6 (f:=.glo "_law_draw") rfl)
 obtain ⟨fd__law_pick,F__law_pick⟩:=c.def_ 7 (d:=dd__law_pick) rfl
 have m__law_pick:=He.glo_ok X G (c.fact 7 (f:=.glo "_law_pick") rfl)
 obtain ⟨fd__law_lowest,F__law_lowest⟩:=c.def_ 8 (d:=dd__law_lowest) rfl
 have m__law_lowest:=He.glo_ok X G (c.fact 8 (f:=.glo "_law_lowest") rfl)
 obtain ⟨fd__law_small,F__law_small⟩:=c.def_ 9 (d:=dd__law_small) rfl
 have m__law_small:=He.glo_ok X G (c.fact 9 (f:=.glo "_law_small") rfl)
 obtain ⟨fd__law_unit,F__law_unit⟩:=c.def_ 10 (d:=dd__law_unit) rfl
 have m__law_unit:=He.glo_ok X G (c.fact 10 (f:=.glo "_law_unit") rfl)
 obtain ⟨fd__law_rounding,F__law_rounding⟩:=c.def_ 11 (d:=dd__law_rounding) rfl
 have m__law_rounding:=He.glo_ok X G (c.fact 11 (f:=.glo "_law_rounding") rfl)
 obtain ⟨fd__law_plain,F__law_plain⟩:=c.def_ 12 (d:=dd__law_plain) rfl
 have m__law_plain:=He.glo_ok X G (c.fact 12 (f:=.glo "_law_plain") rfl)
 obtain ⟨fd__law_times,F__law_times⟩:=c.def_ 13 (d:=dd__law_times) rfl
 have m__law_times:=He.glo_ok X G (c.fact 13 (f:=.glo "_law_times") rfl)
 obtain ⟨fd__law_slope,F__law_slope⟩:=c.def_ 14 (d:=dd__law_slope) rfl
 have m__law_slope:=He.glo_ok X G (c.fact 14 (f:=.glo "_law_slope") rfl)
 obtain ⟨fd__law_over,F__law_over⟩:=c.def_ 15 (d:=dd__law_over) rfl
 have m__law_over:=He.glo_ok X G (c.fact 15 (f:=.glo "_law_over") rfl)
 obtain ⟨fd__law_pipeline,F__law_pipeline⟩:=c.def_ 16 (d:=dd__law_pipeline) rfl
 have m__law_pipeline:=He.glo_ok X G (c.fact 16 (f:=.glo "_law_pipeline") rfl)
 obtain ⟨fd__law_word,F__law_word⟩:=c.def_ 17 (d:=dd__law_word) rfl
 have m__law_word:=He.glo_ok X G (c.fact 17 (f:=.glo "_law_word") rfl)
 obtain ⟨fd__law_names,F__law_names⟩:=c.def_ 18 (d:=dd__law_names) rfl
 have m__law_names:=He.glo_ok X G (c.fact 18 (f:=.glo "_law_names") rfl)
 obtain ⟨fd__law_split,F__law_split⟩:=c.def_ 19 (d:=dd__law_split) rfl
 have m__law_split:=He.glo_ok X G (c.fact 19 (f:=.glo "_law_split") rfl)
 obtain ⟨fd__law_is_word,F__law_is_word⟩:=c.def_ 20 (d:=dd__law_is_word) rfl
 have m__law_is_word:=He.glo_ok X G (c.fact 20 (f:=.glo "_law_is_word") rfl)
 obtain ⟨fd__law_number,F__law_number⟩:=c.def_ 21 (d:=dd__law_number) rfl
 have m__law_number:=He.glo_ok X G (c.fact 21 (f:=.glo "_law_number") rfl)
 obtain ⟨fd__law_read_step,F__law_read_step⟩:=c.def_ 22 (d:=dd__law_read_step) rfl
 have m__law_read_step:=He.glo_ok X G (c.fact 22 (f:=.glo "_law_read_step") rfl)
 obtain ⟨fd__law_read,F__law_read⟩:=c.def_ 23 (d:=dd__law_read) rfl
 have m__law_read:=He.glo_ok X G (c.fact 23 (f:=.glo "_law_read") rfl)
 obtain ⟨fd__law_same,F__law_same⟩:=c.def_ 24 (d:=dd__law_same) rfl
 have m__law_same:=He.glo_ok X G (c.fact 24 (f:=.glo "_law_same") rfl)
 obtain ⟨fd_depth_of,F_depth_of⟩:=c.def_ 25 (d:=dd_depth_of) rfl
 have m_depth_of:=He.glo_ok X G (c.fact 25 (f:=.glo "depth_of") rfl)
 obtain ⟨fd_split_outside,F_split_outside⟩:=c.def_ 26 (d:=dd_split_outside) rfl
 have m_split_outside:=He.glo_ok X G (c.fact 26 (f:=.glo "split_outside") rfl)
 obtain ⟨fd_parse_integer,F_parse_integer⟩:=c.def_ 27 (d:=dd_parse_integer) rfl
 have m_parse_integer:=He.glo_ok X G (c.fact 27 (f:=.glo "parse_integer") rfl)
 obtain ⟨fd_fraction_text,F_fraction_text⟩:=c.def_ 28 (d:=dd_fraction_text) rfl
 have m_fraction_text:=He.glo_ok X G (c.fact 28 (f:=.glo "fraction_text") rfl)
 obtain ⟨fd_is_integer,F_is_integer⟩:=c.def_ 29 (d:=dd_is_integer) rfl
 have m_is_integer:=He.glo_ok X G (c.fact 29 (f:=.glo "is_integer") rfl)
 obtain ⟨fd_common_divisor,F_common_divisor⟩:=c.def_ 30 (d:=dd_common_divisor) rfl
 have m_common_divisor:=He.glo_ok X G (c.fact 30 (f:=.glo "common_divisor") rfl)
 obtain ⟨fd_is_fraction,F_is_fraction⟩:=c.def_ 31 (d:=dd_is_fraction) rfl
 have m_is_fraction:=He.glo_ok X G (c.fact 31 (f:=.glo "is_fraction") rfl)
 obtain ⟨fd_parse_fraction,F_parse_fraction⟩:=c.def_ 32 (d:=dd_parse_fraction) rfl
 have m_parse_fraction:=He.glo_ok X G (c.fact 32 (f:=.glo "parse_fraction") rfl)
 obtain ⟨fd_read_thing,F_read_thing⟩:=c.def_ 33 (d:=dd_read_thing) rfl
 have m_read_thing:=He.glo_ok X G (c.fact 33 (f:=.glo "read_thing") rfl)
 obtain ⟨fd_read_step,F_read_step⟩:=c.def_ 34 (d:=dd_read_step) rfl
 have m_read_step:=He.glo_ok X G (c.fact 34 (f:=.glo "read_step") rfl)
 obtain ⟨fd_read,F_read⟩:=c.def_ 35 (d:=dd_read) rfl
 have m_read:=He.glo_ok X G (c.fact 35 (f:=.glo "read") rfl)
 obtain ⟨fd_written_step,F_written_step⟩:=c.def_ 36 (d:=dd_written_step) rfl
 have m_written_step:=He.glo_ok X G (c.fact 36 (f:=.glo "written_step") rfl)
 obtain ⟨fd_written,F_written⟩:=c.def_ 37 (d:=dd_written) rfl
 have m_written:=He.glo_ok X G (c.fact 37 (f:=.glo "written") rfl)
 obtain ⟨fd_is_positive,F_is_positive⟩:=c.def_ 38 (d:=dd_is_positive) rfl
 have m_is_positive:=He.glo_ok X G (c.fact 38 (f:=.glo "is_positive") rfl)
 obtain ⟨fd_is_step,F_is_step⟩:=c.def_ 39 (d:=dd_is_step) rfl
 have m_is_step:=He.glo_ok X G (c.fact 39 (f:=.glo "is_step") rfl)
 obtain ⟨fd_is_deep_pipeline,F_is_deep_pipeline⟩:=c.def_ 40 (d:=dd_is_deep_pipeline) rfl
 have m_is_deep_pipeline:=He.glo_ok X G (c.fact 40 (f:=.glo "is_deep_pipeline") rfl)
 obtain ⟨fd_is_pipeline,F_is_pipeline⟩:=c.def_ 41 (d:=dd_is_pipeline) rfl
 have m_is_pipeline:=He.glo_ok X G (c.fact 41 (f:=.glo "is_pipeline") rfl)
 obtain ⟨fd_parse_pipeline,F_parse_pipeline⟩:=c.def_ 42 (d:=dd_parse_pipeline) rfl
 have m_parse_pipeline:=He.glo_ok X G (c.fact 42 (f:=.glo "parse_pipeline") rfl)
 obtain ⟨fd_law,F_law⟩:=c.def_ 43 (d:=dd_law) rfl
 have m_law:=He.glo_ok X G (c.fact 43 (f:=.glo "law") rfl)
 obtain ⟨fd__law_told,F__law_told⟩:=c.def_ 44 (d:=dd__law_told) rfl
 have m__law_told:=He.glo_ok X G (c.fact 44 (f:=.glo "_law_told") rfl)
 obtain ⟨fd_InvalidTextu_initu,F_InvalidTextu_initu⟩:=c.def_ 45 (d:=dd_InvalidTextu_initu) rfl
 have e:=hfa.symm.trans m_law
 cases e
 have b:=FunD.bindsA (ps:=["_law_script"]) F_law fun _ _ _ _ _ _ us hl=>match us,hl with | [_],_=>rfl
 refine ⟨fd_law,fun s v=>b s [v] rfl,fun base hKb hGb hTB=>?_⟩
 have g_all:=He.free_ok X G (c.fact 45 (f:=.free "all") rfl)
 have g_len:=He.free_ok X G (c.fact 46 (f:=.free "len") rfl)
 have c_LETTERS:=cc_str X G (c.fact 47 (f:=.str "LETTERS" "abcdefghijklmnopqrstuvwxyz") rfl)
 have C_is_name:Cal_is_name P w K mg base ((csL K).map fun p=>(p.1.2,p.2)):=⟨_,fd_is_name,F_is_name,ok_is_name (P:=P) (w:=w) (mg:=mg) (base:=base) (Tb:=((csL K).map fun p=>(p.1.2,p.2))) F_is_name g_all g_len c_LETTERS,m_is_name⟩
 have C__law_fields:=ok__law_fields (P:=P) (w:=w) (mg:=mg) (base:=base) (Tb:=((csL K).map fun p=>(p.1.2,p.2))) F__law_fields
 have g_list:=He.free_ok X G (c.fact 48 (f:=.free "list") rfl)
 have C__law_begin:Cal__law_begin P w K mg base ((csL K).map fun p=>(p.1.2,p.2)):=⟨_,fd__law_begin,F__law_begin,ok__law_begin (P:=P) (w:=w) (mg:=mg) (base:=base) (Tb:=((csL K).map fun p=>(p.1.2,p.2))) F__law_begin g_list,m__law_begin⟩
 have g_str:=He.free_ok X G (c.fact 49 (f:=.free "str") rfl)
 have C__law_fraction_words:Cal__law_fraction_words P w K mg base ((csL K).map fun p=>(p.1.2,p.2)):=⟨_,fd__law_fraction_words,F__law_fraction_words,ok__law_fraction_words (P:=P) (w:=w) (mg:=mg) (base:=base) (Tb:=((csL K).map fun p=>(p.1.2,p.2))) F__law_fraction_words g_str,m__law_fraction_words⟩
 have I__law_step_text:∃ (f2:Addr) (fd2:FuncData),LW.F__law_step_text K f2 fd2/\mg "_law_step_text"=some (.ref f2):=⟨_,fd__law_step_text,F__law_step_text,m__law_step_text⟩
 have g_isinstance:=He.free_ok X G (c.fact 50 (f:=.free "isinstance") rfl)
 have C__law_text:Cal__law_text P w K mg base ((csL K).map fun p=>(p.1.2,p.2)):=⟨_,fd__law_text,F__law_text,ok__law_text (P:=P) (w:=w) (mg:=mg) (base:=base) (Tb:=((csL K).map fun p=>(p.1.2,p.2))) F__law_text I__law_step_text m__law_text C__law_fraction_words g_str g_isinstance,m__law_text⟩
 have C__law_draw:Cal__law_draw P w K mg base ((csL K).map fun p=>(p.1.2,p.2)):=⟨_,fd__law_draw,F__law_draw,ok__law_draw (P:=P) (w:=w) (mg:=mg) (base:=base) (Tb:=((csL K).map fun p=>(p.1.2,p.2))) F__law_draw g_len,m__law_draw⟩
 have C__law_pick:Cal__law_pick P w K mg base ((csL K).map fun p=>(p.1.2,p.2)):=⟨_,fd__law_pick,F__law_pick,ok__law_pick (P:=P) (w:=w) (mg:=mg) (base:=base) (Tb:=((csL K).map fun p=>(p.1.2,p.2))) F__law_pick C__law_draw g_len,m__law_pick⟩
 have g_abs:=He.free_ok X G (c.fact 51 (f:=.free "abs") rfl)
 have NS:Seer P base:=seer_via hNS htr X hKb G hGb (He.glo_ok X G (c.fact 52 (f:=.glo "__builtins__") rfl)) (bool_at c.more 0 (b:=seerB K))
 have C__law_lowest:Cal__law_lowest P w K mg base ((csL K).map fun p=>(p.1.2,p.2)):=⟨_,fd__law_lowest,F__law_lowest,ok__law_lowest (P:=P) (w:=w) (mg:=mg) (base:=base) (Tb:=((csL K).map fun p=>(p.1.2,p.2))) F__law_lowest g_abs NS,m__law_lowest⟩
 have C__law_small:Cal__law_small P w K mg base ((csL K).map fun p=>(p.1.2,p.2)):=⟨_,fd__law_small,F__law_small,ok__law_small (P:=P) (w:=w) (mg:=mg) (base:=base) (Tb:=((csL K).map fun p=>(p.1.2,p.2))) F__law_small C__law_pick C__law_lowest C__law_draw,m__law_small⟩
 have C__law_unit:Cal__law_unit P w K mg base ((csL K).map fun p=>(p.1.2,p.2)):=⟨_,fd__law_unit,F__law_unit,ok__law_unit (P:=P) (w:=w) (mg:=mg) (base:=base) (Tb:=((csL K).map fun p=>(p.1.2,p.2))) F__law_unit C__law_pick,m__law_unit⟩
 have C__law_rounding:Cal__law_rounding P w K mg base ((csL K).map fun p=>(p.1.2,p.2)):=⟨_,fd__law_rounding,F__law_rounding,ok__law_rounding (P:=P) (w:=w) (mg:=mg) (base:=base) (Tb:=((csL K).map fun p=>(p.1.2,p.2))) F__law_rounding C__law_pick C__law_small C__law_unit,m__law_rounding⟩
 have C__law_plain:Cal__law_plain P w K mg base ((csL K).map fun p=>(p.1.2,p.2)):=⟨_,fd__law_plain,F__law_plain,ok__law_plain (P:=P) (w:=w) (mg:=mg) (base:=base) (Tb:=((csL K).map fun p=>(p.1.2,p.2))) F__law_plain C__law_draw C__law_small C__law_unit C__law_rounding,m__law_plain⟩
 have C__law_times:Cal__law_times P w K mg base ((csL K).map fun p=>(p.1.2,p.2)):=⟨_,fd__law_times,F__law_times,ok__law_times (P:=P) (w:=w) (mg:=mg) (base:=base) (Tb:=((csL K).map fun p=>(p.1.2,p.2))) F__law_times C__law_lowest,m__law_times⟩
 have C__law_slope:Cal__law_slope P w K mg base ((csL K).map fun p=>(p.1.2,p.2)):=⟨_,fd__law_slope,F__law_slope,ok__law_slope (P:=P) (w:=w) (mg:=mg) (base:=base) (Tb:=((csL K).map fun p=>(p.1.2,p.2))) F__law_slope C__law_times g_len,m__law_slope⟩
 have C__law_over:Cal__law_over P w K mg base ((csL K).map fun p=>(p.1.2,p.2)):=⟨_,fd__law_over,F__law_over,ok__law_over (P:=P) (w:=w) (mg:=mg) (base:=base) (Tb:=((csL K).map fun p=>(p.1.2,p.2))) F__law_over C__law_lowest,m__law_over⟩
 have g_range:=He.free_ok X G (c.fact 53 (f:=.free "range") rfl)
 have g_tuple:=He.free_ok X G (c.fact 54 (f:=.free "tuple") rfl)
 have C__law_pipeline:Cal__law_pipeline P w K mg base ((csL K).map fun p=>(p.1.2,p.2)):=⟨_,fd__law_pipeline,F__law_pipeline,ok__law_pipeline (P:=P) (w:=w) (mg:=mg) (base:=base) (Tb:=((csL K).map fun p=>(p.1.2,p.2))) F__law_pipeline m__law_pipeline C__law_draw C__law_pick C__law_plain C__law_slope C__law_over g_range g_tuple,m__law_pipeline⟩
 have C__law_word:Cal__law_word P w K mg base ((csL K).map fun p=>(p.1.2,p.2)):=⟨_,fd__law_word,F__law_word,ok__law_word (P:=P) (w:=w) (mg:=mg) (base:=base) (Tb:=((csL K).map fun p=>(p.1.2,p.2))) F__law_word C__law_draw C__law_pick g_range,m__law_word⟩
 have C__law_names:Cal__law_names P w K mg base ((csL K).map fun p=>(p.1.2,p.2)):=⟨_,fd__law_names,F__law_names,ok__law_names (P:=P) (w:=w) (mg:=mg) (base:=base) (Tb:=((csL K).map fun p=>(p.1.2,p.2))) F__law_names C__law_pick C__law_draw C__law_word g_range,m__law_names⟩
 have g_int:=He.free_ok X G (c.fact 55 (f:=.free "int") rfl)
 have C__law_split:Cal__law_split P w K mg base ((csL K).map fun p=>(p.1.2,p.2)):=⟨_,fd__law_split,F__law_split,ok__law_split (P:=P) (w:=w) (mg:=mg) (base:=base) (Tb:=((csL K).map fun p=>(p.1.2,p.2))) F__law_split g_len g_int,m__law_split⟩
 have C__law_is_word:Cal__law_is_word P w K mg base ((csL K).map fun p=>(p.1.2,p.2)):=⟨_,fd__law_is_word,F__law_is_word,ok__law_is_word (P:=P) (w:=w) (mg:=mg) (base:=base) (Tb:=((csL K).map fun p=>(p.1.2,p.2))) F__law_is_word g_all g_len,m__law_is_word⟩
 have C__law_number:Cal__law_number P w K mg base ((csL K).map fun p=>(p.1.2,p.2)):=⟨_,fd__law_number,F__law_number,ok__law_number (P:=P) (w:=w) (mg:=mg) (base:=base) (Tb:=((csL K).map fun p=>(p.1.2,p.2))) F__law_number C__law_lowest g_all g_len g_int,m__law_number⟩
 have I__law_read_step:∃ (f2:Addr) (fd2:FuncData),LW.F__law_read_step K f2 fd2/\mg "_law_read_step"=some (.ref f2):=⟨_,fd__law_read_step,F__law_read_step,m__law_read_step⟩
 have C__law_read:Cal__law_read P w K mg base ((csL K).map fun p=>(p.1.2,p.2)):=⟨_,fd__law_read,F__law_read,ok__law_read (P:=P) (w:=w) (mg:=mg) (base:=base) (Tb:=((csL K).map fun p=>(p.1.2,p.2))) F__law_read I__law_read_step m__law_read C__law_split C__law_is_word C__law_number g_len g_tuple,m__law_read⟩
 have g_bool:=He.free_ok X G (c.fact 56 (f:=.free "bool") rfl)
 have C__law_same:Cal__law_same P w K mg base ((csL K).map fun p=>(p.1.2,p.2)):=⟨_,fd__law_same,F__law_same,ok__law_same (P:=P) (w:=w) (mg:=mg) (base:=base) (Tb:=((csL K).map fun p=>(p.1.2,p.2))) F__law_same m__law_same g_tuple g_list g_isinstance g_range g_len g_all g_int g_bool g_str,m__law_same⟩
 have g_max:=He.free_ok X G (c.fact 57 (f:=.free "max") rfl)
 have C_depth_of:Cal_depth_of P w K mg base ((csL K).map fun p=>(p.1.2,p.2)):=⟨_,fd_depth_of,F_depth_of,ok_depth_of (P:=P) (w:=w) (mg:=mg) (base:=base) (Tb:=((csL K).map fun p=>(p.1.2,p.2))) F_depth_of g_max,m_depth_of⟩
 have C_split_outside:Cal_split_outside P w K mg base ((csL K).map fun p=>(p.1.2,p.2)):=⟨_,fd_split_outside,F_split_outside,ok_split_outside (P:=P) (w:=w) (mg:=mg) (base:=base) (Tb:=((csL K).map fun p=>(p.1.2,p.2))) F_split_outside g_len g_int,m_split_outside⟩
 have c_MAX_FIGURES:=cc_int X G (c.fact 58 (f:=.int "MAX_FIGURES" 12) rfl)
 have C_parse_integer:Cal_parse_integer P w K mg base ((csL K).map fun p=>(p.1.2,p.2)):=⟨_,fd_parse_integer,F_parse_integer,ok_parse_integer (P:=P) (w:=w) (mg:=mg) (base:=base) (Tb:=((csL K).map fun p=>(p.1.2,p.2))) F_parse_integer g_all g_len g_str g_int c_MAX_FIGURES,m_parse_integer⟩
 have C_fraction_text:Cal_fraction_text P w K mg base ((csL K).map fun p=>(p.1.2,p.2)):=⟨_,fd_fraction_text,F_fraction_text,ok_fraction_text (P:=P) (w:=w) (mg:=mg) (base:=base) (Tb:=((csL K).map fun p=>(p.1.2,p.2))) F_fraction_text g_str,m_fraction_text⟩
 have C_is_integer:Cal_is_integer P w K mg base ((csL K).map fun p=>(p.1.2,p.2)):=⟨_,fd_is_integer,F_is_integer,ok_is_integer (P:=P) (w:=w) (mg:=mg) (base:=base) (Tb:=((csL K).map fun p=>(p.1.2,p.2))) F_is_integer g_bool g_isinstance g_int,m_is_integer⟩
 have C_common_divisor:Cal_common_divisor P w K mg base ((csL K).map fun p=>(p.1.2,p.2)):=⟨_,fd_common_divisor,F_common_divisor,ok_common_divisor (P:=P) (w:=w) (mg:=mg) (base:=base) (Tb:=((csL K).map fun p=>(p.1.2,p.2))) F_common_divisor g_abs,m_common_divisor⟩
 have c_MAX_NUMBER:=cc_int X G (c.fact 59 (f:=.int "MAX_NUMBER" 1000000000000) rfl)
 have C_is_fraction:Cal_is_fraction P w K mg base ((csL K).map fun p=>(p.1.2,p.2)):=⟨_,fd_is_fraction,F_is_fraction,ok_is_fraction (P:=P) (w:=w) (mg:=mg) (base:=base) (Tb:=((csL K).map fun p=>(p.1.2,p.2))) F_is_fraction C_is_integer C_common_divisor g_all g_len g_tuple g_isinstance g_abs c_MAX_NUMBER,m_is_fraction⟩
 obtain ⟨T_InvalidText,tI_InvalidText,iC_InvalidText,no_InvalidText⟩:=xcB_ok (bool_at c.more 1 (b:=xcB K "InvalidText" ["code"]))
 have X_InvalidText:XC_InvalidText P w K mg base:=⟨T_InvalidText,_,fd_InvalidTextu_initu,_,iC_InvalidText,tI_InvalidText,ok_InvalidTextu_initu F_InvalidTextu_initu T_InvalidText (no_InvalidText _ (by simp)),bd_InvalidTextu_initu F_InvalidTextu_initu,He.glo_ok X G (c.fact 60 (f:=.glo "InvalidText") rfl)⟩
 have C_parse_fraction:Cal_parse_fraction P w K mg base ((csL K).map fun p=>(p.1.2,p.2)):=⟨_,fd_parse_fraction,F_parse_fraction,ok_parse_fraction (P:=P) (w:=w) (mg:=mg) (base:=base) (Tb:=((csL K).map fun p=>(p.1.2,p.2))) F_parse_fraction C_parse_integer C_fraction_text C_is_fraction X_InvalidText,m_parse_fraction⟩
 have C_read_thing:Cal_read_thing P w K mg base ((csL K).map fun p=>(p.1.2,p.2)):=⟨_,fd_read_thing,F_read_thing,ok_read_thing (P:=P) (w:=w) (mg:=mg) (base:=base) (Tb:=((csL K).map fun p=>(p.1.2,p.2))) F_read_thing C_parse_fraction,m_read_thing⟩
 have I_read_step:∃ (f2:Addr) (fd2:FuncData),LW.F_read_step K f2 fd2/\mg "read_step"=some (.ref f2):=⟨_,fd_read_step,F_read_step,m_read_step⟩
 have c_SAME:=cc_str X G (c.fact 61 (f:=.str "SAME" "same") rfl)
 have c_BETWEEN:=cc_str X G (c.fact 62 (f:=.str "BETWEEN" " | ") rfl)
 have c_JOINS:CC_JOINS K mg:=cc_tup X G (c.fact 63 (f:=.glo "JOINS") rfl) (bool_at c.more 2 (b:=He.tupB K "JOINS" [.str "sum",.str "least",.str "greatest"])) fun _ _ _=>⟨_,_,rfl,rfl,⟨_,_,rfl,rfl,⟨_,_,rfl,rfl,rfl⟩⟩⟩
 have C_read:Cal_read P w K mg base ((csL K).map fun p=>(p.1.2,p.2)):=⟨_,fd_read,F_read,ok_read (P:=P) (w:=w) (mg:=mg) (base:=base) (Tb:=((csL K).map fun p=>(p.1.2,p.2))) F_read I_read_step m_read C_split_outside C_read_thing g_tuple c_SAME c_BETWEEN c_JOINS X_InvalidText,m_read⟩
 have I_written_step:∃ (f2:Addr) (fd2:FuncData),LW.F_written_step K f2 fd2/\mg "written_step"=some (.ref f2):=⟨_,fd_written_step,F_written_step,m_written_step⟩
 have C_written:Cal_written P w K mg base ((csL K).map fun p=>(p.1.2,p.2)):=⟨_,fd_written,F_written,ok_written (P:=P) (w:=w) (mg:=mg) (base:=base) (Tb:=((csL K).map fun p=>(p.1.2,p.2))) F_written I_written_step m_written C_fraction_text g_len g_str g_isinstance c_BETWEEN c_SAME c_JOINS,m_written⟩
 have C_is_positive:Cal_is_positive P w K mg base ((csL K).map fun p=>(p.1.2,p.2)):=⟨_,fd_is_positive,F_is_positive,ok_is_positive (P:=P) (w:=w) (mg:=mg) (base:=base) (Tb:=((csL K).map fun p=>(p.1.2,p.2))) F_is_positive C_is_fraction,m_is_positive⟩
 have I_is_step:∃ (f2:Addr) (fd2:FuncData),LW.F_is_step K f2 fd2/\mg "is_step"=some (.ref f2):=⟨_,fd_is_step,F_is_step,m_is_step⟩
 have c_MAX_STEPS:=cc_int X G (c.fact 64 (f:=.int "MAX_STEPS" 12) rfl)
 have c_MAX_PARTS:=cc_int X G (c.fact 65 (f:=.int "MAX_PARTS" 4) rfl)
 have k_Curve:CcD K mg "Curve" (.ref (He.ga K "Curve")):=cc_cls X G (c.fact 66 (f:=.glo "Curve") rfl)
 have v_Curve_TIES:CValD K (He.ga K "Curve") "TIES" (.tup [(.str "up"),(.str "down"),(.str "even")]):=cvTB_ok (cloB_ok (bool_at c.more 3 (b:=cloB K (He.ga K "Curve")))) (bool_at c.more 4 (b:=cvTB K "Curve" "TIES" [.str "up",.str "down",.str "even"])) fun _ _ _=>⟨_,_,rfl,rfl,⟨_,_,rfl,rfl,⟨_,_,rfl,rfl,rfl⟩⟩⟩
 have C_is_deep_pipeline:Cal_is_deep_pipeline P w K mg base ((csL K).map fun p=>(p.1.2,p.2)):=⟨_,fd_is_deep_pipeline,F_is_deep_pipeline,ok_is_deep_pipeline (P:=P) (w:=w) (mg:=mg) (base:=base) (Tb:=((csL K).map fun p=>(p.1.2,p.2))) F_is_deep_pipeline I_is_step m_is_deep_pipeline C_is_fraction C_is_positive C_is_name g_len g_tuple g_isinstance g_all g_str c_MAX_STEPS c_JOINS c_MAX_PARTS k_Curve v_Curve_TIES,m_is_deep_pipeline⟩
 have c_MAX_DEPTH:=cc_int X G (c.fact 67 (f:=.int "MAX_DEPTH" 4) rfl)
 have C_is_pipeline:Cal_is_pipeline P w K mg base ((csL K).map fun p=>(p.1.2,p.2)):=⟨_,fd_is_pipeline,F_is_pipeline,ok_is_pipeline (P:=P) (w:=w) (mg:=mg) (base:=base) (Tb:=((csL K).map fun p=>(p.1.2,p.2))) F_is_pipeline C_is_deep_pipeline c_MAX_DEPTH,m_is_pipeline⟩
 have C_parse_pipeline:Cal_parse_pipeline P w K mg base ((csL K).map fun p=>(p.1.2,p.2)):=⟨_,fd_parse_pipeline,F_parse_pipeline,ok_parse_pipeline (P:=P) (w:=w) (mg:=mg) (base:=base) (Tb:=((csL K).map fun p=>(p.1.2,p.2))) F_parse_pipeline C_depth_of C_read C_written C_is_pipeline X_InvalidText,m_parse_pipeline⟩
 have B_told:ToldB P w K mg base ((csL K).map fun p=>(p.1.2,p.2)) s__law_told 1 (sp__law_fields K):=⟨_,fd__law_told,F__law_told,m__law_told,He.glo_ok X G (c.fact 68 (f:=.glo "RoundError") rfl),He.glo_ok X G (c.fact 69 (f:=.glo "Missing") rfl),He.glo_ok X G (c.fact 70 (f:=.glo "NothingLeft") rfl),_,fd__law_fields,_,C__law_fields,F__law_fields.kp,bd__law_fields F__law_fields,m__law_fields⟩
 have Z_InvalidText:XFa K "InvalidText" []:=xfaB_ok (bool_at c.more 5 (b:=xfaB K "InvalidText" []))
 have LD_law:LamD base mg ((csL K).map fun p=>(p.1.2,p.2)) fd_law "law" (defScope s_law):=⟨(He.cT K ("law",none)).1,(He.cT K ("law",none)).2,lam_codeE rfl F_law,hTB _ (List.getElem_mem (l:=csL K) (n:=0) (show 0 < 1 by decide)),List.mem_map.mpr ⟨_,(List.getElem_mem (l:=csL K) (n:=0) (show 0 < 1 by decide)),rfl⟩,fun p hp _=>by rw [List.mem_singleton.mp hp]⟩
 exact ok_law (P:=P) (w:=w) (mg:=mg) (base:=base) (Tb:=((csL K).map fun p=>(p.1.2,p.2))) F_law C__law_begin C__law_text C__law_pipeline C__law_names C__law_draw C__law_pick C__law_read C__law_same C_parse_pipeline g_range g_len LD_law B_told Z_InvalidText
end LW
open PySem PySem.W PySem.Calls PyProof.Rows
theorem PySem.Challenge.cw_roundmaps_k60_strings_that_are_no_texts_holds : PySem.Challenge.rw_roundmaps_k60_strings_that_are_no_texts.Holds := by
 refine LW.hold_of ?hc
 case hc =>
  refine DL.walk_wS (l:=PySem.Challenge.rw_roundmaps_k60_strings_that_are_no_texts) (n:=63) (k:=71) (x:="_law_script") (dsp:=LW.sp_law) rfl (by decide) (by kernel_rfl) ⟨rfl,by decide,by decide⟩ (by first | exact fun _ _ _ h=>h | exact fun _ _ _ h=>⟨rfl,h⟩) (by kernel_rfl) ?F
  intro w mg fa h Y G hNS hmg0
  obtain ⟨K,KX,c⟩:=Y
  have hmg:mg ("law":PySem.Str)=some (.ref fa):=by
   have e:(HandSHeadRun.topDef (OpenLaw.row PySem.Challenge.rw_roundmaps_k60_strings_that_are_no_texts).prog 87).name=("law":PySem.Str):=by kernel_rfl
   rw [<- e]
   exact hmg0
  obtain ⟨fd,hb,hF⟩:=LW.facts (P:=(PySem.Challenge.rw_roundmaps_k60_strings_that_are_no_texts).prog) (w:=w) KX G hNS rfl hmg c
  refine ⟨K,fd,LW.csL K,KX,fun p hp=>?_,fun p hp=>?_,fun p hp=>?_,hb,hF⟩
  all_goals
   obtain ⟨q,hq,rfl⟩:=List.mem_map.mp hp
   have hq2:q.1∈LW.tf:=List.mem_map.mpr ⟨q,hq,rfl⟩
  ·exact c.empty _ hq2
  ·exact c.out _ hq2
  ·exact PySem.W.codeHd_of_K KX (c.hd _ hq2)
