import PyProof.Rows.All
import Wide.All
import OpenK.AllK
import Wide.FinOn
import HandS.ForMost
import HandS.ForExc
import HandS.Wide
import HandS.Lambda
import HandS.TupAny
import HandS.Flow
import HandS.IsInst
import HandS.Conv
import HandS.Deep
import HandS.Defaults
import HandS.MakeKwOnly
import HandS.Walk
import HandS.StrMore
import HandS.Codes
import HandS.Head0
import HandS.Head1
import HandS.Head2
import HandS.HeadEnd
import HandS.HeadHook1
import HandS.HeadHook2
import HandS.Exc
import HandS.ExcInit
import HandS.ExcField
import HandS.ExcValue
import HandS.HotCalls
import HandS.HeadHook4
import HandS.EndTab
import HandS.MakeKw
import HandS.ClsMeth
import HandS.Property
import HandS.HeadNt
import KE.KCallOwn
import PyProof.InstNe
import HandS.FStr
import HandS.Style
import HandS.Star
import HandS.Zip
import PyProof.AutoSeq1
import HandS.ForDict
import HandS.DictComp
import KE.SortKeyHeap
import KE.KUnpackStar
import KE.IntTextLaws
import PyProof.StrBlock2
import HandS.More
import PyProof.GenQ
import PyProof.Rows.RowBridgeG
import HandS.GenCall
import HandS.GenList
import KE.GoesComp
import HandS.TryOnly
import PyProof.LongRange
import HandS.RevRange
import HandS.SetFor
import PySem.Challenge.RW_roundmaps_k10_points_that_are_no_curve
set_option Elab.async false
set_option linter.all false
set_option maxRecDepth 100000
set_option maxHeartbeats 4000000
set_option autoImplicit false
namespace DL
open PySem PySem.Spec PyProof.Rows L2
inductive D where
 | non | bl (b:Bool) | int (i:Int) | str (x:Str) | ty (n:String)
 | tup (xs:List D) | lst (xs:List D) | rol (xs:List D) | obj (C:Addr) (ns:List Str) (xs:List D)
 | exc (C:Addr) (ns:List Str) (xs:List D)
 | dk (ks:List Key) (xs:List D) | dt (ks:List (List Int)) (xs:List D)
 | ref (a:Addr) | mt (i:Nat)
 | lam (f:Addr) (L:List (Addr×(Heap->Prop)))
inductive MO where
 | lst (xs:List D) | dK (kvs:List (Key×D)) | dT (ks:List (List Int)) (xs:List D) | ins (C:Addr) (fs:List (Str×D))
abbrev Ents:=List (List Int×Addr×V)
def thI (ks:List Int):Int:=reduceHash (Builtin.Tuple.tupleHashOf (ks.map hashInt))
abbrev DicO (a:Addr) (L:Ents):HO:=.ext fun h=>(a == sysModules)=false/\L.length<=sizeLine/\∃ xs:List (List Int×Addr×Value),Paired (fun p q=>p.1=q.1/\p.2.1=q.2.1/\RelV p.2.2 q.2.2) L xs /\
 ∃ o es ep,h.get? a=some o/\o.ExactDict/\o.data = .dict es ep/\es.toList=xs.map (fun x=>(⟨thI x.1,.ref x.2.1,x.2.2⟩:DictEntry))/\(xs.map (·.1)).Nodup
def kD (ks:List Int):D:=.tup (ks.map D.int)
def Lv (L:Ents):List V:=L.map (fun e=>V.ref e.2.1) ++ L.map (·.2.2)
abbrev Mem:=List (Option MO)
abbrev Rho:=List (Option D)
structure Exn where
 C:Addr
 fs:List (Str×D)
abbrev VD:=D->Mem->Prop
abbrev XD:=Exn->Mem->Prop
structure Al where
 a:List Addr
 h:List Addr
def Fz (al:Al) (M:Mem) (a:Addr):Prop:=a ∉ al.h/\∀ (i:Nat) (mo:MO),al.a[i]?=some a->M[i]?=some (some mo)->False
def Al.push (al:Al) (p:Addr):Al:=⟨al.a ++ [p],al.h⟩
def noH:Hp:=fun _=>none
def exs (a:Addr) (cls:Value) (d:Option Addr):HO:=.ext fun h=>∃ (oe:Obj) (vs:Array Value),h.get? a=some oe/\Zc cls d oe/\oe.data = .fields vs
def SqTz (K:PySem.W.Frag) (al:Al) (M:Mem) (H:Hp) (a:Addr) (xs:List V):Prop:=(H a=some (.tup xs)/\Fz al M a)\/SqT K noH a xs
def SqLz (K:PySem.W.Frag) (al:Al) (M:Mem) (H:Hp) (a:Addr) (xs:List V):Prop:=(Rd H a (.lst xs)/\Fz al M a)\/SqL K noH a xs
mutual
def Rp (K:PySem.W.Frag) (al:Al) (M:Mem) (H:Hp):D->V->Prop
 | .non,v=>v = .non
 | .bl b,v=>v = .bl b
 | .int i,v=>v = .int i
 | .str x,v=>v = .str x
 | .ty n,v=>v = .ty n
 | .tup ds,v=>∃ a xs,v = .ref a/\SqTz K al M H a xs/\Rps K al M H ds xs
 | .lst ds,v=>∃ a xs,v = .ref a/\H a=some (.lst xs)/\Fz al M a/\Rps K al M H ds xs
 | .rol ds,v=>∃ a xs,v = .ref a/\SqLz K al M H a xs/\Rps K al M H ds xs
 | .obj C ns ds,v=>∃ a dx xs,v = .ref a/\H a=some (.ins C dx (ns.zip xs))/\Fz al M a/\ns.length=xs.length/\Rps K al M H ds xs
 | .exc C ns ds,v=>∃ a dx xs,v = .ref a/\H a=some (exs a (.ref C) (some dx))/\Fz al M a/\H dx=some (.xd (ns.zip xs))/\Fz al M dx/\ns.length=xs.length/\Rps K al M H ds xs
 | .dk ks ds,v=>∃ a o xs,v = .ref a/\H a=some (.frz o (.dK (ks.zip xs)))/\Fz al M a/\ks.length=xs.length/\Rps K al M H ds xs
 | .dt ks ds,v=>∃ a o L,v = .ref a/\H a=some (.frz o (DicO a L))/\Fz al M a/\(L.map (·.1)=ks/\ds.take ks.length=ks.map kD)/\Rps K al M H ds (Lv L)
 | .ref a,v=>v = .ref a
 | .lam f L,v=>v = .ref f/\∀ x∈L,H x.1=some (.ext x.2)/\Fz al M x.1
 | .mt i,v=>∃ a,al.a[i]?=some a/\v = .ref a
def Rps (K:PySem.W.Frag) (al:Al) (M:Mem) (H:Hp):List D->List V->Prop
 | [],xs=>xs=[]
 | d :: ds,xs=>∃ x r,xs=x :: r/\Rp K al M H d x/\Rps K al M H ds r
end
structure Stp (al:Al) (M:Mem) (H:Hp) (al':Al) (M':Mem) (H':Hp):Prop where
 pre:∀ (i:Nat) (a:Addr),al.a[i]?=some a->al'.a[i]?=some a
 fz:∀ a o,H a=some o->(∀ ps,o≠.tbl ps)->Fz al M a->H' a=some o/\Fz al' M' a
 hh:al'.h=al.h
 hid:∀ a∈al.h,H' a=H a
theorem Stp.trans {al al1 al2:Al} {M M1 M2:Mem} {H H1 H2:Hp} (a:Stp al M H al1 M1 H1) (b:Stp al1 M1 H1 al2 M2 H2):Stp al M H al2 M2 H2 :=
 ⟨fun i x h=>b.pre i x (a.pre i x h),fun x o h n f=>b.fz x o (a.fz x o h n f).1 n (a.fz x o h n f).2,b.hh.trans a.hh,fun x hx=>(b.hid x (by rw [a.hh];exact hx)).trans (a.hid x hx)⟩
theorem SqTz.mono {K:PySem.W.Frag} {al al':Al} {M M':Mem} {H H':Hp} {a:Addr} {xs:List V} (s:Stp al M H al' M' H') (h:SqTz K al M H a xs):SqTz K al' M' H' a xs:=by
 rcases h with ⟨h,f⟩ | h
 ·exact .inl ⟨(s.fz _ _ h (fun _ z=>by cases z) f).1,(s.fz _ _ h (fun _ z=>by cases z) f).2⟩
 ·exact .inr h
theorem SqLz.mono {K:PySem.W.Frag} {al al':Al} {M M':Mem} {H H':Hp} {a:Addr} {xs:List V} (s:Stp al M H al' M' H') (h:SqLz K al M H a xs):SqLz K al' M' H' a xs:=by
 rcases h with ⟨h | ⟨o,h⟩,f⟩ | h
 ·exact .inl ⟨.inl (s.fz _ _ h (fun _ z=>by cases z) f).1,(s.fz _ _ h (fun _ z=>by cases z) f).2⟩
 ·exact .inl ⟨.inr ⟨o,(s.fz _ _ h (fun _ z=>by cases z) f).1⟩,(s.fz _ _ h (fun _ z=>by cases z) f).2⟩
 ·exact .inr h
mutual
theorem Rp.mono {K:PySem.W.Frag} {al al':Al} {M M':Mem} {H H':Hp} (s:Stp al M H al' M' H'):∀ {d:D} {v:V},Rp K al M H d v->Rp K al' M' H' d v
 | .non,_,h=>h
 | .bl _,_,h=>h
 | .int _,_,h=>h
 | .str _,_,h=>h
 | .ty _,_,h=>h
 | .tup ds,_,h=>by
  obtain ⟨a,xs,e,q,r⟩:=h
  exact ⟨a,xs,e,q.mono s,Rps.mono s r⟩
 | .lst ds,_,h=>by
  obtain ⟨a,xs,e,q,f,r⟩:=h
  exact ⟨a,xs,e,(s.fz _ _ q (fun _ z=>by cases z) f).1,(s.fz _ _ q (fun _ z=>by cases z) f).2,Rps.mono s r⟩
 | .rol ds,_,h=>by
  obtain ⟨a,xs,e,q,r⟩:=h
  exact ⟨a,xs,e,q.mono s,Rps.mono s r⟩
 | .obj C ns ds,_,h=>by
  obtain ⟨a,dx,xs,e,q,f,l,r⟩:=h
  exact ⟨a,dx,xs,e,(s.fz _ _ q (fun _ z=>by cases z) f).1,(s.fz _ _ q (fun _ z=>by cases z) f).2,l,Rps.mono s r⟩
 | .dk C ds,_,h=>by
  obtain ⟨a,dx,xs,e,q,f,l,r⟩:=h
  exact ⟨a,dx,xs,e,(s.fz _ _ q (fun _ z=>by cases z) f).1,(s.fz _ _ q (fun _ z=>by cases z) f).2,l,Rps.mono s r⟩
 | .dt C ds,_,h=>by
  obtain ⟨a,dx,xs,e,q,f,l,r⟩:=h
  exact ⟨a,dx,xs,e,(s.fz _ _ q (fun _ z=>by cases z) f).1,(s.fz _ _ q (fun _ z=>by cases z) f).2,l,Rps.mono s r⟩
 | .exc C ns ds,_,h=>by
  obtain ⟨a,dx,xs,e,q,f,q2,f2,l,r⟩:=h
  exact ⟨a,dx,xs,e,(s.fz _ _ q (fun _ z=>by cases z) f).1,(s.fz _ _ q (fun _ z=>by cases z) f).2,(s.fz _ _ q2 (fun _ z=>by cases z) f2).1,(s.fz _ _ q2 (fun _ z=>by cases z) f2).2,l,Rps.mono s r⟩
 | .lam _ _,_,h=>⟨h.1,fun x hx=>s.fz _ _ (h.2 x hx).1 (fun _ z=>by cases z) (h.2 x hx).2⟩
 | .ref _,_,h=>h
 | .mt i,_,h=>by
  obtain ⟨a,e,q⟩:=h
  exact ⟨a,s.pre _ _ e,q⟩
theorem Rps.mono {K:PySem.W.Frag} {al al':Al} {M M':Mem} {H H':Hp} (s:Stp al M H al' M' H'):∀ {ds:List D} {xs:List V},Rps K al M H ds xs->Rps K al' M' H' ds xs
 | [],_,h=>h
 | d :: ds,_,h=>by
  obtain ⟨x,r,e,q,t⟩:=h
  exact ⟨x,r,e,Rp.mono s q,Rps.mono s t⟩
end
section
variable {K:PySem.W.Frag} {al:Al} {M:Mem} {H:Hp}
theorem Rps.length:∀ {ds:List D} {xs:List V},Rps K al M H ds xs->ds.length=xs.length
 | [],_,h=>by cases (show _=[] from h);rfl
 | d :: ds,_,h=>by
  obtain ⟨x,r,e,_,t⟩:=h
  subst e
  simp [Rps.length t]
theorem Rps.append:∀ {ds es:List D} {xs ys:List V},Rps K al M H ds xs->Rps K al M H es ys->Rps K al M H (ds ++ es) (xs ++ ys)
 | [],_,_,_,h,g=>by cases (show _=[] from h);exact g
 | d :: ds,_,_,_,h,g=>by
  obtain ⟨x,r,q,t,u⟩:=h
  subst q
  exact ⟨x,_,rfl,t,Rps.append u g⟩
theorem Rps.take:∀ {ds:List D} {xs:List V} (n:Nat),Rps K al M H ds xs->Rps K al M H (ds.take n) (xs.take n)
 | _,_,0,_=>rfl
 | [],_,_+1,h=>by cases (show _=[] from h);rfl
 | d :: ds,_,n+1,h=>by
  obtain ⟨x,r,q,t,u⟩:=h
  subst q
  exact ⟨x,_,rfl,t,Rps.take n u⟩
theorem Rps.drop:∀ {ds:List D} {xs:List V} (n:Nat),Rps K al M H ds xs->Rps K al M H (ds.drop n) (xs.drop n)
 | _,_,0,h=>by simpa using h
 | [],_,_+1,h=>by cases (show _=[] from h);rfl
 | d :: ds,_,n+1,h=>by
  obtain ⟨x,r,q,t,u⟩:=h
  subst q
  simpa using Rps.drop n u
theorem Rps.set:∀ {ds:List D} {xs:List V} (n:Nat) {d:D} {x:V},Rps K al M H ds xs->Rp K al M H d x->Rps K al M H (ds.set n d) (xs.set n x)
 | [],_,_,_,_,h,_=>by cases (show _=[] from h);rfl
 | d :: ds,_,0,_,_,h,g=>by
  obtain ⟨x,r,q,t,u⟩:=h
  subst q
  exact ⟨_,_,rfl,g,u⟩
 | d :: ds,_,n+1,_,_,h,g=>by
  obtain ⟨x,r,q,t,u⟩:=h
  subst q
  exact ⟨x,_,rfl,t,Rps.set n u g⟩
end
def Rpk {κ:Type} (K:PySem.W.Frag) (al:Al) (M:Mem) (H:Hp) (ds:List (κ×D)) (xs:List (κ×V)):Prop:=ds.map (·.1)=xs.map (·.1)/\Rps K al M H (ds.map (·.2)) (xs.map (·.2))
theorem Rpk.mono {κ:Type} {K:PySem.W.Frag} {al al':Al} {M M':Mem} {H H':Hp} {ds:List (κ×D)} {xs:List (κ×V)} (s:Stp al M H al' M' H') (h:Rpk K al M H ds xs):Rpk K al' M' H' ds xs:=⟨h.1,h.2.mono s⟩
theorem Rpk.nil {κ:Type} {K:PySem.W.Frag} {al:Al} {M:Mem} {H:Hp}:Rpk (κ:=κ) K al M H [] []:=⟨rfl,rfl⟩
theorem Rpk.cons {κ:Type} {K:PySem.W.Frag} {al:Al} {M:Mem} {H:Hp} {k:κ} {d:D} {x:V} {ds:List (κ×D)} {xs:List (κ×V)} (r:Rp K al M H d x) (h:Rpk K al M H ds xs):Rpk K al M H ((k,d) :: ds) ((k,x) :: xs) :=
 ⟨by simp [h.1],⟨x,_,rfl,r,h.2⟩⟩
theorem Rpk.cases {κ:Type} {K:PySem.W.Frag} {al:Al} {M:Mem} {H:Hp} {k:κ} {d:D} {ds:List (κ×D)} {xs:List (κ×V)} (h:Rpk K al M H ((k,d) :: ds) xs):∃ x r,xs=(k,x) :: r/\Rp K al M H d x/\Rpk K al M H ds r:=by
 obtain ⟨h1,x,r,e,q,t⟩:=h
 cases xs with
 | nil=>simp at h1
 | cons y ys =>
  obtain ⟨y1,y2⟩:=y
  simp at h1 e
  obtain ⟨rfl,h1⟩:=h1
  obtain ⟨rfl,rfl⟩:=e
  exact ⟨y2,ys,rfl,q,h1,t⟩
def Rpd (K:PySem.W.Frag) (al:Al) (M:Mem) (H:Hp) (ks:List (List Int)) (ds:List D) (L:Ents):Prop:=(L.map (·.1)=ks/\ds.take ks.length=ks.map kD)/\Rps K al M H ds (Lv L)
theorem Rpd.mono {K:PySem.W.Frag} {al al':Al} {M M':Mem} {H H':Hp} {ks:List (List Int)} {ds:List D} {L:Ents} (s:Stp al M H al' M' H') (h:Rpd K al M H ks ds L):Rpd K al' M' H' ks ds L:=⟨h.1,h.2.mono s⟩
def RpM (K:PySem.W.Frag) (al:Al) (M:Mem) (H:Hp) (a:Addr):MO->Prop
 | .lst ds=>∃ xs,H a=some (.lst xs)/\Rps K al M H ds xs
 | .dK kvs=>∃ ys,H a=some (.dK ys)/\Rpk K al M H kvs ys
 | .dT ks ds=>∃ L,H a=some (DicO a L)/\Rpd K al M H ks ds L
 | .ins C fs=>∃ dx ys,H a=some (.ins C dx ys)/\Rpk K al M H fs ys
def RpX (K:PySem.W.Frag) (al:Al) (M:Mem) (H:Hp) (x:Exn) (cls:Value) (d:Option Addr):Prop:=cls = .ref x.C/\∃ dx ys,d=some dx/\H dx=some (.xd ys)/\Rpk K al M H x.fs ys
theorem dic_code {a c:Addr} {L:Ents} {q:Str} (h:DicO a L=LamX.CodeO c q):False:=by
 unfold DicO LamX.CodeO at h
 injection h with h
 let ob:Obj:={ cls:=.none,data:=.fields #[.none,.str q 0] }
 let hp:Heap:=⟨Array.replicate (c+1) ob,{}⟩
 have key:∀ b o,hp.get? b=some o->o=ob:=fun b o e=>by
  have e1:(match (Array.replicate (c+1) ob)[b]? with
   | some ⟨_,_,.freed,_⟩=>none
   | o=>o)=some o:=e
  by_cases hb:b < c+1
  ·rw [Array.getElem?_eq_getElem (by simpa using hb),Array.getElem_replicate] at e1
   exact (Option.some.inj e1).symm
  ·rw [Array.getElem?_eq_none (by simpa using hb)] at e1
   cases e1
 have at_:hp.get? c=some ob:=by
  show (match (Array.replicate (c+1) ob)[c]? with
   | some ⟨_,_,.freed,_⟩=>none
   | o=>o)=some ob
  rw [Array.getElem?_eq_getElem (by simp),Array.getElem_replicate]
 have e:=congrFun h hp
 have yes:=e.mpr ⟨ob,_,0,at_,rfl,rfl⟩
 obtain ⟨_,_,_,_,o,es,ep,h1,_,h3,_⟩:=yes
 have:=key _ _ h1
 subst this
 cases h3
def HidO (a:Addr) (o:HO):Prop:=(∃ xs,o = .lst xs)\/(∃ kvs,o = .dK kvs)\/(∃ L,o=DicO a L)\/∃ od u,o = .frz od u
theorem HidO.tbl {a:Addr} {o:HO} (h:HidO a o) (ps:Array Value):o≠.tbl ps:=fun z=>by
 rcases h with ⟨_,rfl⟩ | ⟨_,rfl⟩ | ⟨_,rfl⟩ | ⟨_,_,rfl⟩ <;> cases z
theorem HidO.xd {a:Addr} {o:HO} (h:HidO a o) (fs:List (Str×V)):o≠.xd fs:=fun z=>by
 rcases h with ⟨_,rfl⟩ | ⟨_,rfl⟩ | ⟨_,rfl⟩ | ⟨_,_,rfl⟩ <;> cases z
theorem HidO.code {a:Addr} {o:HO} (h:HidO a o) (c:Addr) (q:Str):o≠LamX.CodeO c q:=fun z=>by
 rcases h with ⟨_,rfl⟩ | ⟨_,rfl⟩ | ⟨_,rfl⟩ | ⟨_,_,rfl⟩
 ·unfold LamX.CodeO at z;cases z
 ·unfold LamX.CodeO at z;cases z
 ·exact dic_code z
 ·unfold LamX.CodeO at z;cases z
structure Wf (K:PySem.W.Frag) (Tb:List (Addr×Str)) (al:Al) (H:Hp) (M:Mem):Prop where
 len:al.a.length=M.length
 nd:al.a.Nodup
 rep:∀ (i:Nat) (a:Addr) (mo:MO),al.a[i]?=some a->M[i]?=some (some mo)->RpM K al M H a mo
 there:∀ (i:Nat) (a:Addr),al.a[i]?=some a->∃ o,H a=some o/\∀ ps,o≠.tbl ps
 tb:LamX.Tabs Tb H
 hth:∀ a∈al.h,∃ o,H a=some o/\HidO a o
 hdis:∀ (i:Nat) (a:Addr) (mo:MO),al.a[i]?=some a->M[i]?=some (some mo)->a ∉ al.h
def RpS (K:PySem.W.Frag) (al:Al) (M:Mem) (H:Hp) (σ:L2.St) (rho:Rho):Prop:=rho.length=σ.length/\∀ (i:Nat) (d:D),rho[i]?=some (some d)->∃ v,σ[i]?=some (some v)/\Rp K al M H d v
theorem RpS.mono {K:PySem.W.Frag} {al al':Al} {M M':Mem} {H H':Hp} {σ:L2.St} {rho:Rho} (s:Stp al M H al' M' H') (h:RpS K al M H σ rho):RpS K al' M' H' σ rho :=
 ⟨h.1,fun i d e=>let ⟨v,e1,r⟩:=h.2 i d e;⟨v,e1,r.mono s⟩⟩
theorem RpS.set {K:PySem.W.Frag} {al:Al} {M:Mem} {H:Hp} {σ:L2.St} {rho:Rho} (h:RpS K al M H σ rho) (i:Nat) {d:D} {v:V} (r:Rp K al M H d v):RpS K al M H (σ.set i (some v)) (rho.set i (some d)):=by
 refine ⟨by simpa using h.1,fun j e q=>?_⟩
 by_cases hj:i=j
 ·subst hj
  rw [List.getElem?_set] at q
  simp at q
  obtain ⟨q1,rfl⟩:=q
  exact ⟨v,by rw [List.getElem?_set];simp;rw [<- h.1];exact q1,r⟩
 ·rw [List.getElem?_set_ne hj] at q ⊢
  exact h.2 j e q
abbrev TED:=XD->Rho->Mem->VD->Prop
structure DEnds where
 nx:Rho->Mem->Prop
 rt:VD
 bk:Rho->Mem->Prop:=fun _ _=>False
 ct:Rho->Mem->Prop:=fun _ _=>False
def PostV (K:PySem.W.Frag) (Tb:List (Addr×Str)) (al:Al) (M:Mem) (H:Hp) (Q:VD) (QV:VK):Prop:=∀ al' d M' v H',Stp al M H al' M' H'->Wf K Tb al' H' M'->Rp K al' M' H' d v->Q d M'->QV v H'
def PostX (K:PySem.W.Frag) (Tb:List (Addr×Str)) (al:Al) (M:Mem) (H:Hp) (E:XD) (EV:XK):Prop:=∀ al' x M' cls dct H',Stp al M H al' M' H'->Wf K Tb al' H' M'->RpX K al' M' H' x cls dct->E x M'->EV cls dct H'
def PostT (K:PySem.W.Frag) (Tb:List (Addr×Str)) (al:Al) (M:Mem) (H:Hp) (Q:Bool->Mem->Prop) (QV:Bool->Hp->Prop):Prop:=∀ al' b M' H',Stp al M H al' M' H'->Wf K Tb al' H' M'->Q b M'->QV b H'
def PostA (K:PySem.W.Frag) (Tb:List (Addr×Str)) (al:Al) (M:Mem) (H:Hp) (Q:List D->Mem->Prop) (QV:List V->Hp->Prop):Prop:=∀ al' ds M' vs H',Stp al M H al' M' H'->Wf K Tb al' H' M'->Rps K al' M' H' ds vs->Q ds M'->QV vs H'
def PostS (K:PySem.W.Frag) (Tb:List (Addr×Str)) (al:Al) (M:Mem) (H:Hp) (Q:Rho->Mem->Prop) (QV:L2.St->Hp->Prop):Prop:=∀ al' rho' M' σ' H',Stp al M H al' M' H'->Wf K Tb al' H' M'->RpS K al' M' H' σ' rho'->Q rho' M'->QV σ' H'
theorem PostX.mono {K:PySem.W.Frag} {Tb:List (Addr×Str)} {al al1:Al} {M M1:Mem} {H H1:Hp} {E:XD} {EV:XK} (s:Stp al M H al1 M1 H1) (p:PostX K Tb al M H E EV):PostX K Tb al1 M1 H1 E EV :=
 fun _ _ _ _ _ _ s'=>p _ _ _ _ _ _ (s.trans s')
theorem PostV.mono {K:PySem.W.Frag} {Tb:List (Addr×Str)} {al al1:Al} {M M1:Mem} {H H1:Hp} {Q:VD} {QV:VK} (s:Stp al M H al1 M1 H1) (p:PostV K Tb al M H Q QV):PostV K Tb al1 M1 H1 Q QV :=
 fun _ _ _ _ _ s'=>p _ _ _ _ _ (s.trans s')
theorem PostT.mono {K:PySem.W.Frag} {Tb:List (Addr×Str)} {al al1:Al} {M M1:Mem} {H H1:Hp} {Q:Bool->Mem->Prop} {QV:Bool->Hp->Prop} (s:Stp al M H al1 M1 H1) (p:PostT K Tb al M H Q QV):PostT K Tb al1 M1 H1 Q QV :=
 fun _ _ _ _ s'=>p _ _ _ _ (s.trans s')
theorem PostA.mono {K:PySem.W.Frag} {Tb:List (Addr×Str)} {al al1:Al} {M M1:Mem} {H H1:Hp} {Q:List D->Mem->Prop} {QV:List V->Hp->Prop} (s:Stp al M H al1 M1 H1) (p:PostA K Tb al M H Q QV):PostA K Tb al1 M1 H1 Q QV :=
 fun _ _ _ _ _ s'=>p _ _ _ _ _ (s.trans s')
theorem PostS.mono {K:PySem.W.Frag} {Tb:List (Addr×Str)} {al al1:Al} {M M1:Mem} {H H1:Hp} {Q:Rho->Mem->Prop} {QV:L2.St->Hp->Prop} (s:Stp al M H al1 M1 H1) (p:PostS K Tb al M H Q QV):PostS K Tb al1 M1 H1 Q QV :=
 fun _ _ _ _ _ s'=>p _ _ _ _ _ (s.trans s')
structure At (K:PySem.W.Frag) (Tb:List (Addr×Str)) (EV:XK) (al:Al) (σ:L2.St) (H:Hp) (rho:Rho) (M:Mem) (E:XD):Prop where
 wf:Wf K Tb al H M
 sl:RpS K al M H σ rho
 ex:PostX K Tb al M H E EV
theorem At.go {K:PySem.W.Frag} {Tb:List (Addr×Str)} {EV:XK} {al al':Al} {σ:L2.St} {H H':Hp} {rho:Rho} {M M':Mem} {E:XD} (a:At K Tb EV al σ H rho M E) (s:Stp al M H al' M' H') (w:Wf K Tb al' H' M'):At K Tb EV al' σ H' rho M' E :=
 ⟨w,a.sl.mono s,a.ex.mono s⟩
structure PostE (K:PySem.W.Frag) (Tb:List (Addr×Str)) (al:Al) (M:Mem) (H:Hp) (DD:DEnds) (DV:Ends):Prop where
 nx:PostS K Tb al M H DD.nx DV.nx
 rt:PostV K Tb al M H DD.rt DV.rt
 bk:PostS K Tb al M H DD.bk DV.bk
 ct:PostS K Tb al M H DD.ct DV.ct
theorem PostE.mono {K:PySem.W.Frag} {Tb:List (Addr×Str)} {al al1:Al} {M M1:Mem} {H H1:Hp} {DD:DEnds} {DV:Ends} (s:Stp al M H al1 M1 H1) (p:PostE K Tb al M H DD DV):PostE K Tb al1 M1 H1 DD DV :=
 ⟨p.nx.mono s,p.rt.mono s,p.bk.mono s,p.ct.mono s⟩
section
variable {K:PySem.W.Frag} {Tb:List (Addr×Str)} {al:Al} {M:Mem} {H:Hp} {p a:Addr}
theorem Wf.nohid (w:Wf K Tb al H M) (hp:H p=none):p ∉ al.h:=fun hm=>by
 obtain ⟨xs,h,_⟩:=w.hth p hm
 rw [hp] at h;cases h
theorem Wf.fresh (w:Wf K Tb al H M) (hp:H p=none):Fz al M p:=⟨w.nohid hp,fun i mo e _=>by
 obtain ⟨o,h,_⟩:=w.there i p e
 rw [hp] at h;cases h⟩
theorem RpM.mono {al':Al} {M':Mem} {H':Hp} {mo:MO} (s:Stp al M H al' M' H') (e:∀ o,H a=some o->H' a=some o) (h:RpM K al M H a mo):RpM K al' M' H' a mo:=by
 cases mo with
 | lst ds=>obtain ⟨xs,h1,h2⟩:=h;exact ⟨xs,e _ h1,h2.mono s⟩
 | dK kvs=>obtain ⟨xs,h1,h2⟩:=h;exact ⟨xs,e _ h1,h2.mono s⟩
 | dT ks ds=>obtain ⟨xs,h1,h2⟩:=h;exact ⟨xs,e _ h1,h2.mono s⟩
 | ins C fs=>obtain ⟨dx,xs,h1,h2⟩:=h;exact ⟨dx,xs,e _ h1,h2.mono s⟩
end
section
variable {X:Cx} {Tb:List (Addr×Str)} {EV:XK} {a b c:Expr} {ta tb tc:TED} {pos:Pos}
theorem Rps.nil {K:PySem.W.Frag} {al:Al} {M:Mem} {H:Hp}:Rps K al M H [] []:=rfl
end
mutual
def D.hb (n:Nat):D->Bool
 | .mt i=>decide (i < n)
 | .tup xs=>D.hbs n xs
 | .lst xs=>D.hbs n xs
 | .rol xs=>D.hbs n xs
 | .obj _ _ xs=>D.hbs n xs
 | .exc _ _ xs=>D.hbs n xs
 | .dk _ xs=>D.hbs n xs
 | .dt _ xs=>D.hbs n xs
 | _=>true
def D.hbs (n:Nat):List D->Bool
 | []=>true
 | x :: xs=>D.hb n x && D.hbs n xs
end
def MO.hb (n:Nat):MO->Bool
 | .lst xs=>D.hbs n xs
 | .dK kvs=>D.hbs n (kvs.map (·.2))
 | .dT _ xs=>D.hbs n xs
 | .ins _ fs=>D.hbs n (fs.map (·.2))
def okM (n:Nat) (M:Mem):Prop:=∀ (i:Nat) (mo:MO),i < n->M[i]?=some (some mo)->mo.hb n=true
section
variable {K:PySem.W.Frag} {Tb:List (Addr×Str)} {al:Al} {M:Mem} {H:Hp}
mutual
theorem Rp.hb:∀ {d:D} {v:V},Rp K al M H d v->D.hb al.a.length d=true
 | .mt i,_,h=>by
  obtain ⟨a,e,_⟩:=h
  exact decide_eq_true (List.getElem?_eq_some_iff.mp e).1
 | .tup xs,_,h=>by obtain ⟨_,_,_,_,r⟩:=h;exact Rps.hb r
 | .lst xs,_,h=>by obtain ⟨_,_,_,_,_,r⟩:=h;exact Rps.hb r
 | .rol xs,_,h=>by obtain ⟨_,_,_,_,r⟩:=h;exact Rps.hb r
 | .obj _ _ xs,_,h=>by obtain ⟨_,_,_,_,_,_,_,r⟩:=h;exact Rps.hb r
 | .exc _ _ xs,_,h=>by obtain ⟨_,_,_,_,_,_,_,_,_,r⟩:=h;exact Rps.hb r
 | .dk _ xs,_,h=>by obtain ⟨_,_,_,_,_,_,_,r⟩:=h;exact Rps.hb r
 | .dt _ xs,_,h=>by obtain ⟨_,_,_,_,_,_,_,r⟩:=h;exact Rps.hb r
 | .non,_,_=>rfl
 | .bl _,_,_=>rfl
 | .int _,_,_=>rfl
 | .str _,_,_=>rfl
 | .ty _,_,_=>rfl
 | .lam _ _,_,_=>rfl
 | .ref _,_,_=>rfl
theorem Rps.hb:∀ {ds:List D} {vs:List V},Rps K al M H ds vs->D.hbs al.a.length ds=true
 | [],_,_=>rfl
 | d :: ds,_,h=>by
  obtain ⟨_,_,_,r,t⟩:=h
  show (D.hb _ d && D.hbs _ ds)=true
  rw [Rp.hb r,Rps.hb t];rfl
end
end
def Cut (n:Nat) (Q:VD):VD:=fun d M'=>∃ m,n<=m/\d.hb m=true/\okM m M'/\Q d (M'.take m)
def CutX (n:Nat) (E:XD):XD:=fun x M'=>D.hbs n (x.fs.map (·.2))=true/\okM n M'/\E x (M'.take n)
theorem okM.set {n i:Nat} {M:Mem} {mo:MO} (ok:okM n M) (h:mo.hb n=true):okM n (M.set i (some mo)):=fun j m hj e=>by
 by_cases hij:i=j
 ·subst hij
  rw [List.getElem?_set] at e
  simp at e
  rw [<- e.2];exact h
 ·rw [List.getElem?_set_ne hij] at e
  exact ok j m hj e
theorem Cut.set {Q:VD} {d:D} {M:Mem} {i:Nat} {mo:MO} (h:d.hb M.length=true) (ok:okM M.length M) (hm:mo.hb M.length=true) (q:Q d (M.set i (some mo))):Cut M.length Q d (M.set i (some mo)) :=
 ⟨M.length,Nat.le_refl _,h,ok.set hm,by rw [List.take_of_length_le (by simp)];exact q⟩
abbrev DSp:=List D->Mem->VD->XD->Prop
def liftSp (K:PySem.W.Frag) (Tb:List (Addr×Str)) (dsp:DSp):Sp:=fun vs H QV EV=>∃ al M ds Q E,Wf K Tb al H M/\Rps K al M H ds vs/\dsp ds M Q E/\PostV K Tb al M H Q QV/\PostX K Tb al M H E EV
structure FnD (P:Program) (w:World) (K:PySem.W.Frag) (mg:Str->Option Value) (base:Heap) (Tb:List (Addr×Str)) (k:Nat) (f:Addr) (fd:FuncData) (ps:List Str) (dsp:DSp):Prop where
 ok:FnOk P w K mg base (L2.CX P w) k f fd ps (liftSp K Tb dsp)
theorem FnD.mono {P:Program} {w:World} {K:PySem.W.Frag} {mg:Str->Option Value} {base:Heap} {Tb:List (Addr×Str)} {j k:Nat} {f:Addr} {fd:FuncData} {ps:List Str} {dsp:DSp} (F:FnD P w K mg base Tb j f fd ps dsp) (h:j<=k):FnD P w K mg base Tb k f fd ps dsp:=⟨F.ok.mono h⟩
section
variable {K:PySem.W.Frag} {Tb:List (Addr×Str)} {al:Al} {M:Mem} {H:Hp}
def signsD (z:Str):List D:=z.cps.toList.map fun c=>D.str ⟨#[c]⟩
end
section
variable {X:Cx} {Tb:List (Addr×Str)} {EV:XK} {tg:Expr}
theorem Rps.one {K:PySem.W.Frag} {al:Al} {M:Mem} {H:Hp} {d:D} {vs:List V} (r:Rps K al M H [d] vs):∃ v,vs=[v]/\Rp K al M H d v:=by
 obtain ⟨v,w,rfl,r,e⟩:=r
 cases (show _=[] from e)
 exact ⟨v,rfl,r⟩
end
def noE:XD:=fun _ _=>False
def pick {α:Type} (is:List Nat) (xs:List α):List α:=is.filterMap (xs[·]?)
def CsD (K:PySem.W.Frag) (ds:List D) (vs:List V):Prop:=∀ al M H,Rps K al M H ds vs
theorem CsD.nil {K:PySem.W.Frag}:CsD K [] []:=fun _ _ _=>rfl
end DL
namespace Mt
def bs (n:Nat):Nat:=if n=0 then 0 else n.log2+1
theorem bs_lt (n:Nat):n < 2 ^ bs n:=by
 unfold bs
 split
 ·subst_vars;decide
 ·exact Nat.lt_log2_self
theorem bs_le {n k:Nat} (h:n < 2 ^ k):bs n<=k:=by
 unfold bs
 split
 ·omega
 ·rename_i e
  have:=(Nat.log2_lt e).mpr h
  omega
theorem bs_mono {a b:Nat} (h:a<=b):bs a<=bs b:=bs_le (Nat.lt_of_le_of_lt h (bs_lt b))
theorem bs_mul (a b:Nat):bs (a * b)<=bs a+bs b:=bs_le (by rw [Nat.pow_add];exact Nat.mul_lt_mul'' (bs_lt a) (bs_lt b))
theorem bs_add (a b:Nat):bs (a+b)<=max (bs a) (bs b)+1:=by
 refine bs_le ?_
 have h1:=bs_lt a
 have h2:=bs_lt b
 have h3:2 ^ bs a<=2 ^ max (bs a) (bs b):=Nat.pow_le_pow_right (by decide) (Nat.le_max_left ..)
 have h4:2 ^ bs b<=2 ^ max (bs a) (bs b):=Nat.pow_le_pow_right (by decide) (Nat.le_max_right ..)
 rw [Nat.pow_succ]
 omega
def bz (i:Int):Nat:=bs i.natAbs
theorem bi_mul (a b:Int):bz (a * b)<=bz a+bz b:=by unfold bz;rw [Int.natAbs_mul];exact bs_mul ..
theorem bi_add (a b:Int):bz (a+b)<=max (bz a) (bz b)+1:=by
 unfold bz
 exact Nat.le_trans (bs_mono (Int.natAbs_add_le a b)) (bs_add ..)
theorem bi_neg (a:Int):bz (-a)=bz a:=by unfold bz;rw [Int.natAbs_neg]
theorem bi_sub (a b:Int):bz (a - b)<=max (bz a) (bz b)+1:=by
 rw [Int.sub_eq_add_neg]
 have:=bi_add a (-b)
 rwa [bi_neg] at this
def qs (q:Rat):Nat:=max (bz q.num) (bs q.den)
theorem qs_num (q:Rat):bz q.num<=qs q:=Nat.le_max_left ..
theorem qs_den (q:Rat):bs q.den<=qs q:=Nat.le_max_right ..
theorem qs_den' (q:Rat):bz (q.den:Int)<=qs q:=qs_den q
theorem qs_divInt (a b:Int) (hb:b≠0):qs (Rat.divInt a b)<=max (bz a) (bz b):=by
 unfold qs
 refine Nat.max_le.mpr ⟨?_,?_⟩
 ·refine Nat.le_trans (bs_mono ?_) (Nat.le_max_left ..)
  rw [Rat.num_divInt]
  have h1:(b.sign * a).natAbs=a.natAbs:=by
   rw [Int.natAbs_mul]
   rcases Int.lt_or_gt_of_ne hb with h | h
   ·rw [Int.sign_eq_neg_one_of_neg h];simp
   ·rw [Int.sign_eq_one_of_pos h];simp
  rw [<- h1]
  have hg:(b.gcd a:Int) ∣ (b.sign * a):=Int.dvd_mul_of_dvd_right (Int.gcd_dvd_right ..)
  rw [Int.natAbs_ediv_of_dvd hg]
  exact Nat.div_le_self ..
 ·refine Nat.le_trans (bs_mono ?_) (Nat.le_max_right ..)
  rw [Rat.den_divInt,if_neg hb]
  exact Nat.div_le_self ..
theorem divInt_add (a b:Rat):Rat.divInt (a.num * b.den+b.num * a.den) (a.den * b.den)=a+b:=by
 rw [Rat.add_def']
 rw [show ((a.den:Int) * (b.den:Int))=((a.den * b.den:Nat):Int) from rfl,Rat.divInt_ofNat]
theorem divInt_sub (a b:Rat):Rat.divInt (a.num * b.den - b.num * a.den) (a.den * b.den)=a - b:=by
 rw [Rat.sub_def']
 rw [show ((a.den:Int) * (b.den:Int))=((a.den * b.den:Nat):Int) from rfl,Rat.divInt_ofNat]
theorem divInt_mul (a b:Rat):Rat.divInt (a.num * b.num) (a.den * b.den)=a * b:=by
 rw [Rat.mul_def']
 rw [show ((a.den:Int) * (b.den:Int))=((a.den * b.den:Nat):Int) from rfl,Rat.divInt_ofNat]
theorem divInt_div (a b:Rat) (h:b≠0):Rat.divInt (a.num * b.den) (a.den * b.num)=a / b:=by
 rw [Rat.div_def,Rat.inv_def]
 conv=>rhs;rw [<- Rat.num_divInt_den a]
 rw [Rat.divInt_mul_divInt]
theorem den_ne (a b:Rat):((a.den:Int) * (b.den:Int))≠0:=by
 have:=a.den_pos
 have:=b.den_pos
 exact Int.mul_ne_zero (by omega) (by omega)
theorem qs_add (a b:Rat):qs (a+b)<=qs a+qs b+1:=by
 rw [<- divInt_add]
 refine Nat.le_trans (qs_divInt _ _ (den_ne a b)) (Nat.max_le.mpr ⟨?_,?_⟩)
 ·have h1:=bi_add (a.num * b.den) (b.num * a.den)
  have h2:=bi_mul a.num b.den
  have h3:=bi_mul b.num a.den
  have:=qs_num a;have:=qs_num b;have:=qs_den' a;have:=qs_den' b
  omega
 ·have h2:=bi_mul a.den b.den
  have:=qs_den' a;have:=qs_den' b
  omega
theorem qs_sub (a b:Rat):qs (a - b)<=qs a+qs b+1:=by
 rw [<- divInt_sub]
 refine Nat.le_trans (qs_divInt _ _ (den_ne a b)) (Nat.max_le.mpr ⟨?_,?_⟩)
 ·have h1:=bi_sub (a.num * b.den) (b.num * a.den)
  have h2:=bi_mul a.num b.den
  have h3:=bi_mul b.num a.den
  have:=qs_num a;have:=qs_num b;have:=qs_den' a;have:=qs_den' b
  omega
 ·have h2:=bi_mul a.den b.den
  have:=qs_den' a;have:=qs_den' b
  omega
theorem qs_mul (a b:Rat):qs (a * b)<=qs a+qs b:=by
 rw [<- divInt_mul]
 refine Nat.le_trans (qs_divInt _ _ (den_ne a b)) (Nat.max_le.mpr ⟨?_,?_⟩)
 ·have h2:=bi_mul a.num b.num
  have:=qs_num a;have:=qs_num b
  omega
 ·have h2:=bi_mul a.den b.den
  have:=qs_den' a;have:=qs_den' b
  omega
theorem num_ne {b:Rat} (h:b≠0):b.num≠0:=fun z=>h (Rat.num_eq_zero.mp z)
theorem qs_div (a b:Rat):qs (a / b)<=qs a+qs b:=by
 by_cases h:b=0
 ·subst h
  have:a / 0=0:=by rw [Rat.div_def,Rat.inv_zero,Rat.mul_zero]
  rw [this]
  have:qs (0:Rat)=1:=by decide
  have h1:1<=bs a.den:=by
   unfold bs
   have:=a.den_pos
   split <;> omega
  have:=qs_den a
  omega
 ·rw [<- divInt_div a b h]
  have hne:((a.den:Int) * b.num)≠0:=Int.mul_ne_zero (by have:=a.den_pos;omega) (num_ne h)
  refine Nat.le_trans (qs_divInt _ _ hne) (Nat.max_le.mpr ⟨?_,?_⟩)
  ·have h2:=bi_mul a.num b.den
   have:=qs_num a;have:=qs_den' b
   omega
  ·have h2:=bi_mul a.den b.num
   have:=qs_den' a;have:=qs_num b
   omega
theorem qs_int (i:Int):qs (i:Rat)<=max (bz i) 1:=by
 unfold qs
 rw [Rat.num_intCast,Rat.den_intCast]
 exact Nat.le_refl _
end Mt
namespace DL
open PySem PySem.Spec PyProof.Rows L2 Mt
structure Rng where
 ns:List Int
 p:Int
 c:Int
 s:Int
 k:Int
def Rng.items (r:Rng):List D:=[.lst (r.ns.map D.int),.int r.p,.int r.c,.int r.s,.int r.k]
def Rng.mo (r:Rng):MO:=.lst r.items
structure Rng.Ok (r:Rng):Prop where
 p0:0<=r.p
 c0:0<=r.c
 s0:0<=r.s
 s1:r.s < 2147483647
 k0:0<=r.k
theorem hbs_ints (n:Nat):∀ ns:List Int,D.hbs n (ns.map D.int)=true
 | []=>rfl
 | _ :: r=>by show (true && D.hbs n (r.map D.int))=true;rw [hbs_ints n r];rfl
theorem Rng.hb (r:Rng) (n:Nat):r.mo.hb n=true:=by
 show (D.hbs n (r.ns.map D.int) && (true && (true && (true && (true && true)))))=true
 rw [hbs_ints];rfl
def RgAt (M:Mem) (i:Nat):Prop:=∃ r:Rng,M[i]?=some (some r.mo)/\r.Ok
def RgTo (M:Mem) (i:Nat) (M':Mem):Prop:=∃ r:Rng,r.Ok/\M'=M.set i (some r.mo)
theorem RgTo.at {M M':Mem} {i:Nat} (a:RgAt M i) (t:RgTo M i M'):RgAt M' i:=by
 obtain ⟨r,ok,rfl⟩:=t
 obtain ⟨q,e,_⟩:=a
 exact ⟨r,by rw [List.getElem?_set_self (List.getElem?_eq_some_iff.mp e).1],ok⟩
theorem RgTo.trans {M M1 M2:Mem} {i:Nat} (a:RgTo M i M1) (b:RgTo M1 i M2):RgTo M i M2:=by
 obtain ⟨r,ok,rfl⟩:=a
 obtain ⟨q,ok2,rfl⟩:=b
 exact ⟨q,ok2,by rw [List.set_set]⟩
theorem RgTo.len {M M':Mem} {i:Nat} (t:RgTo M i M'):M'.length=M.length:=by
 obtain ⟨r,_,rfl⟩:=t
 simp
def fr (a b:Int):D:=.tup [.int a,.int b]
def qD (q:Rat):D:=fr q.num q.den
mutual
theorem D.hb_mono {n m:Nat} (h:n<=m):∀ {d:D},D.hb n d=true->D.hb m d=true
 | .mt i,e=>decide_eq_true (Nat.lt_of_lt_of_le (of_decide_eq_true e) h)
 | .tup xs,e=>D.hbs_mono h (ds:=xs) e
 | .lst xs,e=>D.hbs_mono h (ds:=xs) e
 | .rol xs,e=>D.hbs_mono h (ds:=xs) e
 | .obj _ _ xs,e=>D.hbs_mono h (ds:=xs) e
 | .exc _ _ xs,e=>D.hbs_mono h (ds:=xs) e
 | .dk _ xs,e=>D.hbs_mono h (ds:=xs) e
 | .dt _ xs,e=>D.hbs_mono h (ds:=xs) e
 | .non,_=>rfl
 | .bl _,_=>rfl
 | .int _,_=>rfl
 | .str _,_=>rfl
 | .ty _,_=>rfl
 | .lam _ _,_=>rfl
 | .ref _,_=>rfl
theorem D.hbs_mono {n m:Nat} (h:n<=m):∀ {ds:List D},D.hbs n ds=true->D.hbs m ds=true
 | [],_=>rfl
 | d :: ds,e=>by
  have e:(D.hb n d && D.hbs n ds)=true:=e
  rw [Bool.and_eq_true] at e
  show (D.hb m d && D.hbs m ds)=true
  rw [D.hb_mono h e.1,D.hbs_mono h e.2];rfl
end
theorem MO.hb_mono {n m:Nat} (h:n<=m):∀ {o:MO},o.hb n=true->o.hb m=true
 | .lst xs,e=>D.hbs_mono h (ds:=xs) e
 | .dK kvs,e=>D.hbs_mono h (ds:=kvs.map Prod.snd) e
 | .dT _ xs,e=>D.hbs_mono h (ds:=xs) e
 | .ins _ fs,e=>D.hbs_mono h (ds:=fs.map Prod.snd) e
theorem okM.app {M:Mem} {o:MO} (ok:okM M.length M) (h:o.hb (M.length+1)=true):okM (M.length+1) (M ++ [some o]):=fun i mo hi e=>by
 by_cases q:i < M.length
 ·rw [List.getElem?_append_left q] at e
  exact MO.hb_mono (Nat.le_succ _) (ok i mo q e)
 ·have:i=M.length:=by omega
  subst this
  rw [List.getElem?_concat_length] at e
  cases e
  exact h
theorem bi_lt {i:Int} {k:Nat} (h1:-(2 ^ k:Int) < i) (h2:i < (2 ^ k:Int)):bz i<=k:=bs_le (by
 have:((2 ^ k:Nat):Int)=(2:Int) ^ k:=by simp
 omega)
theorem Cut.app {Q:VD} {d:D} {M L:Mem} (h:d.hb M.length=true) (ok:okM M.length M) (q:Q d M):Cut M.length Q d (M ++ L) :=
 ⟨M.length,Nat.le_refl _,h,fun i mo hi e=>ok i mo hi (by rw [List.getElem?_append_left hi] at e;exact e),by rw [List.take_left'];exact q;rfl⟩
theorem RgTo.last {M M':Mem} {o:Option MO} (t:RgTo (M ++ [o]) M.length M'):∃ r:Rng,r.Ok/\M'=M ++ [some r.mo]:=by
 obtain ⟨r,ok,rfl⟩:=t
 exact ⟨r,ok,by rw [List.set_append_right _ _ (Nat.le_refl _)];simp⟩
theorem RgAt.last {M:Mem} {r:Rng} (ok:r.Ok):RgAt (M ++ [some r.mo]) M.length:=⟨r,List.getElem?_concat_length ..,ok⟩
abbrev Rg1 (M M':Mem):Prop:=∃ r:Rng,r.Ok/\M'=M ++ [some r.mo]
end DL
namespace DL
open PySem PySem.Spec PyProof.Rows L2
def oexB (K:PySem.W.Frag) (C:Addr):Bool:=(match K.lookup C with
 | some ⟨.type "type",_,.cls cd,sl⟩=>(match cd.mro,sl.toList with
  | .ref C' :: bm,[_,_,_,_,some (.builtin n),_]=>C' == C && (n == "ValueError.__new__" && (!cd.hasDel && (cd.hasDict && PySem.HandSPX.refsVE bm)))
  | _,_=>false)
 | _=>false) && (decide (PySem.W.findIn K (.ref C) "__setattr__"=some (some (.builtin "object.__setattr__"))) && (decide (PySem.W.subIn K (.ref C) (.type "BaseException")=some true) && (decide (PySem.W.typeIn K (.ref C)=some (.type "type")) && PySem.W.keepIn K (.ref C))))
inductive FSrc where
 | k (z:Str) | p (i:Nat)
def FSrc.v (ws:List V):FSrc->V
 | .k z=>.str z
 | .p i=>ws.getD i .non
abbrev FL:=List (Str×FSrc)
def FL.v (fl:FL) (ws:List V):List (Str×V):=fl.map fun q=>(q.1,q.2.v ws)
section
variable {K:PySem.W.Frag} {h:Heap} {mg:Str->Option Value}
def xfaB (K:PySem.W.Frag) (x:Str) (fs:List Str):Bool:=decide (PySem.W.exmAny K (.ref (He.ga K x)) [.ref (He.ga K "RoundError"),.ref (He.ga K "Missing"),.ref (He.ga K "NothingLeft")]=some true) && (xfB K (He.ga K x) && (("code":Str) :: fs).all fun f=>decide (PySem.W.findIn K (.ref (He.ga K x)) f=some none))
def xcB (K:PySem.W.Frag) (x:Str) (fs:List Str):Bool:=oexB K (He.ga K x) && (decide (PySem.W.typeIn K (.ref (He.ma K (He.ga K x) "__init__"))=some (.type "function")) && (decide (PySem.W.findIn K (.ref (He.ga K x)) "__init__"=some (some (.ref (He.ma K (He.ga K x) "__init__")))) && fs.all fun f=>decide (PySem.W.findIn K (.ref (He.ga K x)) f=some none)))
end
end DL
namespace DL
open PySem PySem.Spec PyProof.Rows L2 Mt
mutual
def pz:D->Bool
 | .non=>true
 | .bl _=>true
 | .int _=>true
 | .str x=>PyData.strOk x
 | .tup xs=>pzs xs
 | .lst xs=>pzs xs
 | .rol xs=>pzs xs
 | _=>false
def pzs:List D->Bool
 | []=>true
 | x :: xs=>pz x && pzs xs
end
end DL
namespace DL
open PySem PySem.Spec PyProof.Rows L2
def insOf (M:Mem):D->Option (Addr×List (Str×D))
 | .obj C ns xs=>some (C,ns.zip xs)
 | .mt i=>match M[i]? with
  | some (some (.ins C fs))=>some (C,fs)
  | _=>none
 | _=>none
def cloB (K:PySem.W.Frag) (C:Addr):Bool:=PySem.W.plainGet K C Str.empty && (PySem.W.hasDictIn K C && (PySem.W.plainOver K C && (decide (PySem.W.findIn K (.ref C) "__setattr__"=some (some (.builtin "object.__setattr__"))) && (decide (PySem.W.findIn K (.ref C) "__class__"=some (some (.builtin "object.__class__"))) &&
 (decide (PySem.W.specialIn K (.builtin "object.__class__") "__get__"=some (some (.builtin "getset_descriptor.__get__"))) && (decide (PySem.W.takesIn K (.builtin "object.__class__")=some true) && (decide (PySem.W.mroIn K C (.type "object")=some true) && ((PySem.W.clsIn K C).isSome && (decide (PySem.W.typeIn K (.ref C)=some (.type "type")) &&
 (decide (PySem.W.specialIn K (.ref C) "__getattribute__"=some (some (.builtin "type.__getattribute__"))) && PySem.W.readsIn K C (.type "type")))))))))))
section
variable {X:Cx} {k:Nat} {f C:Addr} {fd:FuncData} {ps:List Str} {sp:Sp} {pins:List (Addr×Obj)} {σ:L2.St} {H:Hp} {s:Shared} {Q:VK} {us:List Value} {vs:List V} {E':Value->Shared->Prop}
theorem cxF {P:Program} {w:World} {l:List Env} {H:Hp} {s:Shared} {e:Value} {s':Shared} (z:L2.CX P w l H s (fun _ _ _=>False) e s'):False:=by
 obtain ⟨_,_,_,_,_,_,_,_,_,_,_,_,z⟩:=z
 exact z
theorem run1 (F:FnOk X.prog X.w X.K X.mg X.base (L2.CX X.prog X.w) k f fd ps sp) (hr:Room (k+1) X.A) (hb:Binds X.K fd ps []) (I:Inv X pins σ H s) (r:Vals vs us) (h:sp vs H Q (fun _ _ _=>False)) :
  wpAny (model X.prog X.w) X.A.in1 (call (.ref f) us) (EP X pins σ Q) E' s:=by
 have hl:(us ++ []).length=ps.length:=by rw [List.append_nil,<- r.length];exact F.len _ _ _ _ h
 refine wpAny_call (codeAny_mono (F.run X.A.in1 X.stack s H ⟨us,[]⟩ us vs Q _ hr.in1 I.env0.in1 (by have:=hb s us I.kIn hl;rw [List.append_nil] at this;exact this) r h) fun r s' hq=>?_)
 cases r with
 | error e=>exact (cxF hq).elim
 | ok fl =>
  cases fl with
  | ret u=>exact I.after hq
  | next=>exact False.elim hq
  | brk=>exact False.elim hq
  | cont=>exact False.elim hq
end
end DL
namespace He
open PySem PySem.Spec PyProof.Rows L2
structure DefE where
 at_:PySem.W.Frag->Addr
 name:Str
 qual:Str
 params:Arguments
 body:List Stmt
 scope:Scope
 dfl:List Dv:=[]
 kwd:List (Str×Dv):=[]
def fnE (K:PySem.W.Frag) (a:Addr):FnW:=match K.lookup a with
 | some ⟨_,_,.func fd,_⟩=>some (fd.name,fd.qualname,fd.params,fd.body,fd.scope,fd.globals,fd.closure,fd.builtins)
 | _=>none
def DefE.val (d:DefE):FnW:=some (d.name,d.qual,d.params,.stmts d.body,d.scope,mainGlobals,[],builtinsNs)
def DefE.dvs (K:PySem.W.Frag) (d:DefE):List V:=d.dfl.map (Dv.v K)
def DefE.kws (K:PySem.W.Frag) (d:DefE):List (Str×V):=d.kwd.map fun q=>(q.1,q.2.v K)
def DefE.ok (K:PySem.W.Frag) (d:DefE):Bool:=PySem.W.keepIn K (.ref (d.at_ K)) && (match K.lookup (d.at_ K) with
 | some ⟨_,_,.func fd,_⟩=>PySem.W.codeIn K fd.code d.qual && (dflB K fd.defaults (d.dvs K) && kwdB K fd.kwdefaults (d.kws K))
 | _=>false)
abbrev AlY:Type:=Bool×List FnW
def obsYK (fa:List Fa) (fn:List DefE) (ex:PySem.W.Frag->Bool) (K:PySem.W.Frag):AlY:=((fa.all fun f=>f.ok K) && (fn.all (fun d=>d.ok K) && ex K),fn.map fun d=>fnE K (d.at_ K))
def valY (fn:List DefE):AlY:=(true,fn.map DefE.val)
structure SaysY (fa:List Fa) (fn:List DefE) (tf:List Defn) (ex:PySem.W.Frag->Bool) (h:Heap) (K:PySem.W.Frag):Prop where
 t:obsYK fa fn ex K=valY fn
 hd:∀ p∈tf,PySem.W.codeHdIn K (cT K p).1 (cT K p).2=true
 out:∀ p∈tf,K.lookup (cT K p).2=none
 empty:∀ p∈tf,h.get? (cT K p).2=some { cls:=.none,data:=.fields #[] }
abbrev AlYX:Type:=AlY×Bool
end He
namespace DL
open PySem PySem.Spec PyProof.Rows L2
def oclB (K:PySem.W.Frag) (x:Str) (fs:List Str):Bool:=cloB K (He.ga K x) && ((He.Fa.mkr x).ok K && (decide (PySem.W.findIn K (.ref (He.ga K x)) "__ne__"=some (some (.builtin "object.__ne__"))) && fs.all fun f=>decide (PySem.W.findIn K (.ref (He.ga K x)) f=some none)))
end DL
namespace DL
open PySem PySem.Spec PyProof.Rows L2 Mt
theorem Rg1.ok {M M':Mem} (g:Rg1 M M') (ok:okM M.length M):okM M'.length M':=by
 obtain ⟨r,_,rfl⟩:=g
 have:=ok.app (o:=r.mo) (r.hb _)
 simpa using this
theorem Rg1.at {M M':Mem} (g:Rg1 M M'):RgAt M' M.length:=by
 obtain ⟨r,ok,rfl⟩:=g
 exact .last ok
end DL
namespace DL
open PySem PySem.Spec PyProof.Rows L2
def RgL (M L M':Mem):Prop:=∃ r:Rng,r.Ok/\M'=M ++ (some r.mo :: L)
theorem RgL.at {M L M':Mem} (g:RgL M L M'):RgAt M' M.length:=by
 obtain ⟨r,ok,rfl⟩:=g
 exact ⟨r,by simp,ok⟩
end DL
namespace DL
abbrev lkF (f:PySem.Str) (fs:List (PySem.Str×D)):Option D:=fs.lookup f
end DL
namespace DL
open PySem PySem.Spec PyProof.Rows L2 Mt
def bigQ (q:Rat):Bool:=decide (10 ^ 60<=(q.num.natAbs:Int)) || decide (10 ^ 60<=(q.den:Int))
theorem RgL.app {M L M':Mem} {o:Option MO} (g:RgL M L M'):RgL M (L ++ [o]) (M' ++ [o]):=by
 obtain ⟨r,ok,rfl⟩:=g
 exact ⟨r,ok,by simp⟩
theorem RgL.len {M L M':Mem} (g:RgL M L M'):M'.length=M.length+1+L.length:=by
 obtain ⟨r,ok,rfl⟩:=g
 simp;omega
theorem RgL.last {M L M':Mem} {o:Option MO} (g:RgL M (L ++ [o]) M'):M'[M.length+1+L.length]?=some o:=by
 obtain ⟨r,ok,rfl⟩:=g
 rw [List.getElem?_append_right (by omega)]
 have:M.length+1+L.length - M.length=L.length+1:=by omega
 rw [this,List.getElem?_cons_succ]
 simp
theorem RgL.set {M L M':Mem} {o o':Option MO} (g:RgL M (L ++ [o]) M'):RgL M (L ++ [o']) (M'.set (M.length+1+L.length) o'):=by
 obtain ⟨r,ok,rfl⟩:=g
 refine ⟨r,ok,?_⟩
 rw [List.set_append_right _ _ (by omega)]
 have:M.length+1+L.length - M.length=L.length+1:=by omega
 rw [this,List.set_cons_succ]
 simp
theorem okM.app' {M:Mem} {o:MO} (ok:okM M.length M) (h:o.hb (M.length+1)=true):okM (M ++ [some o]).length (M ++ [some o]):=by
 have:=ok.app h
 simpa using this
theorem okM.set' {M:Mem} {i:Nat} {o:MO} (ok:okM M.length M) (h:o.hb M.length=true):okM (M.set i (some o)).length (M.set i (some o)):=by
 rw [List.length_set];exact ok.set h
end DL
namespace ZN
open PySem PySem.Spec PyProof.Rows L2
open PySem.Sem (wp)
structure Sb where
 tp:Bool
 it:Addr
 l:Addr
def Sb.At (h:Heap) (k:Nat):Sb->Prop
 | ⟨true,it,l⟩=>h.IsTupleIter it l k
 | ⟨false,it,l⟩=>h.IsListIter it l k
theorem Sb.At.obj {h:Heap} {k:Nat} {b:Sb} (x:b.At h k):∃ o,h.get? b.it=some o/\∀ v,o.data≠.cell v:=by
 obtain ⟨tp,it,l⟩:=b
 cases tp
 ·obtain ⟨o,e,_,d⟩:=x
  exact ⟨o,e,fun v q=>by rw [d] at q;cases q⟩
 ·obtain ⟨o,e,_,d⟩:=x
  exact ⟨o,e,fun v q=>by rw [d] at q;cases q⟩
section
variable {prog:Program} {w:World} {A:Around} {E:Value->Shared->Prop} {s:Shared}
structure Apart (z TI TO:Addr) (bs:List (Sb×Array Value)):Prop where
 TIz:TI≠z
 TOz:TO≠z
 TITO:TI≠TO
 nd:(bs.map (·.1.it)).Nodup
 itz:∀ p∈bs,p.1.it≠z
 itTI:∀ p∈bs,p.1.it≠TI
 itTO:∀ p∈bs,p.1.it≠TO
 lz:∀ p∈bs,p.1.l≠z
 lTO:∀ p∈bs,p.1.l≠TO
 lit:∀ p∈bs,∀ q∈bs,p.1.l≠q.1.it
theorem Apart.head {z TI TO:Addr} {p:Sb×Array Value} {bs:List (Sb×Array Value)} (D:Apart z TI TO (p :: bs)):∀ q∈bs,q.1.it≠p.1.it:=fun q h e =>
 (List.nodup_cons.mp D.nd).1 (List.mem_map.mpr ⟨q,h,e⟩)
inductive Hds (k:Nat):List (Sb×Array Value)->List Value->Prop
 | nil:Hds k [] []
 | cons {p:Sb×Array Value} {u:Value} {bs:List (Sb×Array Value)} {us:List Value}:p.2[k]?=some u->Hds k bs us->Hds k (p :: bs) (u :: us)
theorem Hds.len {k:Nat}:∀ {bs:List (Sb×Array Value)} {us:List Value},Hds k bs us->us.length=bs.length
 | _,_,.nil=>rfl
 | _,_,.cons _ h=>by simp [h.len]
end
end ZN
namespace ZN
open PySem PySem.Spec PyProof.Rows L2
def SqX (K:PySem.W.Frag) (H:Hp) (xs:List V):Bool×Addr->Prop
 | (true,a)=>SqT K H a xs
 | (false,a)=>SqL K H a xs
inductive Sqs (K:PySem.W.Frag) (H:Hp):List (Bool×Addr)->List (List V)->Prop
 | nil:Sqs K H [] []
 | cons {t:Bool×Addr} {r:List V} {ts:List (Bool×Addr)} {rs:List (List V)}:SqX K H r t->Sqs K H ts rs->Sqs K H (t :: ts) (r :: rs)
inductive Col (i:Nat):List (List V)->List V->Prop
 | nil:Col i [] []
 | cons {r:List V} {u:V} {rs:List (List V)} {us:List V}:r[i]?=some u->Col i rs us->Col i (r :: rs) (u :: us)
section
variable {X:Cx} {pins:List (Addr×Obj)} {σ:L2.St} {H:Hp} {s:Shared}
def key (b:Sb):Bool×Addr:=(b.tp,b.l)
end
theorem Col.len {i:Nat}:∀ {rows:List (List V)} {us:List V},Col i rows us->us.length=rows.length
 | _,_,.nil=>rfl
 | _,_,.cons _ h=>by simp [h.len]
theorem Sqs.len {K:PySem.W.Frag} {H:Hp}:∀ {ts:List (Bool×Addr)} {rows:List (List V)},Sqs K H ts rows->rows.length=ts.length
 | _,_,.nil=>rfl
 | _,_,.cons _ h=>by simp [h.len]
def itO:Bool×Addr->Obj
 | (true,l)=>{ cls:=.type "tuple_iterator",data:=.fields #[.ref l,.int 0 0] }
 | (false,l)=>{ cls:=.type "list_iterator",data:=.fields #[.ref l,.int 0 0] }
def BaseK (h:Heap) (xs:Array Value):Bool×Addr->Prop
 | (true,l)=>h.IsTuple l xs
 | (false,l)=>h.IsList l xs
theorem BaseK.push {h:Heap} {xs:Array Value} {t:Bool×Addr} (x:BaseK h xs t) (o:Obj):BaseK (h.push o) xs t:=by
 obtain ⟨tp,l⟩:=t
 cases tp
 ·exact Heap.IsList.push x o
 ·exact Heap.IsTuple.push x o
theorem BaseK.lt {h:Heap} {xs:Array Value} {t:Bool×Addr} (x:BaseK h xs t):t.2 < h.objs.size:=by
 obtain ⟨tp,l⟩:=t
 cases tp
 ·obtain ⟨o,e,_⟩:=x;exact Heap.lt_size e
 ·obtain ⟨o,e,_⟩:=x;exact Heap.lt_size e
abbrev z2 (h:Heap) (t1 t2:Bool×Addr):Heap:=(h.push (itO t1)).push (itO t2)
abbrev z3 (h:Heap) (t1 t2:Bool×Addr):Heap:=(z2 h t1 t2).push { cls:=.type "tuple",data:=.seq #[.ref h.objs.size,.ref (h.push (itO t1)).objs.size] }
abbrev z4 (h:Heap) (t1 t2:Bool×Addr):Heap:=(z3 h t1 t2).push { cls:=.type "tuple",data:=.seq #[.none,.none] }
abbrev y3 (h:Heap) (t1 t2 t3:Bool×Addr):Heap:=(z2 h t1 t2).push (itO t3)
end ZN
namespace DL
open PySem PySem.Spec PyProof.Rows L2 ZN
def asS:D->Option (List D)
 | .tup xs=>some xs
 | .lst xs=>some xs
 | .rol xs=>some xs
 | _=>none
end DL
namespace DL
structure Pt where
 a:Rat
 l:Rat
 v:Rat
 r:Rat
deriving DecidableEq
def Pt.mv (q:Pt) (t p r:Rat):Pt:=⟨q.a+t * p,q.l+t * r,q.v+t * r,q.r+t * r⟩
def slB (q q':Pt):Rat:=(q'.l - q.r) / (q'.a - q.a)
def nextPts (p r:Rat):List Pt->List Pt
 | []=>[]
 | q :: qs=>qs ++ [q.mv 1 p r]
structure okPt (p:Rat) (q:Pt):Prop where
 lo:¬ q.a < 0
 hi:q.a < p
 lv:¬ q.v < q.l
 vr:¬ q.r < q.v
structure okPr (x:Pt×Pt):Prop where
 lt:x.1.a < x.2.a
 le:¬ x.2.l < x.1.r
structure okPts (p r:Rat) (pts:List Pt):Prop where
 p0:0 < p
 r0:0 < r
 pt:∀ q∈pts,okPt p q
 pr:∀ x∈pts.zip (nextPts p r pts),okPr x
def ringP (p r:Rat) (q:Pt) (qs:List Pt):List Pt:=((q :: qs).getLast (by simp)).mv (-1) p r :: (q :: qs) ++ [q.mv 1 p r]
def isTrue3 (x:Pt×Pt×Pt):Bool:=(!decide (x.2.1.l=x.2.1.r)) || !decide (slB x.1 x.2.1=slB x.2.1 x.2.2)
def truePts (p r:Rat) (q:Pt) (qs:List Pt):List Pt:=(((ringP p r q qs).zip (((ringP p r q qs).drop 1).zip ((ringP p r q qs).drop 2))).filter isTrue3).map (·.2.1)
def laterP (p r:Rat) (pts:List Pt) (n:Nat):List Pt:=pts.drop n ++ (pts.take n).map fun x=>x.mv 1 p r
def repB (p r:Rat) (pts:List Pt) (n:Nat):Bool:=(pts.zip (laterP p r pts n)).all fun x=>decide (x.1.mv 1 (p / ((pts.length / n:Nat):Rat)) (r / ((pts.length / n:Nat):Rat))=x.2)
def goodN (p r:Rat) (pts:List Pt) (i:Nat):Bool:=decide (pts.length % (1+i)=0) && repB p r pts (1+i)
def eqParts (p r:Rat) (pts:List Pt):Nat:=match (List.range (pts.length - 1)).find? (goodN p r pts) with
 | some i=>pts.length / (1+i)
 | none=>1
def rowAt (p r:Rat) (row:List Pt) (k:Int):Pt:=((row[(k % row.length).toNat]?).getD ⟨0,0,0,0⟩).mv (k / row.length:Int) p r
structure Trk (S:Int->Pt):Prop where
 up:∀ k,(S k).a < (S (k+1)).a
 lv:∀ k,(S k).l<=(S k).v
 vr:∀ k,(S k).v<=(S k).r
 ri:∀ k,(S k).r<=(S (k+1)).l
 hi:∀ x:Rat,∃ k,x < (S k).a
 lo:∀ x:Rat,∃ k,(S k).a < x
theorem Trk.upN {S:Int->Pt} (h:Trk S) (k:Int):∀ n:Nat,(S k).a < (S (k+n+1)).a
 | 0=>by simpa using h.up k
 | n+1=>by
  have h1:=h.upN k n
  have h2:=h.up (k+n+1)
  have e:k+((n+1:Nat):Int)+1=k+n+1+1:=by omega
  rw [e]
  exact Std.lt_trans h1 h2
theorem Trk.lt {S:Int->Pt} (h:Trk S) {i j:Int} (hij:i < j):(S i).a < (S j).a:=by
 have:=h.upN i (j - i - 1).toNat
 rw [show i+((j - i - 1).toNat:Int)+1=j from by omega] at this
 exact this
theorem Trk.lt_iff {S:Int->Pt} (h:Trk S) {i j:Int}:(S i).a < (S j).a ↔ i < j:=by
 constructor
 ·intro g
  rcases Int.lt_trichotomy i j with e | e | e
  ·exact e
  ·subst e;exact absurd g (by grind)
  ·have:=h.lt e;exact absurd g (by grind)
 ·exact h.lt
theorem Trk.inj {S:Int->Pt} (h:Trk S) {i j:Int} (e:(S i).a=(S j).a):i=j:=by
 rcases Int.lt_trichotomy i j with g | g | g
 ·have:=h.lt g;grind
 ·exact g
 ·have:=h.lt g;grind
def IsPl (S:Int->Pt) (x:Rat) (k:Int):Prop:=(S (k - 1)).a < x/\x<=(S k).a
theorem Trk.pl_ex {S:Int->Pt} (h:Trk S) (x:Rat):∃ k,IsPl S x k:=by
 obtain ⟨i,hi⟩:=h.lo x
 obtain ⟨j,hj⟩:=h.hi x
 have hij:i < j:=h.lt_iff.mp (Std.lt_trans hi hj)
 have:∀ n:Nat,x<=(S (i+n)).a->∃ k,IsPl S x k:=by
  intro n
  induction n with
  | zero=>intro g;simp at g;grind
  | succ n ih =>
   intro g
   by_cases z:x<=(S (i+n)).a
   ·exact ih z
   ·refine ⟨i+(n+1:Nat),?_,g⟩
    rw [show i+((n+1:Nat):Int) - 1=i+n from by omega]
    grind
 refine this (j - i).toNat ?_
 rw [show i+((j - i).toNat:Int)=j from by omega]
 grind
theorem Trk.pl_un {S:Int->Pt} (h:Trk S) {x:Rat} {i j:Int} (hi:IsPl S x i) (hj:IsPl S x j):i=j:=by
 have h1:(S (i - 1)).a < (S j).a:=by have:=hi.1;have:=hj.2;grind
 have h2:(S (j - 1)).a < (S i).a:=by have:=hj.1;have:=hi.2;grind
 have:=h.lt_iff.mp h1
 have:=h.lt_iff.mp h2
 omega
open Classical in
noncomputable def plc (S:Int->Pt) (x:Rat):Int:=if h:∃ k,IsPl S x k then h.choose else 0
theorem Trk.plc {S:Int->Pt} (h:Trk S) (x:Rat):IsPl S x (plc S x):=by
 unfold DL.plc
 rw [dif_pos (h.pl_ex x)]
 exact (h.pl_ex x).choose_spec
theorem Trk.plc_eq {S:Int->Pt} (h:Trk S) {x:Rat} {k:Int} (g:IsPl S x k):DL.plc S x=k:=h.pl_un (h.plc x) g
structure Arn where
 l:Rat
 v:Rat
 r:Rat
 sb:Rat
 sa:Rat
def arnAt (S:Int->Pt) (x:Rat) (k:Int):Arn :=
 if (S k).a=x then ⟨(S k).l,(S k).v,(S k).r,slB (S (k - 1)) (S k),slB (S k) (S (k+1))⟩
 else ⟨(S k).l - slB (S (k - 1)) (S k) * ((S k).a - x),(S k).l - slB (S (k - 1)) (S k) * ((S k).a - x),(S k).l - slB (S (k - 1)) (S k) * ((S k).a - x),slB (S (k - 1)) (S k),slB (S (k - 1)) (S k)⟩
noncomputable def arn (S:Int->Pt) (x:Rat):Arn:=arnAt S x (plc S x)
theorem Trk.arn_pt {S:Int->Pt} (h:Trk S) {k:Int}:arn S (S k).a=⟨(S k).l,(S k).v,(S k).r,slB (S (k - 1)) (S k),slB (S k) (S (k+1))⟩:=by
 unfold arn
 have:DL.plc S (S k).a=k:=h.plc_eq ⟨h.lt (by omega),by grind⟩
 rw [this]
 unfold arnAt
 rw [if_pos rfl]
theorem slB_mul {q q':Pt} (h:q.a < q'.a):slB q q' * (q'.a - q.a)=q'.l - q.r:=by
 unfold slB
 rw [Rat.div_mul_cancel]
 intro z
 grind
theorem Trk.arn_in {S:Int->Pt} (h:Trk S) {k:Int} {x:Rat} (h1:(S k).a < x) (h2:x < (S (k+1)).a) :
  arn S x=⟨(S k).r+slB (S k) (S (k+1)) * (x - (S k).a),(S k).r+slB (S k) (S (k+1)) * (x - (S k).a),(S k).r+slB (S k) (S (k+1)) * (x - (S k).a),slB (S k) (S (k+1)),slB (S k) (S (k+1))⟩:=by
 unfold arn
 have e:DL.plc S x=k+1:=h.plc_eq ⟨by rw [show k+1 - 1=k from by omega];exact h1,by grind⟩
 rw [e]
 unfold arnAt
 rw [if_neg (by grind),show k+1 - 1=k from by omega]
 have hm:=slB_mul (h.up k)
 have:(S (k+1)).l - slB (S k) (S (k+1)) * ((S (k+1)).a - x)=(S k).r+slB (S k) (S (k+1)) * (x - (S k).a):=by grind
 rw [this]
theorem Pt.mv_mv (q:Pt) (s t p r:Rat):(q.mv s p r).mv t p r=q.mv (s+t) p r:=by
 unfold Pt.mv
 simp only [Pt.mk.injEq]
 refine ⟨?_,?_,?_,?_⟩ <;> grind
theorem Pt.mv_0 (q:Pt) (p r:Rat):q.mv 0 p r=q:=by
 unfold Pt.mv
 cases q
 simp only [Pt.mk.injEq]
 refine ⟨?_,?_,?_,?_⟩ <;> grind
section
variable {p r:Rat} {row:List Pt}
theorem rowAt_nat (j:Nat) (hj:j < row.length):rowAt p r row j=row[j]:=by
 unfold rowAt
 have h1:((j:Int) % (row.length:Int))=j:=Int.emod_eq_of_lt (by omega) (by omega)
 have h2:((j:Int) / (row.length:Int))=0:=Int.ediv_eq_zero_of_lt (by omega) (by omega)
 rw [h1,h2,Int.toNat_natCast,List.getElem?_eq_getElem hj]
 exact Pt.mv_0 ..
theorem rowAt_add (hn:row≠[]) (k t:Int):rowAt p r row (k+t * row.length)=(rowAt p r row k).mv t p r:=by
 have hl:(row.length:Int)≠0:=by have:=List.length_pos_iff.mpr hn;omega
 unfold rowAt
 rw [Int.add_mul_emod_self_right,Int.add_mul_ediv_right _ _ hl,Pt.mv_mv,Rat.intCast_add]
theorem rowAt_wrap (hn:row≠[]):rowAt p r row row.length=(row.head hn).mv 1 p r:=by
 have h:=rowAt_add (p:=p) (r:=r) hn 0 1
 have hl:=List.length_pos_iff.mpr hn
 rw [show (0:Int)+1 * row.length=row.length from by omega] at h
 rw [h,show ((0:Int))=((0:Nat):Int) from rfl,rowAt_nat 0 hl,List.head_eq_getElem]
 rfl
theorem rowAt_split (hn:row≠[]) (k:Int):∃ (j:Nat) (t:Int),j < row.length/\k=j+t * row.length:=by
 have hl:=List.length_pos_iff.mpr hn
 refine ⟨(k % row.length).toNat,k / row.length,?_,?_⟩
 ·have:=Int.emod_lt_of_pos k (show (0:Int) < row.length by omega)
  have:=Int.emod_nonneg k (show (row.length:Int)≠0 by omega)
  omega
 ·have:=Int.emod_nonneg k (show (row.length:Int)≠0 by omega)
  have:=Int.emod_add_mul_ediv k row.length
  rw [Int.mul_comm] at this
  omega
theorem nextPts_get (j:Nat) (hj:j < row.length):(nextPts p r row)[j]?=some (rowAt p r row (j+1)):=by
 cases row with
 | nil=>simp at hj
 | cons q qs =>
  unfold nextPts
  simp only [List.length_cons] at hj
  by_cases h:j < qs.length
  ·rw [List.getElem?_append_left h,show ((j:Int)+1)=((j+1:Nat):Int) from rfl,rowAt_nat (j+1) (by simp;omega),List.getElem?_eq_getElem h]
   rfl
  ·have:j=qs.length:=by omega
   subst this
   rw [List.getElem?_append_right (by omega),show ((qs.length:Int)+1)=((q :: qs).length:Int) from by simp,rowAt_wrap (by simp)]
   simp
theorem okPts.pr' (h:okPts p r row) (j:Nat) (hj:j < row.length):okPr (rowAt p r row j,rowAt p r row (j+1)):=by
 refine h.pr _ ?_
 refine List.mem_iff_getElem?.mpr ⟨j,?_⟩
 rw [List.getElem?_zip_eq_some]
 refine ⟨?_,nextPts_get j hj⟩
 show row[j]?=some (rowAt p r row j)
 rw [rowAt_nat j hj,List.getElem?_eq_getElem hj]
theorem int_between (x:Rat):∃ n:Int,x < n/\(n:Rat)<=x+1:=⟨x.floor+1,Rat.lt_floor_add_one x,by have:=Rat.floor_le x;rw [Rat.intCast_add];grind⟩
theorem okPts.trk (h:okPts p r row) (hn:row≠[]):Trk (rowAt p r row):=by
 have hl:=List.length_pos_iff.mpr hn
 have step:∀ k,∃ (j:Nat) (t:Int),j < row.length/\rowAt p r row k=(rowAt p r row j).mv t p r/\rowAt p r row (k+1)=(rowAt p r row (j+1)).mv t p r:=fun k=>by
  obtain ⟨j,t,hj,rfl⟩:=rowAt_split hn k
  refine ⟨j,t,hj,rowAt_add hn _ _,?_⟩
  rw [<- rowAt_add hn]
  congr 1
  omega
 have mem:∀ k,∃ (q:Pt) (t:Int),q∈row/\rowAt p r row k=q.mv t p r:=fun k=>by
  obtain ⟨j,t,hj,e,_⟩:=step k
  exact ⟨row[j],t,List.getElem_mem hj,by rw [e,rowAt_nat j hj]⟩
 have h0:∀ t:Int,rowAt p r row (t * row.length)=(row[0]).mv t p r:=fun t=>by
  have:=rowAt_add (p:=p) (r:=r) hn 0 t
  rw [Int.zero_add] at this
  rw [this,show (0:Int)=((0:Nat):Int) from rfl,rowAt_nat 0 hl]
 refine ⟨fun k=>?_,fun k=>?_,fun k=>?_,fun k=>?_,fun x=>?_,fun x=>?_⟩
 ·obtain ⟨j,t,hj,e1,e2⟩:=step k
  rw [e1,e2]
  have:=(h.pr' j hj).lt
  show _+_ < _+_
  grind
 ·obtain ⟨q,t,hq,e⟩:=mem k
  rw [e]
  have:=(h.pt q hq).lv
  show _+_<=_+_
  grind
 ·obtain ⟨q,t,hq,e⟩:=mem k
  rw [e]
  have:=(h.pt q hq).vr
  show _+_<=_+_
  grind
 ·obtain ⟨j,t,hj,e1,e2⟩:=step k
  rw [e1,e2]
  have:=(h.pr' j hj).le
  show _+_<=_+_
  grind
 ·obtain ⟨n,hn1,_⟩:=int_between (x / p)
  refine ⟨n * row.length,?_⟩
  rw [h0]
  have p0:=h.p0
  have q0:=(h.pt _ (List.getElem_mem hl)).lo
  have:x < n * p:=(Rat.div_lt_iff p0).mp hn1
  show x < _+_
  grind
 ·obtain ⟨n,hn1,hn2⟩:=int_between ((x - row[0].a) / p)
  refine ⟨(n - 2) * row.length,?_⟩
  rw [h0]
  have p0:=h.p0
  have:(n:Rat) - 2 < (x - row[0].a) / p:=by grind
  have:((n:Rat) - 2) * p < (x - row[0].a):=(Rat.lt_div_iff p0).mp this
  show _+_ < x
  rw [Rat.intCast_sub]
  grind
end
end DL
namespace DL
def isT (S:Int->Pt) (k:Int):Bool:=isTrue3 (S (k - 1),S k,S (k+1))
theorem isT_no {S:Int->Pt} {k:Int} (h:isT S k=false):(S k).l=(S k).r/\slB (S (k - 1)) (S k)=slB (S k) (S (k+1)):=by
 unfold isT isTrue3 at h
 simpa using h
structure Sub (S S':Int->Pt) (f:Int->Int):Prop where
 eq:∀ j,S' j=S (f j)
 up:∀ j,f j < f (j+1)
 no:∀ j k,f j < k->k < f (j+1)->isT S k=false
theorem Trk.le {S:Int->Pt} (h:Trk S) {i j:Int} (hij:i < j):(S i).r<=(S j).l:=by
 have:∀ n:Nat,(S i).r<=(S (i+n+1)).l:=by
  intro n
  induction n with
  | zero=>simpa using h.ri i
  | succ n ih =>
   have h1:=h.lv (i+n+1)
   have h2:=h.vr (i+n+1)
   have h3:=h.ri (i+n+1)
   rw [show i+((n+1:Nat):Int)+1=i+n+1+1 from by omega]
   grind
 have:=this (j - i - 1).toNat
 rw [show i+((j - i - 1).toNat:Int)+1=j from by omega] at this
 exact this
theorem Trk.run {S:Int->Pt} (h:Trk S) {i j:Int} (hij:i < j) (no:∀ k,i < k->k < j->isT S k=false) (m:Int) (h1:i<=m) (h2:m < j) :
  slB (S m) (S (m+1))=slB (S i) (S (i+1))/\(S (m+1)).l=(S i).r+slB (S i) (S (i+1)) * ((S (m+1)).a - (S i).a)/\(S m).r=(S i).r+slB (S i) (S (i+1)) * ((S m).a - (S i).a):=by
 have:∀ n:Nat,i+n < j->slB (S (i+n)) (S (i+n+1))=slB (S i) (S (i+1))/\(S (i+n+1)).l=(S i).r+slB (S i) (S (i+1)) * ((S (i+n+1)).a - (S i).a)/\(S (i+n)).r=(S i).r+slB (S i) (S (i+1)) * ((S (i+n)).a - (S i).a):=by
  intro n
  induction n with
  | zero =>
   intro _
   have:=slB_mul (h.up i)
   simp only [Int.natCast_zero,Int.add_zero]
   refine ⟨trivial,?_,?_⟩ <;> grind
  | succ n ih =>
   intro hn
   obtain ⟨a1,a2,a3⟩:=ih (by omega)
   have hno:=isT_no (no (i+n+1) (by omega) (by omega))
   rw [show i+(n:Int)+1 - 1=i+n from by omega] at hno
   have hm:=slB_mul (h.up (i+n+1))
   rw [show i+((n+1:Nat):Int)=i+n+1 from by omega]
   obtain ⟨b1,b2⟩:=hno
   have c1:slB (S (i+n+1)) (S (i+n+1+1))=slB (S i) (S (i+1)):=by rw [<- b2];exact a1
   rw [c1] at hm
   refine ⟨c1,?_,?_⟩ <;> grind
 have:=this (m - i).toNat (by omega)
 rw [show i+((m - i).toNat:Int)=m from by omega] at this
 exact this
theorem Trk.flat {S:Int->Pt} (h:Trk S) {k:Int} (no:isT S k=false):(S k).l=(S k).v/\(S k).r=(S k).v:=by
 have:=(isT_no no).1
 have:=h.lv k
 have:=h.vr k
 constructor <;> grind
theorem Sub.trk {S S':Int->Pt} {f:Int->Int} (s:Sub S S' f) (h:Trk S):Trk S':=by
 have fn:∀ n:Nat,∀ i,f i+n<=f (i+n):=by
  intro n
  induction n with
  | zero=>intro i;simp
  | succ n ih =>
   intro i
   have:=ih i
   have:=s.up (i+n)
   rw [show i+((n+1:Nat):Int)=i+n+1 from by omega]
   omega
 refine ⟨fun k=>?_,fun k=>?_,fun k=>?_,fun k=>?_,fun x=>?_,fun x=>?_⟩
 ·rw [s.eq,s.eq];exact h.lt (s.up k)
 ·rw [s.eq];exact h.lv _
 ·rw [s.eq];exact h.vr _
 ·rw [s.eq,s.eq];exact h.le (s.up k)
 ·obtain ⟨k,hk⟩:=h.hi x
  have:=fn (k - f 0).toNat 0
  by_cases z:f 0<=k
  ·refine ⟨(0:Int)+(k - f 0).toNat,?_⟩
   rw [s.eq]
   have:k<=f (0+(k - f 0).toNat):=by omega
   rcases Int.lt_or_eq_of_le this with e | e
   ·exact Std.lt_trans hk (h.lt e)
   ·rw [<- e];exact hk
  ·refine ⟨0,?_⟩
   rw [s.eq]
   exact Std.lt_trans hk (h.lt (by omega))
 ·obtain ⟨k,hk⟩:=h.lo x
  by_cases z:k<=f 0
  ·refine ⟨-((f 0 - k).toNat:Int),?_⟩
   rw [s.eq]
   have:=fn (f 0 - k).toNat (-((f 0 - k).toNat:Int))
   rw [show -((f 0 - k).toNat:Int)+((f 0 - k).toNat:Int)=0 from by omega] at this
   have:f (-((f 0 - k).toNat:Int))<=k:=by omega
   rcases Int.lt_or_eq_of_le this with e | e
   ·exact Std.lt_trans (h.lt e) hk
   ·rw [e];exact hk
  ·refine ⟨0,?_⟩
   rw [s.eq]
   exact Std.lt_trans (h.lt (by omega)) hk
theorem Sub.sl {S S':Int->Pt} {f:Int->Int} (s:Sub S S' f) (h:Trk S) (j m:Int) (h1:f j<=m) (h2:m < f (j+1)):slB (S' j) (S' (j+1))=slB (S m) (S (m+1)):=by
 have r1:=h.run (s.up j) (s.no j) m h1 h2
 have r2:=h.run (s.up j) (s.no j) (f (j+1) - 1) (by omega) (by omega)
 rw [show f (j+1) - 1+1=f (j+1) from by omega] at r2
 rw [r1.1,s.eq,s.eq]
 have lt:=h.lt (s.up j)
 show (_ - _) / (_ - _)=_
 rw [r2.2.1]
 have:(S (f (j+1))).a - (S (f j)).a≠0:=by grind
 generalize slB (S (f j)) (S (f j+1))=z
 rw [show (S (f j)).r+z * ((S (f (j+1))).a - (S (f j)).a) - (S (f j)).r=z * ((S (f (j+1))).a - (S (f j)).a) from by grind,Rat.mul_div_cancel this]
theorem Sub.arn {S S':Int->Pt} {f:Int->Int} (s:Sub S S' f) (h:Trk S) (x:Rat):arn S' x=arn S x:=by
 have h':=s.trk h
 obtain ⟨g1,g2⟩:=h'.plc x
 generalize DL.plc S' x=k at g1 g2
 obtain ⟨j,rfl⟩:∃ j,k=j+1:=⟨k - 1,by omega⟩
 rw [show j+1 - 1=j from by omega] at g1
 by_cases e:x=(S' (j+1)).a
 ·subst e
  rw [h'.arn_pt,s.sl h (j+1) (f (j+1)) (by omega) (s.up _),show j+1 - 1=j from by omega,s.sl h j (f (j+1) - 1) (by have:=s.up j;omega) (by omega),show f (j+1) - 1+1=f (j+1) from by omega,s.eq,h.arn_pt]
 have g3:x < (S' (j+1)).a:=by grind
 rw [h'.arn_in g1 g3]
 rw [s.eq] at g1 g3
 obtain ⟨q1,q2⟩:=h.plc x
 generalize DL.plc S x=k' at q1 q2
 obtain ⟨m,rfl⟩:∃ m,k'=m+1:=⟨k' - 1,by omega⟩
 rw [show m+1 - 1=m from by omega] at q1
 have m1:f j<=m:=by
  have:(S (f j)).a < (S (m+1)).a:=by grind
  have:=h.lt_iff.mp this
  omega
 have m2:m < f (j+1):=h.lt_iff.mp (by grind)
 have rn:=h.run (s.up j) (s.no j) m m1 m2
 rw [s.sl h j m m1 m2]
 by_cases e2:x=(S (m+1)).a
 ·subst e2
  have m3:m+1 < f (j+1):=h.lt_iff.mp g3
  have nt:=s.no j (m+1) (by omega) m3
  have fl:=h.flat nt
  have sl:=(isT_no nt).2
  rw [show m+1 - 1=m from by omega] at sl
  rw [h.arn_pt,show m+1 - 1=m from by omega,<- sl,s.eq]
  rw [rn.1] at *
  rw [fl.2,<- fl.1,rn.2.1]
 ·rw [h.arn_in q1 (by grind)]
  rw [s.eq,rn.1]
  have:(S (f j)).r+slB (S (f j)) (S (f j+1)) * (x - (S (f j)).a)=(S m).r+slB (S (f j)) (S (f j+1)) * (x - (S m).a):=by grind
  rw [this]
section
variable {p r:Rat} {row:List Pt}
theorem rowAt_neg1 (hn:row≠[]):rowAt p r row (-1)=(row.getLast hn).mv (-1) p r:=by
 have hl:=List.length_pos_iff.mpr hn
 have h:=rowAt_add (p:=p) (r:=r) hn ((row.length - 1:Nat):Int) (-1)
 rw [show ((row.length - 1:Nat):Int) + -1 * row.length = -1 from by omega] at h
 rw [h,rowAt_nat _ (by omega),List.getLast_eq_getElem]
 rfl
theorem ring_get {q:Pt} {qs:List Pt} (j:Nat) (hj:j < qs.length+3):(ringP p r q qs)[j]?=some (rowAt p r (q :: qs) ((j:Int) - 1)):=by
 unfold ringP
 cases j with
 | zero =>
  rw [show ((0:Nat):Int) - 1 = -1 from rfl,rowAt_neg1 (by simp)]
  rfl
 | succ j =>
  rw [show ((j+1:Nat):Int) - 1=j from by omega]
  show ((q :: qs) ++ [q.mv 1 p r])[j]?=_
  by_cases h:j < (q :: qs).length
  ·rw [List.getElem?_append_left h,rowAt_nat j h,List.getElem?_eq_getElem h]
  ·have:j=(q :: qs).length:=by simp at h ⊢;omega
   subst this
   rw [rowAt_wrap (by simp),List.getElem?_append_right (by omega)]
   simp
theorem triples {q:Pt} {qs:List Pt}:(ringP p r q qs).zip (((ringP p r q qs).drop 1).zip ((ringP p r q qs).drop 2))=(List.range (q :: qs).length).map fun i:Nat=>(rowAt p r (q :: qs) ((i:Int) - 1),rowAt p r (q :: qs) i,rowAt p r (q :: qs) (i+1)):=by
 have hl:(ringP p r q qs).length=qs.length+3:=by simp [ringP]
 apply List.ext_getElem?
 intro i
 by_cases h:i < qs.length+1
 ·rw [List.getElem?_map,List.getElem?_range (by simpa using h)]
  simp only [Option.map_some]
  rw [List.getElem?_zip_eq_some]
  refine ⟨ring_get i (by omega),?_⟩
  rw [List.getElem?_zip_eq_some,List.getElem?_drop,List.getElem?_drop,ring_get _ (by omega),ring_get _ (by omega)]
  simp only [Option.some.injEq]
  constructor <;> (congr 1;omega)
 ·rw [List.getElem?_eq_none (by simp [hl];omega),List.getElem?_eq_none (by simp;omega)]
def trueI (p r:Rat) (row:List Pt):List Nat:=(List.range row.length).filter fun i:Nat=>isT (rowAt p r row) i
theorem truePts_eq {q:Pt} {qs:List Pt}:truePts p r q qs=(trueI p r (q :: qs)).map fun i:Nat=>rowAt p r (q :: qs) i:=by
 unfold truePts trueI
 rw [triples,List.filter_map,List.map_map]
 rfl
theorem isT_per (hn:row≠[]) (k t:Int):isT (rowAt p r row) (k+t * row.length)=isT (rowAt p r row) k:=by
 unfold isT
 rw [show k+t * (row.length:Int) - 1=k - 1+t * row.length from by omega,show k+t * (row.length:Int)+1=k+1+t * row.length from by omega,rowAt_add hn,rowAt_add hn,rowAt_add hn]
 unfold isTrue3 slB Pt.mv
 simp only []
 rw [show (rowAt p r row k).l+↑t * r - ((rowAt p r row (k - 1)).r+↑t * r)=(rowAt p r row k).l - (rowAt p r row (k - 1)).r from by grind,
  show (rowAt p r row k).a+↑t * p - ((rowAt p r row (k - 1)).a+↑t * p)=(rowAt p r row k).a - (rowAt p r row (k - 1)).a from by grind,
  show (rowAt p r row (k+1)).l+↑t * r - ((rowAt p r row k).r+↑t * r)=(rowAt p r row (k+1)).l - (rowAt p r row k).r from by grind,
  show (rowAt p r row (k+1)).a+↑t * p - ((rowAt p r row k).a+↑t * p)=(rowAt p r row (k+1)).a - (rowAt p r row k).a from by grind]
 have:decide ((rowAt p r row k).l+↑t * r=(rowAt p r row k).r+↑t * r)=decide ((rowAt p r row k).l=(rowAt p r row k).r):=by
  rw [Bool.eq_iff_iff,decide_eq_true_iff,decide_eq_true_iff]
  constructor <;> intro h <;> grind
 rw [this]
def subF (I:List Nat) (n:Nat) (j:Int):Int:=((I[(j % I.length).toNat]?).getD 0:Nat)+(j / I.length) * n
theorem subF_at {I:List Nat} {n:Nat} (j:Nat) (t:Int) (hj:j < I.length):subF I n (j+t * I.length)=I[j]+t * n:=by
 unfold subF
 have hl:(I.length:Int)≠0:=by omega
 have h1:((j:Int) % (I.length:Int))=j:=Int.emod_eq_of_lt (by omega) (by omega)
 have h2:((j:Int) / (I.length:Int))=0:=Int.ediv_eq_zero_of_lt (by omega) (by omega)
 rw [Int.add_mul_emod_self_right,Int.add_mul_ediv_right _ _ hl,h1,h2,Int.toNat_natCast,List.getElem?_eq_getElem hj]
 simp
theorem isplit {m:Nat} (hm:0 < m) (k:Int):∃ (j:Nat) (t:Int),j < m/\k=j+t * m:=by
 refine ⟨(k % m).toNat,k / m,?_,?_⟩
 ·have:=Int.emod_lt_of_pos k (show (0:Int) < m by omega)
  have:=Int.emod_nonneg k (show (m:Int)≠0 by omega)
  omega
 ·have:=Int.emod_nonneg k (show (m:Int)≠0 by omega)
  have:=Int.emod_add_mul_ediv k m
  rw [Int.mul_comm] at this
  omega
theorem sub_true (hn:row≠[]) (hI:trueI p r row≠[]):Sub (rowAt p r row) (rowAt p r ((trueI p r row).map fun i:Nat=>rowAt p r row i)) (subF (trueI p r row) row.length):=by
 have hm:=List.length_pos_iff.mpr hI
 have pw:(trueI p r row).Pairwise (· < ·):=List.Pairwise.filter _ List.pairwise_lt_range
 have lt:∀ i∈trueI p r row,i < row.length:=fun i hi=>List.mem_range.mp (List.mem_filter.mp hi).1
 have mem:∀ i,i < row.length->isT (rowAt p r row) i=true->i∈trueI p r row:=fun i h1 h2=>List.mem_filter.mpr ⟨List.mem_range.mpr h1,h2⟩
 generalize hI':trueI p r row=I at *
 have fup:∀ j,subF I row.length j < subF I row.length (j+1):=fun k=>by
  obtain ⟨j,t,hj,rfl⟩:=isplit hm k
  rw [subF_at j t hj]
  by_cases h:j+1 < I.length
  ·rw [show (j:Int)+t * I.length+1=((j+1:Nat):Int)+t * I.length from by omega,subF_at _ t h]
   have:=List.pairwise_iff_getElem.mp pw j (j+1) hj h (by omega)
   omega
  ·have e:(j:Int)+t * I.length+1=((0:Nat):Int)+(t+1) * I.length:=by
    have:(j:Int)+1=I.length:=by omega
    rw [Int.add_mul];omega
   rw [e,subF_at _ _ hm]
   have:=lt _ (List.getElem_mem hj)
   rw [Int.add_mul]
   omega
 refine ⟨fun k=>?_,fup,fun j k h1 h2=>?_⟩
 ·obtain ⟨j,t,hj,rfl⟩:=isplit hm k
  have hne:I.map (fun i:Nat=>rowAt p r row i)≠[]:=by simpa using hI
  have:=rowAt_add (p:=p) (r:=r) hne j t
  rw [List.length_map] at this
  rw [this,rowAt_nat j (by simpa using hj),List.getElem_map,subF_at j t hj,rowAt_add hn]
 ·by_cases z:isT (rowAt p r row) k=true
  ·exfalso
   obtain ⟨i,t,hi,rfl⟩:=rowAt_split hn k
   rw [isT_per hn] at z
   obtain ⟨i',hi',rfl⟩:=List.mem_iff_getElem.mp (mem i hi z)
   have e:=subF_at (n:=row.length) i' t hi'
   rw [<- e] at h1 h2
   have mono:∀ a b,a<=b->subF I row.length a<=subF I row.length b:=fun a b hab=>by
    have:∀ n:Nat,subF I row.length a<=subF I row.length (a+n):=by
     intro n
     induction n with
     | zero=>simp
     | succ n ih =>
      have:=fup (a+n)
      rw [show a+((n+1:Nat):Int)=a+n+1 from by omega]
      omega
    have:=this (b - a).toNat
    rw [show a+((b - a).toNat:Int)=b from by omega] at this
    exact this
   rcases Int.lt_or_le j ((i':Int)+t * I.length) with g | g
   ·have:=mono _ _ (show j+1<=(i':Int)+t * I.length by omega)
    omega
   ·have:=mono _ _ g
    omega
  ·simpa using z
theorem okPts_of (p0:0 < p) (r0:0 < r) (hn:row≠[]) (h:Trk (rowAt p r row)) (hp:∀ q∈row,¬ q.a < 0/\q.a < p):okPts p r row:=by
 refine ⟨p0,r0,fun q hq=>?_,fun x hx=>?_⟩
 ·obtain ⟨j,hj,rfl⟩:=List.mem_iff_getElem.mp hq
  have h1:=h.lv j
  have h2:=h.vr j
  rw [rowAt_nat j hj] at h1 h2
  exact ⟨(hp _ hq).1,(hp _ hq).2,by grind,by grind⟩
 ·obtain ⟨j,hj⟩:=List.mem_iff_getElem?.mp hx
  obtain ⟨h1,h2⟩:=List.getElem?_zip_eq_some.mp hj
  have hjl:j < row.length:=(List.getElem?_eq_some_iff.mp h1).1
  rw [nextPts_get j hjl] at h2
  rw [List.getElem?_eq_getElem hjl,<- rowAt_nat (p:=p) (r:=r) j hjl] at h1
  obtain ⟨x1,x2⟩:=x
  simp only [Option.some.injEq] at h1 h2
  subst h1 h2
  have u:=h.up j
  have v:=h.ri j
  exact ⟨by grind,by grind⟩
theorem line_of (ok:okPts p r row) (hn:row≠[]) (hI:trueI p r row=[]) (x:Rat) :
  arn (rowAt p r row) x=(fun y=>⟨y,y,y,r / p,r / p⟩) ((row.head hn).v - r / p * (row.head hn).a+r / p * x):=by
 have h:=ok.trk hn
 have hl:=List.length_pos_iff.mpr hn
 have no:∀ k,isT (rowAt p r row) k=false:=fun k=>by
  obtain ⟨i,t,hi,rfl⟩:=rowAt_split hn k
  rw [isT_per hn]
  by_cases z:isT (rowAt p r row) i=true
  ·have:i∈trueI p r row:=List.mem_filter.mpr ⟨List.mem_range.mpr hi,z⟩
   rw [hI] at this;cases this
  ·simpa using z
 have hw:=rowAt_wrap (p:=p) (r:=r) hn
 have e0:rowAt p r row 0=row.head hn:=by
  rw [show (0:Int)=((0:Nat):Int) from rfl,rowAt_nat 0 hl,List.head_eq_getElem]
 have p0:=ok.p0
 have rn:∀ i m,i<=m->slB (rowAt p r row m) (rowAt p r row (m+1))=slB (rowAt p r row i) (rowAt p r row (i+1))/\(rowAt p r row m).r=(rowAt p r row i).r+slB (rowAt p r row i) (rowAt p r row (i+1)) * ((rowAt p r row m).a - (rowAt p r row i).a):=fun i m him=>by
  have:=h.run (i:=i) (j:=m+1) (by omega) (fun k _ _=>no k) m him (by omega)
  exact ⟨this.1,this.2.2⟩
 have fl:=fun k=>h.flat (no k)
 have sl:∀ k,slB (rowAt p r row k) (rowAt p r row (k+1))=slB (rowAt p r row 0) (rowAt p r row (0+1)):=fun k=>by
  rcases Int.le_total 0 k with g | g
  ·exact (rn 0 k g).1
  ·exact (rn k 0 g).1.symm
 have pt:∀ k,(rowAt p r row k).r=(rowAt p r row 0).r+slB (rowAt p r row 0) (rowAt p r row (0+1)) * ((rowAt p r row k).a - (rowAt p r row 0).a):=fun k=>by
  rcases Int.le_total 0 k with g | g
  ·exact (rn 0 k g).2
  ·have:=(rn k 0 g).2
   rw [sl k] at this
   grind
 have sl0:slB (rowAt p r row 0) (rowAt p r row (0+1))=r / p:=by
  have r1:=pt row.length
  have f0:=fl 0
  rw [hw,e0] at r1
  rw [e0] at f0
  rw [e0]
  generalize slB (row.head hn) (rowAt p r row (0+1))=z at *
  generalize row.head hn=q at *
  unfold Pt.mv at r1
  simp only [] at r1
  have:r=z * p:=by grind
  rw [this,Rat.mul_div_cancel (by grind)]
 have f0:=fl 0
 rw [sl0] at sl pt
 rw [e0] at pt f0
 obtain ⟨q1,q2⟩:=h.plc x
 generalize DL.plc (rowAt p r row) x=k' at q1 q2
 obtain ⟨m,rfl⟩:∃ m,k'=m+1:=⟨k' - 1,by omega⟩
 rw [show m+1 - 1=m from by omega] at q1
 by_cases e2:x=(rowAt p r row (m+1)).a
 ·subst e2
  have g:=pt (m+1)
  have f1:=fl (m+1)
  have s1:=sl m
  have s2:=sl (m+1)
  rw [h.arn_pt,show m+1 - 1=m from by omega,s1,s2,f1.1,f1.2]
  rw [f1.2] at g
  have:(row.head hn).v - r / p * (row.head hn).a+r / p * (rowAt p r row (m+1)).a=(rowAt p r row (m+1)).v:=by grind
  rw [this]
 ·rw [h.arn_in q1 (by grind),sl m]
  have g:=pt m
  have:(row.head hn).v - r / p * (row.head hn).a+r / p * x=(rowAt p r row m).r+r / p * (x - (rowAt p r row m).a):=by grind
  rw [this]
theorem laterP_get {n:Nat} (hn:row≠[]) (h0:0 < n) (hle:n<=row.length) (j:Nat) (hj:j < row.length):(laterP p r row n)[j]?=some (rowAt p r row ((j:Int)+n)):=by
 unfold laterP
 by_cases h:j < (row.drop n).length
 ·rw [List.getElem?_append_left h,List.getElem?_drop]
  rw [List.length_drop] at h
  rw [show (j:Int)+n=((n+j:Nat):Int) from by omega,rowAt_nat (n+j) (by omega),List.getElem?_eq_getElem]
 ·rw [List.getElem?_append_right (by omega)]
  rw [List.length_drop] at h ⊢
  rw [List.getElem?_map,List.getElem?_take_of_lt (by omega),List.getElem?_eq_getElem (by omega)]
  have:=rowAt_add (p:=p) (r:=r) hn ((j - (row.length - n):Nat):Int) 1
  rw [show ((j - (row.length - n):Nat):Int)+1 * row.length=(j:Int)+n from by omega,rowAt_nat _ (by omega)] at this
  rw [this]
  rfl
theorem rep_track {n k:Nat} (hn:row≠[]) (h0:0 < n) (hk:row.length=n * k) (hr:repB p r row n=true) (j:Int):rowAt p r row (j+n)=(rowAt p r row j).mv 1 (p / k) (r / k):=by
 have hl:=List.length_pos_iff.mpr hn
 have hk0:0 < k:=by
  rcases Nat.eq_zero_or_pos k with e | e
  ·subst e;omega
  ·exact e
 have hle:n<=row.length:=by rw [hk];exact Nat.le_mul_of_pos_right n hk0
 have ek:row.length / n=k:=by rw [hk,Nat.mul_div_cancel_left _ h0]
 unfold repB at hr
 rw [ek,List.all_eq_true] at hr
 have base:∀ i:Nat,i < row.length->rowAt p r row ((i:Int)+n)=(rowAt p r row i).mv 1 (p / k) (r / k):=fun i hi=>by
  have hm:(row[i],rowAt p r row ((i:Int)+n))∈row.zip (laterP p r row n):=List.mem_iff_getElem?.mpr ⟨i,List.getElem?_zip_eq_some.mpr ⟨List.getElem?_eq_getElem hi,laterP_get hn h0 hle i hi⟩⟩
  have:=of_decide_eq_true (hr _ hm)
  rw [rowAt_nat i hi]
  exact this.symm
 obtain ⟨i,t,hi,rfl⟩:=rowAt_split hn j
 rw [show (i:Int)+t * row.length+n=(i:Int)+n+t * row.length from by omega,rowAt_add hn,rowAt_add hn,base i hi]
 unfold Pt.mv
 simp only [Pt.mk.injEq]
 refine ⟨?_,?_,?_,?_⟩ <;> grind
theorem part_eq {n k:Nat} (hn:row≠[]) (h0:0 < n) (hk:row.length=n * k) (hr:repB p r row n=true) (j:Int):rowAt (p / k) (r / k) (row.take n) j=rowAt p r row j:=by
 have hl:=List.length_pos_iff.mpr hn
 have hk0:0 < k:=by
  rcases Nat.eq_zero_or_pos k with e | e
  ·subst e;omega
  ·exact e
 have hle:n<=row.length:=by rw [hk];exact Nat.le_mul_of_pos_right n hk0
 have tl:(row.take n).length=n:=by rw [List.length_take];omega
 have tne:row.take n≠[]:=fun z=>by rw [z] at tl;simp at tl;omega
 have up:∀ (m:Nat) (i:Int),rowAt p r row (i+m * n)=(rowAt p r row i).mv m (p / k) (r / k):=fun m i=>by
  induction m with
  | zero=>rw [show i+((0:Nat):Int) * n=i from by simp];exact (Pt.mv_0 ..).symm
  | succ m ih =>
   rw [show i+((m+1:Nat):Int) * n=i+m * n+n from by rw [Int.natCast_add,Int.add_mul];omega,rep_track hn h0 hk hr,ih,Pt.mv_mv,Rat.natCast_add]
   rfl
 obtain ⟨i,t,hi,rfl⟩:=rowAt_split tne j
 rw [rowAt_add tne,rowAt_nat i hi,tl]
 rw [tl] at hi
 rw [List.getElem_take,<- rowAt_nat (p:=p) (r:=r) i (by omega)]
 rcases Int.le_total 0 t with g | g
 ·have:=up t.toNat i
  rw [show ((t.toNat:Nat):Int)=t from by omega] at this
  rw [this]
  congr 1
  rw [<- Rat.intCast_natCast,show ((t.toNat:Nat):Int)=t from by omega]
 ·have:=up (-t).toNat (i+t * n)
  rw [show (((-t).toNat:Nat):Int) = -t from by omega] at this
  rw [show (i:Int)+t * n + -t * n=i from by rw [Int.neg_mul];omega] at this
  rw [this,Pt.mv_mv]
  have e:(((-t).toNat:Nat):Rat) = -(t:Rat):=by
   rw [<- Rat.intCast_natCast,show (((-t).toNat:Nat):Int) = -t from by omega,Rat.intCast_neg]
  rw [e]
  rw [show -(t:Rat)+t=0 from by grind,Pt.mv_0]
theorem ok_part {n k:Nat} (ok:okPts p r row) (hn:row≠[]) (h0:0 < n) (hk:row.length=n * k) (hr:repB p r row n=true):okPts (p / k) (r / k) (row.take n):=by
 have hl:=List.length_pos_iff.mpr hn
 have hk0:0 < k:=by
  rcases Nat.eq_zero_or_pos k with e | e
  ·subst e;omega
  ·exact e
 have hle:n<=row.length:=by rw [hk];exact Nat.le_mul_of_pos_right n hk0
 have tl:(row.take n).length=n:=by rw [List.length_take];omega
 have tne:row.take n≠[]:=fun z=>by rw [z] at tl;simp at tl;omega
 have e:rowAt (p / k) (r / k) (row.take n)=rowAt p r row:=funext (part_eq hn h0 hk hr)
 have trk:=ok.trk hn
 have k0:(0:Rat) < k:=by exact_mod_cast hk0
 refine okPts_of ?_ ?_ tne (by rw [e];exact trk) fun q hq=>?_
 ·rw [Rat.lt_div_iff k0,Rat.zero_mul];exact ok.p0
 ·rw [Rat.lt_div_iff k0,Rat.zero_mul];exact ok.r0
 ·refine ⟨(ok.pt q (List.mem_of_mem_take hq)).lo,?_⟩
  obtain ⟨j,hj,rfl⟩:=List.mem_iff_getElem.mp hq
  rw [List.getElem_take]
  rw [tl] at hj
  have a1:row[j]=rowAt p r row j:=(rowAt_nat j (by omega)).symm
  -- the point k - 1 parts later lies in the period
  have a2:=rowAt_add (p:=p / k) (r:=r / k) tne j (k - 1:Int)
  rw [part_eq hn h0 hk hr,part_eq hn h0 hk hr,tl] at a2
  have hjj:j+(k - 1) * n < row.length:=by
   rw [hk]
   have:(k - 1) * n+n=n * k:=by
    rw [Nat.mul_comm n k]
    conv=>rhs;rw [show k=k - 1+1 from by omega,Nat.add_mul,Nat.one_mul]
   omega
  rw [show (j:Int)+(k - 1) * n=((j+(k - 1) * n:Nat):Int) from by rw [Int.natCast_add,Int.natCast_mul,Int.natCast_sub (by omega)];rfl,rowAt_nat _ hjj] at a2
  have a3:=(ok.pt _ (List.getElem_mem hjj)).hi
  rw [a2] at a3
  rw [a1]
  rw [Rat.lt_div_iff k0]
  unfold Pt.mv at a3
  simp only [] at a3
  rw [Rat.intCast_sub] at a3
  have z:((k:Int):Rat)=(k:Rat):=Rat.intCast_natCast k
  rw [z] at a3
  have z1:p / k * k=p:=Rat.div_mul_cancel (by grind)
  have p0:=ok.p0
  have k1:(1:Rat)<=k:=by exact_mod_cast hk0
  generalize (k:Rat)=kk at *
  generalize (rowAt p r row j).a=y at *
  generalize p / kk=pp at *
  rw [show (((1:Int):Rat))=1 from rfl] at a3
  have:y+(kk - 1) * pp < pp * kk:=by rw [z1];exact a3
  have:y < pp:=by grind
  have:y * kk < pp * kk:=by
   exact (Rat.mul_lt_mul_right (by grind)).mpr this
  grind
theorem eqParts_spec:∃ n:Nat,0 < n/\(row≠[]->row.length=n * eqParts p r row/\repB p r row n=true)/\(row≠[]->row.length / eqParts p r row=n)/\0 < eqParts p r row:=by
 unfold eqParts
 cases hf:(List.range (row.length - 1)).find? (goodN p r row) with
 | some i =>
  have h1:=List.find?_some hf
  have h2:=List.mem_range.mp (List.mem_of_find?_eq_some hf)
  unfold goodN at h1
  simp only [Bool.and_eq_true,decide_eq_true_eq] at h1
  have h3:row.length=(1+i) * (row.length / (1+i)):=by
   have:=Nat.div_add_mod row.length (1+i)
   omega
  have h4:0 < row.length / (1+i):=Nat.div_pos (by omega) (by omega)
  refine ⟨1+i,by omega,fun _=>⟨h3,h1.2⟩,fun _=>?_,h4⟩
  show row.length / (row.length / (1+i))=1+i
  conv=>lhs;rw [h3]
  rw [Nat.mul_div_cancel_left _ (by omega:0 < 1+i)]
  rw [Nat.mul_div_cancel _ h4]
 | none =>
  show ∃ n:Nat,0 < n/\(row≠[]->row.length=n * 1/\_)/\(row≠[]->row.length / 1=n)/\0 < 1
  by_cases hn:row=[]
  ·exact ⟨1,by decide,fun h=>absurd hn h,fun h=>absurd hn h,by decide⟩
  ·have hl:=List.length_pos_iff.mpr hn
   refine ⟨row.length,hl,fun _=>⟨by omega,?_⟩,fun _=>Nat.div_one _,by decide⟩
   unfold repB
   rw [List.all_eq_true]
   intro x hx
   obtain ⟨j,hj⟩:=List.mem_iff_getElem?.mp hx
   obtain ⟨h1,h2⟩:=List.getElem?_zip_eq_some.mp hj
   have hjl:j < row.length:=(List.getElem?_eq_some_iff.mp h1).1
   rw [laterP_get hn hl (Nat.le_refl _) j hjl] at h2
   have:=rowAt_add (p:=p) (r:=r) hn j 1
   rw [Int.one_mul] at this
   rw [this,rowAt_nat j hjl] at h2
   rw [List.getElem?_eq_getElem hjl] at h1
   simp only [Option.some.injEq] at h1 h2
   rw [<- h1,<- h2,Nat.div_self hl]
   refine decide_eq_true ?_
   unfold Pt.mv
   simp only [Pt.mk.injEq]
   have e1:(((1:Nat)):Rat)=1:=rfl
   have e2:(((1:Int)):Rat)=1:=rfl
   rw [e1,e2]
   refine ⟨?_,?_,?_,?_⟩ <;> grind
end
structure Crv where
 p:Rat
 r:Rat
 row:List Pt
 s:Rat
 b:Rat
def Crv.at (c:Crv) (k:Int):Pt:=rowAt c.p c.r c.row k
noncomputable def Crv.arn (c:Crv) (x:Rat):Arn:=if c.row=[] then ⟨c.b+c.s * x,c.b+c.s * x,c.b+c.s * x,c.s,c.s⟩ else DL.arn c.at x
structure Crv.Ok (c:Crv):Prop where
 p0:0 < c.p
 r0:0 < c.r
 s:c.s=c.r / c.p
 p1:c.row=[]->c.p=1
 ok:c.row≠[]->okPts c.p c.r c.row
def keptP (p r:Rat):List Pt->List Pt
 | []=>[]
 | q :: qs=>truePts p r q qs
def baseP (p r o:Rat):List Pt->Rat
 | []=>o
 | q :: _=>q.v - r / p * q.a
def norm (p r:Rat) (pts:List Pt) (o:Rat):Crv :=
 if keptP p r pts=[] then ⟨1,r / p,[],r / p,baseP p r o pts⟩
 else ⟨p / (eqParts p r (keptP p r pts):Nat),r / (eqParts p r (keptP p r pts):Nat),(keptP p r pts).take ((keptP p r pts).length / eqParts p r (keptP p r pts)),r / p,o⟩
section
variable {p r:Rat} {pts:List Pt} {o:Rat}
theorem keptP_eq:keptP p r pts=(trueI p r pts).map fun i:Nat=>rowAt p r pts i:=by
 cases pts with
 | nil=>rfl
 | cons q qs=>exact truePts_eq
theorem kept_ok (ok:okPts p r pts) (h:keptP p r pts≠[]):okPts p r (keptP p r pts):=by
 have hn:pts≠[]:=fun z=>h (by rw [z];rfl)
 have hI:trueI p r pts≠[]:=fun z=>h (by rw [keptP_eq,z];rfl)
 have s:=sub_true hn hI
 rw [<- keptP_eq] at s
 refine okPts_of ok.p0 ok.r0 h (s.trk (ok.trk hn)) fun q hq=>?_
 rw [keptP_eq] at hq
 obtain ⟨i,hi,rfl⟩:=List.mem_map.mp hq
 have hi':i < pts.length:=List.mem_range.mp (List.mem_filter.mp hi).1
 have:=ok.pt _ (List.getElem_mem hi')
 rw [rowAt_nat i hi']
 exact ⟨this.lo,this.hi⟩
theorem kept_arn (ok:okPts p r pts) (h:keptP p r pts≠[]) (x:Rat):arn (rowAt p r (keptP p r pts)) x=arn (rowAt p r pts) x:=by
 have hn:pts≠[]:=fun z=>h (by rw [z];rfl)
 have hI:trueI p r pts≠[]:=fun z=>h (by rw [keptP_eq,z];rfl)
 have s:=sub_true hn hI
 rw [<- keptP_eq] at s
 exact s.arn (ok.trk hn) x
theorem norm_ok (ok:okPts p r pts):(norm p r pts o).Ok:=by
 unfold norm
 have p0:=ok.p0
 have r0:=ok.r0
 have d0:0 < r / p:=by rw [Rat.lt_div_iff p0,Rat.zero_mul];exact r0
 split
 ·refine ⟨(by decide +kernel:(0:Rat) < 1),d0,?_,fun _=>rfl,fun h=>absurd rfl h⟩
  show r / p=r / p / 1
  rw [Rat.div_def (r / p) 1,show (1:Rat)⁻¹=1 from by decide +kernel,Rat.mul_one]
 ·rename_i h
  obtain ⟨n,n0,h1,h2,k0⟩:=eqParts_spec (p:=p) (r:=r) (row:=keptP p r pts)
  obtain ⟨h3,h4⟩:=h1 h
  rw [h2 h]
  have:=ok_part (kept_ok ok h) h n0 h3 h4
  generalize eqParts p r (keptP p r pts)=k at *
  have k0':(0:Rat) < k:=by exact_mod_cast k0
  refine ⟨this.p0,this.r0,?_,fun z=>?_,fun _=>this⟩
  ·show r / p=r / k / (p / k)
   have e1:p≠0:=by grind
   have e2:(k:Rat)≠0:=by grind
   rw [Rat.div_def r k,Rat.div_def p k,Rat.div_def (r * _),Rat.div_def r p,Rat.inv_mul_rev,Rat.inv_inv]
   grind
  ·exfalso
   have z:(keptP p r pts).take n=[]:=z
   have:=congrArg List.length z
   rw [List.length_take,List.length_nil] at this
   have:=List.length_pos_iff.mpr h
   omega
theorem norm_arn (ok:okPts p r pts) (hn:pts≠[]) (x:Rat):(norm p r pts o).arn x=arn (rowAt p r pts) x:=by
 unfold norm
 split
 ·rename_i h
  cases pts with
  | nil=>exact absurd rfl hn
  | cons q qs =>
   unfold Crv.arn
   rw [if_pos rfl]
   have hI:trueI p r (q :: qs)=[]:=by
    rw [keptP_eq] at h
    exact List.map_eq_nil_iff.mp h
   rw [line_of ok hn hI]
   rfl
 ·rename_i h
  obtain ⟨n,n0,h1,h2,k0⟩:=eqParts_spec (p:=p) (r:=r) (row:=keptP p r pts)
  obtain ⟨h3,h4⟩:=h1 h
  rw [h2 h]
  unfold Crv.arn
  rw [if_neg,<- kept_arn ok h]
  ·have e:Crv.at ⟨p / (eqParts p r (keptP p r pts):Nat),r / (eqParts p r (keptP p r pts):Nat),(keptP p r pts).take n,r / p,o⟩=rowAt p r (keptP p r pts):=funext (part_eq h n0 h3 h4)
   rw [e]
  ·intro z
   have z:(keptP p r pts).take n=[]:=z
   have:=congrArg List.length z
   rw [List.length_take,List.length_nil] at this
   have:=List.length_pos_iff.mpr h
   omega
theorem norm_arn0 (x:Rat):(norm p r [] o).arn x=⟨o+r / p * x,o+r / p * x,o+r / p * x,r / p,r / p⟩:=by
 unfold norm
 rw [if_pos (show keptP p r []=[] from rfl)]
 unfold Crv.arn
 rw [if_pos rfl]
 rfl
end
end DL
namespace DL
def wthn (o u:Rat):Rat:=o - ((o / u).floor:Rat) * u
theorem wthn_in {o u:Rat} (h:0 < u):0<=wthn o u/\wthn o u < u:=by
 unfold wthn
 have f1:=Rat.floor_le (o / u)
 have f2:=Rat.lt_floor_add_one (o / u)
 rw [Rat.intCast_add] at f2
 have g1:((o / u).floor:Rat) * u<=o:=by
  have:=fun z=>(show ¬ o / u < ((o / u).floor:Rat) by grind) ((Rat.div_lt_iff h).mpr z)
  grind
 have g2:o < (((o / u).floor:Rat)+((1:Int):Rat)) * u:=(Rat.div_lt_iff h).mp f2
 have e1:(((1:Int)):Rat)=1:=rfl
 rw [e1] at g2
 constructor <;> grind
end DL
namespace DL
def lrepA (p r:Rat) (row:List Pt) (n:Nat):Prop:=∀ j:Nat,j+n < row.length->rowAt p r row ((j:Int)+n)=(rowAt p r row j).mv 1 (p / ((row.length / n:Nat):Rat)) (r / ((row.length / n:Nat):Rat))
structure Crv.Nf (c:Crv):Prop where
 t:c.row≠[]->∀ k,isT c.at k=true
 n:∀ n,0 < n->n < c.row.length->c.row.length % n=0->¬ lrepA c.p c.r c.row n
end DL
namespace DL
open PySem PySem.Spec PyProof.Rows L2 Mt
def ptD (q:Pt):D:=.tup [qD q.a,qD q.l,qD q.v,qD q.r]
structure Pt.sz (q:Pt) (B:Nat):Prop where
 a:qs q.a<=B
 l:qs q.l<=B
 v:qs q.v<=B
 r:qs q.r<=B
theorem Pt.sz.mono {q:Pt} {B C:Nat} (h:q.sz B) (e:B<=C):q.sz C:=⟨Nat.le_trans h.a e,Nat.le_trans h.l e,Nat.le_trans h.v e,Nat.le_trans h.r e⟩
theorem Pt.sz.mv {q:Pt} {B C n:Nat} {t:Int} {p r:Rat} (h:q.sz B) (ht:bz t<=n) (hp:qs p<=B) (hr:qs r<=B) (e:2 * B+n+3<=C):(q.mv t p r).sz C:=by
 have h1:=qs_mul t p
 have h2:=qs_mul t r
 have h3:=qs_int t
 have h4:=qs_add q.a (t * p)
 have h5:=qs_add q.l (t * r)
 have h6:=qs_add q.v (t * r)
 have h7:=qs_add q.r (t * r)
 have:=h.a
 have:=h.l
 have:=h.v
 have:=h.r
 constructor <;> (show qs (_+_)<=C) <;> omega
theorem bz_floor (a:Rat):bz a.floor<=qs a:=by
 rw [Rat.floor_def]
 have h1:=qs_num a
 have h2:=Int.natAbs_ediv_le_natAbs a.num a.den
 exact Nat.le_trans (bs_mono h2) h1
structure Crv.Sz (c:Crv) (B:Nat):Prop where
 p:c.row≠[]->qs c.p<=B
 r:c.row≠[]->qs c.r<=B
 s:qs c.s<=2 * B
 b:qs c.b<=6 * B
 pt:∀ q∈c.row,q.sz B
 len:c.row.length < 10000
theorem bz_ediv (a b:Int):bz (a / b)<=bz a:=bs_mono (Int.natAbs_ediv_le_natAbs a b)
theorem Crv.Sz.at {c:Crv} {B n:Nat} (h:c.Sz B) (hn:c.row≠[]) {k:Int} (hk:bz k<=n):(c.at k).sz (2 * B+n+3):=by
 have hl:=List.length_pos_iff.mpr hn
 unfold Crv.at rowAt
 have h1:(k % (c.row.length:Int)).toNat < c.row.length:=by
  have:=Int.emod_lt_of_pos k (show (0:Int) < c.row.length by omega)
  have:=Int.emod_nonneg k (show (c.row.length:Int)≠0 by omega)
  omega
 rw [List.getElem?_eq_getElem h1]
 exact Pt.sz.mv (h.pt _ (List.getElem_mem h1)) (Nat.le_trans (bz_ediv ..) hk) (h.p hn) (h.r hn) (by omega)
theorem Crv.sl_per {c:Crv} (hn:c.row≠[]) (k t:Int):slB (c.at (k+t * c.row.length)) (c.at (k+t * c.row.length+1))=slB (c.at k) (c.at (k+1)):=by
 unfold Crv.at
 rw [show k+t * (c.row.length:Int)+1=k+1+t * c.row.length from by omega,rowAt_add hn,rowAt_add hn]
 unfold slB Pt.mv
 simp only []
 congr 1 <;> grind
theorem qs_slB {x y:Pt} {A B:Nat} (hx:x.sz A) (hy:y.sz B):qs (slB x y)<=2 * A+2 * B+2:=by
 unfold slB
 have h1:=qs_div (y.l - x.r) (y.a - x.a)
 have h2:=qs_sub y.l x.r
 have h3:=qs_sub y.a x.a
 have:=hx.r;have:=hx.a;have:=hy.l;have:=hy.a
 omega
theorem Crv.Sz.sl {c:Crv} {B:Nat} (h:c.Sz B) (hn:c.row≠[]) (k:Int):qs (slB (c.at k) (c.at (k+1)))<=8 * B+80:=by
 obtain ⟨j,t,hj,rfl⟩:=rowAt_split hn k
 rw [Crv.sl_per hn]
 have hb:∀ i:Nat,i<=c.row.length->bz (i:Int)<=14:=fun i hi=>bs_le (by have:=h.len;show i < 2 ^ 14;omega)
 have h1:=h.at hn (hb j (by omega))
 have h2:=h.at hn (k:=(j:Int)+1) (hb (j+1) (by omega))
 have:=qs_slB h1 h2
 omega
theorem Crv.Ok.trk {c:Crv} (h:c.Ok) (hn:c.row≠[]):Trk c.at:=(h.ok hn).trk hn
structure CrvX (K:PySem.W.Frag) (M:Mem) (x:D) (c:Crv) (fs:List (Str×D)):Prop where
 ins:insOf M x=some (He.ga K "Curve",fs)
 p:lkF "period" fs=some (qD c.p)
 r:lkF "rise" fs=some (qD c.r)
 row:lkF "row" fs=some (.tup (c.row.map ptD))
 s:lkF "slope" fs=some (qD c.s)
 b:lkF "base" fs=some (qD c.b)
 m1:lkF "point_at" fs=none
 m2:lkF "place_from" fs=none
 m3:lkF "slope_behind" fs=none
 m4:lkF "around" fs=none
 m5:lkF "value" fs=none
theorem plc_bz {c:Crv} {B:Nat} (hz:c.Sz B) (ok:c.Ok) (hn:c.row≠[]) (y:Rat):bz (plc c.at y)<=qs y+B+18:=by
 have hl:=List.length_pos_iff.mpr hn
 have trk:=ok.trk hn
 have p0:=ok.p0
 have h0:∀ t:Int,(c.at (t * c.row.length)).a=(c.row[0]).a+t * c.p:=fun t=>by
  have h1:=rowAt_add (p:=c.p) (r:=c.r) hn 0 t
  rw [Int.zero_add,show (0:Int)=((0:Nat):Int) from rfl,rowAt_nat 0 hl] at h1
  unfold Crv.at
  rw [h1];rfl
 have okp:=(ok.ok hn).pt _ (List.getElem_mem hl)
 have f1:=Rat.floor_le (y / c.p)
 have f2:=Rat.lt_floor_add_one (y / c.p)
 rw [Rat.intCast_add] at f2
 have g1:((y / c.p).floor:Rat) * c.p<=y:=by
  have:=fun z=>(show ¬ y / c.p < ((y / c.p).floor:Rat) by grind) ((Rat.div_lt_iff p0).mpr z)
  grind
 have g2:y < (((y / c.p).floor:Rat)+((1:Int):Rat)) * c.p:=(Rat.div_lt_iff p0).mp f2
 have e1:(((1:Int)):Rat)=1:=rfl
 rw [e1] at g2
 obtain ⟨q1,q2⟩:=trk.plc y
 generalize plc c.at y=k at *
 have u1:(y / c.p).floor * c.row.length - 1 < k:=by
  refine trk.lt_iff.mp ?_
  have h1:=rowAt_add (p:=c.p) (r:=c.r) hn ((c.row.length - 1:Nat):Int) ((y / c.p).floor - 1)
  rw [rowAt_nat _ (by omega),show ((c.row.length - 1:Nat):Int)+((y / c.p).floor - 1) * c.row.length=(y / c.p).floor * c.row.length - 1 from by rw [Int.sub_mul];omega] at h1
  have:=((ok.ok hn).pt _ (List.getElem_mem (show c.row.length - 1 < c.row.length by omega))).hi
  have:(c.at ((y / c.p).floor * c.row.length - 1)).a < y:=by
   unfold Crv.at
   rw [h1]
   show _+_ < y
   rw [Rat.intCast_sub]
   grind
  grind
 have u2:k - 1 < ((y / c.p).floor+1) * c.row.length:=by
  refine trk.lt_iff.mp ?_
  have:y < (c.at (((y / c.p).floor+1) * c.row.length)).a:=by
   rw [h0,Rat.intCast_add,e1]
   have:=okp.lo
   grind
  grind
 have hd:=qs_div y c.p
 have hf:=bz_floor (y / c.p)
 have hzp:=hz.p hn
 have hzl:=hz.len
 have b1:=bi_mul (y / c.p).floor c.row.length
 have b2:=bi_add ((y / c.p).floor * c.row.length) (k - (y / c.p).floor * c.row.length)
 have b3:bz (c.row.length:Int)<=14:=bi_lt (by omega) (by omega)
 rw [Int.add_mul] at u2
 have b4:bz (k - (y / c.p).floor * c.row.length)<=15:=bi_lt (by omega) (by omega)
 rw [show (y / c.p).floor * (c.row.length:Int)+(k - (y / c.p).floor * c.row.length)=k from by omega] at b2
 omega
def Crv.nums (c:Crv):List Rat:=[c.p,c.r,if c.row=[] then c.b else 0] ++ c.row.flatMap fun q=>[q.a,q.l,q.v,q.r]
def Crv.long (c:Crv):Bool:=c.nums.any bigQ
def Crv.ris (c:Crv):Bool:=decide (c.row=[]) || (List.range c.row.length).any fun k:Nat=>decide (0 < slB (c.at k) (c.at (k+1)))
def Crv.Eq' (c d:Crv):Prop:=c.p=d.p/\c.r=d.r/\c.row=d.row/\(if c.row=[] then c.b else 0)=(if d.row=[] then d.b else 0)
instance (c d:Crv):Decidable (Crv.Eq' c d):=inferInstanceAs (Decidable (c.p=d.p/\c.r=d.r/\c.row=d.row/\(if c.row=[] then c.b else 0)=(if d.row=[] then d.b else 0)))
theorem insOf_app {M L:Mem} {x:D} {v:Addr×List (Str×D)} (h:insOf M x=some v):insOf (M ++ L) x=some v:=by
 cases x <;> first | exact h | skip
 unfold insOf at h ⊢
 rename_i i
 cases e:M[i]? with
 | none=>simp only [e] at h;cases h
 | some o =>
  simp only [e] at h
  have e2:(M ++ L)[i]?=some o:=by rw [List.getElem?_append_left (List.getElem?_eq_some_iff.mp e).1];exact e
  simp only [e2]
  exact h
theorem CrvX.app {K:PySem.W.Frag} {M L:Mem} {x:D} {c:Crv} {fs:List (Str×D)} (h:CrvX K M x c fs):CrvX K (M ++ L) x c fs:=⟨insOf_app h.ins,h.p,h.r,h.row,h.s,h.b,h.m1,h.m2,h.m3,h.m4,h.m5⟩
theorem CutX.set {E:XD} {x:Exn} {M:Mem} {i:Nat} {mo:MO} (h:D.hbs M.length (x.fs.map (·.2))=true) (ok:okM M.length M) (hm:mo.hb M.length=true) (q:E x (M.set i (some mo))):CutX M.length E x (M.set i (some mo)):=by
 refine ⟨h,?_,?_⟩
 ·intro j m hj e
  by_cases z:i=j
  ·subst z
   rw [List.getElem?_set_self hj] at e
   cases e
   exact hm
  ·rw [List.getElem?_set_ne z] at e
   exact ok j m hj e
 ·rw [List.take_of_length_le (by rw [List.length_set];exact Nat.le_refl _)]
  exact q
theorem qs_pos (q:Rat):1<=qs q:=Nat.le_trans (by unfold bs;have:=q.den_pos;split <;> omega) (qs_den q)
theorem big_qs {q:Rat} (h:bigQ q=false):qs q<=200:=by
 unfold bigQ at h
 rw [Bool.or_eq_false_iff,decide_eq_false_iff_not,decide_eq_false_iff_not] at h
 have e:(10:Int) ^ 60 < 2 ^ 200:=by decide
 unfold qs
 refine Nat.max_le.mpr ⟨bs_le ?_,bs_le ?_⟩
 ·have:(q.num.natAbs:Int) < ((2 ^ 200:Nat):Int):=Int.lt_trans (Int.not_le.mp h.1) (by decide)
  exact Int.ofNat_lt.mp this
 ·have:(q.den:Int) < ((2 ^ 200:Nat):Int):=Int.lt_trans (Int.not_le.mp h.2) (by decide)
  exact Int.ofNat_lt.mp this
mutual
def D.nl:D->Bool
 | .lst _=>false
 | .rol _=>false
 | .tup xs=>D.nls xs
 | .obj _ _ xs=>D.nls xs
 | .exc _ _ xs=>D.nls xs
 | .dk _ xs=>D.nls xs
 | .dt _ xs=>D.nls xs
 | _=>true
def D.nls:List D->Bool
 | []=>true
 | d :: r=>d.nl && D.nls r
end
def MO.nl:MO->Bool
 | .lst xs=>D.nls xs
 | .dK kvs=>D.nls (kvs.map (·.2))
 | .dT _ xs=>D.nls xs
 | .ins _ fs=>D.nls (fs.map (·.2))
def MO.isL:MO->Bool
 | .lst _=>true
 | _=>false
structure More (al:Al) (M M':Mem) (H:Hp):Prop where
 at_:∀ (j:Nat) (b:Addr) (mo:MO),al.a[j]?=some b->M'[j]?=some (some mo)->M[j]?=some (some mo)\/∃ xs,H b=some (.lst xs)
theorem More.fz {al:Al} {M M':Mem} {H:Hp} (m:More al M M' H) {b:Addr} {o:HO} (h:H b=some o) (n:∀ xs,o≠.lst xs) (f:Fz al M b):Fz al M' b :=
 ⟨f.1,fun j mo e1 e2=>(m.at_ j b mo e1 e2).elim (fun q=>f.2 j mo e1 q) fun ⟨xs,q⟩=>n xs (Option.some.inj (h.symm.trans q))⟩
def dead (n:Nat) (M:Mem):Mem:=(M.take n).map (fun _=>none) ++ M.drop n
def back (n:Nat) (M M':Mem):Mem:=M.take n ++ M'.drop n
structure LendOk (n:Nat) (M M':Mem):Prop where
 len:n<=M'.length
 hd:M'.take n=(dead n M).take n
 tl:∀ (j:Nat) (mo:MO),n<=j->M'[j]?=some (some mo)->mo.nl=true
section
variable {K:PySem.W.Frag} {Tb:List (Addr×Str)} {al:Al} {M:Mem} {H:Hp} {n:Nat}
theorem dead_lt (h:n<=M.length) {j:Nat} (hj:j < n):(dead n M)[j]?=some none:=by
 unfold dead
 rw [List.getElem?_append_left (by rw [List.length_map,List.length_take];omega),List.getElem?_map,List.getElem?_take_of_lt hj,List.getElem?_eq_getElem (by omega)]
 rfl
theorem LendOk.lt {M':Mem} (k:LendOk n M M') (h:n<=M.length) {j:Nat} (hj:j < n):M'[j]?=some none:=by
 have:=congrArg (fun l:Mem=>l[j]?) k.hd
 simp only [List.getElem?_take_of_lt hj] at this
 rw [this,dead_lt h hj]
end
def tw (q:Rat) (n:Nat):Prop:=∃ m:Nat,m<=n/\q=(m:Rat) / 12
theorem tw.add {a b:Rat} {n m:Nat} (h:tw a n) (g:tw b m):tw (a+b) (n+m):=by
 obtain ⟨x,hx,rfl⟩:=h
 obtain ⟨y,hy,rfl⟩:=g
 refine ⟨x+y,by omega,?_⟩
 rw [Rat.natCast_add]
 grind
theorem tw.mono {a:Rat} {n m:Nat} (h:tw a n) (e:n<=m):tw a m:=let ⟨x,hx,q⟩:=h;⟨x,by omega,q⟩
theorem tw.pos {a:Rat} {n:Nat} (h:tw a n):0<=a:=by
 obtain ⟨x,hx,rfl⟩:=h
 have:(0:Rat)<=x:=by exact_mod_cast Nat.zero_le x
 grind
theorem tw.qs {a:Rat} {n k:Nat} (h:tw a n) (e:n < 2 ^ k) (hk:4<=k):Mt.qs a<=k:=by
 obtain ⟨x,hx,rfl⟩:=h
 have h1:=qs_divInt (x:Int) 12 (by decide)
 have e1:(x:Rat) / 12=Rat.divInt x 12:=by
  rw [<- Rat.intCast_natCast,show (12:Rat)=((12:Int):Rat) from rfl,<- Rat.divInt_eq_div]
 rw [e1]
 have h2:bz (x:Int)<=k:=bs_le (by show x < 2 ^ k;omega)
 have h3:bz (12:Int)=4:=by decide
 omega
structure Chn (L0 sp lv:Rat) (pts:List Pt):Prop where
 s0:0<=sp
 l0:L0<=lv
 pt:∀ q∈pts,0<=q.a/\q.a < sp/\q.l<=q.v/\q.v<=q.r/\q.r<=lv
 pw:pts.Pairwise fun x y=>x.a < y.a/\x.r<=y.l
 hd:pts.head?.map Pt.l=some L0\/(pts=[]/\lv=L0)
theorem Chn.nil {L0 sp:Rat} (h:0<=sp):Chn L0 sp L0 []:=⟨h,Rat.le_refl,(fun q hq=>nomatch hq),.nil,.inr ⟨rfl,rfl⟩⟩
theorem Chn.ok {L0 sp lv:Rat} {pts:List Pt} (c:Chn L0 sp lv pts) (hn:pts≠[]) {e:Rat} (h1:lv<=e) (h2:L0 < e):okPts sp (e - L0) pts:=by
 have p0:0 < sp:=by
  cases pts with
  | nil=>exact absurd rfl hn
  | cons q l =>
   obtain ⟨a1,a2,_⟩:=c.pt q (List.mem_cons_self ..)
   grind
 have hd:∀ h:pts≠[],(pts.head h).l=L0:=fun h=>by
  cases pts with
  | nil=>exact absurd rfl h
  | cons q l =>
   rcases c.hd with z | ⟨z,_⟩
   ·exact Option.some.inj z
   ·cases z
 refine ⟨p0,by grind,fun q hq=>?_,fun x hx=>?_⟩
 ·obtain ⟨a1,a2,a3,a4,a5⟩:=c.pt q hq
  exact ⟨by grind,a2,by grind,by grind⟩
 ·obtain ⟨j,hj⟩:=List.mem_iff_getElem?.mp hx
  obtain ⟨g1,g2⟩:=List.getElem?_zip_eq_some.mp hj
  have hjl:j < pts.length:=(List.getElem?_eq_some_iff.mp g1).1
  rw [nextPts_get j hjl] at g2
  rw [List.getElem?_eq_getElem hjl] at g1
  obtain ⟨x1,x2⟩:=x
  simp only [Option.some.injEq] at g1 g2
  subst g1 g2
  by_cases hl:j+1 < pts.length
  ·have:=List.pairwise_iff_getElem.mp c.pw j (j+1) hjl hl (by omega)
   rw [show ((j:Int)+1)=((j+1:Nat):Int) from rfl,rowAt_nat (j+1) hl]
   exact ⟨this.1,by grind⟩
  ·have el:(j:Int)+1=pts.length:=by omega
   rw [el,rowAt_wrap hn]
   obtain ⟨a1,a2,a3,a4,a5⟩:=c.pt _ (List.getElem_mem hjl)
   obtain ⟨b1,b2,b3,b4,b5⟩:=c.pt _ (List.head_mem hn)
   have:=hd hn
   refine ⟨?_,?_⟩
   ·show pts[j].a < (pts.head hn).a+1 * sp
    grind
   ·show ¬ (pts.head hn).l+1 * (e - L0) < pts[j].r
    grind
def RgX (M:Mem) (i:Nat) (L M':Mem):Prop:=∃ M2,RgTo M i M2/\M'=M2 ++ L
theorem RgAt.lt {M:Mem} {i:Nat} (a:RgAt M i):i < M.length:=by
 obtain ⟨r,h,_⟩:=a
 exact (List.getElem?_eq_some_iff.mp h).1
section
variable {M M' M'' L:Mem} {i j:Nat} {o:Option MO}
theorem RgX.at (a:RgAt M i) (g:RgX M i L M'):RgAt M' i:=by
 obtain ⟨M2,t,rfl⟩:=g
 obtain ⟨r,h,ok⟩:=t.at a
 exact ⟨r,by rw [List.getElem?_append_left (List.getElem?_eq_some_iff.mp h).1];exact h,ok⟩
theorem RgX.len (g:RgX M i L M'):M'.length=M.length+L.length:=by
 obtain ⟨M2,t,rfl⟩:=g
 rw [List.length_append,t.len]
theorem RgX.app (g:RgX M i L M'):RgX M i (L ++ [o]) (M' ++ [o]):=by
 obtain ⟨M2,t,rfl⟩:=g
 exact ⟨M2,t,by simp⟩
theorem RgX.set (g:RgX M i L M') (j:Nat):RgX M i (L.set j o) (M'.set (M.length+j) o):=by
 obtain ⟨M2,t,rfl⟩:=g
 refine ⟨M2,t,?_⟩
 rw [List.set_append_right _ _ (by rw [t.len];omega),t.len]
 congr 2
 omega
end
def AllL (M:Mem):Prop:=∀ (j:Nat) (mo:MO),M[j]?=some (some mo)->mo.isL=true
theorem AllL.nil:AllL []:=fun j mo e=>by simp at e
theorem AllL.app {M L:Mem} (h:AllL M) (g:AllL L):AllL (M ++ L):=fun j mo e=>by
 by_cases hj:j < M.length
 ·rw [List.getElem?_append_left hj] at e;exact h j mo e
 ·rw [List.getElem?_append_right (by omega)] at e;exact g _ mo e
theorem AllL.one {xs:List D}:AllL [some (.lst xs)]:=fun j mo e=>by
 cases j with
 | zero=>simp at e;rw [<- e];rfl
 | succ j=>simp at e
theorem AllL.cons {xs:List D} {L:Mem} (g:AllL L):AllL (some (.lst xs) :: L):=AllL.app (M:=[some (.lst xs)]) .one g
def valE (L:Ents) (k:List Int):Option V:=(L.find? fun e=>decide (e.1=k)).map (·.2.2)
abbrev LR:Ents->List (List Int×Addr×Value)->Prop:=Paired fun p q=>p.1=q.1/\p.2.1=q.2.1/\RelV p.2.2 q.2.2
theorem LR.val {L:Ents} {xs:List (List Int×Addr×Value)} (r:LR L xs) (k:List Int):RelO (valE L k) ((atKey xs k).map (·.2)):=by
 induction r with
 | nil=>exact True.intro
 | @cons p q ps qs h t ih =>
  obtain ⟨h1,_,h2⟩:=h
  unfold valE atKey at ih ⊢
  by_cases e:p.1=k
  ·have e':q.1=k:=h1.symm.trans e
   simp [List.find?_cons,e,e'];exact h2
  ·have e':¬ q.1=k:=fun z=>e (h1.trans z)
   simp only [List.find?_cons,decide_eq_false e,decide_eq_false e']
   exact ih
theorem LR.any {L:Ents} {xs:List (List Int×Addr×Value)} (r:LR L xs) (k:List Int):(L.any fun e=>decide (e.1=k))=(atKey xs k).isSome:=by
 induction r with
 | nil=>rfl
 | @cons p q ps qs h t ih =>
  obtain ⟨h1,_,h2⟩:=h
  unfold atKey at ih ⊢
  by_cases e:p.1=k
  ·have e':q.1=k:=h1.symm.trans e
   simp [List.find?_cons,e,e']
  ·have e':¬ q.1=k:=fun z=>e (h1.trans z)
   simp only [List.find?_cons,List.any_cons,decide_eq_false e,decide_eq_false e',Bool.false_or]
   exact ih
end DL
namespace DL
open PySem PySem.Spec PyProof.Rows L2 Mt LamX
theorem SqT.ext {K:PySem.W.Frag} {H H2:Hp} {a:Addr} {xs:List V} (h:SqT K H a xs) (e:ExtN H H2):SqT K H2 a xs:=by
 rcases h with (h | ⟨o,h⟩) | h
 ·exact .inl (.inl (e _ _ h fun _ z=>by cases z))
 ·exact .inl (.inr ⟨o,e _ _ h fun _ z=>by cases z⟩)
 ·exact .inr h
abbrev Kvs:=List (List Int×D)
def valP (kvs:Kvs) (k:List Int):Option D:=(kvs.find? fun e=>decide (e.1=k)).map (·.2)
def flP' (kvs:Kvs):List D:=kvs.map (fun e=>kD e.1) ++ kvs.map (·.2)
def dtD (kvs:Kvs):D:=.dt (kvs.map (·.1)) (flP' kvs)
def kvsOf (ks:List (List Int)) (ds:List D):Kvs:=ks.zip (ds.drop ks.length)
theorem kvsOf_mk (kvs:Kvs):kvsOf (kvs.map (·.1)) (flP' kvs)=kvs:=by
 unfold kvsOf flP'
 rw [List.drop_left' (by simp)]
 induction kvs with
 | nil=>rfl
 | cons e r ih=>rw [List.map_cons,List.map_cons,List.zip_cons_cons,ih]
section
variable {K:PySem.W.Frag} {al:Al} {M:Mem} {H:Hp}
abbrev RP (K:PySem.W.Frag) (al:Al) (M:Mem) (H:Hp):Kvs->Ents->Prop:=Paired fun p e=>p.1=e.1/\Rp K al M H (kD p.1) (.ref e.2.1)/\Rp K al M H p.2 e.2.2
theorem RP.mono {al':Al} {M':Mem} {H':Hp} {kvs:Kvs} {L:Ents} (s:Stp al M H al' M' H') (h:RP K al M H kvs L):RP K al' M' H' kvs L:=Paired.mapP h fun _ _ z=>⟨z.1,z.2.1.mono s,z.2.2.mono s⟩
theorem Rps.split {ds es:List D}:∀ {xs ys:List V},xs.length=ds.length->Rps K al M H (ds ++ es) (xs ++ ys)->Rps K al M H ds xs/\Rps K al M H es ys:=by
 induction ds with
 | nil=>intro xs ys hl h;cases xs with
  | nil=>exact ⟨rfl,h⟩
  | cons _ _=>simp at hl
 | cons d ds ih=>intro xs ys hl h;cases xs with
  | nil=>simp at hl
  | cons x xs =>
   obtain ⟨y,r,e,q,t⟩:=h
   rw [List.cons_append] at e
   injection e with e1 e2
   subst e1 e2
   obtain ⟨a,b⟩:=ih (by simpa using hl) t
   exact ⟨⟨_,_,rfl,q,a⟩,b⟩
theorem RP.any {kvs:Kvs} {L:Ents} (h:RP K al M H kvs L) (k:List Int):(kvs.any fun e=>decide (e.1=k))=L.any fun e=>decide (e.1=k):=by
 induction h with
 | nil=>rfl
 | cons a _ ih=>rw [List.any_cons,List.any_cons,ih,a.1]
theorem RP.val {kvs:Kvs} {L:Ents} (h:RP K al M H kvs L) {k:List Int} {d:D} (e:valP kvs k=some d):∃ v,valE L k=some v/\Rp K al M H d v:=by
 induction h with
 | nil=>cases e
 | @cons p q ps qs a _ ih =>
  unfold valP at e ih
  unfold valE at ih ⊢
  by_cases c:p.1=k
  ·have c':q.1=k:=a.1.symm.trans c
   rw [List.find?_cons,decide_eq_true c] at e
   rw [List.find?_cons,decide_eq_true c']
   cases (Option.some.inj e)
   exact ⟨_,rfl,a.2.2⟩
  ·have c':¬ q.1=k:=fun z=>c (a.1.trans z)
   rw [List.find?_cons,decide_eq_false c] at e
   rw [List.find?_cons,decide_eq_false c']
   exact ih e
end
end DL
namespace Mt
def ddStep (acc:List Rat) (q:Rat):List Rat:=if q∈acc then acc else acc ++ [q]
def ddQ (l:List Rat):List Rat:=l.foldl ddStep []
def leR:Rat->Rat->Bool:=fun a b=>decide (a<=b)
def ordQ (l:List Rat):List Rat:=(ddQ l).mergeSort leR
theorem ddf (l:List Rat):∀ acc:List Rat,acc.Nodup->(l.foldl ddStep acc).Nodup/\∀ x,x∈l.foldl ddStep acc ↔ x∈acc\/x∈l:=by
 induction l with
 | nil=>intro acc h;exact ⟨h,fun x=>by simp⟩
 | cons q l ih =>
  intro acc h
  have h1:(ddStep acc q).Nodup/\∀ x,x∈ddStep acc q ↔ x∈acc\/x=q:=by
   unfold ddStep
   by_cases c:q∈acc
   ·rw [if_pos c]
    exact ⟨h,fun x=>⟨.inl,fun z=>z.elim (fun y=>y) fun y=>y ▸ c⟩⟩
   ·rw [if_neg c]
    refine ⟨List.nodup_append.mpr ⟨h,by simp,fun a ha b hb=>?_⟩,fun x=>by simp⟩
    have:b=q:=by simpa using hb
    subst this
    exact fun z=>c (z ▸ ha)
  obtain ⟨a,b⟩:=ih _ h1.1
  refine ⟨a,fun x=>?_⟩
  rw [List.foldl_cons,b x,h1.2 x,List.mem_cons]
  exact or_assoc
theorem ddQ_nodup (l:List Rat):(ddQ l).Nodup:=(ddf l [] List.nodup_nil).1
theorem mem_ddQ {l:List Rat} {x:Rat}:x∈ddQ l ↔ x∈l:=((ddf l [] List.nodup_nil).2 x).trans (by simp)
theorem ordQ_mem {l:List Rat} {x:Rat}:x∈ordQ l ↔ x∈l:=((List.mergeSort_perm _ _).mem_iff).trans mem_ddQ
theorem ordQ_lt (l:List Rat):(ordQ l).Pairwise (· < ·):=by
 have h1:(ordQ l).Pairwise fun a b=>leR a b=true:=List.pairwise_mergeSort (le:=leR) (fun a b c h1 h2=>decide_eq_true (Rat.le_trans (of_decide_eq_true h1) (of_decide_eq_true h2))) (fun a b=>by
  rcases Rat.le_total (a:=a) (b:=b) with h | h
  ·simp [leR,h]
  ·simp [leR,h]) _
 have h2:(ordQ l).Nodup:=(List.mergeSort_perm _ _).nodup_iff.mpr (ddQ_nodup l)
 refine List.Pairwise.imp₂ (fun a b h3 h4=>?_) h1 h2
 exact Rat.lt_of_le_of_ne (of_decide_eq_true h3) h4
theorem ordQ_len (l:List Rat):(ordQ l).length<=l.length:=by
 unfold ordQ
 rw [List.length_mergeSort]
 have:∀ (l acc:List Rat),(l.foldl ddStep acc).length<=acc.length+l.length:=by
  intro l
  induction l with
  | nil=>intro acc;simp
  | cons q l ih =>
   intro acc
   rw [List.foldl_cons]
   have h1:=ih (ddStep acc q)
   have h2:(ddStep acc q).length<=acc.length+1:=by unfold ddStep;split <;> simp
   rw [List.length_cons];omega
 have:=this l []
 simpa [ddQ] using this
def qk (q:Rat):List Int:=[q.num,(q.den:Int)]
def cmQ (a b:Rat):Rat:=Rat.divInt (Nat.lcm a.num.natAbs b.num.natAbs:Nat) (Nat.gcd a.den b.den:Nat)
def cmL (a b:Rat):Nat:=b.num.natAbs / Nat.gcd a.num.natAbs b.num.natAbs * (a.den / Nat.gcd a.den b.den)
theorem num_pos' {a:Rat} (h:0 < a):0 < a.num:=by
 have h1:0<=a.num:=Rat.num_nonneg.mpr (Rat.le_of_lt h)
 have h2:a.num≠0:=fun z=>by rw [Rat.num_eq_zero.mp z] at h;exact Rat.lt_irrefl h
 omega
theorem rat_nat {a:Rat} (h:0 < a):a=(a.num.natAbs:Rat) / (a.den:Rat):=by
 have hp:0 < a.num:=num_pos' h
 have e:((a.num.natAbs:Nat):Rat)=((a.num:Int):Rat):=by
  have:((a.num.natAbs:Nat):Int)=a.num:=by omega
  rw [<- this];rfl
 rw [e]
 conv=>lhs;rw [<- Rat.num_divInt_den a,Rat.divInt_eq_div]
 rfl
theorem cmQ_comm (a b:Rat):cmQ a b=cmQ b a:=by unfold cmQ;rw [Nat.lcm_comm,Nat.gcd_comm]
theorem cm_l {a b:Rat} (ha:0 < a) (hb:0 < b):cmQ a b=(cmL a b:Rat) * a/\0 < cmL a b:=by
 have pa:0 < a.num.natAbs:=by have:=num_pos' ha;omega
 have pb:0 < b.num.natAbs:=by have:=num_pos' hb;omega
 have hg:0 < Nat.gcd a.num.natAbs b.num.natAbs:=Nat.gcd_pos_of_pos_left _ pa
 have hh:0 < Nat.gcd a.den b.den:=Nat.gcd_pos_of_pos_left _ a.den_pos
 have ea:=rat_nat ha
 unfold cmL cmQ
 have hl:Nat.lcm a.num.natAbs b.num.natAbs=a.num.natAbs * (b.num.natAbs / Nat.gcd a.num.natAbs b.num.natAbs):=by
  rw [Nat.lcm,Nat.mul_div_assoc _ (Nat.gcd_dvd_right ..)]
 rw [hl]
 obtain ⟨nb',hnb⟩:=Nat.gcd_dvd_right a.num.natAbs b.num.natAbs
 obtain ⟨da',hda⟩:=Nat.gcd_dvd_left a.den b.den
 have e1:b.num.natAbs / Nat.gcd a.num.natAbs b.num.natAbs=nb':=Nat.div_eq_of_eq_mul_right hg hnb
 have e2:a.den / Nat.gcd a.den b.den=da':=Nat.div_eq_of_eq_mul_right hh hda
 rw [e1,e2]
 generalize Nat.gcd a.den b.den=h at *
 generalize a.num.natAbs=na at *
 have hd0:0 < da':=by
  rcases Nat.eq_zero_or_pos da' with z | z
  ·rw [z,Nat.mul_zero] at hda;have:=a.den_pos;omega
  ·exact z
 have hn0:0 < nb':=by
  rcases Nat.eq_zero_or_pos nb' with z | z
  ·rw [z,Nat.mul_zero] at hnb;omega
  ·exact z
 refine ⟨?_,Nat.mul_pos hn0 hd0⟩
 have hr:(h:Rat)≠0:=by exact_mod_cast (by omega:h≠0)
 have dr:(da':Rat)≠0:=by exact_mod_cast (by omega:da'≠0)
 have ed:((a.den:Nat):Rat)=(h:Rat) * (da':Rat):=by rw [hda];exact Rat.natCast_mul ..
 have e3:Rat.divInt ((na * nb':Nat):Int) ((h:Nat):Int)=(((na * nb':Nat):Int):Rat) / (((h:Nat):Int):Rat):=Rat.divInt_eq_div ..
 rw [e3]
 rw [show (((h:Nat):Int):Rat)=(h:Rat) from rfl,show ((((na * nb':Nat)):Int):Rat)=((na * nb':Nat):Rat) from rfl,Rat.natCast_mul,Rat.natCast_mul,ea,ed]
 grind
theorem cm_r {a b:Rat} (ha:0 < a) (hb:0 < b):cmQ a b=(cmL b a:Rat) * b/\0 < cmL b a:=by
 rw [cmQ_comm];exact cm_l hb ha
end Mt
namespace DL
open PySem PySem.Spec PyProof.Rows L2 Mt
def OrdIn (x:D) (l:List Rat):Prop:=asS x=some (l.map qD)\/∃ kvs,x=dtD kvs/\kvs.map (·.1)=l.map qk
theorem OrdIn.it {P:D} {l:List Rat} (h:OrdIn P l) {M:Mem} {Q:List D->Mem->Prop} (q:Q (l.map qD) M):(match (generalizing:=false) P with
 | .lst xs=>Q xs M
 | .rol xs=>Q xs M
 | .tup xs=>Q xs M
 | .str z=>Q (signsD z) M
 | .dt ks ds=>Q ((kvsOf ks ds).map fun e=>kD e.1) M
 | _=>False):=by
 rcases h with h | ⟨kvs,rfl,h⟩
 ·cases P <;> first | (cases h;done) | (cases h;exact q)
 ·show Q ((kvsOf _ _).map fun e=>kD e.1) M
  rw [kvsOf_mk,show (fun e:List Int×D=>kD e.1)=kD ∘ (fun e:List Int×D=>e.1) from rfl,<- List.map_map,h,List.map_map]
  exact q
theorem AllL.set {M:Mem} {i:Nat} {xs:List D} (h:AllL M):AllL (M.set i (some (.lst xs))):=fun j mo e=>by
 by_cases hij:i=j
 ·subst hij
  rw [List.getElem?_set] at e
  simp at e
  rw [<- e.2];rfl
 ·rw [List.getElem?_set_ne hij] at e
  exact h j mo e
theorem RpS.at {K:PySem.W.Frag} {al:Al} {M:Mem} {H:Hp} {σ:L2.St} {rho:Rho} (h:RpS K al M H σ rho) (i:Nat) {d:D} {v:V} (hs:σ[i]?=some (some v)) (r:Rp K al M H d v):RpS K al M H σ (rho.set i (some d)):=by
 have:=h.set i r
 rw [show σ.set i (some v)=σ from by
  apply List.ext_getElem?
  intro j
  by_cases hj:i=j
  ·subst hj;rw [List.getElem?_set_self (List.getElem?_eq_some_iff.mp hs).1,hs]
  ·rw [List.getElem?_set_ne hj]] at this
 exact this
end DL
namespace He
open PySem PySem.Spec PyProof.Rows L2
def obsZ (as:List Addr) (fa:List Fa) (fn:List DefE) (tf:List Defn) (ex:PySem.W.Frag->Bool) (g:Addr->Option Obj):AlYX:=(obsYK fa fn ex (frT g as),tabsB g tf (frT g as))
theorem saysZ_of {as:List Addr} {fa:List Fa} {fn:List DefE} {tf:List Defn} {ex:PySem.W.Frag->Bool} {h:Heap} (e:obsZ as fa fn tf ex h.get?=(valY fn,true)):SaysY fa fn tf ex h (frT h.get? as):=by
 have e1:obsYK fa fn ex (frT h.get? as)=valY fn:=congrArg (fun z:AlYX=>z.1) e
 have e2:tabsB h.get? tf (frT h.get? as)=true:=congrArg (fun z:AlYX=>z.2) e
 have key:∀ p∈tf,PySem.W.codeHdIn (frT h.get? as) (cT (frT h.get? as) p).1 (cT (frT h.get? as) p).2=true/\∃ o,h.get? (cT (frT h.get? as) p).2=some o/\emptyTab o=true:=fun p hp=>by
  obtain ⟨h3,h4⟩:=ba (List.all_eq_true.mp e2 p hp)
  refine ⟨h3,?_⟩
  cases q:h.get? (cT (frT h.get? as) p).2 with
  | none=>rw [q] at h4;cases h4
  | some o=>rw [q] at h4;exact ⟨o,rfl,h4⟩
 exact ⟨e1,fun p hp=>(key p hp).1,fun p hp=>let ⟨_,_,q,z⟩:=key p hp;frT_none q z,fun p hp=>let ⟨_,_,q,z⟩:=key p hp;by rw [q,emptyTab_eq z]⟩
def hookZ (as:List Addr) (fa:List Fa) (fn:List DefE) (tf:List Defn) (ex:PySem.W.Frag->Bool):PySem.W.Hook where
 α:=AlYX
 obs:=fun s=>obsZ as fa fn tf ex s.heap.get?
 val:=fun _=>(valY fn,true)
 says:=fun _ h=>∃ K:PySem.W.Frag,K.In h/\SaysY fa fn tf ex h K
 of:=fun _ _ e=>⟨_,frT_in,saysZ_of e⟩
 keeps:=fun _ _ _ ⟨K,hK,c⟩ k=>⟨K,PySem.W.Frag.In.keeps hK k,⟨c.t,c.hd,c.out,fun p hp=>k _ _ (c.empty p hp)⟩⟩
theorem obsZ_eq {as:List Addr} {fa:List Fa} {fn:List DefE} {tf:List Defn} {ex:PySem.W.Frag->Bool} {g:Addr->Option Obj} {s:Shared} (h:∀ a,g a=s.heap.get? a):obsZ as fa fn tf ex g=(hookZ as fa fn tf ex).obs s:=by
 have e:g=s.heap.get?:=funext h
 rw [e] <;> rfl
def LookEq (r:PySem.W.OpenRow) (M:Nat) (w:World) {β:Type} (f:PySem.W.SharedT->β) (v:β):Prop :=
 ∀ os:OsState,(HandSHeadRun.endF (HandSHeadRun.stepQ (HandSHeadRun.denQ HandSHeadRun.tabQ) r.prog w) M r.prog w os).map f=some v
end He
namespace DL
open PySem PySem.Spec PySem.Calls PyProof.Rows L2
inductive Capts:List Pattern->List Str->Prop where
 | nil:Capts [] []
 | cons {n:Str} {p:Pos} {ps:List Pattern} {ns:List Str}:Capts ps ns->Capts (.MatchAs none (some n) p :: ps) (n :: ns)
inductive NSl (X:Cx):List Str->List Nat->Prop where
 | nil:NSl X [] []
 | cons {n:Str} {i:Nat} {ns:List Str} {is:List Nat}:X.N[i]?=some n->Loc X.env.scope n->(X.fn n=true\/X.env.scope.names.lookup n=some .local)->NSl X ns is->NSl X (n :: ns) (i :: is)
theorem Capts.len {ps:List Pattern} {ns:List Str} (c:Capts ps ns):ps.length=ns.length:=by induction c with
 | nil=>rfl
 | cons _ ih=>simp [ih]
section
variable {X:Cx} {Tb:List (Addr×Str)} {EV:XK} {pos:Pos}
theorem NSl.len {ns:List Str} {is:List Nat} (c:NSl X ns is):ns.length=is.length:=by induction c with
 | nil=>rfl
 | cons _ _ _ _ ih=>simp [ih]
end
open SX (S S_tl S_len)
abbrev cl (z:Str):List Nat:=z.cps.toList
theorem reps_one (c:Nat):∀ (n:Nat) (acc:Array Nat),((List.replicate n (#[c]:Array Nat)).foldl (· ++ ·) acc).toList=acc.toList ++ List.replicate n c
 | 0,acc=>by simp
 | n+1,acc=>by
  rw [List.replicate_succ,List.foldl_cons,reps_one c n,List.replicate_succ,Array.toList_append]
  simp
theorem mul_one {c:Nat} {k:Int} (h:1 < k):cl (Txt.mul ⟨#[c]⟩ k)=List.replicate k.toNat c:=by
 unfold Txt.mul
 rw [if_neg (by omega),if_neg (by
  have:(k == 1)=false:=by simpa using (by omega:k≠1)
  rw [this]
  exact Bool.false_ne_true)]
 have:=reps_one c k.toNat #[]
 simpa using this
end DL
namespace DL
open PySem PySem.Spec PyProof.Rows L2 Mt
inductive PStep (nm:Str->Prop) (P:D->Prop):D->Prop where
 | shift {a:Rat}:qs a<=39->PStep nm P (.tup [.str "shift",qD a])
 | scale {a:Rat}:qs a<=39->0 < a->PStep nm P (.tup [.str "scale",qD a])
 | use {z:Str}:nm z->PStep nm P (.tup [.str "use",.str z])
 | floor {u o:Rat}:qs u<=39->0 < u->qs o<=39->PStep nm P (.tup [.str "floor",qD u,qD o])
 | ceiling {u o:Rat}:qs u<=39->0 < u->qs o<=39->PStep nm P (.tup [.str "ceiling",qD u,qD o])
 | nearest {u o:Rat} {t:Str}:qs u<=39->0 < u->qs o<=39->(t="up"\/t="down"\/t="even")->PStep nm P (.tup [.str "nearest",qD u,qD o,.str t])
 | join {w:Str} {ps:List D}:(w="sum"\/w="least"\/w="greatest")->2<=ps.length->ps.length<=4->(∀ p∈ps,P p)->PStep nm P (.tup (.str w :: ps))
def PPipe (nm:Str->Prop):Nat->D->Prop
 | 0,_=>False
 | n+1,d=>∃ ss,d = .tup ss/\ss.length<=12/\∀ s∈ss,PStep nm (PPipe nm n) s
theorem PStep.mono {nm nm':Str->Prop} {P P':D->Prop} (hn:∀ z,nm z->nm' z) (hP:∀ d,P d->P' d) {d:D} (h:PStep nm P d):PStep nm' P' d:=by
 cases h with
 | shift a=>exact .shift a
 | scale a b=>exact .scale a b
 | use a=>exact .use (hn _ a)
 | floor a b c=>exact .floor a b c
 | ceiling a b c=>exact .ceiling a b c
 | nearest a b c d=>exact .nearest a b c d
 | join a b c d=>exact .join a b c fun p hp=>hP p (d p hp)
theorem PPipe.up {nm:Str->Prop}:∀ {n:Nat} {d:D},PPipe nm n d->PPipe nm (n+1) d
 | n+1,d,⟨ss,e,l,h⟩=>⟨ss,e,l,fun s hs=>(h s hs).mono (fun _ z=>z) fun _ q=>PPipe.up q⟩
theorem PPipe.mono {nm:Str->Prop} {n m:Nat} {d:D} (h:PPipe nm n d) (hm:n<=m):PPipe nm m d:=by
 induction hm with
 | refl=>exact h
 | step _ ih=>exact ih.up
structure Un (u:Rat):Prop where
 pos:0 < u
 i:∃ z:Int,12 * u=z
 j:∃ z:Int,12 * (1 / u)=z
 hi:u<=4
 lo:1<=4 * u
structure Of (o:Rat):Prop where
 qs:Mt.qs o<=8
 i:∃ z:Int,12 * o=z
 lo:-6<=o
 hi:o<=6
inductive GStep (nm:Str->Prop) (P:D->Prop):D->Rat->Prop where
 | shift {a:Rat}:Of a->GStep nm P (.tup [.str "shift",qD a]) 1
 | scale {a:Rat}:qs a<=3->Un a->GStep nm P (.tup [.str "scale",qD a]) a
 | use {z:Str}:nm z->GStep nm P (.tup [.str "use",.str z]) 1
 | floor {u o:Rat}:qs u<=3->Un u->Of o->GStep nm P (.tup [.str "floor",qD u,qD o]) 1
 | ceiling {u o:Rat}:qs u<=3->Un u->Of o->GStep nm P (.tup [.str "ceiling",qD u,qD o]) 1
 | nearest {u o:Rat} {t:Str}:qs u<=3->Un u->Of o->(t="up"\/t="down"\/t="even")->GStep nm P (.tup [.str "nearest",qD u,qD o,.str t]) 1
 | sum {ps:List D}:2<=ps.length->ps.length<=4->(∀ p∈ps,P p)->GStep nm P (.tup (.str "sum" :: ps)) ps.length
 | pick {w:Str} {ps:List D}:(w="least"\/w="greatest")->2<=ps.length->ps.length<=4->(∀ p∈ps,P p)->GStep nm P (.tup (.str w :: ps)) 1
theorem qs_small (n:Nat) (h:n<=4):qs ((n:Nat):Rat)<=3:=by
 have:n=0\/n=1\/n=2\/n=3\/n=4:=by omega
 rcases this with rfl | rfl | rfl | rfl | rfl <;> decide +kernel
theorem GStep.mono {nm nm':Str->Prop} {P P':D->Prop} (hn:∀ z,nm z->nm' z) (hP:∀ d,P d->P' d) {d:D} {r:Rat} (h:GStep nm P d r):GStep nm' P' d r:=by
 cases h with
 | shift a=>exact .shift a
 | scale a b=>exact .scale a b
 | use a=>exact .use (hn _ a)
 | floor a b c=>exact .floor a b c
 | ceiling a b c=>exact .ceiling a b c
 | nearest a b c d=>exact .nearest a b c d
 | sum b c d=>exact .sum b c fun p hp=>hP p (d p hp)
 | pick a b c d=>exact .pick a b c fun p hp=>hP p (d p hp)
theorem GStep.ps {nm:Str->Prop} {P:D->Prop} {d:D} {r:Rat} (h:GStep nm P d r):PStep nm P d:=by
 cases h with
 | shift a=>exact .shift (by have:=a.qs;omega)
 | scale a b=>exact .scale (by omega) b.pos
 | use a=>exact .use a
 | floor a b c=>exact .floor (by omega) b.pos (by have:=c.qs;omega)
 | ceiling a b c=>exact .ceiling (by omega) b.pos (by have:=c.qs;omega)
 | nearest a b c d=>exact .nearest (by omega) b.pos (by have:=c.qs;omega) d
 | sum b c d=>exact .join (.inl rfl) b c d
 | pick a b c d=>exact .join (.inr a) b c d
theorem GStep.sl {nm:Str->Prop} {P:D->Prop} {d:D} {r:Rat} (h:GStep nm P d r):qs r<=3/\0 < r:=by
 have h1:qs 1<=3/\(0:Rat) < 1:=⟨by decide +kernel,by decide +kernel⟩
 cases h with
 | scale a b=>exact ⟨a,b.pos⟩
 | sum b c d =>
  refine ⟨qs_small _ c,?_⟩
  rename_i ps
  have:((0:Nat):Rat) < (ps.length:Rat):=Rat.natCast_lt_natCast.mpr (by omega)
  simpa using this
 | _=>exact h1
def slopeP:List (D×Rat)->Rat
 | []=>1
 | p :: r=>p.2 * slopeP r
theorem slopeP_ok:∀ {l:List (D×Rat)},(∀ p∈l,qs p.2<=3/\0 < p.2)->qs (slopeP l)<=1+3 * l.length/\0 < slopeP l
 | [],_=>⟨by decide +kernel,by decide +kernel⟩
 | p :: r,h=>by
  obtain ⟨h1,h2⟩:=h p (List.mem_cons_self ..)
  obtain ⟨h3,h4⟩:=slopeP_ok (l:=r) fun q hq=>h q (List.mem_cons_of_mem _ hq)
  have h5:=qs_mul p.2 (slopeP r)
  refine ⟨?_,Rat.mul_pos h2 h4⟩
  show qs (p.2 * slopeP r)<=_
  rw [List.length_cons]
  omega
def GPipe (nm:Str->Prop):Nat->Nat->D->Prop
 | 0,_,_=>False
 | n+1,m,d=>∃ ps:List (D×Rat),ps.length<=m/\m<=4/\(∀ p∈ps,GStep nm (GPipe nm n 2) p.1 p.2) /\
  ((slopeP ps=1/\d = .tup (ps.map (·.1)))\/(slopeP ps≠1/\d = .tup (ps.map (·.1) ++ [.tup [.str "scale",qD (1 / slopeP ps)]])))
theorem GPipe.pp {nm:Str->Prop}:∀ {n m:Nat} {d:D},GPipe nm n m d->PPipe nm n d
 | n+1,m,d,⟨ps,hl,hm,h,hd⟩=>by
  have hs:∀ p∈ps,PStep nm (PPipe nm n) p.1:=fun p hp=>(h p hp).ps.mono (fun _ z=>z) fun _ q=>GPipe.pp q
  obtain ⟨h3,h4⟩:=slopeP_ok fun p hp=>(h p hp).sl
  rcases hd with ⟨_,rfl⟩ | ⟨_,rfl⟩
  ·refine ⟨_,rfl,by rw [List.length_map];omega,fun s hs'=>?_⟩
   obtain ⟨p,hp,rfl⟩:=List.mem_map.mp hs'
   exact hs p hp
  ·refine ⟨_,rfl,by rw [List.length_append,List.length_map];show _+1<=12;omega,fun s hs'=>?_⟩
   rcases List.mem_append.mp hs' with hs' | hs'
   ·obtain ⟨p,hp,rfl⟩:=List.mem_map.mp hs'
    exact hs p hp
   ·rw [List.mem_singleton.mp hs']
    have h5:=qs_div 1 (slopeP ps)
    have h6:qs 1<=1:=by decide +kernel
    exact .scale (by omega) (by rw [Rat.div_def,Rat.one_mul];exact Rat.inv_pos.mpr h4)
theorem hbs_all {n:Nat}:∀ {l:List D},(∀ d∈l,D.hb n d=true)->D.hbs n l=true
 | [],_=>rfl
 | d :: r,h=>by
  show (D.hb n d && D.hbs n r)=true
  rw [h d (List.mem_cons_self ..),hbs_all (l:=r) fun x hx=>h x (List.mem_cons_of_mem _ hx)];rfl
theorem hbs_snoc {n:Nat} {l:List D} {d:D} (h:D.hbs n l=true) (hd:D.hb n d=true):D.hbs n (l ++ [d])=true:=by
 induction l with
 | nil=>show (D.hb n d && true)=true;rw [hd];rfl
 | cons x r ih =>
  have h':(D.hb n x && D.hbs n r)=true:=h
  rw [Bool.and_eq_true] at h'
  show (D.hb n x && D.hbs n (r ++ [d]))=true
  rw [h'.1,ih h'.2];rfl
theorem GStep.hb {nm:Str->Prop} {P:D->Prop} {n:Nat} (hP:∀ d,P d->D.hb n d=true) {d:D} {r:Rat} (h:GStep nm P d r):D.hb n d=true:=by
 cases h with
 | @sum ps b c e =>
  exact hbs_all (l:=.str "sum" :: ps) fun x hx=>by
   rcases List.mem_cons.mp hx with rfl | hx
   ·rfl
   ·exact hP x (e x hx)
 | @pick w ps a b c e =>
  exact hbs_all (l:=.str w :: ps) fun x hx=>by
   rcases List.mem_cons.mp hx with rfl | hx
   ·rfl
   ·exact hP x (e x hx)
 | _=>rfl
theorem GPipe.hb {nm:Str->Prop} {m:Nat}:∀ {n k:Nat} {d:D},GPipe nm n k d->D.hb m d=true
 | n+1,k,d,⟨ps,hl,hk,h,hd⟩=>by
  have hs:D.hbs m (ps.map (·.1))=true:=hbs_all fun x hx=>by
   obtain ⟨p,hp,rfl⟩:=List.mem_map.mp hx
   exact (h p hp).hb fun _ q=>GPipe.hb q
  rcases hd with ⟨_,rfl⟩ | ⟨_,rfl⟩
  ·exact hs
  ·exact hbs_snoc hs rfl
end DL
namespace DL
open PySem PySem.Spec PyProof.Rows L2
def seerB (K:PySem.W.Frag):Bool:=(K.lookup cStatics).isSome && ((K.lookup sysModules).isSome && ((K.lookup builtinsNs).isSome && (K.lookup (He.ga K "__builtins__")).isSome))
end DL
namespace DL
open PySem PySem.Spec PyProof.Rows L2 Mt
def starSp (n:Nat) (dsp:DSp):DSp:=fun ds M Q E=>∃ ws rest,ds=ws ++ rest/\ws.length=n/\rest.length<=sizeLine/\dsp (ws ++ [.tup rest]) M Q E
structure FnSD (P:Program) (w:World) (K:PySem.W.Frag) (mg:Str->Option Value) (base:Heap) (Tb:List (Addr×Str)) (k:Nat) (f:Addr) (n:Nat) (dsp:DSp):Prop where
 run:FnR P w K mg base (L2.CX P w) k f (liftSp K Tb (starSp n dsp))
theorem FnSD.mono {P:Program} {w:World} {K:PySem.W.Frag} {mg:Str->Option Value} {base:Heap} {Tb:List (Addr×Str)} {j k:Nat} {f:Addr} {n:Nat} {dsp:DSp} (F:FnSD P w K mg base Tb j f n dsp) (h:j<=k):FnSD P w K mg base Tb k f n dsp:=⟨F.run.mono h⟩
abbrev KD:=List (Key×D)
def valD (kvs:KD) (k:Key):Option D:=(kvs.find? fun kv=>decide (kv.1=k)).map (·.2)
section
variable {K:PySem.W.Frag} {al:Al} {M:Mem} {H:Hp}
theorem Rpk.any {k:Key}:∀ {kvs:KD} {ys:List (Key×V)},Rpk K al M H kvs ys->(kvs.any fun kv=>decide (kv.1=k))=(ys.any fun kv=>decide (kv.1=k))
 | [],[],_=>rfl
 | [],_ :: _,h=>by simp [Rpk] at h
 | (k',d) :: r,ys,h=>by
  obtain ⟨x,rs,rfl,_,t⟩:=h.cases
  rw [List.any_cons,List.any_cons,Rpk.any t]
theorem Rpk.val {k:Key}:∀ {kvs:KD} {ys:List (Key×V)},Rpk K al M H kvs ys->(valD kvs k=none/\valV ys k=none)\/∃ d v,valD kvs k=some d/\valV ys k=some v/\Rp K al M H d v
 | [],[],_=>.inl ⟨rfl,rfl⟩
 | [],_ :: _,h=>by simp [Rpk] at h
 | (k',d) :: r,ys,h=>by
  obtain ⟨x,rs,rfl,rd,t⟩:=h.cases
  by_cases e:k'=k
  ·exact .inr ⟨d,x,by simp [valD,List.find?_cons,e],by simp [valV,List.find?_cons,e],rd⟩
  ·have e1:valD ((k',d) :: r) k=valD r k:=by simp [valD,List.find?_cons,e]
   have e2:valV ((k',x) :: rs) k=valV rs k:=by simp [valV,List.find?_cons,e]
   rw [e1,e2]
   exact Rpk.val t
theorem Rpk.map {k:Key} {d:D} {v:V} (rd:Rp K al M H d v):∀ {kvs:KD} {ys:List (Key×V)},Rpk K al M H kvs ys->Rpk K al M H (kvs.map fun kv=>if kv.1=k then (kv.1,d) else kv) (ys.map fun kv=>if kv.1=k then (kv.1,v) else kv)
 | [],[],_=>Rpk.nil
 | [],_ :: _,h=>by simp [Rpk] at h
 | (k',d') :: r,ys,h=>by
  obtain ⟨x,rs,rfl,rd',t⟩:=h.cases
  rw [List.map_cons,List.map_cons]
  by_cases e:k'=k
  ·rw [if_pos e,if_pos e];exact Rpk.cons rd (Rpk.map rd t)
  ·rw [if_neg e,if_neg e];exact Rpk.cons rd' (Rpk.map rd t)
theorem Rpk.app {ks ls:KD} {xs ys:List (Key×V)} (h1:Rpk K al M H ks xs) (h2:Rpk K al M H ls ys):Rpk K al M H (ks ++ ls) (xs ++ ys):=⟨by simp [h1.1,h2.1],by rw [List.map_append,List.map_append];exact h1.2.append h2.2⟩
theorem Rpk.len {kvs:KD} {ys:List (Key×V)} (h:Rpk K al M H kvs ys):kvs.length=ys.length:=by have:=congrArg List.length h.1;simpa using this
end
end DL
namespace Gfr
open PySem
open PyProof.Rows (AllBare)
abbrev NGf (fs:List Frame):Prop:=splitAtGen fs=none
def Sus:GenState->Prop
 | .suspended _ _ _ _ _ _=>True
 | _=>False
def ng:GenState->Prop
 | .suspended _ _ _ _ fs _=>NGf fs
 | _=>True
def poison:GenState->GenState
 | .suspended _ l c p fs cl=>.suspended (fun _=>.unsupported "") l c p fs cl
 | x=>x
theorem poison_bare (x:GenState):(poison x).bare=x.bare:=by cases x <;> rfl
structure GRl (P:Nat->Prop) (Y:Nat->GenState) (gp G:Array GenState):Prop where
 sz:gp.size=G.size
 pz:∀ i,P i->gp[i]?=some (poison (Y i))/\G[i]?=some (Y i)
 eq:∀ i,¬ P i->gp[i]?=G[i]?
 ng:∀ i x,¬ P i->G[i]?=some x->ng x
section
variable {P:Nat->Prop} {Y:Nat->GenState} {gp G:Array GenState}
theorem GRl.set (h:GRl P Y gp G) {j:Nat} {x:GenState} (hj:¬ P j) (hx:Gfr.ng x):GRl P Y (gp.setIfInBounds j x) (G.setIfInBounds j x):=by
 refine ⟨by simp [h.sz],fun i hi=>?_,fun i hi=>?_,fun i y hi e=>?_⟩
 ·have:j≠i:=fun z=>hj (z ▸ hi)
  rw [Array.getElem?_setIfInBounds_ne this,Array.getElem?_setIfInBounds_ne this]
  exact h.pz i hi
 ·by_cases z:j=i
  ·subst z
   rw [Array.getElem?_setIfInBounds_self,Array.getElem?_setIfInBounds_self,h.sz]
  ·rw [Array.getElem?_setIfInBounds_ne z,Array.getElem?_setIfInBounds_ne z]
   exact h.eq i hi
 ·by_cases z:j=i
  ·subst z
   rw [Array.getElem?_setIfInBounds_self] at e
   split at e
   ·cases e;exact hx
   ·cases e
  ·rw [Array.getElem?_setIfInBounds_ne z] at e
   exact h.ng i y hi e
theorem GRl.push (h:GRl P Y gp G) (c:Code):GRl P Y (gp.push (.fresh c)) (G.push (.fresh c)):=by
 refine ⟨by simp [h.sz],fun i hi=>?_,fun i hi=>?_,fun i y hi e=>?_⟩
 ·obtain ⟨e1,e2⟩:=h.pz i hi
  have l1:=(Array.getElem?_eq_some_iff.mp e1).1
  have l2:=(Array.getElem?_eq_some_iff.mp e2).1
  rw [Array.getElem?_push,Array.getElem?_push,if_neg (by omega),if_neg (by omega)]
  exact ⟨e1,e2⟩
 ·rw [Array.getElem?_push,Array.getElem?_push,h.sz,h.eq i hi]
 ·rw [Array.getElem?_push] at e
  split at e
  ·cases e;trivial
  ·exact h.ng i y hi e
end
theorem GRl.bare {P:Nat->Prop} {Y:Nat->GenState} {gp G:Array GenState} (r:GRl P Y gp G) (hb:AllBare gp):AllBare G:=fun y hy=>by
 obtain ⟨i,hi,rfl⟩:=Array.mem_iff_getElem.mp hy
 have ei:G[i]?=some G[i]:=Array.getElem?_eq_getElem hi
 by_cases hp:P i
 ·obtain ⟨e1,e2⟩:=r.pz i hp
  have e3:some G[i]=some (Y i):=ei.symm.trans e2
  rw [Option.some.inj e3,<- poison_bare]
  exact hb _ (Array.mem_of_getElem? e1)
 ·exact hb _ (Array.mem_of_getElem? ((r.eq i hp).trans ei))
structure Like (s s' sp:Shared):Prop where
 ex:∃ G,s'={ sp with gens:=G }
 kp:∀ (i:Nat) (x:GenState),s.gens[i]?=some x->Sus x->s'.gens[i]?=some x
 br:AllBare sp.gens->AllBare s'.gens
 rl:∃ P Y G,(∀ i,P i->Sus (Y i))/\GRl P Y sp.gens G/\s'={ sp with gens:=G }
theorem Like.heap {s s' sp:Shared} (h:Like s s' sp):s'.heap=sp.heap:=by obtain ⟨⟨G,rfl⟩,_,_,_⟩:=h;rfl
end Gfr
namespace Gg
open PySem PySem.Spec PyProof.Rows L2 GenW DL
def Sg (M:Model) (A:Around) (c:Code) (t:Sem PySem.Fin) (fs:List PySem.Frame) (s:Shared) (Φ:PySem.End->Shared->Prop):Prop :=
 ∀ (Γ:PySem.Ctx) (p:Pos),Γ.code=c->Γ.Woken A->∃ e s',PySem.Runs M Γ p t fs s e s'/\Φ e s'
def cutH (h:Heap) (n:Nat):Heap:={ h with objs:=h.objs.extract 0 n }
abbrev noE:XK:=fun _ _ _=>False
structure Gf where
 P:Program
 w:World
 K:PySem.W.Frag
 mg:Str->Option Value
 base:Heap
 Tb:List (Addr×Str)
 N:List Str
 qual:Str
 scope:Scope
 f:Addr
 cd:Value
 A:Around
 outer:List Env
 a:Addr
 go:Obj
 nb:Nat
def Gf.env (G:Gf):Env:=envOfC G.qual G.scope G.nb G.f G.cd
def Gf.X (G:Gf) (s:Shared) (H:Hp):Cx :=
 { cxOf (L2.CX G.P G.w) G.P G.w G.K G.mg G.base G.N G.qual G.scope G.f G.cd G.A G.outer s H noE with pn:=[(G.a,G.go)],xe:=fun _ _=>False }
structure Tk where
 s:Shared
 H:Hp
 al:Al
 M:Mem
 pl:List (Addr×Obj)
structure GAt (G:Gf) (T:Tk) (al:Al) (σ:L2.St) (H:Hp) (rho:Rho) (M:Mem) (s:Shared):Prop where
 sz:T.s.heap.objs.size=G.nb
 inv:Inv (G.X T.s T.H) T.pl σ H s
 wf:Wf G.K G.Tb al H M
 sl:RpS G.K al M H σ rho
 st:Stp T.al T.M T.H al M H
structure FrOk (G:Gf) (T:Tk) (s:Shared):Prop where
 cut:T.s={ s with heap:=cutH s.heap G.nb }
 sz:G.nb<=s.heap.objs.size
 mod:Mod G.K G.mg G.base
 hd:G.A.handled=none
 fr:G.A.frames=some G.outer
 bs:∀ b o,G.base.get? b=some o->s.heap.get? b=some o/\T.H b=none
 bsz:G.base.objs.size<=G.nb
 funs:(cutH s.heap G.nb).FunFrames G.base G.outer
 frf:∀ b∈frs G.outer,T.H b=none
 hok:HOk G.P G.w T.H s.heap
 bare:AllBare s.gens
 nbf:T.H G.nb=none
 pin:∀ p∈(G.a,G.go) :: T.pl,s.heap.get? p.1=some p.2/\T.H p.1=none/\p.1≠G.nb/\p.1 ∉ frs G.outer/\∀ v,p.2.data≠.cell v
structure Stv (al:Al) (M:Mem) (H:Hp) (al':Al) (M':Mem) (H':Hp):Prop where
 pre:∀ (i:Nat) (a:Addr),al.a[i]?=some a->al'.a[i]?=some a
 fz:∀ a o,H a=some o->(∀ ps,o≠.tbl ps)->Fz al M a->H' a=some o/\Fz al' M' a
theorem Stv.trans {al al1 al2:Al} {M M1 M2:Mem} {H H1 H2:Hp} (a:Stv al M H al1 M1 H1) (b:Stv al1 M1 H1 al2 M2 H2):Stv al M H al2 M2 H2 :=
 ⟨fun i x h=>b.pre i x (a.pre i x h),fun x o h n f=>b.fz x o (a.fz x o h n f).1 n (a.fz x o h n f).2⟩
structure Lat (G:Gf) (T:Tk) (al:Al) (H:Hp) (s1:Shared) (T':Tk) (s2:Shared):Prop where
 st:Stv al T.M H T'.al T'.M T'.H
 wf:Wf G.K G.Tb T'.al T'.H T'.M
 fr:FrOk G T' s2
 loc:∀ o,s1.heap.get? G.nb=some o->s2.heap.get? G.nb=some o
def NoCell (sc:Scope):Prop:=(∀ n,cellsFrom n sc.names []=[])/\∀ x,sc.names.lookup x≠some .cell/\sc.names.lookup x≠some .free
def Phi (G:Gf):List D->Tk->PySem.End->Shared->Prop
 | [],T=>fun e s'=>match e with
  | .ret r=>(r = .ok (.ret .none)\/r = .ok .next)/\∃ al H σ rho,GAt G T al σ H rho T.M s'
  | .susp ..=>False
 | d :: ys,T=>fun e s'=>match e with
  | .susp v gd l k c p fs=>(PySem.End.susp v gd l k c p fs).quiet=true/\∃ al H σ rho x,GAt G T al σ H rho T.M s'/\RelV x v/\Rp G.K al T.M H d x/\∀ T' s'',Lat G T al H s' T' s''->Sg (model G.P G.w) G.A c (k (.send .none)) fs s'' (Phi G ys T')
  | .ret _=>False
end Gg
namespace Gg
open PySem PySem.Spec PyProof.Rows L2 GenW DL Gfr
abbrev GSpD:=List DL.D->(List DL.D->Prop)->Prop
structure GNew (P:Program) (w:World) (K:PySem.W.Frag) (mg:Str->Option Value) (base:Heap) (Tb:List (Addr×Str)) (k:Nat) (outer:List Env) (H:Hp) (s:Shared) (al:Al) (M:Mem) (ys:List DL.D) (N:List Str) (qual:Str) (scope:Scope) (f:Addr) (cd:Value) (a:Addr) (go:Obj) (g:Nat) (s':Shared):Prop where
 gc:∀ v,go.data≠.cell v
 os:s'.os=s.os
 bare:AllBare s'.gens
 keep:∀ b o,s.heap.get? b=some o->s'.heap.get? b=some o
 an:s.heap.objs.size < a
 at_:s'.heap.get? a=some go
 gen:s'.heap.IsGen a g
 loc:∃ ol,s'.heap.get? s.heap.objs.size=some ol/\∀ v,ol.data≠.cell v
 nc:NoCell scope
 run:∃ c,s'.gens[g]?=some (.fresh c)/\∀ Aw,Room k Aw->∀ T' s'',Stv al M H T'.al T'.M T'.H->Wf K Tb T'.al T'.H T'.M->FrOk ⟨P,w,K,mg,base,Tb,N,qual,scope,f,cd,Aw,outer,a,go,s.heap.objs.size⟩ T' s'' ->
  (∀ o,s'.heap.get? s.heap.objs.size=some o->s''.heap.get? s.heap.objs.size=some o)->Sg (model P w) Aw c ((model P w).den c) [] s'' (Phi ⟨P,w,K,mg,base,Tb,N,qual,scope,f,cd,Aw,outer,a,go,s.heap.objs.size⟩ ys T')
structure GFnD (P:Program) (w:World) (K:PySem.W.Frag) (mg:Str->Option Value) (base:Heap) (Tb:List (Addr×Str)) (k:Nat) (f:Addr) (fd:FuncData) (ps:List Str) (gsp:GSpD):Prop where
 len:∀ ds Q,gsp ds Q->ds.length=ps.length
 run:∀ (A:Around) (outer:List Env) (s:Shared) (H:Hp) (args:Args) (us:List Value) (vs:List V) (ds:List DL.D) (al:Al) (M:Mem) (Q:List DL.D->Prop),Room k A->Env0 P w K mg base A outer s H->BindsTo s fd args (ps.zip us)->Vals vs us->Rps K al M H ds vs->gsp ds Q ->
  codeAny (model P w) A (.call (.ref f) args) (fun r s'=>∃ N qual scope cd a go g ys,r = .ok (.ret (.ref a))/\Q ys/\GNew P w K mg base Tb k outer H s al M ys N qual scope f cd a go g s') s
theorem GFnD.mono {P:Program} {w:World} {K:PySem.W.Frag} {mg:Str->Option Value} {base:Heap} {Tb:List (Addr×Str)} {j k:Nat} {f:Addr} {fd:FuncData} {ps:List Str} {gsp:GSpD} (F:GFnD P w K mg base Tb j f fd ps gsp) (h:j<=k):GFnD P w K mg base Tb k f fd ps gsp :=
 ⟨F.len,fun A outer s H args us vs ds al M Q hr e0 hb r rr q=>codeAny_mono (F.run A outer s H args us vs ds al M Q (hr.mono h) e0 hb r rr q) fun r s' ⟨N,qual,scope,cd,a,go,g,ys,e,q,z⟩ =>
  ⟨N,qual,scope,cd,a,go,g,ys,e,q,⟨z.gc,z.os,z.bare,z.keep,z.an,z.at_,z.gen,z.loc,z.nc,let ⟨c,e,y⟩:=z.run;⟨c,e,fun Aw hr=>y Aw (hr.mono h)⟩⟩⟩⟩
end Gg
namespace DL
open PySem PySem.Spec PyProof.Rows L2 Mt
inductive CErr where
 | frac | inval | step | parts | many | long | unlike | equal | pipe | strch | text | name | cmd | unk (z:Str)
def CErr.ex (K:PySem.W.Frag):CErr->Exn
 | .frac=>⟨He.ga K "InvalidFraction",[("code",.str "InvalidFraction")]⟩
 | .inval=>⟨He.ga K "InvalidCurve",[("code",.str "InvalidCurve")]⟩
 | .step=>⟨He.ga K "InvalidStep",[("code",.str "InvalidStep")]⟩
 | .parts=>⟨He.ga K "InvalidParts",[("code",.str "InvalidParts")]⟩
 | .many=>⟨He.ga K "TooMany",[("limit",.int 60),("code",.str "TooMany")]⟩
 | .long=>⟨He.ga K "TooLong",[("limit",.int 60),("code",.str "TooLong")]⟩
 | .unlike=>⟨He.ga K "UnlikeSlopes",[("code",.str "UnlikeSlopes")]⟩
 | .equal=>⟨He.ga K "EqualSlopes",[("code",.str "EqualSlopes")]⟩
 | .pipe=>⟨He.ga K "InvalidPipeline",[("code",.str "InvalidPipeline")]⟩
 | .strch=>⟨He.ga K "InvalidStretch",[("code",.str "InvalidStretch")]⟩
 | .text=>⟨He.ga K "InvalidText",[("code",.str "InvalidText")]⟩
 | .name=>⟨He.ga K "InvalidName",[("code",.str "InvalidName")]⟩
 | .cmd=>⟨He.ga K "InvalidCommand",[("code",.str "InvalidCommand")]⟩
 | .unk z=>⟨He.ga K "UnknownName",[("name",.str z),("code",.str "UnknownName")]⟩
abbrev Out:=Except CErr Crv
open Classical in
noncomputable def mkC (p r:Rat) (pts:List Pt) (o:Rat):Out :=
 if okPts p r pts then (if 60 < pts.length then .error .many else if (norm p r pts o).long=true then .error .long else .ok (norm p r pts o)) else .error .inval
noncomputable abbrev Crv.off (c:Crv):Rat:=(c.arn 0).v
noncomputable def behC (c:Crv) (hi:Rat):Int:=if (c.at (plc c.at hi)).a=hi then plc c.at hi+1 else plc c.at hi
noncomputable def ptsB (c:Crv) (lo hi:Rat):List Pt:=if c.row=[] then [] else (List.range (behC c hi - plc c.at lo).toNat).map fun i:Nat=>c.at (plc c.at lo+i)
theorem Trk.ale {S:Int->Pt} (h:Trk S) {i j:Int} (hij:i<=j):(S i).a<=(S j).a:=by
 rcases Int.lt_or_eq_of_le hij with g | g
 ·have:=h.lt g;grind
 ·subst g;exact Rat.le_refl
theorem Trk.pl_lt {S:Int->Pt} (h:Trk S) {x:Rat} {k:Int}:k < DL.plc S x ↔ (S k).a < x:=by
 have h1:=h.plc x
 constructor
 ·intro g
  have:=h.ale (show k<=DL.plc S x - 1 by omega)
  have:=h1.1
  grind
 ·intro g
  exact h.lt_iff.mp (by have:=h1.2;grind)
theorem beh_le {c:Crv} (h:Trk c.at) {hi:Rat} {k:Int}:k < behC c hi ↔ (c.at k).a<=hi:=by
 have h1:=h.plc hi
 unfold behC
 by_cases e:(c.at (plc c.at hi)).a=hi
 ·rw [if_pos e]
  constructor
  ·intro g
   have:=h.ale (show k<=plc c.at hi by omega)
   grind
  ·intro g
   have:¬ plc c.at hi < k:=fun z=>by have:=h.lt z;grind
   omega
 ·rw [if_neg e,h.pl_lt]
  constructor
  ·intro g;grind
  ·intro g
   by_cases z:(c.at k).a=hi
   ·have:¬ k < plc c.at hi:=fun q=>by have:=h.pl_lt.mp q;grind
    have:¬ plc c.at hi < k:=fun q=>by have:=h.lt q;have:=h1.2;grind
    have:k=plc c.at hi:=by omega
    subst this
    exact absurd z e
   ·grind
def IsLv (S:Int->Pt) (w:Rat) (k:Int):Prop:=(S k).l < w/\w<=(S (k+1)).l
def IsLu (S:Int->Pt) (w:Rat) (k:Int):Prop:=(S k).r<=w/\w < (S (k+1)).r
open Classical in
noncomputable def lvl (S:Int->Pt) (w:Rat):Int:=if h:∃ k,IsLv S w k then h.choose else 0
open Classical in
noncomputable def lvu (S:Int->Pt) (w:Rat):Int:=if h:∃ k,IsLu S w k then h.choose else 0
theorem Trk.lle {S:Int->Pt} (h:Trk S) {i j:Int} (hij:i<=j):(S i).l<=(S j).l:=by
 rcases Int.lt_or_eq_of_le hij with g | g
 ·have:=h.le g;have:=h.lv i;have:=h.vr i;grind
 ·subst g;exact Rat.le_refl
theorem Trk.rle {S:Int->Pt} (h:Trk S) {i j:Int} (hij:i<=j):(S i).r<=(S j).r:=by
 rcases Int.lt_or_eq_of_le hij with g | g
 ·have:=h.le g;have:=h.lv j;have:=h.vr j;grind
 ·subst g;exact Rat.le_refl
theorem Trk.lv_un {S:Int->Pt} (h:Trk S) {w:Rat} {i j:Int} (hi:IsLv S w i) (hj:IsLv S w j):i=j:=by
 have h1:¬ i+1<=j:=fun z=>by have:=h.lle z;have:=hi.2;have:=hj.1;grind
 have h2:¬ j+1<=i:=fun z=>by have:=h.lle z;have:=hj.2;have:=hi.1;grind
 omega
theorem Trk.lu_un {S:Int->Pt} (h:Trk S) {w:Rat} {i j:Int} (hi:IsLu S w i) (hj:IsLu S w j):i=j:=by
 have h1:¬ i+1<=j:=fun z=>by have:=h.rle z;have:=hi.2;have:=hj.1;grind
 have h2:¬ j+1<=i:=fun z=>by have:=h.rle z;have:=hj.2;have:=hi.1;grind
 omega
theorem Trk.lvl_eq {S:Int->Pt} (h:Trk S) {w:Rat} {k:Int} (g:IsLv S w k):lvl S w=k:=by
 unfold lvl
 rw [dif_pos ⟨k,g⟩]
 exact h.lv_un (Classical.choose_spec (⟨k,g⟩:∃ k,IsLv S w k)) g
theorem Trk.lvu_eq {S:Int->Pt} (h:Trk S) {w:Rat} {k:Int} (g:IsLu S w k):lvu S w=k:=by
 unfold lvu
 rw [dif_pos ⟨k,g⟩]
 exact h.lu_un (Classical.choose_spec (⟨k,g⟩:∃ k,IsLu S w k)) g
theorem Trk.lv_ex {S:Int->Pt} (h:Trk S) {w:Rat} {i:Int}:∀ n:Nat,(S i).l < w->w<=(S (i+n)).l->∃ k,i<=k/\k < i+n/\IsLv S w k
 | 0,h1,h2=>by simp at h2;grind
 | n+1,h1,h2=>by
  by_cases z:w<=(S (i+n)).l
  ·obtain ⟨k,a,b,c⟩:=h.lv_ex n h1 z
   exact ⟨k,a,by omega,c⟩
  ·exact ⟨i+n,by omega,by omega,by grind,by rw [show i+(n:Int)+1=i+((n+1:Nat):Int) from by omega];exact h2⟩
theorem Trk.lu_ex {S:Int->Pt} (h:Trk S) {w:Rat} {i:Int}:∀ n:Nat,(S i).r<=w->w < (S (i+n)).r->∃ k,i<=k/\k < i+n/\IsLu S w k
 | 0,h1,h2=>by simp at h2;grind
 | n+1,h1,h2=>by
  by_cases z:w < (S (i+n)).r
  ·obtain ⟨k,a,b,c⟩:=h.lu_ex n h1 z
   exact ⟨k,a,by omega,c⟩
  ·exact ⟨i+n,by omega,by omega,by grind,by rw [show i+(n:Int)+1=i+((n+1:Nat):Int) from by omega];exact h2⟩
theorem Crv.at_per {c:Crv} (hn:c.row≠[]) (t:Int):c.at (t * c.row.length)=(c.at 0).mv t c.p c.r:=by
 have h1:=rowAt_add (p:=c.p) (r:=c.r) hn 0 t
 rw [Int.zero_add] at h1
 exact h1
def lvlA (c:Crv) (w:Rat):Int:=(-(-((w - (c.at 0).l) / c.r)).floor - 1) * c.row.length
def lvuA (c:Crv) (w:Rat):Int:=((w - (c.at 0).r) / c.r).floor * c.row.length
theorem lvl_at {c:Crv} (ok:c.Ok) (hn:c.row≠[]) (w:Rat):∃ k,lvlA c w<=k/\k < lvlA c w+c.row.length/\IsLv c.at w k:=by
 have r0:=ok.r0
 have trk:=ok.trk hn
 generalize hx:(w - (c.at 0).l) / c.r=x
 have f1:=Rat.floor_le (-x)
 have f2:=Rat.lt_floor_add_one (-x)
 rw [Rat.intCast_add] at f2
 have e1:((1:Int):Rat)=1:=rfl
 rw [e1] at f2
 have hw:w=(c.at 0).l+x * c.r:=by
  rw [<- hx,Rat.div_mul_cancel (by grind)];grind
 have h1:(c.at (lvlA c w)).l < w:=by
  unfold lvlA
  rw [hx,Crv.at_per hn]
  show (c.at 0).l+_ * c.r < w
  rw [Rat.intCast_sub,Rat.intCast_neg,e1,hw]
  have:(-((-x).floor:Rat) - 1) < x:=by grind
  have:=Rat.mul_lt_mul_of_pos_right this r0
  grind
 have h2:w<=(c.at (lvlA c w+c.row.length)).l:=by
  unfold lvlA
  rw [hx,show (-(-x).floor - 1) * (c.row.length:Int)+c.row.length=(-(-x).floor) * c.row.length from by rw [Int.sub_mul];omega,Crv.at_per hn]
  show w<=(c.at 0).l+_ * c.r
  rw [Rat.intCast_neg,hw]
  have:x<=-((-x).floor:Rat):=by grind
  have:=Rat.mul_le_mul_of_nonneg_right this (Rat.le_of_lt r0)
  grind
 exact trk.lv_ex c.row.length h1 h2
theorem lvu_at {c:Crv} (ok:c.Ok) (hn:c.row≠[]) (w:Rat):∃ k,lvuA c w<=k/\k < lvuA c w+c.row.length/\IsLu c.at w k:=by
 have r0:=ok.r0
 have trk:=ok.trk hn
 generalize hx:(w - (c.at 0).r) / c.r=x
 have f1:=Rat.floor_le x
 have f2:=Rat.lt_floor_add_one x
 rw [Rat.intCast_add] at f2
 have e1:((1:Int):Rat)=1:=rfl
 rw [e1] at f2
 have hw:w=(c.at 0).r+x * c.r:=by
  rw [<- hx,Rat.div_mul_cancel (by grind)];grind
 have h1:(c.at (lvuA c w)).r<=w:=by
  unfold lvuA
  rw [hx,Crv.at_per hn]
  show (c.at 0).r+_ * c.r<=w
  rw [hw]
  have:=Rat.mul_le_mul_of_nonneg_right f1 (Rat.le_of_lt r0)
  grind
 have h2:w < (c.at (lvuA c w+c.row.length)).r:=by
  unfold lvuA
  rw [hx,show x.floor * (c.row.length:Int)+c.row.length=(x.floor+1) * c.row.length from by rw [Int.add_mul];omega,Crv.at_per hn]
  show w < (c.at 0).r+_ * c.r
  rw [Rat.intCast_add,e1,hw]
  have:=Rat.mul_lt_mul_of_pos_right f2 r0
  grind
 exact trk.lu_ex c.row.length h1 h2
noncomputable def onL (c:Crv) (w:Rat):Rat:=(w - c.off) / c.s
noncomputable def atLs (S:Int->Pt) (w:Rat):Rat×Bool:=if w<=(S (lvl S w)).v then ((S (lvl S w)).a,true) else if w<=(S (lvl S w)).r then ((S (lvl S w)).a,false)
 else ((S (lvl S w)).a+(w - (S (lvl S w)).r) / slB (S (lvl S w)) (S (lvl S w+1)),true)
noncomputable def atMs (S:Int->Pt) (w:Rat):Rat×Bool:=if w < (S (lvu S w+1)).l then ((S (lvu S w)).a+(w - (S (lvu S w)).r) / slB (S (lvu S w)) (S (lvu S w+1)),true)
 else ((S (lvu S w+1)).a,decide ((S (lvu S w+1)).v<=w))
noncomputable def atL (c:Crv) (w:Rat):Rat×Bool:=if c.row=[] then (onL c w,true) else atLs c.at w
noncomputable def atM (c:Crv) (w:Rat):Rat×Bool:=if c.row=[] then (onL c w,true) else atMs c.at w
noncomputable def liftF (o i:Crv):Rat:=cmQ i.r o.p
noncomputable def turnF (o i:Crv):Int:=(liftF o i / i.r).num
noncomputable def beyF (o i:Crv):Int:=o.row.length * (liftF o i / o.p).num
noncomputable def mineF (o i:Crv):Int:=turnF o i * i.row.length+if i.ris=true then beyF o i else 0
noncomputable def yourF (o i:Crv):Int:=if o.ris=true then mineF o i else 2 * beyF o i
noncomputable def joinF (o i:Crv) (x:Rat):Pt:=⟨x,if (i.arn x).sb=0 then (o.arn (i.arn x).l).v else (o.arn (i.arn x).l).l,(o.arn (i.arn x).v).v,if (i.arn x).sa=0 then (o.arn (i.arn x).r).v else (o.arn (i.arn x).r).r⟩
noncomputable def innA1 (o i:Crv) (k:Int):List Rat:=(i.at k).a :: (if slB (i.at k) (i.at (k+1))=0 then [] else
 ((ptsB o (i.at k).r (i.at (k+1)).l).filter fun q=>decide ((i.at k).r < q.a) && decide (q.a < (i.at (k+1)).l)).map fun q=>(i.at k).a+(q.a - (i.at k).r) / slB (i.at k) (i.at (k+1)))
noncomputable def innA (o i:Crv):List Rat:=(List.range (turnF o i * i.row.length).toNat).flatMap fun k:Nat=>innA1 o i k
noncomputable def outA (o i:Crv):List Rat:=(List.range (beyF o i).toNat).flatMap fun k:Nat=>[(atL i (o.at k).a).1,(atM i (o.at k).a).1]
noncomputable def spotF (o i:Crv):List Rat:=ordQ ((if mineF o i<=yourF o i then innA o i else outA o i).map fun x=>wthn x (turnF o i * i.p))
noncomputable def widPt (o l:Crv) (q:Pt):Pt:=(⟨(q.a - l.off) / l.s,q.l,q.v,q.r⟩:Pt).mv (-((q.a - l.off) / l.s / (o.p / l.s)).floor:Int) (o.p / l.s) o.r
noncomputable def widF (o l:Crv):Out:=mkC (o.p / l.s) o.r ((ordQ ((o.row.map (widPt o l)).map (·.a))).map fun x=>((o.row.map (widPt o l)).reverse.find? fun q=>decide (q.a=x)).getD ⟨0,0,0,0⟩) 0
noncomputable def strF (o i:Crv):Out:=mkC i.p (o.s * i.r) (i.row.map fun q=>⟨q.a,(o.arn q.l).v,(o.arn q.v).v,(o.arn q.r).v⟩) (o.arn i.off).v
noncomputable def afterF (o i:Crv):Out:=if o.row=[] then strF o i else if i.row=[] then widF o i
 else if min (mineF o i) (yourF o i) > 60 then .error .many
 else mkC (turnF o i * i.p) (o.r * (liftF o i / o.p)) ((spotF o i).map (joinF o i)) 0
structure Crv.Gd (c:Crv):Prop where
 ok:c.Ok
 nf:c.Nf
 len:c.row.length<=60
 sh:c.long=false
 b:qs c.b<=100000
theorem Crv.small2 {c:Crv} (h:c.long=false):(qs c.p<=200/\qs c.r<=200)/\(∀ q∈c.row,q.sz 200)/\(c.row=[]->qs c.b<=200):=by
 have hs:∀ q∈c.nums,qs q<=200:=fun q hq=>big_qs (by
  unfold Crv.long at h
  rw [List.any_eq_false] at h
  simpa using h q hq)
 refine ⟨⟨hs c.p (by simp [Crv.nums]),hs c.r (by simp [Crv.nums])⟩,fun q hq=>?_,fun e=>hs c.b (by simp [Crv.nums,e])⟩
 have:∀ x∈[q.a,q.l,q.v,q.r],x∈c.nums:=fun x hx=>List.mem_append_right _ (List.mem_flatMap.mpr ⟨q,hq,hx⟩)
 exact ⟨hs _ (this _ (by simp)),hs _ (this _ (by simp)),hs _ (this _ (by simp)),hs _ (this _ (by simp))⟩
theorem Crv.Gd.sz {c:Crv} (g:c.Gd):c.Sz 20000:=by
 obtain ⟨⟨h1,h2⟩,h3,h4⟩:=Crv.small2 g.sh
 refine ⟨fun _=>by omega,fun _=>by omega,?_,Nat.le_trans g.b (by decide),fun q hq=>(h3 q hq).mono (by decide),by have:=g.len;omega⟩
 rw [g.ok.s]
 have:=qs_div c.r c.p
 omega
theorem Crv.Gd.sl {c:Crv} (g:c.Gd):qs c.s<=400:=by
 obtain ⟨⟨h1,h2⟩,_,_⟩:=Crv.small2 g.sh
 rw [g.ok.s]
 have:=qs_div c.r c.p
 omega
theorem Crv.Gd.sz0 {c:Crv} (g:c.Gd):Crv.Sz ⟨c.p,c.r,c.row,c.s,if c.row=[] then c.b else 0⟩ 200:=by
 obtain ⟨⟨h1,h2⟩,h3,h4⟩:=Crv.small2 g.sh
 refine ⟨fun _=>h1,fun _=>h2,g.sl,?_,h3,by have:=g.len;show c.row.length < 10000;omega⟩
 show qs (if c.row=[] then c.b else 0)<=_
 split
 ·rename_i e;have:=h4 e;omega
 ·have:qs (0:Rat)=1:=by decide
  omega
end DL
namespace DL
open PySem PySem.Spec PyProof.Rows L2 Mt
theorem mul_div_num {n:Nat} {p:Rat} (h:0 < p):((n:Rat) * p / p).num=n:=by
 have:(n:Rat) * p / p=(n:Rat):=by
  rw [Rat.div_def,Rat.mul_assoc,Rat.mul_inv_cancel _ (by grind),Rat.mul_one]
 rw [this];rfl
section
variable {c:Crv}
theorem Crv.at_add (hn:c.row≠[]) (k t:Int):c.at (k+t * c.row.length)=(c.at k).mv t c.p c.r:=rowAt_add hn k t
theorem Crv.at_nat {j:Nat} (hj:j < c.row.length):c.at j=c.row[j]:=rowAt_nat j hj
theorem plc_per (ok:c.Ok) (hn:c.row≠[]) (x:Rat) (t:Int):plc c.at (x+t * c.p)=plc c.at x+t * c.row.length:=by
 have h:=(ok.trk hn).plc x
 refine (ok.trk hn).plc_eq ⟨?_,?_⟩
 ·rw [show plc c.at x+t * c.row.length - 1=plc c.at x - 1+t * c.row.length from by omega,Crv.at_add hn]
  show _+_ < _
  have:=h.1;grind
 ·rw [Crv.at_add hn]
  show _<=_+_
  have:=h.2;grind
end
theorem Arn.of_s0 {c:Crv} (hn:c.row≠[]) (y:Rat):c.arn y=Crv.arn ⟨c.p,c.r,c.row,c.s,if c.row=[] then c.b else 0⟩ y:=by
 unfold Crv.arn
 rw [if_neg hn,if_neg (show ¬ (Crv.row ⟨c.p,c.r,c.row,c.s,if c.row=[] then c.b else 0⟩=[]) from hn)]
 rfl
structure Arn.szd (a:Arn) (B:Nat):Prop where
 l:qs a.l<=B
 v:qs a.v<=B
 r:qs a.r<=B
 sb:qs a.sb<=B
 sa:qs a.sa<=B
theorem arn_szd {c:Crv} {B:Nat} (hz:c.Sz B) (ok:c.Ok) (hn:c.row≠[]) (y:Rat):(c.arn y).szd (14 * B+3 * qs y+150):=by
 have hb:=plc_bz hz ok hn y
 have hs:=hz.at hn (Nat.le_refl (bz (plc c.at y)))
 have h1:=hs.a;have h2:=hs.l;have h3:=hs.v;have h4:=hs.r
 have hsl:=hz.sl hn (plc c.at y - 1)
 have hsl2:=hz.sl hn (plc c.at y)
 rw [show plc c.at y - 1+1=plc c.at y from by omega] at hsl
 have hp:=qs_pos y
 unfold Crv.arn
 rw [if_neg hn]
 unfold arn arnAt
 split
 ·refine ⟨?_,?_,?_,?_,?_⟩ <;> (simp only [];omega)
 ·have q1:=qs_sub (c.at (plc c.at y)).a y
  have q2:=qs_mul (slB (c.at (plc c.at y - 1)) (c.at (plc c.at y))) ((c.at (plc c.at y)).a - y)
  have q3:=qs_sub (c.at (plc c.at y)).l (slB (c.at (plc c.at y - 1)) (c.at (plc c.at y)) * ((c.at (plc c.at y)).a - y))
  refine ⟨?_,?_,?_,?_,?_⟩ <;> (simp only [];omega)
theorem Crv.Gd.arn {c:Crv} (g:c.Gd) (y:Rat):(c.arn y).szd (3000+3 * qs y):=by
 by_cases hn:c.row=[]
 ·have h1:=g.sl
  have h2:=(Crv.small2 g.sh).2.2 hn
  have h3:=qs_mul c.s y
  have h4:=qs_add c.b (c.s * y)
  have:=qs_pos y
  unfold Crv.arn
  rw [if_pos hn]
  refine ⟨?_,?_,?_,?_,?_⟩ <;> (simp only [];omega)
 ·rw [Arn.of_s0 hn]
  have ok':Crv.Ok ⟨c.p,c.r,c.row,c.s,if c.row=[] then c.b else 0⟩:=⟨g.ok.p0,g.ok.r0,g.ok.s,g.ok.p1,g.ok.ok⟩
  have h:=arn_szd g.sz0 ok' hn y
  exact ⟨by have:=h.l;omega,by have:=h.v;omega,by have:=h.r;omega,by have:=h.sb;omega,by have:=h.sa;omega⟩
theorem Crv.Gd.off {c:Crv} (g:c.Gd):qs c.off<=3003:=by
 have h:=(g.arn 0).v
 have:qs (0:Rat)=1:=by decide
 show qs (c.arn 0).v<=3003
 omega
theorem Crv.Gd.p {c:Crv} (g:c.Gd):qs c.p<=200:=(Crv.small2 g.sh).1.1
theorem Crv.Gd.r {c:Crv} (g:c.Gd):qs c.r<=200:=(Crv.small2 g.sh).1.2
theorem Crv.Gd.at {c:Crv} (g:c.Gd) (hn:c.row≠[]) {k:Int} {n:Nat} (hk:bz k<=n):(c.at k).sz (403+n):=by
 have h:=g.sz0.at (c:=⟨c.p,c.r,c.row,c.s,if c.row=[] then c.b else 0⟩) hn hk
 exact Pt.sz.mono h (by omega)
theorem Crv.Gd.s0 {c:Crv} (g:c.Gd):0 < c.s:=by
 rw [g.ok.s,Rat.div_def]
 exact Rat.mul_pos g.ok.r0 (Rat.inv_pos.mpr g.ok.p0)
theorem CErr.hb (K:PySem.W.Frag) (e:CErr) (n:Nat):D.hbs n ((e.ex K).fs.map (·.2))=true:=by cases e <;> rfl
theorem beh_mono {c:Crv} (h:Trk c.at) {x y:Rat} (hxy:x<=y):behC c x<=behC c y:=by
 by_cases z:behC c x<=behC c y
 ·exact z
 ·have h1:behC c y < behC c x:=by omega
  have h2:=(beh_le h).mp h1
  have h3:¬ behC c y < behC c y:=by omega
  exact absurd ((beh_le h).mpr (Rat.le_trans h2 hxy)) h3
theorem Crv.Gd.plc {c:Crv} (g:c.Gd) (hn:c.row≠[]) (y:Rat):bz (plc c.at y)<=qs y+218:=by
 have ok':Crv.Ok ⟨c.p,c.r,c.row,c.s,if c.row=[] then c.b else 0⟩:=⟨g.ok.p0,g.ok.r0,g.ok.s,g.ok.p1,g.ok.ok⟩
 have:=plc_bz g.sz0 ok' hn y
 exact this
theorem lift_n {o i:Crv} (go:o.Ok) (gi:i.Ok):∃ n m:Nat,0 < n/\0 < m/\liftF o i=n * i.r/\liftF o i=m * o.p/\turnF o i=n/\(liftF o i / o.p).num=m:=by
 obtain ⟨e1,h1⟩:=cm_l gi.r0 go.p0
 obtain ⟨e2,h2⟩:=cm_r gi.r0 go.p0
 refine ⟨_,_,h1,h2,e1,e2,?_,?_⟩
 ·unfold turnF;rw [show liftF o i=_ from e1,mul_div_num gi.r0]
 ·rw [show liftF o i=_ from e2,mul_div_num go.p0]
theorem slB_nonneg {S:Int->Pt} (h:Trk S) (k:Int):0<=slB (S k) (S (k+1)):=by
 have h1:=h.up k
 have h2:=h.ri k
 have e:=slB_mul h1
 by_cases z:0<=slB (S k) (S (k+1))
 ·exact z
 ·have z:slB (S k) (S (k+1)) < 0:=Rat.not_le.mp z
  have:slB (S k) (S (k+1)) * ((S (k+1)).a - (S k).a) < 0:=by
   have:=Rat.mul_lt_mul_of_pos_right z (show 0 < (S (k+1)).a - (S k).a by grind)
   rw [Rat.zero_mul] at this
   exact this
  grind
theorem ris_of {i:Crv} (gi:i.Ok) (hn:i.row≠[]) {k:Int} (h:slB (i.at k) (i.at (k+1))≠0):i.ris=true:=by
 obtain ⟨j,t,hj,rfl⟩:=rowAt_split hn k
 rw [Crv.sl_per hn] at h
 have h0:=slB_nonneg (gi.trk hn) j
 unfold Crv.ris
 rw [Bool.or_eq_true]
 right
 rw [List.any_eq_true]
 refine ⟨j,List.mem_range.mpr hj,decide_eq_true ?_⟩
 grind
section
variable {o i:Crv}
theorem pair_len {β:Type} {f g:Nat->β} (j:Nat):((List.range j).flatMap fun k=>[f k,g k]).length=2 * j:=by
 induction j with
 | zero=>rfl
 | succ j ih=>rw [List.range_succ,List.flatMap_append,List.length_append,ih];simp;omega
end
theorem row_asc {p r:Rat} {row:List Pt} (ok:okPts p r row) (hn:row≠[]):(row.map (·.a)).Pairwise (· < ·):=by
 have trk:=ok.trk hn
 rw [List.pairwise_iff_getElem]
 intro i j hi hj hij
 rw [List.length_map] at hi hj
 rw [List.getElem_map,List.getElem_map]
 have h:=trk.lt (show (i:Int) < (j:Int) by omega)
 rw [rowAt_nat i hi,rowAt_nat j hj] at h
 exact h
end DL
namespace DL
section
variable {S:Int->Pt}
theorem slB_ge {q q':Pt} (h:q.a < q'.a) (h2:q.r<=q'.l):0<=slB q q':=by
 have h1:=slB_mul h
 rcases (Rat.le_total (a:=0) (b:=slB q q')) with g | g
 ·exact g
 ·by_cases z:slB q q'=0
  ·rw [z];exact Rat.le_refl
  ·have:slB q q' < 0:=by grind
   have:slB q q' * (q'.a - q.a) < 0 * (q'.a - q.a):=Rat.mul_lt_mul_of_pos_right this (by grind)
   grind
theorem Trk.split (h:Trk S) (x:Rat):∃ k,(S k).a<=x/\x < (S (k+1)).a:=by
 obtain ⟨h1,h2⟩:=h.plc x
 generalize DL.plc S x=k at h1 h2
 by_cases e:x=(S k).a
 ·exact ⟨k,by grind,by rw [e];exact h.up k⟩
 ·exact ⟨k - 1,by grind,by rw [show k - 1+1=k by omega];grind⟩
theorem Trk.arn_ge (h:Trk S) {k:Int} {x:Rat} (h1:(S k).a<=x) (h2:x < (S (k+1)).a) :
  ((S k).a=x/\arn S x=⟨(S k).l,(S k).v,(S k).r,slB (S (k - 1)) (S k),slB (S k) (S (k+1))⟩)\/((S k).a < x/\∃ y,y=(S k).r+slB (S k) (S (k+1)) * (x - (S k).a)/\(S k).r<=y/\y<=(S (k+1)).l/\arn S x=⟨y,y,y,slB (S k) (S (k+1)),slB (S k) (S (k+1))⟩):=by
 by_cases e:(S k).a=x
 ·subst e
  exact .inl ⟨rfl,h.arn_pt⟩
 ·have g:(S k).a < x:=by grind
  have s0:=slB_ge (h.up k) (h.ri k)
  have sm:=slB_mul (h.up k)
  refine .inr ⟨g,_,rfl,?_,?_,h.arn_in g h2⟩
  ·have:0 * (x - (S k).a)<=slB (S k) (S (k+1)) * (x - (S k).a):=Rat.mul_le_mul_of_nonneg_right s0 (by grind)
   grind
  ·have:slB (S k) (S (k+1)) * (x - (S k).a)<=slB (S k) (S (k+1)) * ((S (k+1)).a - (S k).a):=Rat.mul_le_mul_of_nonneg_left (by grind) s0
   grind
theorem Trk.arn_ok (h:Trk S) (x:Rat):(arn S x).l<=(arn S x).v/\(arn S x).v<=(arn S x).r:=by
 obtain ⟨k,h1,h2⟩:=h.split x
 rcases h.arn_ge h1 h2 with ⟨_,e⟩ | ⟨_,y,_,_,_,e⟩
 ·rw [e];exact ⟨h.lv k,h.vr k⟩
 ·rw [e];exact ⟨Rat.le_refl,Rat.le_refl⟩
theorem Trk.arn_beh (h:Trk S) {k:Int} {x:Rat} (hx:(S k).a < x):(S k).r<=(arn S x).l:=by
 obtain ⟨j,h1,h2⟩:=h.split x
 rcases h.arn_ge h1 h2 with ⟨e1,e⟩ | ⟨_,y,_,hy,_,e⟩
 ·rw [e]
  exact h.le (h.lt_iff.mp (by grind))
 ·rw [e]
  have:k < j+1:=h.lt_iff.mp (by grind)
  have:=h.rle (show k<=j by omega)
  show _<=y
  grind
theorem Trk.arn_ahd (h:Trk S) {k:Int} {x:Rat} (hx:x < (S k).a):(arn S x).r<=(S k).l:=by
 obtain ⟨j,h1,h2⟩:=h.split x
 have hj:j < k:=h.lt_iff.mp (by grind)
 rcases h.arn_ge h1 h2 with ⟨e1,e⟩ | ⟨_,y,_,_,hy,e⟩
 ·rw [e]
  exact h.le hj
 ·rw [e]
  have:=h.lle (show j+1<=k by omega)
  show y<=_
  grind
theorem Trk.arn_mono (h:Trk S) {x y:Rat} (hxy:x < y):(arn S x).r<=(arn S y).l:=by
 obtain ⟨k,h1,h2⟩:=h.split x
 rcases h.arn_ge h1 h2 with ⟨e1,e⟩ | ⟨g,z,hz,_,hz2,e⟩
 ·rw [e]
  exact h.arn_beh (by grind)
 ·rcases (Rat.le_total (a:=(S (k+1)).a) (b:=y)) with c | c
  ·rw [e]
   show z<=_
   by_cases q:(S (k+1)).a=y
   ·subst q
    rw [h.arn_pt]
    exact hz2
   ·have:=h.arn_beh (show (S (k+1)).a < y by grind)
    have:=h.lv (k+1)
    have:=h.vr (k+1)
    grind
  ·by_cases q:(S (k+1)).a=y
   ·subst q
    rw [e,h.arn_pt]
    exact hz2
   ·rw [e,h.arn_in (show (S k).a < y by grind) (by grind)]
    show z<=(S k).r+slB (S k) (S (k+1)) * (y - (S k).a)
    have s0:=slB_ge (h.up k) (h.ri k)
    have:slB (S k) (S (k+1)) * (x - (S k).a)<=slB (S k) (S (k+1)) * (y - (S k).a):=Rat.mul_le_mul_of_nonneg_left (by grind) s0
    grind
theorem atLs_spec (h:Trk S) {w:Rat} {k:Int} (hk:IsLv S w k) :
  (atLs S w).2=decide (w<=(arn S (atLs S w).1).v)/\(arn S (atLs S w).1).l<=w/\((arn S (atLs S w).1).l=w->(arn S (atLs S w).1).sb≠0)/\w<=(arn S (atLs S w).1).r/\(∀ y,y < (atLs S w).1->(arn S y).r < w):=by
 have vr:=h.vr k
 have lv:=h.lv k
 have k1:=hk.1
 have k2:=hk.2
 unfold atLs
 rw [h.lvl_eq hk]
 by_cases c1:w<=(S k).v
 ·rw [if_pos c1]
  dsimp only
  rw [h.arn_pt]
  refine ⟨(decide_eq_true c1).symm,by show (S k).l<=w;grind,fun e=>absurd (show (S k).l=w from e) (by grind),by show w<=(S k).r;grind,fun y hy=>?_⟩
  have:=h.arn_ahd hy
  grind
 rw [if_neg c1]
 by_cases c2:w<=(S k).r
 ·rw [if_pos c2]
  dsimp only
  rw [h.arn_pt]
  refine ⟨(decide_eq_false c1).symm,by show (S k).l<=w;grind,fun e=>absurd (show (S k).l=w from e) (by grind),c2,fun y hy=>?_⟩
  have:=h.arn_ahd hy
  grind
 rw [if_neg c2]
 dsimp only
 have s0:=slB_ge (h.up k) (h.ri k)
 have sm:=slB_mul (h.up k)
 have up:=h.up k
 have sn:slB (S k) (S (k+1))≠0:=fun z=>by rw [z] at sm;grind
 have sp:0 < slB (S k) (S (k+1)):=by grind
 generalize hx:(S k).a+(w - (S k).r) / slB (S k) (S (k+1))=x
 have hw:slB (S k) (S (k+1)) * (x - (S k).a)=w - (S k).r:=by
  rw [<- hx,show (S k).a+(w - (S k).r) / slB (S k) (S (k+1)) - (S k).a=(w - (S k).r) / slB (S k) (S (k+1)) by grind,Rat.mul_comm,Rat.div_mul_cancel sn]
 have x1:(S k).a < x:=by
  have:0 < (w - (S k).r) / slB (S k) (S (k+1)):=(Rat.lt_div_iff sp).mpr (by grind)
  grind
 have x2:x<=(S (k+1)).a:=by
  rcases (Rat.le_total (a:=x) (b:=(S (k+1)).a)) with c | c
  ·exact c
  ·by_cases q:x=(S (k+1)).a
   ·rw [q];exact Rat.le_refl
   ·have:slB (S k) (S (k+1)) * ((S (k+1)).a - (S k).a) < slB (S k) (S (k+1)) * (x - (S k).a):=Rat.mul_lt_mul_of_pos_left (by grind) sp
    grind
 have low:∀ y,y < x->(arn S y).r < w:=fun y hy=>by
  rcases (Rat.le_total (a:=y) (b:=(S k).a)) with c | c
  ·by_cases q:y=(S k).a
   ·rw [q,h.arn_pt];show (S k).r < w;grind
   ·have:=h.arn_ahd (show y < (S k).a by grind)
    grind
  ·by_cases q:(S k).a=y
   ·rw [<- q,h.arn_pt];show (S k).r < w;grind
   ·rw [h.arn_in (show (S k).a < y by grind) (by grind)]
    show (S k).r+slB (S k) (S (k+1)) * (y - (S k).a) < w
    have:slB (S k) (S (k+1)) * (y - (S k).a) < slB (S k) (S (k+1)) * (x - (S k).a):=Rat.mul_lt_mul_of_pos_left (by grind) sp
    grind
 by_cases e:x=(S (k+1)).a
 ·have ew:w=(S (k+1)).l:=by rw [e] at hw;grind
  have lv1:=h.lv (k+1)
  have vr1:=h.vr (k+1)
  have ar:=h.arn_pt (k:=k+1)
  rw [show k+1 - 1=k by omega,<- e] at ar
  rw [ar]
  exact ⟨(decide_eq_true (show w<=(S (k+1)).v by grind)).symm,by show (S (k+1)).l<=w;grind,fun _=>sn,by show w<=(S (k+1)).r;grind,low⟩
 ·rw [h.arn_in x1 (by grind),hw]
  have:(S k).r+(w - (S k).r)=w:=by grind
  rw [this]
  exact ⟨(decide_eq_true Rat.le_refl).symm,Rat.le_refl,fun _=>sn,Rat.le_refl,low⟩
theorem atMs_spec (h:Trk S) {w:Rat} {k:Int} (hk:IsLu S w k) :
  (atMs S w).2=decide ((arn S (atMs S w).1).v<=w)/\w<=(arn S (atMs S w).1).r/\((arn S (atMs S w).1).r=w->(arn S (atMs S w).1).sa≠0)/\(arn S (atMs S w).1).l<=w/\(∀ y,(atMs S w).1 < y->w < (arn S y).l):=by
 have vr:=h.vr (k+1)
 have lv:=h.lv (k+1)
 have k1:=hk.1
 have k2:=hk.2
 have up:=h.up k
 unfold atMs
 rw [h.lvu_eq hk]
 by_cases c1:w < (S (k+1)).l
 ·rw [if_pos c1]
  dsimp only
  have s0:=slB_ge (h.up k) (h.ri k)
  have sm:=slB_mul (h.up k)
  have sn:slB (S k) (S (k+1))≠0:=fun z=>by rw [z] at sm;grind
  have sp:0 < slB (S k) (S (k+1)):=by grind
  generalize hx:(S k).a+(w - (S k).r) / slB (S k) (S (k+1))=x
  have hw:slB (S k) (S (k+1)) * (x - (S k).a)=w - (S k).r:=by
   rw [<- hx,show (S k).a+(w - (S k).r) / slB (S k) (S (k+1)) - (S k).a=(w - (S k).r) / slB (S k) (S (k+1)) by grind,Rat.mul_comm,Rat.div_mul_cancel sn]
  have x1:(S k).a<=x:=by
   rcases (Rat.le_total (a:=(S k).a) (b:=x)) with c | c
   ·exact c
   ·by_cases q:x=(S k).a
    ·rw [q];exact Rat.le_refl
    ·have:slB (S k) (S (k+1)) * (x - (S k).a) < slB (S k) (S (k+1)) * 0:=Rat.mul_lt_mul_of_pos_left (by grind) sp
     grind
  have x2:x < (S (k+1)).a:=by
   rcases (Rat.le_total (a:=(S (k+1)).a) (b:=x)) with c | c
   ·have:slB (S k) (S (k+1)) * ((S (k+1)).a - (S k).a)<=slB (S k) (S (k+1)) * (x - (S k).a):=Rat.mul_le_mul_of_nonneg_left (by grind) s0
    grind
   ·by_cases q:x=(S (k+1)).a
    ·rw [q] at hw;grind
    ·grind
  have hi:∀ y,x < y->w < (arn S y).l:=fun y hy=>by
   rcases (Rat.le_total (a:=(S (k+1)).a) (b:=y)) with c | c
   ·by_cases q:(S (k+1)).a=y
    ·rw [<- q,h.arn_pt];exact c1
    ·have:=h.arn_beh (show (S (k+1)).a < y by grind)
     grind
   ·by_cases q:(S (k+1)).a=y
    ·rw [<- q,h.arn_pt];exact c1
    ·rw [h.arn_in (show (S k).a < y by grind) (by grind)]
     show w < (S k).r+slB (S k) (S (k+1)) * (y - (S k).a)
     have:slB (S k) (S (k+1)) * (x - (S k).a) < slB (S k) (S (k+1)) * (y - (S k).a):=Rat.mul_lt_mul_of_pos_left (by grind) sp
     grind
  by_cases e:(S k).a=x
  ·have ew:w=(S k).r:=by rw [<- e] at hw;grind
   have lv1:=h.lv k
   have vr1:=h.vr k
   have ar:=h.arn_pt (k:=k)
   rw [e] at ar
   rw [ar]
   exact ⟨(decide_eq_true (show (S k).v<=w by grind)).symm,by show w<=(S k).r;grind,fun _=>sn,by show (S k).l<=w;grind,hi⟩
  ·rw [h.arn_in (show (S k).a < x by grind) x2,hw]
   have:(S k).r+(w - (S k).r)=w:=by grind
   rw [this]
   exact ⟨(decide_eq_true Rat.le_refl).symm,Rat.le_refl,fun _=>sn,Rat.le_refl,hi⟩
 rw [if_neg c1]
 dsimp only
 rw [h.arn_pt]
 refine ⟨rfl,by show w<=(S (k+1)).r;grind,fun e=>absurd (show (S (k+1)).r=w from e) (by grind),by show (S (k+1)).l<=w;grind,fun y hy=>?_⟩
 have:=h.arn_beh hy
 grind
end
section
variable {c:Crv}
theorem Crv.Ok.s0 (ok:c.Ok):0 < c.s:=by rw [ok.s];exact (Rat.lt_div_iff ok.p0).mpr (by have:=ok.r0;grind)
theorem Crv.arn_row (hn:c.row≠[]) (x:Rat):c.arn x=DL.arn c.at x:=by unfold Crv.arn;rw [if_neg hn]
theorem Crv.arn_str (hn:c.row=[]) (x:Rat):c.arn x=⟨c.b+c.s * x,c.b+c.s * x,c.b+c.s * x,c.s,c.s⟩:=by unfold Crv.arn;rw [if_pos hn]
theorem Crv.Ok.arn_ok (ok:c.Ok) (x:Rat):(c.arn x).l<=(c.arn x).v/\(c.arn x).v<=(c.arn x).r:=by
 by_cases hn:c.row=[]
 ·rw [Crv.arn_str hn];exact ⟨Rat.le_refl,Rat.le_refl⟩
 ·rw [Crv.arn_row hn];exact (ok.trk hn).arn_ok x
theorem Crv.Ok.arn_mono (ok:c.Ok) {x y:Rat} (h:x < y):(c.arn x).r<=(c.arn y).l:=by
 by_cases hn:c.row=[]
 ·rw [Crv.arn_str hn,Crv.arn_str hn]
  have:=Rat.mul_lt_mul_of_pos_left h ok.s0
  show c.b+c.s * x<=c.b+c.s * y
  grind
 ·rw [Crv.arn_row hn,Crv.arn_row hn];exact (ok.trk hn).arn_mono h
theorem Crv.Ok.onL (ok:c.Ok) (hn:c.row=[]) (w:Rat):c.b+c.s * onL c w=w:=by
 unfold DL.onL Crv.off
 rw [Crv.arn_str hn]
 have:=ok.s0
 show c.b+c.s * ((w - (c.b+c.s * 0)) / c.s)=w
 rw [Rat.mul_comm c.s (_ / _),Rat.div_mul_cancel (by grind)]
 grind
theorem Crv.Ok.atL (ok:c.Ok) (w:Rat) :
  (DL.atL c w).2=decide (w<=(c.arn (DL.atL c w).1).v)/\(c.arn (DL.atL c w).1).l<=w/\((c.arn (DL.atL c w).1).l=w->(c.arn (DL.atL c w).1).sb≠0)/\w<=(c.arn (DL.atL c w).1).r/\(∀ y,y < (DL.atL c w).1->(c.arn y).r < w):=by
 have s0:=ok.s0
 unfold DL.atL
 by_cases hn:c.row=[]
 ·rw [if_pos hn]
  dsimp only
  have e:=ok.onL hn w
  simp only [Crv.arn_str hn,e]
  refine ⟨(decide_eq_true Rat.le_refl).symm,Rat.le_refl,fun _=>by grind,Rat.le_refl,fun y hy=>?_⟩
  have:=Rat.mul_lt_mul_of_pos_left hy s0
  grind
 ·rw [if_neg hn]
  obtain ⟨k,_,_,hk⟩:=lvl_at ok hn w
  simp only [Crv.arn_row hn]
  exact atLs_spec (ok.trk hn) hk
theorem Crv.Ok.atM (ok:c.Ok) (w:Rat) :
  (DL.atM c w).2=decide ((c.arn (DL.atM c w).1).v<=w)/\w<=(c.arn (DL.atM c w).1).r/\((c.arn (DL.atM c w).1).r=w->(c.arn (DL.atM c w).1).sa≠0)/\(c.arn (DL.atM c w).1).l<=w/\(∀ y,(DL.atM c w).1 < y->w < (c.arn y).l):=by
 have s0:=ok.s0
 unfold DL.atM
 by_cases hn:c.row=[]
 ·rw [if_pos hn]
  dsimp only
  have e:=ok.onL hn w
  simp only [Crv.arn_str hn,e]
  refine ⟨(decide_eq_true Rat.le_refl).symm,Rat.le_refl,fun _=>by grind,Rat.le_refl,fun y hy=>?_⟩
  have:=Rat.mul_lt_mul_of_pos_left hy s0
  grind
 ·rw [if_neg hn]
  obtain ⟨k,_,_,hk⟩:=lvu_at ok hn w
  simp only [Crv.arn_row hn]
  exact atMs_spec (ok.trk hn) hk
theorem Crv.Ok.arn_per (ok:c.Ok) (x:Rat) (t:Int):c.arn (x+t * c.p)=⟨(c.arn x).l+t * c.r,(c.arn x).v+t * c.r,(c.arn x).r+t * c.r,(c.arn x).sb,(c.arn x).sa⟩:=by
 by_cases hn:c.row=[]
 ·simp only [Crv.arn_str hn]
  have e:c.s * c.p=c.r:=by rw [ok.s,Rat.div_mul_cancel (by have:=ok.p0;grind)]
  have:c.b+c.s * (x+t * c.p)=c.b+c.s * x+t * c.r:=by grind
  rw [this]
 ·simp only [Crv.arn_row hn]
  have tr:=ok.trk hn
  have e:=plc_per ok hn x t
  unfold DL.arn
  rw [e]
  generalize plc c.at x=k
  have a0:=c.at_add hn k t
  have a1:=c.at_add hn (k - 1) t
  have a2:=c.at_add hn (k+1) t
  rw [show k - 1+t * (c.row.length:Int)=k+t * c.row.length - 1 by omega] at a1
  rw [show k+1+t * (c.row.length:Int)=k+t * c.row.length+1 by omega] at a2
  unfold arnAt
  rw [a0,a1,a2]
  have m1:slB ((c.at (k - 1)).mv t c.p c.r) ((c.at k).mv t c.p c.r)=slB (c.at (k - 1)) (c.at k):=by
   unfold slB Pt.mv;congr 1 <;> grind
  have m2:slB ((c.at k).mv t c.p c.r) ((c.at (k+1)).mv t c.p c.r)=slB (c.at k) (c.at (k+1)):=by
   unfold slB Pt.mv;congr 1 <;> grind
  rw [m1,m2]
  by_cases q:(c.at k).a=x
  ·rw [if_pos q,if_pos (by show (c.at k).a+t * c.p=_;rw [q])]
   rfl
  ·rw [if_neg q,if_neg (by show ¬ (c.at k).a+t * c.p=_;intro z;grind)]
   have:((c.at k).mv t c.p c.r).l - slB (c.at (k - 1)) (c.at k) * (((c.at k).mv t c.p c.r).a - (x+t * c.p))=(c.at k).l - slB (c.at (k - 1)) (c.at k) * ((c.at k).a - x)+t * c.r:=by
    show (c.at k).l+t * c.r - slB (c.at (k - 1)) (c.at k) * ((c.at k).a+t * c.p - (x+t * c.p))=_
    grind
   rw [this]
end
end DL
namespace DL
open PySem PySem.Spec PyProof.Rows L2 Mt
theorem mem_ptsB {c:Crv} (ok:c.Ok) (hn:c.row≠[]) {lo hi:Rat} {k:Int} (h1:lo<=(c.at k).a) (h2:(c.at k).a<=hi):c.at k∈ptsB c lo hi:=by
 have trk:=ok.trk hn
 unfold ptsB
 rw [if_neg hn]
 have a1:plc c.at lo<=k:=by
  have:=(not_congr (trk.pl_lt (x:=lo) (k:=k))).mpr (by grind)
  omega
 have a2:=(beh_le trk (hi:=hi) (k:=k)).mpr h2
 refine List.mem_map.mpr ⟨(k - plc c.at lo).toNat,List.mem_range.mpr (by omega),?_⟩
 congr 1;omega
end DL
namespace DL
structure Tri where
 l:Rat
 v:Rat
 r:Rat
noncomputable def Crv.tri (c:Crv) (x:Rat):Tri:=⟨(c.arn x).l,(c.arn x).v,(c.arn x).r⟩
structure Shp (P R:Rat) (F:Rat->Tri):Prop where
 p0:0 < P
 r0:0 < R
 per:∀ (x:Rat) (t:Int),F (x+t * P)=⟨(F x).l+t * R,(F x).v+t * R,(F x).r+t * R⟩
 lv:∀ x,(F x).l<=(F x).v
 vr:∀ x,(F x).v<=(F x).r
 mono:∀ x y,x < y->(F x).r<=(F y).l
def AffL (F:Rat->Tri) (u w:Rat):Prop:=∃ s:Rat,(∀ x,u < x->x < w->F x=⟨(F u).r+s * (x - u),(F u).r+s * (x - u),(F u).r+s * (x - u)⟩)/\(F w).l=(F u).r+s * (w - u)
noncomputable def ptF (F:Rat->Tri) (x:Rat):Pt:=⟨x,(F x).l,(F x).v,(F x).r⟩
section
variable {P R:Rat} {F:Rat->Tri} {sp:List Rat}
theorem smp_at (h:Shp P R F) (hn:sp≠[]) (k:Int):rowAt P R (sp.map (ptF F)) k=ptF F (rowAt P R (sp.map (ptF F)) k).a:=by
 have hm:sp.map (ptF F)≠[]:=fun z=>hn (List.map_eq_nil_iff.mp z)
 obtain ⟨j,t,hj,rfl⟩:=rowAt_split hm k
 rw [rowAt_add hm,rowAt_nat j hj,List.getElem_map]
 unfold ptF Pt.mv
 simp only []
 rw [h.per]
theorem smp_ok (h:Shp P R F) (hn:sp≠[]) (asc:sp.Pairwise (· < ·)) (hb:∀ x∈sp,0<=x/\x < P):okPts P R (sp.map (ptF F)):=by
 have hm:sp.map (ptF F)≠[]:=fun z=>hn (List.map_eq_nil_iff.mp z)
 have key:∀ j:Nat,j < (sp.map (ptF F)).length->(rowAt P R (sp.map (ptF F)) j).a < (rowAt P R (sp.map (ptF F)) (j+1)).a:=fun j hj=>by
  have hj':j < sp.length:=by rw [List.length_map] at hj;exact hj
  by_cases z:j+1 < sp.length
  ·rw [show ((j:Int)+1)=((j+1:Nat):Int) from rfl,rowAt_nat j hj,rowAt_nat (j+1) (by rw [List.length_map];exact z),List.getElem_map,List.getElem_map]
   exact List.pairwise_iff_getElem.mp asc j (j+1) hj' z (by omega)
  ·have e:((j:Int)+1)=((sp.map (ptF F)).length:Int):=by rw [List.length_map];omega
   rw [e,rowAt_wrap hm,rowAt_nat j hj,List.getElem_map]
   have h1:=hb _ (List.getElem_mem hj')
   have h2:(List.head (sp.map (ptF F)) hm).a=sp.head hn:=by rw [List.head_map];rfl
   have h3:=hb _ (List.head_mem hn)
   show sp[j] < (List.head (sp.map (ptF F)) hm).a+1 * P
   rw [h2]
   grind
 refine ⟨h.p0,h.r0,fun q hq=>?_,fun x hx=>?_⟩
 ·obtain ⟨y,hy,rfl⟩:=List.mem_map.mp hq
  have h1:=hb y hy
  exact ⟨by show ¬ y < 0;grind,h1.2,by have:=h.lv y;show ¬ (F y).v < (F y).l;grind,by have:=h.vr y;show ¬ (F y).r < (F y).v;grind⟩
 ·obtain ⟨j,hj⟩:=List.mem_iff_getElem?.mp hx
  obtain ⟨h1,h2⟩:=List.getElem?_zip_eq_some.mp hj
  have hjl:j < (sp.map (ptF F)).length:=(List.getElem?_eq_some_iff.mp h1).1
  rw [nextPts_get j hjl] at h2
  rw [List.getElem?_eq_getElem hjl,<- rowAt_nat (p:=P) (r:=R) j hjl] at h1
  simp only [Option.some.injEq] at h1 h2
  have hk:=key j hjl
  refine ⟨by rw [<- h1,<- h2];exact hk,?_⟩
  rw [<- h1,<- h2,smp_at h hn,smp_at h hn (j:Int)]
  have:=h.mono _ _ hk
  show ¬ (F _).l < (F _).r
  grind
theorem smp_arn (h:Shp P R F) (hn:sp≠[]) (asc:sp.Pairwise (· < ·)) (hb:∀ x∈sp,0<=x/\x < P) (ha:∀ u w,u < w->(∀ x,u < x->x < w->∀ y∈sp,∀ t:Int,x≠y+t * P)->AffL F u w) (x:Rat) :
  (arn (rowAt P R (sp.map (ptF F))) x).l=(F x).l/\(arn (rowAt P R (sp.map (ptF F))) x).v=(F x).v/\(arn (rowAt P R (sp.map (ptF F))) x).r=(F x).r:=by
 have hm:sp.map (ptF F)≠[]:=fun z=>hn (List.map_eq_nil_iff.mp z)
 have ok:=smp_ok h hn asc hb
 have trk:=ok.trk hm
 have hat:=fun k=>smp_at (sp:=sp) h hn k
 have hsp:∀ y∈sp,∀ t:Int,∃ k,(rowAt P R (sp.map (ptF F)) k).a=y+t * P:=fun y hy t=>by
  obtain ⟨j,hj,rfl⟩:=List.mem_iff_getElem.mp hy
  have hj':j < (sp.map (ptF F)).length:=by rw [List.length_map];exact hj
  refine ⟨j+t * (sp.map (ptF F)).length,?_⟩
  rw [rowAt_add hm,rowAt_nat j hj',List.getElem_map];rfl
 generalize rowAt P R (sp.map (ptF F))=S at *
 obtain ⟨k,h1,h2⟩:=trk.split x
 have e1:=hat k
 have e2:=hat (k+1)
 rcases trk.arn_ge h1 h2 with ⟨e,ee⟩ | ⟨g,y,hy,_,_,ee⟩
 ·rw [ee]
  rw [e] at e1
  rw [e1]
  exact ⟨rfl,rfl,rfl⟩
 ·obtain ⟨s,q1,q2⟩:=ha (S k).a (S (k+1)).a (trk.up k) fun z z1 z2 y hy t e=>by
   obtain ⟨m,hm⟩:=hsp y hy t
   rw [<- e] at hm
   have a1:k < m:=trk.lt_iff.mp (by rw [hm];exact z1)
   have a2:m < k+1:=trk.lt_iff.mp (by rw [hm];exact z2)
   omega
  have r1:(S k).r=(F (S k).a).r:=congrArg Pt.r e1
  have l1:(S (k+1)).l=(F (S (k+1)).a).l:=congrArg Pt.l e2
  have sm:=slB_mul (trk.up k)
  have up:=trk.up k
  have es:slB (S k) (S (k+1))=s:=by
   have:slB (S k) (S (k+1)) * ((S (k+1)).a - (S k).a)=s * ((S (k+1)).a - (S k).a):=by rw [sm,l1,r1,q2];grind
   have hne:(S (k+1)).a - (S k).a≠0:=by grind
   have:=congrArg (fun z=>z / ((S (k+1)).a - (S k).a)) this
   simp only [Rat.mul_div_cancel hne] at this
   exact this
  rw [ee,q1 x g h2,<- r1,<- es,<- hy]
  exact ⟨rfl,rfl,rfl⟩
end
section
variable {c:Crv}
theorem Crv.shp (ok:c.Ok) {P:Rat} (p0:0 < P) (h:c.row≠[]->∃ n:Nat,P=n * c.p):Shp P (c.s * P) c.tri:=by
 have s0:=ok.s0
 refine ⟨p0,Rat.mul_pos s0 p0,fun x t=>?_,fun x=>(ok.arn_ok x).1,fun x=>(ok.arn_ok x).2,fun x y hxy=>ok.arn_mono hxy⟩
 unfold Crv.tri
 by_cases hn:c.row=[]
 ·simp only [Crv.arn_str hn]
  have:c.b+c.s * (x+t * P)=c.b+c.s * x+t * (c.s * P):=by grind
  rw [this]
 ·obtain ⟨n,rfl⟩:=h hn
  have e:x+(t:Rat) * ((n:Rat) * c.p)=x+((t * n:Int):Rat) * c.p:=by
   rw [Rat.intCast_mul,Rat.intCast_natCast];grind
  have er:c.s * c.p=c.r:=by rw [ok.s,Rat.div_mul_cancel (by have:=ok.p0;grind)]
  have e2:((t * n:Int):Rat) * c.r=t * (c.s * (n * c.p)):=by
   rw [Rat.intCast_mul,Rat.intCast_natCast,<- er];grind
  rw [e,ok.arn_per,e2]
theorem Crv.aff (ok:c.Ok) {u w:Rat} (huw:u < w) (no:c.row≠[]->∀ k,¬ (u < (c.at k).a/\(c.at k).a < w)):AffL c.tri u w:=by
 by_cases hn:c.row=[]
 ·refine ⟨c.s,fun x _ _=>?_,?_⟩
  ·unfold Crv.tri
   simp only [Crv.arn_str hn]
   have:c.b+c.s * x=c.b+c.s * u+c.s * (x - u):=by grind
   rw [this]
  ·unfold Crv.tri
   simp only [Crv.arn_str hn]
   grind
 ·have trk:=ok.trk hn
  have no:=no hn
  obtain ⟨k,h1,h2⟩:=trk.split u
  have h3:w<=(c.at (k+1)).a:=by
   have:=no (k+1)
   grind
  have sm:=slB_mul (trk.up k)
  unfold Crv.tri
  simp only [Crv.arn_row hn]
  -- the line behind u
  have hu:(DL.arn c.at u).r=(c.at k).r+slB (c.at k) (c.at (k+1)) * (u - (c.at k).a):=by
   rcases trk.arn_ge h1 h2 with ⟨e,ee⟩ | ⟨g,y,hy,_,_,ee⟩
   ·rw [ee];show (c.at k).r=_;rw [e];grind
   ·rw [ee];exact hy
  refine ⟨slB (c.at k) (c.at (k+1)),fun x x1 x2=>?_,?_⟩
  ·dsimp only
   have:=trk.arn_in (k:=k) (x:=x) (by grind) (by grind)
   have e:(c.at k).r+slB (c.at k) (c.at (k+1)) * (x - (c.at k).a)=(DL.arn c.at u).r+slB (c.at k) (c.at (k+1)) * (x - u):=by rw [hu];grind
   rw [this,e]
  ·dsimp only
   rw [hu]
   by_cases z:w=(c.at (k+1)).a
   ·rw [z,trk.arn_pt]
    show (c.at (k+1)).l=_
    grind
   ·rw [trk.arn_in (k:=k) (x:=w) (by grind) (by grind)]
    show (c.at k).r+_ * _=_
    grind
end
theorem mkC_smp {P R o:Rat} {F:Rat->Tri} {sp:List Rat} (h:Shp P R F) (hn:sp≠[]) (asc:sp.Pairwise (· < ·)) (hb:∀ x∈sp,0<=x/\x < P) (ha:∀ u w,u < w->(∀ x,u < x->x < w->∀ y∈sp,∀ t:Int,x≠y+t * P)->AffL F u w) :
  (∀ e,mkC P R (sp.map (ptF F)) o = .error e->(e = .many/\60 < sp.length)\/(e = .long/\sp.length<=60/\(norm P R (sp.map (ptF F)) o).long=true)) /\
  (∀ c,mkC P R (sp.map (ptF F)) o = .ok c->sp.length<=60/\c=norm P R (sp.map (ptF F)) o/\c.long=false)/\okPts P R (sp.map (ptF F)) /\
  ∀ x,(norm P R (sp.map (ptF F)) o).tri x=F x:=by
 have hm:sp.map (ptF F)≠[]:=fun z=>hn (List.map_eq_nil_iff.mp z)
 have ok:=smp_ok h hn asc hb
 refine ⟨fun e he=>?_,fun c he=>?_,ok,fun x=>?_⟩
 ·unfold mkC at he
  rw [if_pos ok,List.length_map] at he
  split at he
  ·cases he;exact .inl ⟨rfl,by assumption⟩
  ·split at he
   ·cases he;exact .inr ⟨rfl,by omega,by assumption⟩
   ·cases he
 ·unfold mkC at he
  rw [if_pos ok,List.length_map] at he
  split at he
  ·cases he
  ·split at he
   ·cases he
   ·rename_i h1 h2
    cases he
    exact ⟨by omega,rfl,by simpa using h2⟩
 ·obtain ⟨e1,e2,e3⟩:=smp_arn h hn asc hb ha x
  unfold Crv.tri
  rw [norm_arn ok hm,e1,e2,e3]
end DL
namespace DL
open Mt
theorem norm_s {p r o:Rat} {pts:List Pt}:(norm p r pts o).s=r / p:=by
 unfold norm
 split <;> rfl
theorem wthn_eq (x P:Rat):x=wthn x P+((x / P).floor:Rat) * P:=by unfold wthn;grind
section
variable {o i l:Crv}
noncomputable def strT (o i:Crv) (x:Rat):Tri:=⟨o.b+o.s * (i.tri x).l,o.b+o.s * (i.tri x).v,o.b+o.s * (i.tri x).r⟩
noncomputable def strCN (o i:Crv):Crv:=norm i.p (o.s * i.r) (i.row.map fun q=>⟨q.a,(o.arn q.l).v,(o.arn q.v).v,(o.arn q.r).v⟩) (o.arn i.off).v
theorem crv_tri_at {c:Crv} (ok:c.Ok) (hn:c.row≠[]) (k:Int):c.tri (c.at k).a=⟨(c.at k).l,(c.at k).v,(c.at k).r⟩:=by
 unfold Crv.tri
 rw [Crv.arn_row hn,(ok.trk hn).arn_pt]
theorem row_at {c:Crv} {q:Pt} (hq:q∈c.row):∃ j:Nat,j < c.row.length/\q=c.at j:=by
 obtain ⟨j,hj,rfl⟩:=List.mem_iff_getElem.mp hq
 exact ⟨j,hj,(Crv.at_nat hj).symm⟩
theorem row_rep {c:Crv} (hn:c.row≠[]) (k:Int):∃ y∈c.row.map (·.a),∃ t:Int,(c.at k).a=y+t * c.p:=by
 obtain ⟨j,t,hj,rfl⟩:=rowAt_split hn k
 refine ⟨c.row[j].a,List.mem_map.mpr ⟨_,List.getElem_mem hj,rfl⟩,t,?_⟩
 rw [Crv.at_add hn,Crv.at_nat hj];rfl
theorem str_sem (ho:o.row=[]) (go:o.Ok) (gi:i.Ok) (hl:i.row.length<=60):(strCN o i).Ok/\(strCN o i).s=o.s * i.s/\(∀ x,(strCN o i).tri x=strT o i x) /\
  strF o i=if (strCN o i).long=true then .error .long else .ok (strCN o i):=by
 have s0:=go.s0
 have r0:=gi.r0
 have p0:=gi.p0
 have ei:i.s * i.p=i.r:=by rw [gi.s,Rat.div_mul_cancel (by grind)]
 have sh:Shp i.p (o.s * i.r) (strT o i):=by
  have si:=Crv.shp gi p0 fun _=>⟨1,by show i.p=1 * i.p;grind⟩
  rw [ei] at si
  have ml:∀ {x y:Rat},x<=y->o.b+o.s * x<=o.b+o.s * y:=fun h=>by
   have:=Rat.mul_le_mul_of_nonneg_left h (Rat.le_of_lt s0);grind
  refine ⟨p0,Rat.mul_pos s0 r0,fun x t=>?_,fun x=>ml (si.lv x),fun x=>ml (si.vr x),fun x y h=>ml (si.mono x y h)⟩
  unfold strT
  rw [si.per]
  simp only [Tri.mk.injEq]
  refine ⟨by grind,by grind,by grind⟩
 have hao:∀ y,(o.arn y).v=o.b+o.s * y:=fun y=>by rw [Crv.arn_str ho]
 have hrow:(i.row.map fun q=>(⟨q.a,(o.arn q.l).v,(o.arn q.v).v,(o.arn q.r).v⟩:Pt))=(i.row.map (·.a)).map (ptF (strT o i)):=by
  rw [List.map_map]
  apply List.map_congr_left
  intro q hq
  have hn:i.row≠[]:=fun z=>by rw [z] at hq;cases hq
  obtain ⟨j,hj,rfl⟩:=row_at hq
  show (⟨(i.at j).a,_,_,_⟩:Pt)=ptF (strT o i) (i.at j).a
  unfold ptF strT
  rw [crv_tri_at gi hn,hao,hao,hao]
 have hok:okPts i.p (o.s * i.r) ((i.row.map (·.a)).map (ptF (strT o i))):=by
  by_cases hn:i.row=[]
  ·rw [hn];exact ⟨sh.p0,sh.r0,(fun q z=>nomatch z),fun x z=>nomatch z⟩
  ·exact smp_ok sh (fun z=>hn (List.map_eq_nil_iff.mp z)) (row_asc (gi.ok hn) hn) fun x hx=>by
    obtain ⟨q,hq,rfl⟩:=List.mem_map.mp hx
    have:=(gi.ok hn).pt q hq
    exact ⟨Rat.not_lt.mp this.lo,this.hi⟩
 have eN:strCN o i=norm i.p (o.s * i.r) ((i.row.map (·.a)).map (ptF (strT o i))) (o.arn i.off).v:=by unfold strCN;rw [hrow]
 refine ⟨by rw [eN];exact norm_ok hok,?_,fun x=>?_,?_⟩
 ·rw [eN,norm_s,gi.s];rw [Rat.div_def,Rat.div_def,Rat.mul_assoc]
 ·rw [eN]
  by_cases hn:i.row=[]
  ·rw [hn]
   unfold Crv.tri
   show Tri.mk ((norm _ _ [] _).arn x).l ((norm _ _ [] _).arn x).v ((norm _ _ [] _).arn x).r=_
   rw [norm_arn0,hao]
   unfold strT Crv.tri Crv.off
   rw [Crv.arn_str hn,Crv.arn_str hn]
   have:o.s * i.r / i.p=o.s * i.s:=by rw [gi.s,Rat.div_def,Rat.div_def,Rat.mul_assoc]
   rw [this]
   simp only [Tri.mk.injEq]
   refine ⟨by grind,by grind,by grind⟩
  ·refine (mkC_smp sh (fun z=>hn (List.map_eq_nil_iff.mp z)) (row_asc (gi.ok hn) hn) (fun x hx=>?_) fun u w huw no=>?_).2.2.2 x
   ·obtain ⟨q,hq,rfl⟩:=List.mem_map.mp hx
    have:=(gi.ok hn).pt q hq
    exact ⟨Rat.not_lt.mp this.lo,this.hi⟩
   ·obtain ⟨s,q1,q2⟩:=Crv.aff gi huw fun hn k ⟨k1,k2⟩=>by
     obtain ⟨y,hy,t,e⟩:=row_rep hn k
     exact no _ k1 k2 y hy t e
    refine ⟨o.s * s,fun x x1 x2=>?_,?_⟩
    ·unfold strT
     rw [q1 x x1 x2]
     simp only [Tri.mk.injEq]
     refine ⟨by grind,by grind,by grind⟩
    ·unfold strT
     simp only []
     rw [q2];grind
 ·unfold strF mkC
  rw [hrow,if_pos hok,if_neg (by rw [List.length_map,List.length_map];omega),<- eN]
end
section
variable {c o i:Crv}
theorem Crv.Ok.vm (ok:c.Ok) {x y:Rat} (h:x<=y):(c.arn x).v<=(c.arn y).v:=by
 by_cases e:x=y
 ·rw [e];exact Rat.le_refl
 ·have h1:=ok.arn_mono (show x < y by grind)
  have h2:=ok.arn_ok x
  have h3:=ok.arn_ok y
  grind
theorem Crv.Ok.lm (ok:c.Ok) {x y:Rat} (h:x<=y):(c.arn x).l<=(c.arn y).l:=by
 by_cases e:x=y
 ·rw [e];exact Rat.le_refl
 ·have h1:=ok.arn_mono (show x < y by grind)
  have h2:=ok.arn_ok x
  grind
theorem Crv.Ok.rm (ok:c.Ok) {x y:Rat} (h:x<=y):(c.arn x).r<=(c.arn y).r:=by
 by_cases e:x=y
 ·rw [e];exact Rat.le_refl
 ·have h1:=ok.arn_mono (show x < y by grind)
  have h3:=ok.arn_ok y
  grind
theorem Crv.Ok.beh (ok:c.Ok) (x:Rat):∃ z,x < z/\0<=(c.arn x).sa/\(∀ y,x < y->y < z->c.arn y=⟨(c.arn x).r+(c.arn x).sa * (y - x),(c.arn x).r+(c.arn x).sa * (y - x),(c.arn x).r+(c.arn x).sa * (y - x),(c.arn x).sa,(c.arn x).sa⟩)/\(c.arn z).l=(c.arn x).r+(c.arn x).sa * (z - x)/\(c.arn z).sb=(c.arn x).sa:=by
 by_cases hn:c.row=[]
 ·have s0:=ok.s0
  refine ⟨x+1,by grind,?_,fun y h1 h2=>?_,?_,?_⟩
  ·rw [Crv.arn_str hn];exact Rat.le_of_lt s0
  ·rw [Crv.arn_str hn,Crv.arn_str hn]
   have:c.b+c.s * y=c.b+c.s * x+c.s * (y - x):=by grind
   rw [this]
  ·rw [Crv.arn_str hn,Crv.arn_str hn];show c.b+c.s * (x+1)=c.b+c.s * x+c.s * (x+1 - x);grind
  ·rw [Crv.arn_str hn,Crv.arn_str hn]
 ·have trk:=ok.trk hn
  obtain ⟨k,h1,h2⟩:=trk.split x
  have sm:=slB_mul (trk.up k)
  have s0:=slB_ge (trk.up k) (trk.ri k)
  have hx:(DL.arn c.at x).sa=slB (c.at k) (c.at (k+1))/\(DL.arn c.at x).r=(c.at k).r+slB (c.at k) (c.at (k+1)) * (x - (c.at k).a):=by
   rcases trk.arn_ge h1 h2 with ⟨e,ee⟩ | ⟨g,y,hy,_,_,ee⟩
   ·rw [ee];refine ⟨rfl,?_⟩;show (c.at k).r=_;rw [e];grind
   ·rw [ee];exact ⟨rfl,hy⟩
  simp only [Crv.arn_row hn]
  rw [hx.1,hx.2]
  refine ⟨(c.at (k+1)).a,h2,s0,fun y y1 y2=>?_,?_,?_⟩
  ·rw [trk.arn_in (k:=k) (x:=y) (by grind) y2]
   have e:(c.at k).r+slB (c.at k) (c.at (k+1)) * (y - (c.at k).a)=(c.at k).r+slB (c.at k) (c.at (k+1)) * (x - (c.at k).a)+slB (c.at k) (c.at (k+1)) * (y - x):=by grind
   rw [e]
  ·rw [trk.arn_pt];show (c.at (k+1)).l=_;grind
  ·rw [trk.arn_pt]
   show slB (c.at (k+1 - 1)) (c.at (k+1))=_
   rw [show k+1 - 1=k by omega]
theorem Crv.Ok.ahd (ok:c.Ok) (x:Rat):∃ z,z < x/\0<=(c.arn x).sb/\(∀ y,z < y->y < x->c.arn y=⟨(c.arn x).l - (c.arn x).sb * (x - y),(c.arn x).l - (c.arn x).sb * (x - y),(c.arn x).l - (c.arn x).sb * (x - y),(c.arn x).sb,(c.arn x).sb⟩)/\(c.arn z).r=(c.arn x).l - (c.arn x).sb * (x - z)/\(c.arn z).sa=(c.arn x).sb:=by
 by_cases hn:c.row=[]
 ·have s0:=ok.s0
  refine ⟨x - 1,by grind,?_,fun y h1 h2=>?_,?_,?_⟩
  ·rw [Crv.arn_str hn];exact Rat.le_of_lt s0
  ·rw [Crv.arn_str hn,Crv.arn_str hn]
   have:c.b+c.s * y=c.b+c.s * x - c.s * (x - y):=by grind
   rw [this]
  ·rw [Crv.arn_str hn,Crv.arn_str hn];show c.b+c.s * (x - 1)=c.b+c.s * x - c.s * (x - (x - 1));grind
  ·rw [Crv.arn_str hn,Crv.arn_str hn]
 ·have trk:=ok.trk hn
  obtain ⟨h1,h2⟩:=trk.plc x
  generalize hk:DL.plc c.at x=k at h1 h2
  have up:=trk.up (k - 1)
  have ri:=trk.ri (k - 1)
  rw [show k - 1+1=k by omega] at up ri
  have sm:=slB_mul up
  have s0:=slB_ge up ri
  have hin:∀ y,(c.at (k - 1)).a < y->y < (c.at k).a->DL.arn c.at y=⟨(c.at k).l - slB (c.at (k - 1)) (c.at k) * ((c.at k).a - y),(c.at k).l - slB (c.at (k - 1)) (c.at k) * ((c.at k).a - y),(c.at k).l - slB (c.at (k - 1)) (c.at k) * ((c.at k).a - y),slB (c.at (k - 1)) (c.at k),slB (c.at (k - 1)) (c.at k)⟩:=fun y y1 y2=>by
   have:=trk.arn_in (k:=k - 1) (x:=y) y1 (by rw [show k - 1+1=k by omega];exact y2)
   rw [show k - 1+1=k by omega] at this
   rw [this]
   have e:(c.at (k - 1)).r+slB (c.at (k - 1)) (c.at k) * (y - (c.at (k - 1)).a)=(c.at k).l - slB (c.at (k - 1)) (c.at k) * ((c.at k).a - y):=by grind
   rw [e]
  have hx:(DL.arn c.at x).sb=slB (c.at (k - 1)) (c.at k)/\(DL.arn c.at x).l=(c.at k).l - slB (c.at (k - 1)) (c.at k) * ((c.at k).a - x):=by
   by_cases e:x=(c.at k).a
   ·rw [e,trk.arn_pt]
    refine ⟨rfl,?_⟩
    show (c.at k).l=_
    grind
   ·rw [hin x h1 (by grind)];exact ⟨rfl,rfl⟩
  simp only [Crv.arn_row hn]
  rw [hx.1,hx.2]
  refine ⟨(c.at (k - 1)).a,h1,s0,fun y y1 y2=>?_,?_,?_⟩
  ·rw [hin y y1 (by grind)]
   have e:(c.at k).l - slB (c.at (k - 1)) (c.at k) * ((c.at k).a - y)=(c.at k).l - slB (c.at (k - 1)) (c.at k) * ((c.at k).a - x) - slB (c.at (k - 1)) (c.at k) * (x - y):=by grind
   rw [e]
  ·rw [trk.arn_pt];show (c.at (k - 1)).r=_;grind
  ·rw [trk.arn_pt]
   show slB (c.at (k - 1)) (c.at (k - 1+1))=_
   rw [show k - 1+1=k by omega]
theorem Crv.Ok.flat (ok:c.Ok) {x y:Rat} (h:x < y) (e:(c.arn x).r=(c.arn y).l):(c.arn x).sa=0/\(c.arn y).sb=0:=by
 constructor
 ·obtain ⟨z,z1,z2,z3,z4,_⟩:=ok.beh x
  by_cases q:z<=y
  ·have h1:=ok.lm q
   have:(c.arn x).sa * (z - x)<=0:=by grind
   by_cases w:(c.arn x).sa=0
   ·exact w
   ·have:=Rat.mul_pos (show 0 < (c.arn x).sa by grind) (show 0 < z - x by grind)
    grind
  ·have h1:=z3 y h (by grind)
   have h2:(c.arn y).l=(c.arn x).r+(c.arn x).sa * (y - x):=congrArg Arn.l h1
   have:(c.arn x).sa * (y - x)=0:=by grind
   rcases Rat.mul_eq_zero.mp this with w | w
   ·exact w
   ·grind
 ·obtain ⟨z,z1,z2,z3,z4,_⟩:=ok.ahd y
  by_cases q:x<=z
  ·have h1:=ok.rm q
   have:(c.arn y).sb * (y - z)<=0:=by grind
   by_cases w:(c.arn y).sb=0
   ·exact w
   ·have:=Rat.mul_pos (show 0 < (c.arn y).sb by grind) (show 0 < y - z by grind)
    grind
  ·have h1:=z3 x (by grind) h
   have h2:(c.arn x).r=(c.arn y).l - (c.arn y).sb * (y - x):=congrArg Arn.r h1
   have:(c.arn y).sb * (y - x)=0:=by grind
   rcases Rat.mul_eq_zero.mp this with w | w
   ·exact w
   ·grind
theorem Crv.Ok.affS (ok:c.Ok) {u w:Rat} (huw:u < w) (no:c.row≠[]->∀ k,¬ (u < (c.at k).a/\(c.at k).a < w)) :
  (c.arn w).l=(c.arn u).r+(c.arn u).sa * (w - u)/\(c.arn w).sb=(c.arn u).sa/\0<=(c.arn u).sa/\∀ x,u < x->x < w->c.arn x=⟨(c.arn u).r+(c.arn u).sa * (x - u),(c.arn u).r+(c.arn u).sa * (x - u),(c.arn u).r+(c.arn u).sa * (x - u),(c.arn u).sa,(c.arn u).sa⟩:=by
 by_cases hn:c.row=[]
 ·have s0:=ok.s0
  refine ⟨?_,?_,?_,fun x h1 h2=>?_⟩
  ·rw [Crv.arn_str hn,Crv.arn_str hn];show c.b+c.s * w=c.b+c.s * u+c.s * (w - u);grind
  ·rw [Crv.arn_str hn,Crv.arn_str hn]
  ·rw [Crv.arn_str hn];exact Rat.le_of_lt s0
  ·rw [Crv.arn_str hn,Crv.arn_str hn]
   have:c.b+c.s * x=c.b+c.s * u+c.s * (x - u):=by grind
   rw [this]
 ·have trk:=ok.trk hn
  obtain ⟨k,h1,h2⟩:=trk.split u
  have h3:w<=(c.at (k+1)).a:=by
   have:=no hn (k+1)
   grind
  have sm:=slB_mul (trk.up k)
  have s0:=slB_ge (trk.up k) (trk.ri k)
  have hx:(DL.arn c.at u).sa=slB (c.at k) (c.at (k+1))/\(DL.arn c.at u).r=(c.at k).r+slB (c.at k) (c.at (k+1)) * (u - (c.at k).a):=by
   rcases trk.arn_ge h1 h2 with ⟨e,ee⟩ | ⟨g,y,hy,_,_,ee⟩
   ·rw [ee];refine ⟨rfl,?_⟩;show (c.at k).r=_;rw [e];grind
   ·rw [ee];exact ⟨rfl,hy⟩
  simp only [Crv.arn_row hn]
  rw [hx.1,hx.2]
  have hin:∀ y,u < y->y < (c.at (k+1)).a->DL.arn c.at y=⟨(c.at k).r+slB (c.at k) (c.at (k+1)) * (u - (c.at k).a)+slB (c.at k) (c.at (k+1)) * (y - u),(c.at k).r+slB (c.at k) (c.at (k+1)) * (u - (c.at k).a)+slB (c.at k) (c.at (k+1)) * (y - u),(c.at k).r+slB (c.at k) (c.at (k+1)) * (u - (c.at k).a)+slB (c.at k) (c.at (k+1)) * (y - u),slB (c.at k) (c.at (k+1)),slB (c.at k) (c.at (k+1))⟩:=fun y y1 y2=>by
   rw [trk.arn_in (k:=k) (x:=y) (by grind) y2]
   have e:(c.at k).r+slB (c.at k) (c.at (k+1)) * (y - (c.at k).a)=(c.at k).r+slB (c.at k) (c.at (k+1)) * (u - (c.at k).a)+slB (c.at k) (c.at (k+1)) * (y - u):=by grind
   rw [e]
  by_cases z:w=(c.at (k+1)).a
  ·refine ⟨?_,?_,s0,fun x x1 x2=>hin x x1 (by grind)⟩
   ·rw [z,trk.arn_pt];show (c.at (k+1)).l=_;grind
   ·rw [z,trk.arn_pt]
    show slB (c.at (k+1 - 1)) (c.at (k+1))=_
    rw [show k+1 - 1=k by omega]
  ·have:=hin w huw (by grind)
   refine ⟨by rw [this],by rw [this],s0,fun x x1 x2=>hin x x1 (by grind)⟩
noncomputable def jnT (o i:Crv) (x:Rat):Tri:=⟨if (i.arn x).sb=0 then (o.arn (i.arn x).l).v else (o.arn (i.arn x).l).l,(o.arn (i.arn x).v).v,if (i.arn x).sa=0 then (o.arn (i.arn x).r).v else (o.arn (i.arn x).r).r⟩
theorem jn_per (go:o.Ok) (gi:i.Ok):∃ n m:Nat,0 < n/\0 < m/\turnF o i * i.p=n * i.p/\liftF o i=n * i.r/\liftF o i=m * o.p/\o.r * (liftF o i / o.p)=m * o.r/\turnF o i=n/\(liftF o i / o.p).num=m:=by
 obtain ⟨n,m,n0,m0,e1,e2,e3,e4⟩:=lift_n go gi
 have p0:=go.p0
 refine ⟨n,m,n0,m0,by rw [e3];rfl,e1,e2,?_,e3,e4⟩
 rw [e2,Rat.mul_div_cancel (by grind)];grind
theorem jn_shp (go:o.Ok) (gi:i.Ok):Shp (turnF o i * i.p) (o.r * (liftF o i / o.p)) (jnT o i):=by
 obtain ⟨n,m,n0,m0,e1,e2,e3,e4,_⟩:=jn_per go gi
 have p0:=gi.p0
 have r0:=go.r0
 have nq:(0:Rat) < n:=by exact_mod_cast n0
 have mq:(0:Rat) < m:=by exact_mod_cast m0
 rw [e1,e4]
 refine ⟨Rat.mul_pos nq p0,Rat.mul_pos mq r0,fun x t=>?_,fun x=>?_,fun x=>?_,fun x y h=>?_⟩
 ·have ex:x+(t:Rat) * ((n:Rat) * i.p)=x+((t * n:Int):Rat) * i.p:=by rw [Rat.intCast_mul,Rat.intCast_natCast];grind
  have el:((t * n:Int):Rat) * i.r=((t * m:Int):Rat) * o.p:=by
   rw [Rat.intCast_mul,Rat.intCast_natCast,Rat.intCast_mul,Rat.intCast_natCast]
   have:(n:Rat) * i.r=m * o.p:=by rw [<- e2,e3]
   grind
  have er:((t * m:Int):Rat) * o.r=t * (m * o.r):=by rw [Rat.intCast_mul,Rat.intCast_natCast];grind
  unfold jnT
  rw [ex,gi.arn_per]
  simp only [el,go.arn_per,er,Tri.mk.injEq]
  refine ⟨?_,trivial,?_⟩ <;> (split <;> rfl)
 ·have h1:=(gi.arn_ok x).1
  have h2:=go.vm h1
  have h3:=go.arn_ok (i.arn x).l
  unfold jnT
  dsimp only
  split <;> grind
 ·have h1:=(gi.arn_ok x).2
  have h2:=go.vm h1
  have h3:=go.arn_ok (i.arn x).r
  unfold jnT
  dsimp only
  split <;> grind
 ·have h1:=gi.arn_mono h
  unfold jnT
  dsimp only
  by_cases e:(i.arn x).r=(i.arn y).l
  ·obtain ⟨f1,f2⟩:=gi.flat h e
   rw [if_pos f1,if_pos f2,e]
   exact Rat.le_refl
  ·have h2:=go.arn_mono (show (i.arn x).r < (i.arn y).l by grind)
   have h3:=go.arn_ok (i.arn x).r
   have h4:=go.arn_ok (i.arn y).l
   split <;> split <;> grind
theorem innA_rep (go:o.Ok) (gi:i.Ok) (hn:i.row≠[]) (k:Int):∃ (k':Nat) (t:Int),(k':Int) < turnF o i * i.row.length/\i.at k=(i.at k').mv (t * turnF o i:Int) i.p i.r/\i.at (k+1)=(i.at (k'+1)).mv (t * turnF o i:Int) i.p i.r:=by
 obtain ⟨n,m,n0,m0,e1,e2,e3,e4,e5,e6⟩:=jn_per go gi
 have hl:=List.length_pos_iff.mpr hn
 have hnl:0 < n * i.row.length:=Nat.mul_pos n0 hl
 obtain ⟨j,t,hj,rfl⟩:=isplit hnl k
 refine ⟨j,t,by rw [e5,<- Int.natCast_mul];omega,?_,?_⟩
 ·rw [show (j:Int)+t * ((n * i.row.length:Nat):Int)=(j:Int)+(t * turnF o i) * i.row.length from by rw [e5,Int.natCast_mul,Int.mul_assoc],Crv.at_add hn]
 ·rw [show (j:Int)+t * ((n * i.row.length:Nat):Int)+1=((j:Int)+1)+(t * turnF o i) * i.row.length from by rw [e5,Int.natCast_mul,Int.mul_assoc];omega,Crv.at_add hn]
theorem inn_aff (go:o.Ok) (gi:i.Ok) (ho:o.row≠[]) (hn:i.row≠[]) {u w:Rat} (huw:u < w) (no:∀ x,u < x->x < w->∀ y∈innA o i,∀ t:Int,x≠y+t * (turnF o i * i.p)):AffL (jnT o i) u w:=by
 obtain ⟨n,m,n0,m0,e1,e2,e3,e4,e5,e6⟩:=jn_per go gi
 have trk:=gi.trk hn
 have hmem:∀ {k':Nat} {x:Rat},(k':Int) < turnF o i * i.row.length->x∈innA1 o i k'->x∈innA o i:=fun {k' x} h hx=>List.mem_flatMap.mpr ⟨k',List.mem_range.mpr (by omega),hx⟩
 have noi:∀ k,¬ (u < (i.at k).a/\(i.at k).a < w):=fun k ⟨k1,k2⟩=>by
  obtain ⟨k',t,hk,q1,q2⟩:=innA_rep go gi hn k
  refine no _ k1 k2 (i.at k').a (hmem hk (List.mem_cons_self ..)) t ?_
  rw [q1]
  show _+((t * turnF o i:Int):Rat) * i.p=_
  rw [Rat.intCast_mul];grind
 obtain ⟨s1,s2,s3,s4⟩:=gi.affS huw fun _=>noi
 generalize hσ:(i.arn u).sa=σ at *
 by_cases z:σ=0
 ·subst z
  have el:(i.arn w).l=(i.arn u).r:=by rw [s1];grind
  refine ⟨0,fun x x1 x2=>?_,?_⟩
  ·unfold jnT
   rw [s4 x x1 x2,hσ]
   simp only [if_true]
   have:(i.arn u).r+0 * (x - u)=(i.arn u).r:=by grind
   rw [this]
   simp only [Tri.mk.injEq]
   refine ⟨by grind,by grind,by grind⟩
  ·unfold jnT
   rw [s2,hσ,el]
   simp only [if_true]
   grind
 ·have s0:0 < σ:=by grind
  have hlt:(i.arn u).r < (i.arn w).l:=by
   have:=Rat.mul_pos s0 (show 0 < w - u by grind);grind
  have noo:∀ k,¬ ((i.arn u).r < (o.at k).a/\(o.at k).a < (i.arn w).l):=fun q ⟨q1,q2⟩=>by
   -- the place of the piece
   obtain ⟨k,h1,h2⟩:=trk.split u
   have hu:(i.arn u).sa=slB (i.at k) (i.at (k+1))/\(i.arn u).r=(i.at k).r+slB (i.at k) (i.at (k+1)) * (u - (i.at k).a):=by
    rw [Crv.arn_row hn]
    rcases trk.arn_ge h1 h2 with ⟨e,ee⟩ | ⟨g,y,hy,_,_,ee⟩
    ·rw [ee];refine ⟨rfl,?_⟩;show (i.at k).r=_;rw [e];grind
    ·rw [ee];exact ⟨rfl,hy⟩
   rw [hσ] at hu
   have h3:w<=(i.at (k+1)).a:=by have:=noi (k+1);grind
   obtain ⟨k',t,hk,p1,p2⟩:=innA_rep go gi hn k
   have hs:slB (i.at k') (i.at (k'+1))=σ:=by
    rw [hu.1,p1,p2]
    unfold slB Pt.mv
    congr 1 <;> grind
   have r1:(i.at k).r=(i.at k').r+t * liftF o i:=by
    rw [p1];show _+((t * turnF o i:Int):Rat) * i.r=_
    rw [e2,e5,Rat.intCast_mul,Rat.intCast_natCast];grind
   have l1:(i.at (k+1)).l=(i.at (k'+1)).l+t * liftF o i:=by
    rw [p2];show _+((t * turnF o i:Int):Rat) * i.r=_
    rw [e2,e5,Rat.intCast_mul,Rat.intCast_natCast];grind
   have a1:(i.at k).a=(i.at k').a+t * (turnF o i * i.p):=by
    rw [p1];show _+((t * turnF o i:Int):Rat) * i.p=_
    rw [Rat.intCast_mul];grind
   have sm:=slB_mul (trk.up k)
   rw [<- hu.1] at sm
   -- the outer point,moved back
   have ho':=o.at_add ho q (-t * m)
   have oa:(o.at (q + -t * m * o.row.length)).a=(o.at q).a - t * liftF o i:=by
    rw [ho'];show _+((-t * m:Int):Rat) * o.p=_
    rw [e3,Rat.intCast_mul,Rat.intCast_neg,Rat.intCast_natCast];grind
   have m1:=Rat.mul_le_mul_of_nonneg_left (show 0<=u - (i.at k).a by grind) s3
   have m2:=Rat.mul_le_mul_of_nonneg_left (show w - (i.at k).a<=(i.at (k+1)).a - (i.at k).a by grind) s3
   have b1:(i.at k').r < (o.at (q + -t * m * o.row.length)).a:=by rw [oa];grind
   have b2:(o.at (q + -t * m * o.row.length)).a < (i.at (k'+1)).l:=by rw [oa];grind
   have hin:(i.at k').a+((o.at (q + -t * m * o.row.length)).a - (i.at k').r) / slB (i.at k') (i.at (k'+1))∈innA1 o i k':=by
    unfold innA1
    refine List.mem_cons_of_mem _ ?_
    rw [if_neg (by rw [hs];exact z)]
    refine List.mem_map.mpr ⟨_,List.mem_filter.mpr ⟨mem_ptsB go ho (k:=q + -t * m * o.row.length) (Rat.le_of_lt b1) (Rat.le_of_lt b2),?_⟩,rfl⟩
    rw [decide_eq_true b1,decide_eq_true b2];rfl
   rw [hs,oa] at hin
   have ed:((o.at q).a - t * liftF o i - (i.at k').r) / σ * σ=(o.at q).a - t * liftF o i - (i.at k').r:=Rat.div_mul_cancel z
   generalize ((o.at q).a - t * liftF o i - (i.at k').r) / σ=d at *
   have x1:u < (i.at k').a+d+t * (turnF o i * i.p):=by
    have h:(u - (i.at k).a) * σ < d * σ:=by grind
    have:=(Rat.mul_lt_mul_right s0).mp h
    grind
   have x2:(i.at k').a+d+t * (turnF o i * i.p) < w:=by
    have h:d * σ < (w - (i.at k).a) * σ:=by grind
    have:=(Rat.mul_lt_mul_right s0).mp h
    grind
   exact no _ x1 x2 _ (hmem hk hin) t rfl
  obtain ⟨t1,t2,t3,t4⟩:=go.affS hlt fun _=>noo
  refine ⟨(o.arn (i.arn u).r).sa * σ,fun x x1 x2=>?_,?_⟩
  ·have g1:(i.arn u).r < (i.arn u).r+σ * (x - u):=by
    have:=Rat.mul_pos s0 (show 0 < x - u by grind);grind
   have g2:(i.arn u).r+σ * (x - u) < (i.arn w).l:=by
    have:=Rat.mul_lt_mul_of_pos_left (show x - u < w - u by grind) s0;grind
   unfold jnT
   rw [s4 x x1 x2,hσ]
   simp only [if_neg z]
   rw [t4 _ g1 g2]
   simp only [Tri.mk.injEq]
   refine ⟨by grind,by grind,by grind⟩
  ·unfold jnT
   rw [s2,hσ]
   simp only [if_neg z]
   rw [t1,s1]
   grind
end
section
variable {c o i:Crv}
theorem flat_sl (go:o.Ok) (hn:o.row≠[]) (h:o.ris=false) (k:Int):slB (o.at k) (o.at (k+1))=0:=by
 have n0:=slB_nonneg (go.trk hn) k
 by_cases z:slB (o.at k) (o.at (k+1))=0
 ·exact z
 ·have:=ris_of go hn z
  rw [h] at this;cases this
theorem flat_arn (go:o.Ok) (hn:o.row≠[]) (h:o.ris=false) (x:Rat):(o.arn x).sa=0/\(o.arn x).sb=0:=by
 have f:=flat_sl go hn h
 have trk:=go.trk hn
 rw [Crv.arn_row hn]
 obtain ⟨k,h1,h2⟩:=trk.split x
 rcases trk.arn_ge h1 h2 with ⟨e,ee⟩ | ⟨g,y,hy,_,_,ee⟩
 ·rw [ee]
  have:=f (k - 1)
  rw [show k - 1+1=k by omega] at this
  exact ⟨f k,this⟩
 ·rw [ee];exact ⟨f k,f k⟩
theorem no_pt (go:o.Ok) (hn:o.row≠[]) {x:Rat} (h:∀ k,(o.at k).a≠x):(o.arn x).l=(o.arn x).v/\(o.arn x).r=(o.arn x).v:=by
 have trk:=go.trk hn
 rw [Crv.arn_row hn]
 obtain ⟨k,h1,h2⟩:=trk.split x
 rcases trk.arn_ge h1 h2 with ⟨e,ee⟩ | ⟨g,y,hy,_,_,ee⟩
 ·exact absurd e (h k)
 ·rw [ee];exact ⟨rfl,rfl⟩
theorem out_rays (go:o.Ok) (gi:i.Ok) (ho:o.row≠[]) {u w:Rat} (no:∀ x,u < x->x < w->∀ y∈outA o i,∀ t:Int,x≠y+t * (turnF o i * i.p)) (q:Int) :
  ∃ X X',¬ (u < X/\X < w)/\¬ (u < X'/\X' < w)/\(∀ z,z < X->(i.arn z).r < (o.at q).a)/\(o.at q).a<=(i.arn X).r/\(i.arn X).l<=(o.at q).a/\(∀ z,X' < z->(o.at q).a < (i.arn z).l)/\(i.arn X').l<=(o.at q).a/\(o.at q).a<=(i.arn X').r:=by
 obtain ⟨n,m,n0,m0,e1,e2,e3,e4,e5,e6⟩:=jn_per go gi
 have hl:=List.length_pos_iff.mpr ho
 have hml:0 < m * o.row.length:=Nat.mul_pos m0 hl
 obtain ⟨j,t,hj,rfl⟩:=isplit hml q
 have hbey:beyF o i=((m * o.row.length:Nat):Int):=by unfold beyF;rw [e6,Int.natCast_mul,Int.mul_comm]
 have hq:(o.at (j+t * ((m * o.row.length:Nat):Int))).a=(o.at j).a+t * liftF o i:=by
  rw [show (j:Int)+t * ((m * o.row.length:Nat):Int)=(j:Int)+(t * m) * o.row.length from by rw [Int.natCast_mul,Int.mul_assoc],Crv.at_add ho]
  show _+((t * m:Int):Rat) * o.p=_
  rw [e3,Rat.intCast_mul,Rat.intCast_natCast];grind
 have mem1:(atL i (o.at j).a).1∈outA o i:=List.mem_flatMap.mpr ⟨j,List.mem_range.mpr (by rw [hbey];omega),List.mem_cons_self ..⟩
 have mem2:(atM i (o.at j).a).1∈outA o i:=List.mem_flatMap.mpr ⟨j,List.mem_range.mpr (by rw [hbey];omega),List.mem_cons_of_mem _ (List.mem_cons_self ..)⟩
 obtain ⟨_,a2,_,a4,a5⟩:=gi.atL (o.at j).a
 obtain ⟨_,b2,_,b4,b5⟩:=gi.atM (o.at j).a
 have per:∀ x,i.arn (x+t * (turnF o i * i.p))=⟨(i.arn x).l+t * liftF o i,(i.arn x).v+t * liftF o i,(i.arn x).r+t * liftF o i,(i.arn x).sb,(i.arn x).sa⟩:=fun x=>by
  have ex:x+t * (turnF o i * i.p)=x+((t * n:Int):Rat) * i.p:=by rw [e1,Rat.intCast_mul,Rat.intCast_natCast];grind
  have er:((t * n:Int):Rat) * i.r=t * liftF o i:=by rw [e2,Rat.intCast_mul,Rat.intCast_natCast];grind
  rw [ex,gi.arn_per,er]
 have back:∀ z,i.arn z=⟨(i.arn (z - t * (turnF o i * i.p))).l+t * liftF o i,(i.arn (z - t * (turnF o i * i.p))).v+t * liftF o i,(i.arn (z - t * (turnF o i * i.p))).r+t * liftF o i,(i.arn (z - t * (turnF o i * i.p))).sb,(i.arn (z - t * (turnF o i * i.p))).sa⟩:=fun z=>by
  rw [<- per];congr 1;grind
 rw [hq]
 refine ⟨(atL i (o.at j).a).1+t * (turnF o i * i.p),(atM i (o.at j).a).1+t * (turnF o i * i.p),fun ⟨z1,z2⟩=>no _ z1 z2 _ mem1 t rfl,fun ⟨z1,z2⟩=>no _ z1 z2 _ mem2 t rfl,fun z hz=>?_,?_,?_,fun z hz=>?_,?_,?_⟩
 ·rw [back z]
  have:=a5 (z - t * (turnF o i * i.p)) (by grind)
  show _+_ < _+_
  grind
 ·rw [per];show _+_<=_+_;grind
 ·rw [per];show _+_<=_+_;grind
 ·rw [back z]
  have:=b5 (z - t * (turnF o i * i.p)) (by grind)
  show _+_ < _+_
  grind
 ·rw [per];show _+_<=_+_;grind
 ·rw [per];show _+_<=_+_;grind
theorem out_aff (go:o.Ok) (gi:i.Ok) (ho:o.row≠[]) (hr:o.ris=false) {u w:Rat} (huw:u < w) (no:∀ x,u < x->x < w->∀ y∈outA o i,∀ t:Int,x≠y+t * (turnF o i * i.p)):AffL (jnT o i) u w:=by
 have mono:=gi.arn_mono huw
 by_cases e:(i.arn u).r=(i.arn w).l
 ·-- the inner curve is flat
  obtain ⟨f1,f2⟩:=gi.flat huw e
  refine ⟨0,fun x x1 x2=>?_,?_⟩
  ·have m1:=gi.arn_mono x1
   have m2:=gi.arn_mono x2
   have ok:=gi.arn_ok x
   have el:(i.arn x).l=(i.arn u).r:=by grind
   have ev:(i.arn x).v=(i.arn u).r:=by grind
   have er:(i.arn x).r=(i.arn u).r:=by grind
   have s1:=(gi.flat x1 el.symm).2
   have s2:=(gi.flat x2 (er.trans e)).1
   unfold jnT
   rw [s1,s2,f1,el,ev,er]
   simp only [if_true]
   have:(o.arn (i.arn u).r).v+0 * (x - u)=(o.arn (i.arn u).r).v:=by grind
   rw [this]
  ·unfold jnT
   rw [f1,f2,<- e]
   simp only [if_true]
   grind
 ·have hlt:(i.arn u).r < (i.arn w).l:=by grind
  -- each point of the outer curve is passed before,or behind
  have ab:∀ q,((∀ z,z < w->(i.arn z).r < (o.at q).a)/\(i.arn w).l<=(o.at q).a)\/((∀ z,u < z->(o.at q).a < (i.arn z).l)/\(o.at q).a<=(i.arn u).r):=fun q=>by
   obtain ⟨X,X',n1,n2,a1,a2,a3,b1,b2,b3⟩:=out_rays go gi ho no q
   by_cases c1:w<=X
   ·exact .inl ⟨fun z hz=>a1 z (by grind),Rat.le_trans (gi.lm c1) a3⟩
   ·by_cases c2:X'<=u
    ·exact .inr ⟨fun z hz=>b1 z (by grind),Rat.le_trans b3 (gi.rm c2)⟩
    ·exfalso
     have h1:=gi.rm (show X<=u by grind)
     have h2:=gi.lm (show w<=X' by grind)
     grind
  have noo:∀ q,¬ ((i.arn u).r < (o.at q).a/\(o.at q).a < (i.arn w).l):=fun q ⟨q1,q2⟩=>by
   rcases ab q with ⟨_,h⟩ | ⟨_,h⟩ <;> grind
  obtain ⟨t1,t2,t3,t4⟩:=go.affS hlt fun _=>noo
  have fl:=flat_arn go ho hr
  rw [(fl (i.arn u).r).1] at t1 t4
  have k1:(o.arn (i.arn w).l).l=(o.arn (i.arn u).r).r:=by rw [t1];grind
  -- a value that is taken
  have tk:∀ z y,u < z->z < w->(i.arn z).l<=y->y<=(i.arn z).r->(o.arn y).l=(o.arn (i.arn u).r).r/\(o.arn y).v=(o.arn (i.arn u).r).r/\(o.arn y).r=(o.arn (i.arn u).r).r:=fun z y z1 z2 y1 y2=>by
   have np:∀ k,(o.at k).a≠y:=fun k hk=>by
    rcases ab k with ⟨h,_⟩ | ⟨h,_⟩
    ·have:=h z z2;grind
    ·have:=h z z1;grind
   obtain ⟨p1,p2⟩:=no_pt go ho np
   have m1:=gi.arn_mono z1
   have m2:=gi.arn_mono z2
   by_cases w1:y=(i.arn u).r
   ·subst w1;exact ⟨by grind,by grind,rfl⟩
   ·by_cases w2:y=(i.arn w).l
    ·subst w2;exact ⟨k1,by grind,by grind⟩
    ·have:=t4 y (by grind) (by grind)
     rw [this]
     refine ⟨by grind,by grind,by grind⟩
  refine ⟨0,fun x x1 x2=>?_,?_⟩
  ·have ok:=gi.arn_ok x
   obtain ⟨p1,p2,p3⟩:=tk x (i.arn x).l x1 x2 Rat.le_refl (by grind)
   obtain ⟨_,q2,_⟩:=tk x (i.arn x).v x1 x2 ok.1 ok.2
   obtain ⟨r1,r2,r3⟩:=tk x (i.arn x).r x1 x2 (by grind) Rat.le_refl
   have hu:(jnT o i u).r=(o.arn (i.arn u).r).r:=by
    unfold jnT
    dsimp only
    by_cases s:(i.arn u).sa=0
    ·rw [if_pos s]
     obtain ⟨z,z1,_,z3,_,_⟩:=gi.beh u
     have hy:∃ y,u < y/\y < z/\y < w:=by
      by_cases hzw:z<=w
      ·exact ⟨(u+z) / 2,by grind,by grind,by grind⟩
      ·exact ⟨(u+w) / 2,by grind,by grind,by grind⟩
     obtain ⟨y,y1,y2,y3⟩:=hy
     have:=z3 y y1 y2
     rw [s] at this
     have h1:(i.arn y).l=(i.arn u).r:=by rw [this];grind
     have h2:(i.arn y).r=(i.arn u).r:=by rw [this];grind
     exact (tk y (i.arn u).r y1 y3 (by grind) (by grind)).2.1
    ·rw [if_neg s]
   rw [hu]
   unfold jnT
   have:(o.arn (i.arn u).r).r+0 * (x - u)=(o.arn (i.arn u).r).r:=by grind
   rw [this,q2]
   simp only [Tri.mk.injEq]
   refine ⟨?_,trivial,?_⟩
   ·split
    ·exact p2
    ·exact p1
   ·split
    ·exact r2
    ·exact r3
  ·have hu:(jnT o i u).r=(o.arn (i.arn u).r).r:=by
    unfold jnT
    dsimp only
    by_cases s:(i.arn u).sa=0
    ·rw [if_pos s]
     obtain ⟨z,z1,_,z3,_,_⟩:=gi.beh u
     have hy:∃ y,u < y/\y < z/\y < w:=by
      by_cases hzw:z<=w
      ·exact ⟨(u+z) / 2,by grind,by grind,by grind⟩
      ·exact ⟨(u+w) / 2,by grind,by grind,by grind⟩
     obtain ⟨y,y1,y2,y3⟩:=hy
     have:=z3 y y1 y2
     rw [s] at this
     have h1:(i.arn y).l=(i.arn u).r:=by rw [this];grind
     have h2:(i.arn y).r=(i.arn u).r:=by rw [this];grind
     exact (tk y (i.arn u).r y1 y3 (by grind) (by grind)).2.1
    ·rw [if_neg s]
   rw [hu]
   unfold jnT
   dsimp only
   by_cases s:(i.arn w).sb=0
   ·rw [if_pos s]
    obtain ⟨z,z1,_,z3,_,_⟩:=gi.ahd w
    have hy:∃ y,z < y/\y < w/\u < y:=by
     by_cases hzw:u<=z
     ·exact ⟨(z+w) / 2,by grind,by grind,by grind⟩
     ·exact ⟨(u+w) / 2,by grind,by grind,by grind⟩
    obtain ⟨y,y1,y2,y3⟩:=hy
    have:=z3 y y1 y2
    rw [s] at this
    have h1:(i.arn y).l=(i.arn w).l:=by rw [this];grind
    have h2:(i.arn y).r=(i.arn w).l:=by rw [this];grind
    rw [(tk y (i.arn w).l y3 y2 (by grind) (by grind)).2.1]
    grind
   ·rw [if_neg s,k1];grind
theorem filt_eq {S:Int->Pt} {p:Pt->Bool} {a P0 P1:Int} (h0:a<=P0) (hp:∀ k:Int,p (S k)=(decide (P0<=k) && decide (k < P1))):∀ n:Nat,((((List.range n).map fun i:Nat=>S (a+i)).filter p).length:Int)=max 0 (min P1 (a+n) - P0)
 | 0=>by
  show (0:Int)=_
  omega
 | n+1=>by
  rw [List.range_succ,List.map_append,List.filter_append,List.length_append]
  have ih:=filt_eq h0 hp n
  have e:(List.filter p (List.map (fun i:Nat=>S (a+i)) [n])).length=if (decide (P0<=a+(n:Int)) && decide (a+(n:Int) < P1))=true then 1 else 0:=by
   show (List.filter p [S (a+n)]).length=_
   rw [List.filter_cons,hp]
   split <;> rfl
  rw [e]
  by_cases h1:P0<=a+n/\a+n < P1
  ·rw [if_pos (by rw [decide_eq_true h1.1,decide_eq_true h1.2];rfl)]
   push_cast
   omega
  ·rw [if_neg (by
    rw [Bool.and_eq_true,decide_eq_true_eq,decide_eq_true_eq]
    exact h1)]
   push_cast
   omega
theorem beh_ge (x:Rat):plc c.at x<=behC c x:=by unfold behC;split <;> omega
theorem beh_per (ok:c.Ok) (hn:c.row≠[]) (x:Rat) (t:Int):behC c (x+t * c.p)=behC c x+t * c.row.length:=by
 unfold behC
 rw [plc_per ok hn x t,c.at_add hn]
 have:((c.at (plc c.at x)).mv t c.p c.r).a=(c.at (plc c.at x)).a+t * c.p:=rfl
 rw [this]
 by_cases z:(c.at (plc c.at x)).a=x
 ·rw [if_pos z,if_pos (by rw [z])];omega
 ·rw [if_neg z,if_neg (by intro w;apply z;grind)]
theorem inn1_len (go:o.Ok) (gi:i.Ok) (ho:o.row≠[]) (hn:i.row≠[]) (k:Nat):((innA1 o i k).length:Int)<=1+(behC o (i.at ((k:Int)+1)).r - behC o (i.at k).r)/\(slB (i.at k) (i.at ((k:Int)+1))=0->(innA1 o i k).length=1):=by
 have to:=go.trk ho
 have ti:=gi.trk hn
 have h1:=ti.ri (k:Int)
 have h2:=ti.lv ((k:Int)+1)
 have h3:=ti.vr ((k:Int)+1)
 have bm:=beh_mono to (show (i.at k).r<=(i.at ((k:Int)+1)).r by grind)
 unfold innA1
 rw [List.length_cons]
 by_cases z:slB (i.at k) (i.at ((k:Int)+1))=0
 ·rw [if_pos z]
  refine ⟨?_,fun _=>rfl⟩
  show ((0+1:Nat):Int)<=_
  omega
 ·rw [if_neg z]
  refine ⟨?_,fun w=>absurd w z⟩
  rw [List.length_map]
  unfold ptsB
  rw [if_neg ho]
  have hf:=filt_eq (S:=o.at) (p:=fun q:Pt=>decide ((i.at k).r < q.a) && decide (q.a < (i.at ((k:Int)+1)).l)) (a:=plc o.at (i.at k).r) (P0:=behC o (i.at k).r) (P1:=plc o.at (i.at ((k:Int)+1)).l) (beh_ge _) (fun q=>by
   have q1:=beh_le to (hi:=(i.at k).r) (k:=q)
   have q2:=to.pl_lt (x:=(i.at ((k:Int)+1)).l) (k:=q)
   congr 1
   ·rw [Bool.eq_iff_iff,decide_eq_true_iff,decide_eq_true_iff]
    constructor
    ·intro w
     have:=(not_congr q1).mpr (by grind)
     omega
    ·intro w
     have:=(not_congr q1).mp (by omega)
     grind
   ·rw [Bool.eq_iff_iff,decide_eq_true_iff,decide_eq_true_iff]
    exact q2.symm) (behC o (i.at ((k:Int)+1)).l - plc o.at (i.at k).r).toNat
  have b1:=beh_ge (c:=o) (i.at ((k:Int)+1)).l
  have b2:=beh_mono to (show (i.at ((k:Int)+1)).l<=(i.at ((k:Int)+1)).r by grind)
  rw [show ∀ n:Nat,((n+1:Nat):Int)=(n:Int)+1 from fun n=>rfl,hf]
  omega
theorem innA_cnt (go:o.Ok) (gi:i.Ok) (ho:o.row≠[]) (hn:i.row≠[]):((innA o i).length:Int)<=mineF o i:=by
 obtain ⟨n,m,n0,m0,e1,e2,e3,e4,e5,e6⟩:=jn_per go gi
 have hlt:turnF o i * (i.row.length:Int)=((n * i.row.length:Nat):Int):=by rw [e5,Int.natCast_mul]
 have hbey:beyF o i=((m * o.row.length:Nat):Int):=by unfold beyF;rw [e6,Int.natCast_mul,Int.mul_comm]
 have acc:∀ N:Nat,(((List.range N).flatMap fun k:Nat=>innA1 o i k).length:Int)<=N+(behC o (i.at (N:Int)).r - behC o (i.at 0).r)/\(i.ris=false->((List.range N).flatMap fun k:Nat=>innA1 o i k).length=N):=by
  intro N
  induction N with
  | zero=>exact ⟨by rw [show ((0:Nat):Int)=0 from rfl];show (0:Int)<=_;omega,fun _=>rfl⟩
  | succ N ih =>
   have h:=inn1_len go gi ho hn N
   rw [List.range_succ,List.flatMap_append,List.length_append]
   have e:(List.flatMap (fun k:Nat=>innA1 o i k) [N]).length=(innA1 o i N).length:=by simp
   rw [e]
   refine ⟨?_,fun hr=>?_⟩
   ·have:=ih.1
    push_cast
    have:=h.1
    omega
   ·rw [ih.2 hr,h.2 (flat_sl gi hn hr N)]
 unfold innA mineF
 rw [hlt,Int.toNat_natCast]
 obtain ⟨a1,a2⟩:=acc (n * i.row.length)
 by_cases hr:i.ris=true
 ·rw [if_pos hr]
  have er:(i.at ((n * i.row.length:Nat):Int)).r=(i.at 0).r+(m:Int) * o.p:=by
   have:=i.at_add hn 0 n
   rw [Int.zero_add,<- Int.natCast_mul] at this
   rw [this]
   show _+((n:Int):Rat) * i.r=_
   rw [Rat.intCast_natCast,<- e2,e3,Rat.intCast_natCast]
  rw [er,beh_per go ho] at a1
  rw [hbey]
  push_cast at *
  omega
 ·rw [if_neg hr,a2 (by simpa using hr)];omega
noncomputable def joinN (o i:Crv):Crv:=norm (turnF o i * i.p) (o.r * (liftF o i / o.p)) ((spotF o i).map (ptF (jnT o i))) 0
theorem jn_sem (go:o.Gd) (gi:i.Gd) (ho:o.row≠[]) (hn:i.row≠[]):(joinN o i).Ok/\(joinN o i).s=o.s * i.s/\(∀ x,(joinN o i).tri x=jnT o i x) /\
  afterF o i=if min (mineF o i) (yourF o i) > 60 then .error .many else if (joinN o i).long=true then .error .long else .ok (joinN o i):=by
 have sh:=jn_shp go.ok gi.ok
 have p0:=sh.p0
 obtain ⟨n,m,n0,m0,e1,e2,e3,e4,e5,e6⟩:=jn_per go.ok gi.ok
 have hl:=List.length_pos_iff.mpr hn
 have hlo:=List.length_pos_iff.mpr ho
 have hml:0 < m * o.row.length:=Nat.mul_pos m0 hlo
 have hnl:0 < n * i.row.length:=Nat.mul_pos n0 hl
 have hbey:beyF o i=((m * o.row.length:Nat):Int):=by unfold beyF;rw [e6,Int.natCast_mul,Int.mul_comm]
 have hlt:turnF o i * (i.row.length:Int)=((n * i.row.length:Nat):Int):=by rw [e5,Int.natCast_mul]
 have asc:(spotF o i).Pairwise (· < ·):=ordQ_lt _
 have hmem:∀ x,x∈(if mineF o i<=yourF o i then innA o i else outA o i)->wthn x (turnF o i * i.p)∈spotF o i:=fun x hx=>ordQ_mem.mpr (List.mem_map.mpr ⟨x,hx,rfl⟩)
 have hb:∀ x∈spotF o i,0<=x/\x < turnF o i * i.p:=fun x hx=>by
  obtain ⟨y,_,rfl⟩:=List.mem_map.mp (ordQ_mem.mp hx)
  exact wthn_in p0
 have no:∀ {u w:Rat},(∀ x,u < x->x < w->∀ y∈spotF o i,∀ t:Int,x≠y+t * (turnF o i * i.p))->∀ x,u < x->x < w->∀ y∈(if mineF o i<=yourF o i then innA o i else outA o i),∀ t:Int,x≠y+t * (turnF o i * i.p):=fun {u w} h x x1 x2 y hy t e=>by
  refine h x x1 x2 _ (hmem y hy) ((y / (turnF o i * i.p)).floor+t) ?_
  have:=wthn_eq y (turnF o i * i.p)
  rw [Rat.intCast_add];grind
 have hor:¬ mineF o i<=yourF o i->o.ris=false/\yourF o i=2 * beyF o i:=fun h=>by
  unfold yourF at h ⊢
  by_cases z:o.ris=true
  ·rw [if_pos z] at h;omega
  ·exact ⟨by simpa using z,if_neg z⟩
 have aff:∀ u w,u < w->(∀ x,u < x->x < w->∀ y∈spotF o i,∀ t:Int,x≠y+t * (turnF o i * i.p))->AffL (jnT o i) u w:=fun u w huw h=>by
  have h':=no h
  by_cases z:mineF o i<=yourF o i
  ·simp only [if_pos z] at h'
   exact inn_aff go.ok gi.ok ho hn huw h'
  ·simp only [if_neg z] at h'
   exact out_aff go.ok gi.ok ho (hor z).1 huw h'
 have hne:spotF o i≠[]:=by
  by_cases z:mineF o i<=yourF o i
  ·have:(i.at ((0:Nat):Int)).a∈innA o i:=List.mem_flatMap.mpr ⟨0,List.mem_range.mpr (by rw [hlt];omega),List.mem_cons_self ..⟩
   exact List.ne_nil_of_mem (hmem _ (by rw [if_pos z];exact this))
  ·have:(atL i (o.at ((0:Nat):Int)).a).1∈outA o i:=List.mem_flatMap.mpr ⟨0,List.mem_range.mpr (by rw [hbey];omega),List.mem_cons_self ..⟩
   exact List.ne_nil_of_mem (hmem _ (by rw [if_neg z];exact this))
 obtain ⟨m1,m2,hok,m4⟩:=mkC_smp (o:=0) sh hne asc hb aff
 refine ⟨norm_ok hok,?_,m4,?_⟩
 ·unfold joinN
  rw [norm_s,e1,e4,go.ok.s,gi.ok.s]
  have p1:=gi.ok.p0
  have p2:=go.ok.p0
  have nq:(0:Rat) < n:=by exact_mod_cast n0
  have hr:(m:Rat) * o.p=n * i.r:=by rw [<- e3,e2]
  have z1:o.r / o.p * o.p=o.r:=Rat.div_mul_cancel (by grind)
  have z2:i.r / i.p * i.p=i.r:=Rat.div_mul_cancel (by grind)
  have z3:(m:Rat) * o.r=o.r / o.p * (i.r / i.p) * (n * i.p):=by
   have:o.r / o.p * (i.r / i.p) * (n * i.p)=o.r / o.p * (n * (i.r / i.p * i.p)):=by grind
   rw [this,z2,<- hr]
   grind
  rw [z3,Rat.mul_div_cancel (by have:=Rat.mul_pos nq p1;grind)]
 ·unfold afterF
  rw [if_neg ho,if_neg hn]
  by_cases h:min (mineF o i) (yourF o i) > 60
  ·rw [if_pos h,if_pos h]
  ·rw [if_neg h,if_neg h]
   have hlen:(spotF o i).length<=60:=by
    have h1:=ordQ_len ((if mineF o i<=yourF o i then innA o i else outA o i).map fun x=>wthn x (turnF o i * i.p))
    rw [List.length_map] at h1
    have h2:(spotF o i).length<=(if mineF o i<=yourF o i then innA o i else outA o i).length:=h1
    by_cases z:mineF o i<=yourF o i
    ·rw [if_pos z] at h2
     have:=innA_cnt go.ok gi.ok ho hn
     omega
    ·rw [if_neg z] at h2
     have h3:(outA o i).length=2 * (beyF o i).toNat:=pair_len _
     have:=(hor z).2
     omega
   have ep:(spotF o i).map (joinF o i)=(spotF o i).map (ptF (jnT o i)):=rfl
   rw [ep]
   unfold mkC
   rw [if_pos hok,if_neg (by rw [List.length_map];omega)]
   rfl
end
def onG (N:Nat) (x:Rat):Prop:=∃ z:Int,(N:Rat) * x=z
section
variable {N M:Nat} {x y:Rat}
theorem onG.add (h:onG N x) (g:onG N y):onG N (x+y):=by
 obtain ⟨a,ha⟩:=h;obtain ⟨b,hb⟩:=g
 exact ⟨a+b,by rw [Rat.intCast_add,<- ha,<- hb];grind⟩
theorem onG.neg (h:onG N x):onG N (-x):=by
 obtain ⟨a,ha⟩:=h
 exact ⟨-a,by rw [Rat.intCast_neg,<- ha];grind⟩
theorem onG.sub (h:onG N x) (g:onG N y):onG N (x - y):=by
 have:=h.add g.neg
 rwa [<- Rat.sub_eq_add_neg] at this
theorem onG.mul (h:onG N x) (g:onG M y):onG (N * M) (x * y):=by
 obtain ⟨a,ha⟩:=h;obtain ⟨b,hb⟩:=g
 exact ⟨a * b,by rw [Rat.intCast_mul,<- ha,<- hb,Rat.natCast_mul];grind⟩
theorem onG.up (k:Nat) (h:onG N x):onG (N * k) x:=by
 obtain ⟨a,ha⟩:=h
 exact ⟨a * k,by rw [Rat.intCast_mul,<- ha,Rat.natCast_mul,Rat.intCast_natCast];grind⟩
theorem onG.int (t:Int) (h:onG N x):onG N (t * x):=by
 obtain ⟨a,ha⟩:=h
 exact ⟨t * a,by rw [Rat.intCast_mul,<- ha];grind⟩
theorem onG.zero:onG N 0:=⟨0,by rw [Rat.mul_zero];rfl⟩
theorem onG.one:onG N 1:=⟨N,by rw [Rat.mul_one,Rat.intCast_natCast]⟩
theorem onG.dvd (h:onG N x) (d:N ∣ M):onG M x:=by
 obtain ⟨k,rfl⟩:=d
 exact h.up k
end
class Gb where
 n:Nat
 pos:0 < n
instance (priority:=low) gb24:Gb:=⟨24,by decide⟩
def gG [Gb] (j:Nat):Nat:=Gb.n * 12 ^ j
def gT (k:Nat):Nat:=12 ^ k
section
variable [Gb]
theorem gG_dvd {j j':Nat} (h:j<=j'):gG j ∣ gG j':=Nat.mul_dvd_mul_left _ (Nat.pow_dvd_pow _ h)
theorem gT_dvd {j j':Nat} (h:j<=j'):gT j ∣ gT j':=Nat.pow_dvd_pow _ h
theorem gGT (j k:Nat):gG j * gT k=gG (j+k):=by unfold gG gT;rw [Nat.pow_add,Nat.mul_assoc]
theorem gTG (k:Nat):gT k ∣ gG k:=⟨Gb.n,Nat.mul_comm _ _⟩
section
variable {x y:Rat} {j k j' k':Nat}
theorem onG.G (h:onG (gG j) x) (l:j<=j'):onG (gG j') x:=h.dvd (gG_dvd l)
theorem onG.T (h:onG (gT k) x) (l:k<=k'):onG (gT k') x:=h.dvd (gT_dvd l)
theorem onG.GT (h:onG (gG j) x) (g:onG (gT k) y):onG (gG (j+k)) (x * y):=by rw [<- gGT];exact h.mul g
theorem onG.TG (h:onG (gT k) y) (g:onG (gG j) x):onG (gG (j+k)) (y * x):=by rw [Rat.mul_comm];exact g.GT h
end
structure Qd (j kv ki:Nat) (c:Crv):Prop where
 pt:c.row≠[]->∀ q,onG (gG j) (c.at q).a/\onG (gG j) (c.at q).l/\onG (gG j) (c.at q).v/\onG (gG j) (c.at q).r
 b:c.row=[]->onG (gG j) c.b
 sl:∀ x,onG (gT kv) (c.arn x).sa/\((c.arn x).sa≠0->onG (gT ki) (1 / (c.arn x).sa))
section
variable {j kv ki j':Nat} {c:Crv}
theorem Qd.mono (q:Qd j kv ki c) {J Kv Ki:Nat} (h1:j<=J) (h2:kv<=Kv) (h3:ki<=Ki):Qd J Kv Ki c :=
 ⟨fun hn k=>let ⟨a,b,d,e⟩:=q.pt hn k;⟨a.G h1,b.G h1,d.G h1,e.G h1⟩,fun hn=>(q.b hn).G h1,fun x=>⟨(q.sl x).1.T h2,fun z=>((q.sl x).2 z).T h3⟩⟩
theorem sa_str (hn:c.row=[]) (x:Rat):(c.arn x).sa=c.s:=by rw [Crv.arn_str hn]
theorem Qd.val (q:Qd j kv ki c) (ok:c.Ok) {x:Rat} (hx:onG (gG j') x):onG (gG (max j j'+kv)) (c.tri x).l/\onG (gG (max j j'+kv)) (c.tri x).v/\onG (gG (max j j'+kv)) (c.tri x).r:=by
 by_cases hn:c.row=[]
 ·have h1:=q.b hn
  have h2:=(q.sl x).1
  rw [sa_str hn] at h2
  have:onG (gG (max j j'+kv)) (c.b+c.s * x):=(h1.G (by omega)).add ((h2.TG hx).G (by omega))
  unfold Crv.tri
  rw [Crv.arn_str hn]
  exact ⟨this,this,this⟩
 ·have trk:=ok.trk hn
  obtain ⟨k,h1,h2⟩:=trk.split x
  obtain ⟨pa,pl,pv,pr⟩:=q.pt hn k
  unfold Crv.tri
  rw [Crv.arn_row hn]
  rcases trk.arn_ge h1 h2 with ⟨e,ee⟩ | ⟨g,y,hy,_,_,ee⟩
  ·rw [ee]
   exact ⟨pl.G (by omega),pv.G (by omega),pr.G (by omega)⟩
  ·rw [ee]
   have hs:=(q.sl (c.at k).a).1
   rw [Crv.arn_row hn,trk.arn_pt] at hs
   have:onG (gG (max j j'+kv)) y:=by
    rw [hy]
    exact (pr.G (by omega)).add ((onG.TG hs ((hx.G (show j'<=max j j' by omega)).sub (pa.G (by omega)))))
   exact ⟨this,this,this⟩
theorem Qd.per (q:Qd j kv ki c) (hn:c.row≠[]):onG (gG j) c.p/\onG (gG j) c.r:=by
 have h:=c.at_add hn 0 1
 have h0:=q.pt hn 0
 have h1:=q.pt hn (0+1 * c.row.length)
 have e:((1:Int):Rat)=1:=rfl
 rw [h] at h1
 refine ⟨?_,?_⟩
 ·have:=h1.1.sub h0.1
  have z:((c.at 0).mv ((1:Int):Rat) c.p c.r).a - (c.at 0).a=c.p:=by show _+((1:Int):Rat) * c.p - _=_;rw [e];grind
  rwa [z] at this
 ·have:=h1.2.1.sub h0.2.1
  have z:((c.at 0).mv ((1:Int):Rat) c.p c.r).l - (c.at 0).l=c.r:=by show _+((1:Int):Rat) * c.r - _=_;rw [e];grind
  rwa [z] at this
theorem sa_of (ok:c.Ok) {F:Rat->Tri} (hF:∀ x,c.tri x=F x) {x z σ:Rat} (hz:x < z) (h:∀ y,x < y->y < z->(F y).v=(F x).r+σ * (y - x)):(c.arn x).sa=σ:=by
 obtain ⟨w,w1,_,w3,_,_⟩:=ok.beh x
 have hy:∃ y,x < y/\y < w/\y < z:=by
  by_cases q:w<=z
  ·exact ⟨(x+w) / 2,by grind,by grind,by grind⟩
  ·exact ⟨(x+z) / 2,by grind,by grind,by grind⟩
 obtain ⟨y,y1,y2,y3⟩:=hy
 have e1:=w3 y y1 y2
 have e2:=h y y1 y3
 rw [<- hF,<- hF] at e2
 have e3:(c.tri y).v=(c.arn x).r+(c.arn x).sa * (y - x):=by unfold Crv.tri;rw [e1]
 have e4:(c.tri x).r=(c.arn x).r:=rfl
 have e5:((c.arn x).sa - σ) * (y - x)=0:=by rw [e3,e4] at e2;grind
 rcases Rat.mul_eq_zero.mp e5 with z | z
 ·grind
 ·grind
end
end
def IntS (m:Nat) (c:Crv):Prop:=∀ x,∃ n:Nat,n<=m/\(c.arn x).sa=n
section
variable {a b c o i l:Crv} {j ja jb ka kb la lb ma mb jo ji ko ki lo li jl kl ll:Nat}
variable [Gb]
theorem Qd.s (q:Qd j ka la c) (hn:c.row=[]):onG (gT ka) c.s/\(c.s≠0->onG (gT la) (1 / c.s)):=by
 have:=q.sl 0
 rwa [sa_str hn] at this
end
def Dev (B:Rat) (c:Crv):Prop:=∀ x,-B<=(c.tri x).l - c.s * x/\(c.tri x).r - c.s * x<=B
section
variable [Gb] {a b c o i l : Crv} {j ja jb ka kb la lb jo ji ko ki lo li : Nat}
def Kn (J m:Nat) (i:Crv) (x:Rat):Prop:=onG (gG J) x/\onG (gG m) (i.tri x).l/\onG (gG m) (i.tri x).v/\onG (gG m) (i.tri x).r
theorem Kn.pt (qi:Qd ji ki li i) (gi:i.Ok) (hn:i.row≠[]) (k:Int) {J m:Nat} (h1:ji<=J) (h2:ji<=m):Kn J m i (i.at k).a:=by
 obtain ⟨p1,p2,p3,p4⟩:=qi.pt hn k
 refine ⟨p1.G h1,?_⟩
 rw [crv_tri_at gi hn]
 exact ⟨p2.G h2,p3.G h2,p4.G h2⟩
theorem Dev.all {B:Rat} (h:Dev B c) (ok:c.Ok) (x:Rat):(-B<=(c.tri x).l - c.s * x/\(c.tri x).l - c.s * x<=B)/\(-B<=(c.tri x).v - c.s * x/\(c.tri x).v - c.s * x<=B)/\(-B<=(c.tri x).r - c.s * x/\(c.tri x).r - c.s * x<=B):=by
 obtain ⟨h1,h2⟩:=h x
 have h3:=ok.arn_ok x
 unfold Crv.tri at *
 dsimp only at *
 refine ⟨⟨?_,?_⟩,⟨?_,?_⟩,?_,?_⟩ <;> grind
end
theorem onG_qs {N:Nat} {x V:Rat} {n:Nat} (hN:0 < N) (h:onG N x) (h1:-V<=x) (h2:x<=V) (hb:N < 2 ^ n) (hv:V * N < (2 ^ n:Nat)):qs x<=n:=by
 obtain ⟨z,hz⟩:=h
 have hd0:(x.den:Rat)≠0:=fun z=>by
  have h:x.den=0:=by exact_mod_cast z
  have:=x.den_pos
  omega
 have hd:x * (x.den:Rat)=(x.num:Rat):=by
  have h1:(x.num:Rat) / (x.den:Rat) * (x.den:Rat)=(x.num:Rat):=Rat.div_mul_cancel hd0
  have h2:(x.num:Rat) / ((x.den:Int):Rat)=x:=by rw [<- Rat.divInt_eq_div,Rat.num_divInt_den]
  rw [Rat.intCast_natCast] at h2
  rwa [h2] at h1
 have e:(N:Int) * x.num=z * x.den:=by
  have:((N:Rat) * x) * x.den=z * x.den:=by rw [hz]
  have h3:(N:Rat) * (x.num:Rat)=(z:Rat) * (x.den:Rat):=by rw [<- hd,<- this];grind
  exact_mod_cast h3
 have dvd:x.den ∣ N:=by
  have h3:(x.den:Int) ∣ (N:Int) * x.num:=⟨z,by rw [e,Int.mul_comm]⟩
  have h4:x.den ∣ N * x.num.natAbs:=by
   have:=Int.natAbs_dvd_natAbs.mpr h3
   rwa [Int.natAbs_mul,Int.natAbs_natCast,Int.natAbs_natCast] at this
  exact Nat.Coprime.dvd_of_dvd_mul_right x.reduced.symm h4
 have dle:x.den<=N:=Nat.le_of_dvd hN dvd
 have dq:(x.den:Rat)<=(N:Rat):=by exact_mod_cast dle
 have d0:(0:Rat)<=(x.den:Rat):=by exact_mod_cast Nat.zero_le _
 have V0:0<=V:=by grind
 have n1:(x.num:Rat)<=V * N:=by
  rw [<- hd]
  have:=Rat.mul_le_mul_of_nonneg_right h2 d0
  have:=Rat.mul_le_mul_of_nonneg_left dq V0
  grind
 have n2:-(V * N)<=(x.num:Rat):=by
  rw [<- hd]
  have:=Rat.mul_le_mul_of_nonneg_right h1 d0
  have:=Rat.mul_le_mul_of_nonneg_left dq V0
  grind
 unfold qs
 refine Nat.max_le.mpr ⟨bs_le ?_,bs_le (Nat.lt_of_le_of_lt dle hb)⟩
 have a1:(x.num:Rat) < ((2 ^ n:Nat):Rat):=by grind
 have a2:-((2 ^ n:Nat):Rat) < (x.num:Rat):=by grind
 have b1:x.num < ((2 ^ n:Nat):Int):=by exact_mod_cast a1
 have b2:-((2 ^ n:Nat):Int) < x.num:=by
  have:((-((2 ^ n:Nat):Int):Int):Rat) < (x.num:Rat):=by rw [Rat.intCast_neg,Rat.intCast_natCast];exact a2
  exact Rat.intCast_lt_intCast.mp this
 omega
section
variable [Gb]
theorem gG_pos (j:Nat):0 < gG j:=Nat.mul_pos Gb.pos (Nat.pow_pos (by decide))
structure Ft (J K:Nat) (B p S:Rat) (c:Crv):Prop where
 gd:c.Gd
 qd:Qd J K K c
 dv:Dev B c
 pp:c.p<=p
 s1:1<=S * c.s
 s2:c.s<=S
section
variable {c o i a b:Crv} {J K Jo Ko Ji Ki:Nat} {B p S Bo po So Bi pi_ Si M:Rat}
theorem nums_in (ok:c.Ok) (q:Qd J K K c) (hK:K<=J) (dv:Dev B c) (hp:c.p<=p) (hs:c.s<=S) (p1:1<=p) (S1:1<=S) {x:Rat} (hx:x∈c.nums):onG (gG J) x/\-(B+S * p)<=x/\x<=B+S * p:=by
 have s0:=ok.s0
 have p0:=ok.p0
 have B0:0<=B:=by
  obtain ⟨h1,h2⟩:=dv 0
  have h3:=ok.arn_ok 0
  unfold Crv.tri at h1 h2
  dsimp only at h1 h2
  grind
 have sp:0<=c.s * c.p:=Rat.le_of_lt (Rat.mul_pos s0 p0)
 have sp2:c.s * c.p<=S * p:=by
  have:=Rat.mul_le_mul_of_nonneg_left hp (Rat.le_of_lt s0)
  have:=Rat.mul_le_mul_of_nonneg_right hs (show 0<=p by grind)
  grind
 have pS:p<=S * p:=by
  have:=Rat.mul_le_mul_of_nonneg_right S1 (show 0<=p by grind);grind
 have er:c.r=c.s * c.p:=by rw [ok.s,Rat.div_mul_cancel (by grind)]
 have hr0:=ok.r0
 unfold Crv.nums at hx
 rcases List.mem_append.mp hx with hx | hx
 ·have:x=c.p\/x=c.r\/x=(if c.row=[] then c.b else 0):=by simpa using hx
  by_cases hn:c.row=[]
  ·have h1:=ok.p1 hn
   have h2:=(q.s hn).1
   rw [if_pos hn] at this
   rcases this with rfl | rfl | rfl
   ·rw [h1];exact ⟨onG.one,by grind,by grind⟩
   ·refine ⟨?_,by grind,by grind⟩
    rw [er,h1,Rat.mul_one]
    exact h2.dvd (Nat.dvd_trans (gTG K) (gG_dvd hK))
   ·refine ⟨q.b hn,?_,?_⟩
    ·have:=(dv 0).1
     unfold Crv.tri at this
     rw [Crv.arn_str hn] at this
     dsimp only at this
     grind
    ·have:=(dv 0).2
     unfold Crv.tri at this
     rw [Crv.arn_str hn] at this
     dsimp only at this
     grind
  ·rw [if_neg hn] at this
   obtain ⟨h1,h2⟩:=q.per hn
   rcases this with rfl | rfl | rfl
   ·exact ⟨h1,by grind,by grind⟩
   ·exact ⟨h2,by grind,by grind⟩
   ·exact ⟨onG.zero,by grind,by grind⟩
 ·obtain ⟨w,hw,hx⟩:=List.mem_flatMap.mp hx
  have hn:c.row≠[]:=fun z=>by rw [z] at hw;cases hw
  have hpt:=(ok.ok hn).pt w hw
  have a0:=Rat.not_lt.mp hpt.lo
  have a1:=hpt.hi
  obtain ⟨n,hnl,rfl⟩:=row_at hw
  obtain ⟨q1,q2,q3,q4⟩:=q.pt hn n
  obtain ⟨⟨d1,d2⟩,⟨d3,d4⟩,d5,d6⟩:=dv.all ok (c.at n).a
  rw [crv_tri_at ok hn] at d1 d2 d3 d4 d5 d6
  dsimp only at d1 d2 d3 d4 d5 d6
  have m1:=Rat.mul_le_mul_of_nonneg_left a0 (Rat.le_of_lt s0)
  have m2:=Rat.mul_le_mul_of_nonneg_left (Rat.le_of_lt a1) (Rat.le_of_lt s0)
  have:x=(c.at n).a\/x=(c.at n).l\/x=(c.at n).v\/x=(c.at n).r:=by simpa using hx
  rcases this with rfl | rfl | rfl | rfl
  ·exact ⟨q1,by grind,by grind⟩
  ·exact ⟨q2,by grind,by grind⟩
  ·exact ⟨q3,by grind,by grind⟩
  ·exact ⟨q4,by grind,by grind⟩
structure Pf (J:Nat) (B p:Rat) (m:Nat) (c:Crv):Prop where
 gd:c.Gd
 qd:Qd J 0 1 c
 is:IntS m c
 dv:Dev B c
 pp:c.p<=p
end
end
end DL
namespace DL
open PySem PySem.Spec PyProof.Rows L2 Mt
def Fo (c:Crv):Prop:=c.row=[]\/∀ x,(c.arn x).sa=0
section
variable {c o i l:Crv} {u q:Rat}
theorem Fo.str (ho:o.row=[]) (go:o.Ok) (gi:i.Gd) (h:Fo i):Fo (strCN o i):=by
 rcases h with hn | h
 ·left;unfold strCN;rw [hn];rfl
 ·right
  obtain ⟨ok,hs,hF,_⟩:=str_sem ho go gi.ok gi.len
  intro x
  obtain ⟨z,z1,_,z3,_,_⟩:=gi.ok.beh x
  refine sa_of ok hF z1 fun y y1 y2=>?_
  unfold strT Crv.tri
  rw [z3 y y1 y2,h x]
  show o.b+o.s * ((i.arn x).r+0 * (y - x))=o.b+o.s * (i.arn x).r+0 * (y - x)
  grind
theorem Fo.join (ho:o.row≠[]) (hn:i.row≠[]) (go:o.Gd) (gi:i.Gd) (h:∀ x,(i.arn x).sa=0):Fo (joinN o i):=by
 right
 obtain ⟨ok,hs,hF,_⟩:=jn_sem go gi ho hn
 intro x
 obtain ⟨z,z1,_,z3,_,_⟩:=gi.ok.beh x
 refine sa_of ok hF z1 fun y y1 y2=>?_
 unfold jnT
 rw [z3 y y1 y2,h x]
 simp only [if_true]
 have:(i.arn x).r+0 * (y - x)=(i.arn x).r:=by grind
 rw [this];grind
end
theorem Ft.mono {J K J' K':Nat} {B p S B' p' S':Rat} {c:Crv} (h:Ft J K B p S c) (h1:J<=J') (h2:K<=K') (h3:B<=B') (h4:p<=p') (h5:S<=S'):Ft J' K' B' p' S' c:=by
 refine ⟨h.gd,h.qd.mono h1 h2 h2,fun x=>?_,Rat.le_trans h.pp h4,?_,Rat.le_trans h.s2 h5⟩
 ·obtain ⟨a,b⟩:=h.dv x
  constructor <;> grind
 ·have:=Rat.mul_le_mul_of_nonneg_right h5 (Rat.le_of_lt h.gd.ok.s0)
  have:=h.s1
  grind
section
variable {nm:Str->Prop} {T:Str->Option Crv} {P:D->Out}
theorem Pf.mono {J J':Nat} {B p B' p':Rat} {m m':Nat} {c:Crv} (h:Pf J B p m c) (h1:J<=J') (h3:B<=B') (h4:p<=p') (h5:m<=m'):Pf J' B' p' m' c:=by
 refine ⟨h.gd,h.qd.mono h1 (Nat.le_refl _) (Nat.le_refl _),fun x=>?_,fun x=>?_,Rat.le_trans h.pp h4⟩
 ·obtain ⟨n,hn,e⟩:=h.is x
  exact ⟨n,Nat.le_trans hn h5,e⟩
 ·obtain ⟨a,b⟩:=h.dv x
  constructor <;> grind
theorem Pf.ft {B p:Rat} {m:Nat} {c:Crv} (h:Pf 5 B p m c) (h3:B<=8088) (h4:p<=6220800000) (s1:1<=c.s) (s4:c.s<=4):Ft 5 1 8088 6220800000 4 c:=by
 refine ⟨h.gd,h.qd.mono (Nat.le_refl _) (by decide) (Nat.le_refl _),fun x=>?_,Rat.le_trans h.pp h4,by grind,s4⟩
 obtain ⟨a,b⟩:=h.dv x
 constructor <;> grind
def qJ4:Nat->Nat | 0=>0 | 1=>6 | 2=>8 | 3=>11 | _=>15
def qB4:Nat->Rat | 0=>6 | 1=>8112 | 2=>40536 | 3=>170232 | _=>689016
def qp4:Nat->Rat | 0=>6220800000 | 1=>373248000000 | 2=>22394880000000 | 3=>1343692800000000 | _=>80621568000000000
def qS4:Nat->Rat | 0=>1 | 1=>4 | 2=>16 | 3=>64 | _=>256
structure LwC (m:Nat) (c:Crv):Prop where
 ft:Ft (qJ4 m+m) (2 * m) (6+qS4 m * qB4 m) (qp4 m) 1 c
 s:c.s=1
end
theorem LwC.qs {m:Nat} {c:Crv} (h:LwC m c) (hm:m<=4) {x:Rat} (hx:x∈c.nums):qs x<=130:=by
 have f:=h.ft
 have key:Ft 19 8 200000000 100000000000000000 1 c:=by
  have:m=0\/m=1\/m=2\/m=3\/m=4:=by omega
  rcases this with rfl | rfl | rfl | rfl | rfl <;> exact f.mono (by decide) (by decide) (by decide +kernel) (by decide +kernel) Rat.le_refl
 obtain ⟨h1,h2,h3⟩:=nums_in key.gd.ok key.qd (by decide) key.dv key.pp key.s2 (by decide +kernel) Rat.le_refl hx
 exact onG_qs (gG_pos 19) h1 h2 h3 (by decide) (by decide +kernel)
def RgA (M M':Mem):Prop:=∃ L,AllL L/\RgL M L M'
theorem RgA.at {M M':Mem}:RgA M M'->RgAt M' M.length | ⟨_,_,g⟩=>g.at
theorem RgA.app {M M':Mem} {xs:List D}:RgA M M'->RgA M (M' ++ [some (.lst xs)]) | ⟨_,h,g⟩=>⟨_,h.app .one,g.app⟩
structure R10 (M M':Mem):Prop where
 a:RgA M M'
 ok:okM M'.length M'
theorem R10.lt {M M':Mem} (g:R10 M M'):M.length < M'.length:=by
 obtain ⟨⟨L,_,r,_,e⟩,_⟩:=g
 rw [e,List.length_append,List.length_cons];omega
theorem R10.at {M M':Mem} (g:R10 M M'):RgAt M' M.length:=g.a.at
theorem R10.app {M M':Mem} {xs:List D} (g:R10 M M') (h:∀ n,D.hbs n xs=true):R10 M (M' ++ [some (.lst xs)]):=⟨g.a.app,g.ok.app' (h _)⟩
theorem set10 {M L:Mem} {o o2:Option MO} {k:Nat} (hk:M.length < k):∃ L':Mem,(M ++ (o :: L)).set k o2=M ++ (o :: L')/\(∀ j:Nat,L'[j]?=L[j]?\/L'[j]?=some o2):=by
 obtain ⟨n,rfl⟩:∃ n,k=M.length+(n+1):=⟨k - M.length - 1,by omega⟩
 refine ⟨L.set n o2,?_,fun j=>?_⟩
 ·rw [List.set_append_right _ _ (by omega),show M.length+(n+1) - M.length=n+1 by omega];rfl
 ·rw [List.getElem?_set]
  by_cases h:n=j
  ·rw [if_pos h]
   by_cases h2:n < L.length
   ·rw [if_pos h2];exact .inr rfl
   ·rw [if_neg h2]
    left
    subst h
    exact (List.getElem?_eq_none (by omega)).symm
  ·rw [if_neg h];exact .inl rfl
theorem RgA.set10 {M M':Mem} {k:Nat} {o:Option MO} (g:RgA M M') (hk:M.length < k) (ho:o=none\/∃ xs,o=some (.lst xs)):RgA M (M'.set k o):=by
 obtain ⟨L,h,r,ok,rfl⟩:=g
 obtain ⟨L',e,hL⟩:=DL.set10 (M:=M) (L:=L) (o:=some r.mo) (o2:=o) hk
 refine ⟨L',fun j mo e2=>?_,r,ok,e⟩
 rcases hL j with h1 | h1
 ·exact h j mo (h1 ▸ e2)
 ·rw [h1] at e2
  have e2:o=some mo:=Option.some.inj e2
  rcases ho with rfl | ⟨xs,rfl⟩
  ·cases e2
  ·cases e2;rfl
theorem R10.set {M M':Mem} {k:Nat} {xs:List D} (g:R10 M M') (hk:M.length < k) (h:∀ n,D.hbs n xs=true):R10 M (M'.set k (some (.lst xs))):=⟨g.a.set10 hk (.inr ⟨_,rfl⟩),g.ok.set' (h _)⟩
end DL
namespace LW
open PySem PySem.Spec PyProof.Rows L2 DL Mt
def top (i:Nat):Stmt:=PySem.Challenge.pw_roundmaps_k10_points_that_are_no_curve.main.body.getD i (.Pass ⟨0,0,0,0⟩)
section
variable {P:Program} {w:World} {K:PySem.W.Frag} {mg:Str->Option Value} {base:Heap} {Tb:List (Addr×Str)}
abbrev s_InvalidFractionu_initu:Stmt:=inClass (top 3) 0
abbrev s_InvalidCurveu_initu:Stmt:=inClass (top 4) 0
abbrev s_TooLongu_initu:Stmt:=inClass (top 6) 0
abbrev s_TooManyu_initu:Stmt:=inClass (top 5) 0
abbrev s__law_told:Stmt:=top 34
abbrev s__law_fields:Stmt:=top 33
abbrev s__law_begin:Stmt:=top 30
abbrev s__law_draw:Stmt:=top 31
abbrev s__law_pick:Stmt:=top 32
abbrev s__law_stairs:Stmt:=top 38
abbrev s__law_lowest:Stmt:=top 35
abbrev s__law_plus:Stmt:=top 36
abbrev s_compare:Stmt:=top 19
abbrev s_common_divisor:Stmt:=top 12
abbrev s_fraction:Stmt:=top 13
abbrev s_times:Stmt:=top 18
abbrev s_add:Stmt:=top 14
abbrev s_moved:Stmt:=top 22
abbrev s_check_points:Stmt:=top 24
abbrev s_divide:Stmt:=top 17
abbrev s_subtract:Stmt:=top 15
abbrev s_slope_between:Stmt:=top 23
abbrev s_true_points:Stmt:=top 25
abbrev s_repeats:Stmt:=top 26
abbrev s_equal_parts:Stmt:=top 27
abbrev s_multiply:Stmt:=top 16
abbrev s_floor_of:Stmt:=top 20
abbrev s_Curve_point_at:Stmt:=inClass (top 28) 19
abbrev s_Curve_place_from:Stmt:=inClass (top 28) 20
abbrev s_Curve_slope_behind:Stmt:=inClass (top 28) 21
abbrev s_Curve_around:Stmt:=inClass (top 28) 22
abbrev s_Curve_value:Stmt:=inClass (top 28) 23
abbrev s_Curve_check_digits:Stmt:=inClass (top 28) 4
abbrev s_Curveu_initu:Stmt:=inClass (top 28) 3
abbrev s__law_less:Stmt:=top 37
abbrev s__law_is_curve:Stmt:=top 39
abbrev s_Curveu_callu:Stmt:=inClass (top 28) 15
abbrev s_law:Stmt:=top 40
end
def dd__law_fields:He.DefE:=⟨fun K=>He.fAd K ("_law_fields",none),"_law_fields","_law_fields",defArgs s__law_fields,defBody s__law_fields,defScope s__law_fields,[],[]⟩
def dd__law_begin:He.DefE:=⟨fun K=>He.fAd K ("_law_begin",none),"_law_begin","_law_begin",defArgs s__law_begin,defBody s__law_begin,defScope s__law_begin,[],[]⟩
def dd__law_draw:He.DefE:=⟨fun K=>He.fAd K ("_law_draw",none),"_law_draw","_law_draw",defArgs s__law_draw,defBody s__law_draw,defScope s__law_draw,[],[]⟩
def dd__law_pick:He.DefE:=⟨fun K=>He.fAd K ("_law_pick",none),"_law_pick","_law_pick",defArgs s__law_pick,defBody s__law_pick,defScope s__law_pick,[],[]⟩
def dd__law_stairs:He.DefE:=⟨fun K=>He.fAd K ("_law_stairs",none),"_law_stairs","_law_stairs",defArgs s__law_stairs,defBody s__law_stairs,defScope s__law_stairs,[],[]⟩
def dd__law_lowest:He.DefE:=⟨fun K=>He.fAd K ("_law_lowest",none),"_law_lowest","_law_lowest",defArgs s__law_lowest,defBody s__law_lowest,defScope s__law_lowest,[],[]⟩
def dd__law_plus:He.DefE:=⟨fun K=>He.fAd K ("_law_plus",none),"_law_plus","_law_plus",defArgs s__law_plus,defBody s__law_plus,defScope s__law_plus,[],[]⟩
def dd_compare:He.DefE:=⟨fun K=>He.fAd K ("compare",none),"compare","compare",defArgs s_compare,defBody s_compare,defScope s_compare,[],[]⟩
def dd_common_divisor:He.DefE:=⟨fun K=>He.fAd K ("common_divisor",none),"common_divisor","common_divisor",defArgs s_common_divisor,defBody s_common_divisor,defScope s_common_divisor,[],[]⟩
def dd_fraction:He.DefE:=⟨fun K=>He.fAd K ("fraction",none),"fraction","fraction",defArgs s_fraction,defBody s_fraction,defScope s_fraction,[.int 1],[]⟩
def dd_times:He.DefE:=⟨fun K=>He.fAd K ("times",none),"times","times",defArgs s_times,defBody s_times,defScope s_times,[],[]⟩
def dd_add:He.DefE:=⟨fun K=>He.fAd K ("add",none),"add","add",defArgs s_add,defBody s_add,defScope s_add,[],[]⟩
def dd_moved:He.DefE:=⟨fun K=>He.fAd K ("moved",none),"moved","moved",defArgs s_moved,defBody s_moved,defScope s_moved,[],[]⟩
def dd_check_points:He.DefE:=⟨fun K=>He.fAd K ("check_points",none),"check_points","check_points",defArgs s_check_points,defBody s_check_points,defScope s_check_points,[],[]⟩
def dd_divide:He.DefE:=⟨fun K=>He.fAd K ("divide",none),"divide","divide",defArgs s_divide,defBody s_divide,defScope s_divide,[],[]⟩
def dd_subtract:He.DefE:=⟨fun K=>He.fAd K ("subtract",none),"subtract","subtract",defArgs s_subtract,defBody s_subtract,defScope s_subtract,[],[]⟩
def dd_slope_between:He.DefE:=⟨fun K=>He.fAd K ("slope_between",none),"slope_between","slope_between",defArgs s_slope_between,defBody s_slope_between,defScope s_slope_between,[],[]⟩
def dd_true_points:He.DefE:=⟨fun K=>He.fAd K ("true_points",none),"true_points","true_points",defArgs s_true_points,defBody s_true_points,defScope s_true_points,[],[]⟩
def dd_repeats:He.DefE:=⟨fun K=>He.fAd K ("repeats",none),"repeats","repeats",defArgs s_repeats,defBody s_repeats,defScope s_repeats,[],[]⟩
def dd_equal_parts:He.DefE:=⟨fun K=>He.fAd K ("equal_parts",none),"equal_parts","equal_parts",defArgs s_equal_parts,defBody s_equal_parts,defScope s_equal_parts,[],[]⟩
def dd_multiply:He.DefE:=⟨fun K=>He.fAd K ("multiply",none),"multiply","multiply",defArgs s_multiply,defBody s_multiply,defScope s_multiply,[],[]⟩
def dd_floor_of:He.DefE:=⟨fun K=>He.fAd K ("floor_of",none),"floor_of","floor_of",defArgs s_floor_of,defBody s_floor_of,defScope s_floor_of,[],[]⟩
def dd_Curve_point_at:He.DefE:=⟨fun K=>He.fAd K ("Curve",some "point_at"),"point_at","Curve.point_at",defArgs s_Curve_point_at,defBody s_Curve_point_at,defScope s_Curve_point_at,[],[]⟩
def dd_Curve_place_from:He.DefE:=⟨fun K=>He.fAd K ("Curve",some "place_from"),"place_from","Curve.place_from",defArgs s_Curve_place_from,defBody s_Curve_place_from,defScope s_Curve_place_from,[],[]⟩
def dd_Curve_slope_behind:He.DefE:=⟨fun K=>He.fAd K ("Curve",some "slope_behind"),"slope_behind","Curve.slope_behind",defArgs s_Curve_slope_behind,defBody s_Curve_slope_behind,defScope s_Curve_slope_behind,[],[]⟩
def dd_Curve_around:He.DefE:=⟨fun K=>He.fAd K ("Curve",some "around"),"around","Curve.around",defArgs s_Curve_around,defBody s_Curve_around,defScope s_Curve_around,[],[]⟩
def dd_Curve_value:He.DefE:=⟨fun K=>He.fAd K ("Curve",some "value"),"value","Curve.value",defArgs s_Curve_value,defBody s_Curve_value,defScope s_Curve_value,[],[]⟩
def dd_Curve_check_digits:He.DefE:=⟨fun K=>He.fAd K ("Curve",some "check_digits"),"check_digits","Curve.check_digits",defArgs s_Curve_check_digits,defBody s_Curve_check_digits,defScope s_Curve_check_digits,[],[]⟩
def dd_Curveu_initu:He.DefE:=⟨fun K=>He.fAd K ("Curve",some "__init__"),"__init__","Curve.__init__",defArgs s_Curveu_initu,defBody s_Curveu_initu,defScope s_Curveu_initu,[],[("offset",.glo "ZERO")]⟩
def dd__law_less:He.DefE:=⟨fun K=>He.fAd K ("_law_less",none),"_law_less","_law_less",defArgs s__law_less,defBody s__law_less,defScope s__law_less,[],[]⟩
def dd__law_is_curve:He.DefE:=⟨fun K=>He.fAd K ("_law_is_curve",none),"_law_is_curve","_law_is_curve",defArgs s__law_is_curve,defBody s__law_is_curve,defScope s__law_is_curve,[],[]⟩
def dd_Curveu_callu:He.DefE:=⟨fun K=>He.fAd K ("Curve",some "__call__"),"__call__","Curve.__call__",defArgs s_Curveu_callu,defBody s_Curveu_callu,defScope s_Curveu_callu,[],[]⟩
def dd_law:He.DefE:=⟨fun K=>He.fAd K ("law",none),"law","law",defArgs s_law,defBody s_law,defScope s_law,[],[]⟩
def dd__law_told:He.DefE:=⟨fun K=>He.fAd K ("_law_told",none),"_law_told","_law_told",defArgs s__law_told,defBody s__law_told,defScope s__law_told,[],[]⟩
def dd_InvalidFractionu_initu:He.DefE:=⟨fun K=>He.fAd K ("InvalidFraction",some "__init__"),"__init__","InvalidFraction.__init__",defArgs s_InvalidFractionu_initu,defBody s_InvalidFractionu_initu,defScope s_InvalidFractionu_initu,[],[]⟩
def dd_InvalidCurveu_initu:He.DefE:=⟨fun K=>He.fAd K ("InvalidCurve",some "__init__"),"__init__","InvalidCurve.__init__",defArgs s_InvalidCurveu_initu,defBody s_InvalidCurveu_initu,defScope s_InvalidCurveu_initu,[],[]⟩
def dd_TooLongu_initu:He.DefE:=⟨fun K=>He.fAd K ("TooLong",some "__init__"),"__init__","TooLong.__init__",defArgs s_TooLongu_initu,defBody s_TooLongu_initu,defScope s_TooLongu_initu,[],[]⟩
def dd_TooManyu_initu:He.DefE:=⟨fun K=>He.fAd K ("TooMany",some "__init__"),"__init__","TooMany.__init__",defArgs s_TooManyu_initu,defBody s_TooManyu_initu,defScope s_TooManyu_initu,[],[]⟩
def tf:List He.Defn:=[("law",none)]
def fn:List He.DefE:=[dd__law_fields,dd__law_begin,dd__law_draw,dd__law_pick,dd__law_stairs,dd__law_lowest,dd__law_plus,dd_compare,dd_common_divisor,dd_fraction,dd_times,dd_add,dd_moved,dd_check_points,dd_divide,dd_subtract,dd_slope_between,dd_true_points,dd_repeats,dd_equal_parts,dd_multiply,dd_floor_of,dd_Curve_point_at,dd_Curve_place_from,dd_Curve_slope_behind,dd_Curve_around,dd_Curve_value,dd_Curve_check_digits,dd_Curveu_initu,dd__law_less,dd__law_is_curve,dd_Curveu_callu,dd_law,dd__law_told,dd_InvalidFractionu_initu,dd_InvalidCurveu_initu,dd_TooLongu_initu,dd_TooManyu_initu]
def fa:List He.Fa:=[.glo "_law_fields",.glo "_law_begin",.glo "_law_draw",.glo "_law_pick",.glo "_law_stairs",.glo "_law_lowest",.glo "_law_plus",.glo "compare",.glo "common_divisor",.glo "fraction",.glo "times",.glo "add",.glo "moved",.glo "check_points",.glo "divide",.glo "subtract",.glo "slope_between",.glo "true_points",.glo "repeats",.glo "equal_parts",.glo "multiply",.glo "floor_of",.glo "_law_less",.glo "_law_is_curve",.glo "law",.glo "_law_told",.free "list",.free "len",.free "range",.free "abs",.glo "__builtins__",.glo "InvalidFraction",.free "tuple",.free "zip",.glo "ZERO",.glo "InvalidCurve",.free "all",.meth "Curve" "point_at",.meth "Curve" "place_from",.meth "Curve" "slope_behind",.meth "Curve" "around",.meth "Curve" "value",.free "any",.glo "TooLong",.meth "Curve" "check_digits",.glo "ONE",.glo "TooMany",.meth "Curve" "__init__",.meth "Curve" "__call__",.glo "Curve",.glo "RoundError",.glo "Missing",.glo "NothingLeft"]
def exl (K:PySem.W.Frag):List Bool:=[seerB K,xcB K "InvalidFraction" ["code"],He.tupB K "ZERO" [.int 0,.int 1],xcB K "InvalidCurve" ["code"],oclB K "Curve" ["period","rise","row","slope","base","form","offset"],xcB K "TooLong" ["code","limit"],cloB K (He.ga K "Curve"),He.conB K "Curve" "MAX_DIGITS" (.int 60),He.tupB K "ONE" [.int 1,.int 1],xcB K "TooMany" ["code","limit"],He.conB K "Curve" "MAX_POINTS" (.int 60),xfaB K "TooMany" ["limit"],xfaB K "TooLong" ["limit"],xfaB K "InvalidCurve" []]
def exB (K:PySem.W.Frag):Bool:=(exl K).all _root_.id
abbrev R:PySem.W.OpenRow:=PySem.W.OpenLaw.row PySem.Challenge.rw_roundmaps_k10_points_that_are_no_curve
def as_:List Addr:=[1,0,4,2,3,6,4,21,38,58,77,96,115,134,154,158,159,166,174,181,188,195,202,209,216,223,228,235,242,247,252,259,460,471,478,485,492,499,506,513,520,525,532,537,0,20,37,57,76,95] ++ [114,133,153,165,173,167,180,187,194,201,208,215,222,227,234,241,246,251,258,459,470,477,484,491,498,505,512,519,524,531,536,15,16,17,18,19,35,36,39,55,56,74,75,93,94,112,254,255,256,257] ++ [267,275,280,291,302,313,324,334,344,352,359,366,373,380,387,394,401,408,415,422,429,436,443,450,457,458,535,34,54,73,92,111,130,150,274,268,279,289,358,365,372,379,386,393,400,407,414,421,428,435]
abbrev hk:PySem.W.Hook:=He.hookZ as_ fa fn tf exB
def ob (s:PySem.W.SharedT):He.AlYX:=He.obsZ as_ fa fn tf exB (HandSHeadRun.getT s)
theorem ob_eq (s:PySem.W.SharedT):ob s=hk.obs s.abs:=He.obsZ_eq (HandSHeadRun.getT_eq s)
open PySem.W in
theorem run1 (w:World):He.LookEq R 8000 w (fun s=>(HandSHeadRun.looksF R.prog (boot_heap (w).params) s.abs,HandSHeadRun.seenQ (PySem.W.view R.prog [40]) ("_wall" :: "common_divisor" :: "fraction" :: "add" :: "subtract" :: "multiply" :: "divide" :: "times" :: "compare" :: "floor_of" :: "moved" :: "slope_between" :: "check_points" :: "true_points" :: "repeats" :: "equal_parts" :: "_law_begin" :: "_law_draw" :: "_law_pick" :: "_law_fields" :: "_law_told" :: "_law_lowest" :: "_law_plus" :: "_law_less" :: "_law_stairs" :: "_law_is_curve" :: "ZERO" :: "ONE" :: "RoundError" :: "InvalidFraction" :: "InvalidCurve" :: "TooMany" :: "TooLong" :: "Missing" :: "NothingLeft" :: "Curve" :: []) (importedModules R.prog.main.body) (fun s=>xlAt (PySem.W.view R.prog [40]) [] s && recOk R.toRowW.records s) s.abs)) (true,openGood (PySem.W.view R.prog [40]) ("_wall" :: "common_divisor" :: "fraction" :: "add" :: "subtract" :: "multiply" :: "divide" :: "times" :: "compare" :: "floor_of" :: "moved" :: "slope_between" :: "check_points" :: "true_points" :: "repeats" :: "equal_parts" :: "_law_begin" :: "_law_draw" :: "_law_pick" :: "_law_fields" :: "_law_told" :: "_law_lowest" :: "_law_plus" :: "_law_less" :: "_law_stairs" :: "_law_is_curve" :: "ZERO" :: "ONE" :: "RoundError" :: "InvalidFraction" :: "InvalidCurve" :: "TooMany" :: "TooLong" :: "Missing" :: "NothingLeft" :: "Curve" :: [])):=by
 intro os
 kernel_rfl
open PySem.W in
theorem run2 (w:World):He.LookEq R 8000 w ob (hk.val w):=by
 intro os
 kernel_rfl
theorem run (w:World):HandSHeadRun.RunEq R (PySem.W.view R.prog [40]) hk ob 8000 ("_wall" :: "common_divisor" :: "fraction" :: "add" :: "subtract" :: "multiply" :: "divide" :: "times" :: "compare" :: "floor_of" :: "moved" :: "slope_between" :: "check_points" :: "true_points" :: "repeats" :: "equal_parts" :: "_law_begin" :: "_law_draw" :: "_law_pick" :: "_law_fields" :: "_law_told" :: "_law_lowest" :: "_law_plus" :: "_law_less" :: "_law_stairs" :: "_law_is_curve" :: "ZERO" :: "ONE" :: "RoundError" :: "InvalidFraction" :: "InvalidCurve" :: "TooMany" :: "TooLong" :: "Missing" :: "NothingLeft" :: "Curve" :: []) w:=by
 intro os
 have h1:=run1 w os
 have h2:=run2 w os
 generalize HandSHeadRun.endF _ _ _ _ _=x at h1 h2 ⊢
 cases x with
 | none=>cases h1
 | some s =>
  have h1:=Option.some.inj h1
  have h2:=Option.some.inj h2
  exact congrArg some (Prod.ext (Prod.mk.inj h1).1 (Prod.ext (Prod.mk.inj h1).2 h2))
open PySem.W PySem.Calls in
theorem hold_of (hc:WalkO (view (OpenLaw.row PySem.Challenge.rw_roundmaps_k10_points_that_are_no_curve).prog [40]) ("_wall" :: "common_divisor" :: "fraction" :: "add" :: "subtract" :: "multiply" :: "divide" :: "times" :: "compare" :: "floor_of" :: "moved" :: "slope_between" :: "check_points" :: "true_points" :: "repeats" :: "equal_parts" :: "_law_begin" :: "_law_draw" :: "_law_pick" :: "_law_fields" :: "_law_told" :: "_law_lowest" :: "_law_plus" :: "_law_less" :: "_law_stairs" :: "_law_is_curve" :: "ZERO" :: "ONE" :: "RoundError" :: "InvalidFraction" :: "InvalidCurve" :: "TooMany" :: "TooLong" :: "Missing" :: "NothingLeft" :: "Curve" :: []) (XL (view (OpenLaw.row PySem.Challenge.rw_roundmaps_k10_points_that_are_no_curve).prog [40]) []) hk.says (OpenLaw.row PySem.Challenge.rw_roundmaps_k10_points_that_are_no_curve).toRowW (HandSHeadRun.topDef (OpenLaw.row PySem.Challenge.rw_roundmaps_k10_points_that_are_no_curve).prog 40) [] fun f vs=>PySem.call f vs):PySem.Challenge.rw_roundmaps_k10_points_that_are_no_curve.Holds:=by
 w_on;o_law
 refine HandSHeadRun.head_any (r:=OpenLaw.row PySem.Challenge.rw_roundmaps_k10_points_that_are_no_curve) (q:=view (OpenLaw.row PySem.Challenge.rw_roundmaps_k10_points_that_are_no_curve).prog [40]) (H:=hk) (ob:=ob) (M:=8000) (loose:=("_wall" :: "common_divisor" :: "fraction" :: "add" :: "subtract" :: "multiply" :: "divide" :: "times" :: "compare" :: "floor_of" :: "moved" :: "slope_between" :: "check_points" :: "true_points" :: "repeats" :: "equal_parts" :: "_law_begin" :: "_law_draw" :: "_law_pick" :: "_law_fields" :: "_law_told" :: "_law_lowest" :: "_law_plus" :: "_law_less" :: "_law_stairs" :: "_law_is_curve" :: "ZERO" :: "ONE" :: "RoundError" :: "InvalidFraction" :: "InvalidCurve" :: "TooMany" :: "TooLong" :: "Missing" :: "NothingLeft" :: "Curve" :: [])) (d:=HandSHeadRun.topDef (OpenLaw.row PySem.Challenge.rw_roundmaps_k10_points_that_are_no_curve).prog 40) (kwd:=[]) ob_eq
  (by kernel_rfl) (fun s=>by kernel_rfl) run (by kernel_rfl) (by kernel_rfl) (by kernel_rfl) (by rfl) (by first | assumption | decide +kernel) (by decide +kernel) ⟨rfl,rfl,rfl,rfl,rfl,by decide +kernel⟩ ?hw ?hc
 case hw=>w_witness2
 case hc=>exact hc
end LW
open PySem PySem.W PySem.Calls PyProof.Rows
namespace DL
open PySem PySem.Spec PyProof.Rows L2
def Al.cut (al:Al) (n:Nat):Al:=⟨al.a.take n,al.h⟩
theorem SqTz.sq {K:PySem.W.Frag} {al:Al} {M:Mem} {H:Hp} {a:Addr} {xs:List V} (h:SqTz K al M H a xs):SqT K H a xs:=by
 rcases h with ⟨h,_⟩ | h
 ·exact .inl (.inl h)
 ·rcases h with (h | ⟨o,h⟩) | h
  ·cases h
  ·cases h
  ·exact .inr h
theorem SqLz.sq {K:PySem.W.Frag} {al:Al} {M:Mem} {H:Hp} {a:Addr} {xs:List V} (h:SqLz K al M H a xs):SqL K H a xs:=by
 rcases h with ⟨h,_⟩ | h
 ·exact .inl h
 ·rcases h with (h | ⟨o,h⟩) | h
  ·cases h
  ·cases h
  ·exact .inr h
theorem Stp.refl (al:Al) (M:Mem) (H:Hp):Stp al M H al M H:=⟨fun _ _ h=>h,fun _ _ h _ f=>⟨h,f⟩,rfl,fun _ _=>rfl⟩
section
variable {K:PySem.W.Frag} {al:Al} {M:Mem} {H:Hp}
theorem Rps.get:∀ {ds:List D} {xs:List V} {i:Nat} {d:D},Rps K al M H ds xs->ds[i]?=some d->∃ x,xs[i]?=some x/\Rp K al M H d x
 | [],_,_,_,_,e=>by simp at e
 | d :: ds,_,0,_,h,e=>by
  obtain ⟨x,r,q,t,_⟩:=h
  subst q
  simp at e
  subst e
  exact ⟨x,rfl,t⟩
 | d :: ds,_,i+1,_,h,e=>by
  obtain ⟨x,r,q,_,t⟩:=h
  subst q
  obtain ⟨y,h1,h2⟩:=Rps.get (i:=i) t (by simpa using e)
  exact ⟨y,by simpa using h1,h2⟩
end
theorem RpS.wipe1 {K:PySem.W.Frag} {al:Al} {M:Mem} {H:Hp} {σ:L2.St} {rho:Rho} (h:RpS K al M H σ rho) (i:Nat) {v:Option V}:RpS K al M H (σ.set i v) (rho.set i none):=by
 refine ⟨by simpa using h.1,fun j e q=>?_⟩
 by_cases hj:i=j
 ·subst hj
  rw [List.getElem?_set] at q
  simp at q
 ·rw [List.getElem?_set_ne hj] at q ⊢
  exact h.2 j e q
abbrev TTD:=XD->Rho->Mem->(Bool->Mem->Prop)->Prop
abbrev TAD:=XD->Rho->Mem->(List D->Mem->Prop)->Prop
abbrev TSD:=XD->DEnds->Rho->Mem->Prop
def lift (K:PySem.W.Frag) (Tb:List (Addr×Str)) (EV:XK) (t:TED):TE:=fun σ H QV=>∃ al rho M E Q,At K Tb EV al σ H rho M E/\t E rho M Q/\PostV K Tb al M H Q QV
def liftT (K:PySem.W.Frag) (Tb:List (Addr×Str)) (EV:XK) (t:TTD):TT:=fun σ H QV=>∃ al rho M E Q,At K Tb EV al σ H rho M E/\t E rho M Q/\PostT K Tb al M H Q QV
def liftA (K:PySem.W.Frag) (Tb:List (Addr×Str)) (EV:XK) (t:TAD):TA:=fun σ H QV=>∃ al rho M E Q,At K Tb EV al σ H rho M E/\t E rho M Q/\PostA K Tb al M H Q QV
def liftS (K:PySem.W.Frag) (Tb:List (Addr×Str)) (EV:XK) (t:TSD):TS:=fun DV σ H=>∃ al rho M E DD,At K Tb EV al σ H rho M E/\t E DD rho M/\PostE K Tb al M H DD DV
section
variable {X:Cx} {Tb:List (Addr×Str)} {EV:XK}
abbrev PD (X:Cx) (Tb:List (Addr×Str)) (EV:XK) (e:Expr) (t:TED):Prop:=PE X e (lift X.K Tb EV t)
abbrev PDT (X:Cx) (Tb:List (Addr×Str)) (EV:XK) (e:Expr) (t:TTD):Prop:=PT X e (liftT X.K Tb EV t)
abbrev PDA (X:Cx) (Tb:List (Addr×Str)) (EV:XK) (es:List Expr) (t:TAD):Prop:=PA X es (liftA X.K Tb EV t)
abbrev PDS (X:Cx) (Tb:List (Addr×Str)) (EV:XK) (st:Stmt) (t:TSD):Prop:=PS X st (liftS X.K Tb EV t)
abbrev PDSs (X:Cx) (Tb:List (Addr×Str)) (EV:XK) (st:List Stmt) (t:TSD):Prop:=PSs X st (liftS X.K Tb EV t)
theorem pe_imp {e:Expr} {t t':TE} (h:PE X e t) (w:∀ σ H Q,t' σ H Q->t σ H Q):PE X e t':=⟨fun pins s σ H Q I q=>h.run pins s σ H Q I (w σ H Q q)⟩
theorem pt_imp {e:Expr} {t t':TT} (h:PT X e t) (w:∀ σ H Q,t' σ H Q->t σ H Q):PT X e t':=⟨fun pins s σ H Q I q=>h.run pins s σ H Q I (w σ H Q q)⟩
theorem pw_imp {e:Expr} {t t':TT} (h:PW X e t) (w:∀ σ H Q,t' σ H Q->t σ H Q):PW X e t':=⟨fun wh pins s σ H Q I q=>h.run wh pins s σ H Q I (w σ H Q q)⟩
theorem pa_imp {e:List Expr} {t t':TA} (h:PA X e t) (w:∀ σ H Q,t' σ H Q->t σ H Q):PA X e t':=⟨fun pos pins s σ H Q I q=>h.run pos pins s σ H Q I (w σ H Q q)⟩
theorem ps_imp {e:Stmt} {t t':TS} (h:PS X e t) (w:∀ D σ H,t' D σ H->t D σ H):PS X e t':=⟨fun pins s σ H D I q=>h.run pins s σ H D I (w D σ H q)⟩
theorem pss_imp {e:List Stmt} {t t':TS} (h:PSs X e t) (w:∀ D σ H,t' D σ H->t D σ H):PSs X e t':=⟨fun pins s σ H D I q=>h.run pins s σ H D I (w D σ H q)⟩
end
mutual
theorem hideRp {K:PySem.W.Frag} {al al':Al} {M:Mem} {H H':Hp} (fz:∀ b o,H b=some o->Fz al M b->Fz al' M b) (up:∀ b o,H b=some o->Fz al M b->H' b=some o) (ha:al'.a=al.a:=by rfl):∀ (d:D) (v:V),Rp K al M H d v->Rp K al' M H' d v
 | .non,_,h=>h
 | .bl _,_,h=>h
 | .int _,_,h=>h
 | .str _,_,h=>h
 | .ty _,_,h=>h
 | .lam _ _,_,h=>⟨h.1,fun x hx=>⟨up _ _ (h.2 x hx).1 (h.2 x hx).2,fz _ _ (h.2 x hx).1 (h.2 x hx).2⟩⟩
 | .ref _,_,h=>h
 | .mt i,_,h=>by
  obtain ⟨a,e,q⟩:=h
  exact ⟨a,by rw [ha];exact e,q⟩
 | .tup ds,_,h=>by
  obtain ⟨a,xs,e,q,r⟩:=h
  refine ⟨a,xs,e,?_,hideRps fz up ha _ _ r⟩
  rcases q with ⟨q,f⟩ | q
  ·exact .inl ⟨up _ _ q f,fz _ _ q f⟩
  ·exact .inr q
 | .rol ds,_,h=>by
  obtain ⟨a,xs,e,q,r⟩:=h
  refine ⟨a,xs,e,?_,hideRps fz up ha _ _ r⟩
  rcases q with ⟨q | ⟨o,q⟩,f⟩ | q
  ·exact .inl ⟨.inl (up _ _ q f),fz _ _ q f⟩
  ·exact .inl ⟨.inr ⟨o,up _ _ q f⟩,fz _ _ q f⟩
  ·exact .inr q
 | .lst ds,_,h=>by
  obtain ⟨a,xs,e,q,f,r⟩:=h
  exact ⟨a,xs,e,up _ _ q f,fz _ _ q f,hideRps fz up ha _ _ r⟩
 | .obj C ns ds,_,h=>by
  obtain ⟨a,dx,xs,e,q,f,l,r⟩:=h
  exact ⟨a,dx,xs,e,up _ _ q f,fz _ _ q f,l,hideRps fz up ha _ _ r⟩
 | .dk C ds,_,h=>by
  obtain ⟨a,dx,xs,e,q,f,l,r⟩:=h
  exact ⟨a,dx,xs,e,up _ _ q f,fz _ _ q f,l,hideRps fz up ha _ _ r⟩
 | .dt C ds,_,h=>by
  obtain ⟨a,dx,xs,e,q,f,l,r⟩:=h
  exact ⟨a,dx,xs,e,up _ _ q f,fz _ _ q f,l,hideRps fz up ha _ _ r⟩
 | .exc C ns ds,_,h=>by
  obtain ⟨a,dx,xs,e,q,f,q2,f2,l,r⟩:=h
  exact ⟨a,dx,xs,e,up _ _ q f,fz _ _ q f,up _ _ q2 f2,fz _ _ q2 f2,l,hideRps fz up ha _ _ r⟩
theorem hideRps {K:PySem.W.Frag} {al al':Al} {M:Mem} {H H':Hp} (fz:∀ b o,H b=some o->Fz al M b->Fz al' M b) (up:∀ b o,H b=some o->Fz al M b->H' b=some o) (ha:al'.a=al.a:=by rfl):∀ (d:List D) (v:List V),Rps K al M H d v->Rps K al' M H' d v
 | [],_,h=>h
 | d :: ds,_,h=>by
  obtain ⟨x,r,e,q,t⟩:=h
  exact ⟨x,r,e,hideRp fz up ha d x q,hideRps fz up ha ds r t⟩
end
section
variable {K:PySem.W.Frag} {Tb:List (Addr×Str)} {al:Al} {M:Mem} {H:Hp} {p a:Addr}
theorem stp_new (w:Wf K Tb al H M) (hp:H p=none) (u:HO):Stp al M H al M (upd H p u) :=
 ⟨fun _ _ h=>h,fun b o h _ f=>⟨by rw [upd_ne (ne_of_none h hp)];exact h,f⟩,rfl,fun b hb=>upd_ne fun z=>w.nohid hp (z ▸ hb)⟩
theorem wf_new (w:Wf K Tb al H M) (hp:H p=none) (u:HO):Wf K Tb al (upd H p u) M :=
 ⟨w.len,w.nd,fun i b mo h1 h2=>(w.rep i b mo h1 h2).mono (stp_new w hp u) fun o h=>by rw [upd_ne (ne_of_none h hp)];exact h,
  fun i b h=>let ⟨o,h1,h2⟩:=w.there i b h;⟨o,by rw [upd_ne (ne_of_none h1 hp)];exact h1,h2⟩,w.tb.ext fun b o h=>by rw [upd_ne (ne_of_none h hp)];exact h,
  fun b hb=>let ⟨xs,h,z⟩:=w.hth b hb;⟨xs,by rw [upd_ne (ne_of_none h hp)];exact h,z⟩,w.hdis⟩
theorem rp_tup (w:Wf K Tb al H M) (hp:H p=none) {ds:List D} {xs:List V} (r:Rps K al M H ds xs):Rp K al M (upd H p (.tup xs)) (.tup ds) (.ref p) :=
 ⟨p,xs,rfl,.inl ⟨upd_same,w.fresh hp⟩,r.mono (stp_new w hp _)⟩
theorem rp_lst (w:Wf K Tb al H M) (hp:H p=none) {ds:List D} {xs:List V} (r:Rps K al M H ds xs):Rp K al M (upd H p (.lst xs)) (.lst ds) (.ref p) :=
 ⟨p,xs,rfl,upd_same,w.fresh hp,r.mono (stp_new w hp _)⟩
theorem stp_mut (w:Wf K Tb al H M) (hp:H p=none) (u:HO) (mo:MO):Stp al M H (al.push p) (M ++ [some mo]) (upd H p u):=by
 refine ⟨fun i b h=>by show (al.a ++ [p])[i]?=_;rw [List.getElem?_append_left (List.getElem?_eq_some_iff.mp h).1];exact h,fun b o h _ f=>⟨by rw [upd_ne (ne_of_none h hp)];exact h,f.1,fun i m e1 e2=>?_⟩,rfl,fun b hb=>upd_ne fun z=>w.nohid hp (z ▸ hb)⟩
 have e1:(al.a ++ [p])[i]?=some b:=e1
 by_cases hi:i < al.a.length
 ·rw [List.getElem?_append_left hi] at e1
  rw [List.getElem?_append_left (by rw [<- w.len];exact hi)] at e2
  exact f.2 i m e1 e2
 ·rw [List.getElem?_append_right (by omega)] at e1
  have:b=p:=by
   cases hk:i - al.a.length with
   | zero=>rw [hk] at e1;simpa using e1.symm
   | succ k=>rw [hk] at e1;simp at e1
  subst this
  rw [hp] at h;cases h
theorem push_cases {i:Nat} {b:Addr} (e:(al.push p).a[i]?=some b):(i < al.a.length/\al.a[i]?=some b)\/(i=al.a.length/\b=p):=by
 have e:(al.a ++ [p])[i]?=some b:=e
 by_cases hi:i < al.a.length
 ·rw [List.getElem?_append_left hi] at e
  exact .inl ⟨hi,e⟩
 ·have hi':i=al.a.length:=by
   have:=(List.getElem?_eq_some_iff.mp e).1
   simp at this;omega
  subst hi'
  simp at e
  exact .inr ⟨rfl,e.symm⟩
theorem wf_mut (w:Wf K Tb al H M) (hp:H p=none) {u:HO} {mo:MO} (hu:∀ ps,u≠.tbl ps) (r:RpM K (al.push p) (M ++ [some mo]) (upd H p u) p mo):Wf K Tb (al.push p) (upd H p u) (M ++ [some mo]):=by
 have hn:p ∉ al.a:=fun hm=>by
  obtain ⟨i,hi⟩:=List.getElem?_of_mem hm
  obtain ⟨o,h,_⟩:=w.there i p hi
  rw [hp] at h;cases h
 refine ⟨by simp [w.len,Al.push],?_,fun i b m e1 e2=>?_,fun i b e1=>?_,w.tb.ext fun b o h=>by rw [upd_ne (ne_of_none h hp)];exact h,fun b hb=>?_,fun i b m e1 e2=>?_⟩
 ·show (al.a ++ [p]).Nodup
  rw [List.nodup_append]
  exact ⟨w.nd,by simp,fun x hx y hy=>by simp at hy;subst hy;exact fun z=>hn (z ▸ hx)⟩
 ·rcases push_cases e1 with ⟨hi,e1⟩ | ⟨hi,rfl⟩
  ·rw [List.getElem?_append_left (by rw [<- w.len];exact hi)] at e2
   exact (w.rep i b m e1 e2).mono (stp_mut w hp u mo) fun o h=>by rw [upd_ne (ne_of_none h hp)];exact h
  ·subst hi
   rw [w.len] at e2
   simp at e2
   subst e2
   exact r
 ·rcases push_cases e1 with ⟨hi,e1⟩ | ⟨hi,rfl⟩
  ·obtain ⟨o,h1,h2⟩:=w.there i b e1
   exact ⟨o,by rw [upd_ne (ne_of_none h1 hp)];exact h1,h2⟩
  ·exact ⟨u,upd_same,hu⟩
 ·obtain ⟨xs,h,z⟩:=w.hth b hb
  exact ⟨xs,by rw [upd_ne (ne_of_none h hp)];exact h,z⟩
 ·rcases push_cases e1 with ⟨hi,e1⟩ | ⟨hi,rfl⟩
  ·rw [List.getElem?_append_left (by rw [<- w.len];exact hi)] at e2
   exact w.hdis i b m e1 e2
  ·exact w.nohid hp
theorem al_last (w:Wf K Tb al H M):(al.push p).a[M.length]?=some p:=by show (al.a ++ [p])[M.length]?=some p;rw [<- w.len];simp
theorem stp_set (w:Wf K Tb al H M) {i:Nat} {mo mo':MO} (hi:al.a[i]?=some a) (hm:M[i]?=some (some mo)) (u:HO):Stp al M H al (M.set i (some mo')) (upd H a u):=by
 refine ⟨fun _ _ h=>h,fun b o h _ f=>?_,rfl,fun b hb=>upd_ne fun z=>w.hdis i a mo hi hm (z ▸ hb)⟩
 have hb:b≠a:=fun z=>by subst z;exact f.2 i mo hi hm
 refine ⟨by rw [upd_ne hb];exact h,f.1,fun j m e1 e2=>?_⟩
 by_cases hj:i=j
 ·subst hj
  rw [hi] at e1
  exact hb (Option.some.inj e1).symm
 ·rw [List.getElem?_set_ne hj] at e2
  exact f.2 j m e1 e2
theorem wf_set (w:Wf K Tb al H M) {i:Nat} {mo mo':MO} (hi:al.a[i]?=some a) (hm:M[i]?=some (some mo)) {u:HO} (hu:∀ ps,u≠.tbl ps) (r:RpM K al (M.set i (some mo')) (upd H a u) a mo') (ht:∀ c q,H a≠some (LamX.CodeO c q)) :
  Wf K Tb al (upd H a u) (M.set i (some mo')):=by
 obtain ⟨oa,hoa,hoa'⟩:=w.there i a hi
 refine ⟨by simp [w.len],w.nd,fun j b m e1 e2=>?_,fun j b e1=>?_,fun q hq=>?_,fun b hb=>?_,fun j b m e1 e2=>?_⟩
 ·by_cases hj:i=j
  ·subst hj
   rw [hi] at e1;cases e1
   rw [List.getElem?_set_self (List.getElem?_eq_some_iff.mp hm).1] at e2
   cases e2
   exact r
  ·rw [List.getElem?_set_ne hj] at e2
   have hb:b≠a:=fun z=>by
    subst z
    exact hj ((List.getElem?_inj (List.getElem?_eq_some_iff.mp hi).1 w.nd).mp (hi.trans e1.symm))
   exact (w.rep j b m e1 e2).mono (stp_set w hi hm u) fun o h=>by rw [upd_ne hb];exact h
 ·by_cases hb:b=a
  ·subst hb;exact ⟨u,upd_same,hu⟩
  ·obtain ⟨o,h1,h2⟩:=w.there j b e1
   exact ⟨o,by rw [upd_ne hb];exact h1,h2⟩
 ·obtain ⟨ps,h1,h2,h3⟩:=w.tb q hq
  refine ⟨ps,?_,h2,fun pos cv hc=>?_⟩
  ·rw [upd_ne fun z=>?_]
   ·exact h1
   ·rw [z,hoa] at h1
    exact hoa' ps (Option.some.inj h1)
  ·obtain ⟨c,e1,e2⟩:=h3 pos cv hc
   refine ⟨c,e1,?_⟩
   rw [upd_ne fun z=>?_]
   ·exact e2
   ·rw [z] at e2
    exact ht _ _ e2
 ·obtain ⟨xs,h,hz⟩:=w.hth b hb
  exact ⟨xs,by rw [upd_ne (fun (z:b=a)=>w.hdis i a mo hi hm (z ▸ hb))];exact h,hz⟩
 ·by_cases hj:i=j
  ·subst hj
   rw [hi] at e1;cases e1
   exact w.hdis _ _ _ hi hm
  ·rw [List.getElem?_set_ne hj] at e2
   exact w.hdis j b m e1 e2
theorem stp_fz {i:Nat}:Stp al M H al (M.set i none) H:=by
 refine ⟨fun _ _ h=>h,fun b o h _ f=>⟨h,f.1,fun j m e1 e2=>?_⟩,rfl,fun _ _=>rfl⟩
 by_cases hj:i=j
 ·subst hj
  rw [List.getElem?_set] at e2
  simp at e2
 ·rw [List.getElem?_set_ne hj] at e2
  exact f.2 j m e1 e2
theorem wf_fz (w:Wf K Tb al H M) (i:Nat):Wf K Tb al H (M.set i none):=by
 have key:∀ (j:Nat) (m:MO),(M.set i none)[j]?=some (some m)->M[j]?=some (some m):=fun j m e2=>by
  by_cases hj:i=j
  ·subst hj
   rw [List.getElem?_set] at e2
   simp at e2
  ·rw [List.getElem?_set_ne hj] at e2
   exact e2
 exact ⟨by simp [w.len],w.nd,fun j b m e1 e2=>(w.rep j b m e1 (key j m e2)).mono stp_fz fun _ h=>h,w.there,w.tb,w.hth,fun j b m e1 e2=>w.hdis j b m e1 (key j m e2)⟩
theorem fz_at (w:Wf K Tb al H M) {i:Nat} {mo:MO} (hi:al.a[i]?=some a) (hm:M[i]?=some (some mo)):Fz al (M.set i none) a:=⟨w.hdis i a mo hi hm,fun j m e1 e2=>by
 by_cases hj:i=j
 ·subst hj
  rw [List.getElem?_set] at e2
  simp at e2
 ·exact hj ((List.getElem?_inj (List.getElem?_eq_some_iff.mp hi).1 w.nd).mp (hi.trans e1.symm))⟩
def Al.hide (al:Al) (p:Addr):Al:=⟨al.a,p :: al.h⟩
theorem hide_stp (w:Wf K Tb al H M) (hp:H p=none) (u:HO) (hu:HidO p u):Wf K Tb (al.hide p) (upd H p u) M/\(∀ (d:D) (v:V),Rp K al M H d v->Rp K (al.hide p) M (upd H p u) d v):=by
 have fz':∀ b o,H b=some o->Fz al M b->Fz (al.hide p) M b:=fun b o h f=>⟨fun hm=>by
  rcases List.mem_cons.mp hm with z | z
  ·exact absurd (z ▸ h) (by rw [hp];intro q;cases q)
  ·exact f.1 z,f.2⟩
 have up:∀ b o,H b=some o->upd H p u b=some o:=fun b o h=>by rw [upd_ne (ne_of_none h hp)];exact h
 have all:(∀ (d:D) (v:V),Rp K al M H d v->Rp K (al.hide p) M (upd H p u) d v):=hideRp fz' fun b o h _=>up b o h
 have alls:(∀ (d:List D) (v:List V),Rps K al M H d v->Rps K (al.hide p) M (upd H p u) d v):=hideRps fz' fun b o h _=>up b o h
 refine ⟨⟨w.len,w.nd,fun i b mo e1 e2=>?_,fun i b e=>?_,w.tb.ext up,fun b hb=>?_,fun i b mo e1 e2 hm=>?_⟩,all⟩
 ·have r:=w.rep i b mo e1 e2
  cases mo with
  | lst ds=>obtain ⟨ys,h1,h2⟩:=r;exact ⟨ys,up _ _ h1,alls _ _ h2⟩
  | dK kvs=>obtain ⟨ys,h1,h2⟩:=r;exact ⟨ys,up _ _ h1,h2.1,alls _ _ h2.2⟩
  | dT ks ds=>obtain ⟨ys,h1,h2⟩:=r;exact ⟨ys,up _ _ h1,h2.1,alls _ _ h2.2⟩
  | ins C fs=>obtain ⟨dx,ys,h1,h2⟩:=r;exact ⟨dx,ys,up _ _ h1,h2.1,alls _ _ h2.2⟩
 ·obtain ⟨o,h1,h2⟩:=w.there i b e
  exact ⟨o,up _ _ h1,h2⟩
 ·rcases List.mem_cons.mp hb with z | z
  ·exact ⟨u,by rw [z];exact upd_same,z ▸ hu⟩
  ·obtain ⟨ys,h,q⟩:=w.hth b z
   exact ⟨ys,up _ _ h,q⟩
 ·rcases List.mem_cons.mp hm with z | z
  ·obtain ⟨o,h,_⟩:=w.there i b e1
   rw [z,hp] at h;cases h
  ·exact w.hdis i b mo e1 e2 z
end
section
variable {K:PySem.W.Frag} {Tb:List (Addr×Str)} {EV:XK} {al:Al} {σ:L2.St} {H:Hp} {rho:Rho} {M:Mem} {E:XD}
theorem seq1 {ta:TED} {R:VD} {RV:VK} (a:At K Tb EV al σ H rho M E) (h:ta E rho M R)
  (k:∀ al1 x M1 vx H1,Stp al M H al1 M1 H1->At K Tb EV al1 σ H1 rho M1 E->Rp K al1 M1 H1 x vx->R x M1->RV vx H1):lift K Tb EV ta σ H RV :=
 ⟨al,rho,M,E,R,a,h,fun al' d M' v H' s w r q=>k al' d M' v H' s (a.go s w) r q⟩
theorem seqT {ta:TTD} {R:Bool->Mem->Prop} {RV:Bool->Hp->Prop} (a:At K Tb EV al σ H rho M E) (h:ta E rho M R)
  (k:∀ al1 b M1 H1,Stp al M H al1 M1 H1->At K Tb EV al1 σ H1 rho M1 E->R b M1->RV b H1):liftT K Tb EV ta σ H RV :=
 ⟨al,rho,M,E,R,a,h,fun al' d M' H' s w q=>k al' d M' H' s (a.go s w) q⟩
theorem seqA {ta:TAD} {R:List D->Mem->Prop} {RV:List V->Hp->Prop} (a:At K Tb EV al σ H rho M E) (h:ta E rho M R)
  (k:∀ al1 x M1 vx H1,Stp al M H al1 M1 H1->At K Tb EV al1 σ H1 rho M1 E->Rps K al1 M1 H1 x vx->R x M1->RV vx H1):liftA K Tb EV ta σ H RV :=
 ⟨al,rho,M,E,R,a,h,fun al' d M' v H' s w r q=>k al' d M' v H' s (a.go s w) r q⟩
end
def dVar (i:Nat):TED:=fun _ rho M Q=>match rho[i]? with
 | some (some d)=>Q d M
 | _=>False
abbrev dC (d:D):TED:=fun _ _ M Q=>Q d M
section
variable {X:Cx} {Tb:List (Addr×Str)} {EV:XK}
theorem dv_var (i:Nat) {x:Str} {pos:Pos} (hN:X.N[i]?=some x:=by rfl) (hv:Vis X.env.scope x:=by first | exact Or.inl rfl | exact Or.inr (Or.inl rfl) | exact Or.inr (Or.inr rfl)) (hd:(x == ("__debug__":Str))=false:=by decide)
  (hcd:(x == ("__classdict__":Str))=false:=by decide):PD X Tb EV (.Name x pos) (dVar i):=pe_imp (pe_var (i:=i) hN hv hd hcd) fun σ H QV h=>by
 obtain ⟨al,rho,M,E,Q,a,t,p⟩:=h
 unfold dVar at t
 split at t
 ·rename_i d e
  obtain ⟨v,e1,r⟩:=a.sl.2 i d e
  exact ⟨v,e1,p al d M v H (Stp.refl ..) a.wf r t⟩
 ·exact t.elim
theorem dv_of_tC {e:Expr} {v:V} {d:D} (h:PE X e (tC v)) (r:∀ al M H,Rp X.K al M H d v):PD X Tb EV e (dC d):=pe_imp h fun σ H QV q=>by
 obtain ⟨al,rho,M,E,Q,a,t,p⟩:=q
 exact p al d M v H (Stp.refl ..) a.wf (r _ _ _) t
theorem dv_int {i:Int} {j pos}:PD X Tb EV (.Constant (.int i) j pos) (dC (.int i)):=dv_of_tC pe_int fun _ _ _=>rfl
theorem dv_bl {b:Bool} {j pos}:PD X Tb EV (.Constant (.bool b) j pos) (dC (.bl b)):=dv_of_tC pe_bl fun _ _ _=>rfl
theorem dv_str {x:Str} {j pos}:PD X Tb EV (.Constant (.str x) j pos) (dC (.str x)):=dv_of_tC pe_str fun _ _ _=>rfl
theorem dv_glob {x:Str} {v:V} {u:Value} {d:D} {pos:Pos} (hg:Gl X x) (hm:X.mg x=some u) (rv:RelV v u) (r:∀ al M H,Rp X.K al M H d v) (hd:(x == ("__debug__":Str))=false:=by decide):PD X Tb EV (.Name x pos) (dC d):=dv_of_tC (pe_glob hg hm rv hd) r
end
abbrev RD2:=D->D->Mem->VD->Prop
def RefOp (K:PySem.W.Frag) (Tb:List (Addr×Str)) (r:R2) (rD:RD2):Prop :=
 ∀ al M H x y dx dy Q QV,Wf K Tb al H M->Rp K al M H dx x->Rp K al M H dy y->rD dx dy M Q->PostV K Tb al M H Q QV->r x y H QV
abbrev dOp (rD:RD2) (ta tb:TED):TED:=fun E rho M Q=>ta E rho M fun x M1=>tb E rho M1 fun y M2=>rD x y M2 Q
section
variable {X:Cx} {Tb:List (Addr×Str)} {EV:XK} {a b c:Expr} {ta tb tc:TED} {pos:Pos}
theorem op_lift {r:R2} {rD:RD2} (hr:RefOp X.K Tb r rD) {σ:L2.St} {H:Hp} {QV:VK} (h:lift X.K Tb EV (dOp rD ta tb) σ H QV):tOp r (lift X.K Tb EV ta) (lift X.K Tb EV tb) σ H QV:=by
 obtain ⟨al,rho,M,E,Q,a,t,p⟩:=h
 refine seq1 a t fun al1 x M1 vx H1 s1 a1 r1 q1=>seq1 a1 q1 fun al2 y M2 vy H2 s2 a2 r2 q2=>?_
 exact hr al2 M2 H2 vx vy x y Q QV a2.wf (r1.mono s2) r2 q2 (p.mono (s1.trans s2))
theorem dv_op {op:Operator} {r:R2} {rD:RD2} (ho:OpR X (binaryOp op) r) (hr:RefOp X.K Tb r rD) (ha:PD X Tb EV a ta) (hb:PD X Tb EV b tb):PD X Tb EV (.BinOp a op b pos) (dOp rD ta tb) :=
 pe_imp (pe_op ho ha hb) fun _ _ _ h=>op_lift hr h
theorem dv_cmp {op:CmpOp} {r:R2} {rD:RD2} (ho:OpR X (compareOp op) r) (hr:RefOp X.K Tb r rD) (ha:PD X Tb EV a ta) (hb:PD X Tb EV b tb) (hm:behindInMarks op b=false):PD X Tb EV (.Compare a [op] [b] pos) (dOp rD ta tb) :=
 pe_imp (pe_cmpR ho ha hb hm) fun _ _ _ h=>op_lift hr h
abbrev dB (t:TED):TTD:=fun E rho M Q=>t E rho M fun x M1=>match x with
 | .bl k=>Q k M1
 | _=>False
theorem dt_cmp {op:CmpOp} {r:R2} {rD:RD2} (ho:OpR X (compareOp op) r) (hr:RefOp X.K Tb r rD) (ha:PD X Tb EV a ta) (hb:PD X Tb EV b tb) (hm:behindInMarks op b=false):PDT X Tb EV (.Compare a [op] [b] pos) (dB (dOp rD ta tb)) :=
 pt_imp (pt_cmpR ho ha hb hm) fun σ H QV h=>by
  obtain ⟨al,rho,M,E,Q,a,t,p⟩:=h
  refine op_lift hr ⟨al,rho,M,E,_,a,t,fun al' d M' v H' s w r q=>?_⟩
  cases d with
  | bl k=>exact ⟨k,r,p _ _ _ _ s w q⟩
  | _=>exact (show False from q).elim
end
def CDivX (j:Int):Prop:=j≠0/\j.natAbs.log2 < 9000
theorem op_fdivX {X:Cx}:OpR X (binaryOp .FloorDiv) (rI (fun _ j=>CDivX j) fun i j=>.int (i.fdiv j)):=opI fun _ _ _ _ _ _ _ hc q=>floordiv_int hc.1 q (.inl (PyProof.noPylong_of_log2 hc.2))
theorem op_mulO {X:Cx}:OpR X (binaryOp .Mult) (rI IntMulOk fun i j=>.int (i * j)):=opI fun _ _ _ _ _ _ _ hc q=>mul_int q hc
def rIntD (C:Int->Int->Prop) (g:Int->Int->D):RD2:=fun x y M Q=>match x,y with
 | .int i,.int j=>C i j/\Q (g i j) M
 | _,_=>False
abbrev rInt0D (g:Int->Int->D):RD2:=fun x y M Q=>match x,y with
 | .int i,.int j=>Q (g i j) M
 | _,_=>False
section
variable {X:Cx} {Tb:List (Addr×Str)} {K:PySem.W.Frag}
theorem ref_int {C:Int->Int->Prop} {g:Int->Int->V} {gD:Int->Int->D} (hg:∀ i j al M H,Rp K al M H (gD i j) (g i j)):RefOp K Tb (rI C g) (rIntD C gD):=by
 intro al M H x y dx dy Q QV w rx ry h p
 unfold rIntD at h
 split at h
 ·rename_i i j
  exact ⟨i,j,rx,ry,h.1,p al _ M _ H (Stp.refl ..) w (hg i j al M H) h.2⟩
 ·exact h.elim
theorem ref_int0 {g:Int->Int->V} {gD:Int->Int->D} (hg:∀ i j al M H,Rp K al M H (gD i j) (g i j)):RefOp K Tb (rI0 g) (rInt0D gD):=by
 intro al M H x y dx dy Q QV w rx ry h p
 unfold rInt0D at h
 split at h
 ·rename_i i j
  exact ⟨i,j,rx,ry,p al _ M _ H (Stp.refl ..) w (hg i j al M H) h⟩
 ·exact h.elim
end
abbrev rSub_:RD2:=rInt0D fun i j=>.int (i - j)
abbrev rMul_:RD2:=rIntD IntMulOk fun i j=>.int (i * j)
abbrev rDiv_:RD2:=rIntD (fun _ j=>CDivX j) fun i j=>.int (i.fdiv j)
abbrev rMod_:RD2:=rIntD (fun _ j=>j≠0) fun i j=>.int (i.fmod j)
abbrev rPow_:RD2:=rIntD CPow fun i j=>.int (i ^ j.toNat)
abbrev rLt_:RD2:=rInt0D fun i j=>.bl (decide (i < j))
abbrev rLe_:RD2:=rInt0D fun i j=>.bl (decide (i<=j))
abbrev rGt_:RD2:=rInt0D fun i j=>.bl (decide (j < i))
abbrev rGe_:RD2:=rInt0D fun i j=>.bl (decide (j<=i))
section
variable {X:Cx} {Tb:List (Addr×Str)} {EV:XK} {a b c:Expr} {ta tb tc:TED} {pos:Pos}
theorem dv_sub (ha:PD X Tb EV a ta) (hb:PD X Tb EV b tb):PD X Tb EV (.BinOp a .Sub b pos) (dOp rSub_ ta tb):=dv_op op_sub (ref_int0 fun _ _ _ _ _=>rfl) ha hb
theorem dv_mul (ha:PD X Tb EV a ta) (hb:PD X Tb EV b tb):PD X Tb EV (.BinOp a .Mult b pos) (dOp rMul_ ta tb):=dv_op op_mulO (ref_int fun _ _ _ _ _=>rfl) ha hb
theorem dv_fdiv (ha:PD X Tb EV a ta) (hb:PD X Tb EV b tb):PD X Tb EV (.BinOp a .FloorDiv b pos) (dOp rDiv_ ta tb):=dv_op op_fdivX (ref_int fun _ _ _ _ _=>rfl) ha hb
theorem dv_mod (ha:PD X Tb EV a ta) (hb:PD X Tb EV b tb):PD X Tb EV (.BinOp a .Mod b pos) (dOp rMod_ ta tb):=dv_op op_modN (ref_int fun _ _ _ _ _=>rfl) ha hb
theorem dv_pow (ha:PD X Tb EV a ta) (hb:PD X Tb EV b tb):PD X Tb EV (.BinOp a .Pow b pos) (dOp rPow_ ta tb):=dv_op op_pow (ref_int fun _ _ _ _ _=>rfl) ha hb
theorem dt_lt (ha:PD X Tb EV a ta) (hb:PD X Tb EV b tb):PDT X Tb EV (.Compare a [.Lt] [b] pos) (dB (dOp rLt_ ta tb)):=dt_cmp op_lt (ref_int0 fun _ _ _ _ _=>rfl) ha hb (nomark _)
theorem dt_le (ha:PD X Tb EV a ta) (hb:PD X Tb EV b tb):PDT X Tb EV (.Compare a [.LtE] [b] pos) (dB (dOp rLe_ ta tb)):=dt_cmp op_le (ref_int0 fun _ _ _ _ _=>rfl) ha hb (nomark _)
theorem dt_gt (ha:PD X Tb EV a ta) (hb:PD X Tb EV b tb):PDT X Tb EV (.Compare a [.Gt] [b] pos) (dB (dOp rGt_ ta tb)):=dt_cmp op_gt (ref_int0 fun _ _ _ _ _=>rfl) ha hb (nomark _)
theorem dt_ge (ha:PD X Tb EV a ta) (hb:PD X Tb EV b tb):PDT X Tb EV (.Compare a [.GtE] [b] pos) (dB (dOp rGe_ ta tb)):=dt_cmp op_ge (ref_int0 fun _ _ _ _ _=>rfl) ha hb (nomark _)
theorem dv_lt (ha:PD X Tb EV a ta) (hb:PD X Tb EV b tb):PD X Tb EV (.Compare a [.Lt] [b] pos) (dOp rLt_ ta tb):=dv_cmp op_lt (ref_int0 fun _ _ _ _ _=>rfl) ha hb (nomark _)
theorem dv_ge (ha:PD X Tb EV a ta) (hb:PD X Tb EV b tb):PD X Tb EV (.Compare a [.GtE] [b] pos) (dOp rGe_ ta tb):=dv_cmp op_ge (ref_int0 fun _ _ _ _ _=>rfl) ha hb (nomark _)
abbrev dNeg (ta:TED):TED:=fun E rho M Q=>ta E rho M fun x M1=>match x with
 | .int i=>Q (.int (-i)) M1
 | _=>False
theorem dv_neg (ha:PD X Tb EV a ta):PD X Tb EV (.UnaryOp .USub a pos) (dNeg ta):=pe_imp (pe_un un_neg ha) fun σ H QV h=>by
 obtain ⟨al,rho,M,E,Q,a,t,p⟩:=h
 refine seq1 a t fun al1 x M1 vx H1 s1 a1 r1 q1=>?_
 cases x with
 | int i=>exact ⟨i,r1,p _ (.int (-i)) _ _ _ s1 a1.wf rfl q1⟩
 | _=>exact (show False from q1).elim
abbrev dNot (t:TTD):TTD:=fun E rho M Q=>t E rho M fun k M1=>Q (!k) M1
abbrev dAnd (t u:TTD):TTD:=fun E rho M Q=>t E rho M fun k M1=>if k=true then u E rho M1 Q else Q false M1
abbrev dOr (t u:TTD):TTD:=fun E rho M Q=>t E rho M fun k M1=>if k=true then Q true M1 else u E rho M1 Q
variable {tA tB':TTD} {rest:List Expr}
abbrev PDW (X:Cx) (Tb:List (Addr×Str)) (EV:XK) (e:Expr) (t:TTD):Prop:=PW X e (liftT X.K Tb EV t)
theorem dt_not (h:PDT X Tb EV a tA):PDT X Tb EV (.UnaryOp .Not a pos) (dNot tA):=pt_imp (pt_not h) fun σ H QV h=>by
 obtain ⟨al,rho,M,E,Q,a,t,p⟩:=h
 exact seqT a t fun al1 k M1 H1 s1 a1 q1=>p _ _ _ _ s1 a1.wf q1
theorem dw_and1 (h:PDT X Tb EV a tA):PDW X Tb EV (.BoolOp .And [a] pos) tA:=pw_and1 h
theorem dw_or1 (h:PDT X Tb EV a tA):PDW X Tb EV (.BoolOp .Or [a] pos) tA:=pw_or1 h
theorem dw_and (ha:PDT X Tb EV a tA) (hb:PDW X Tb EV (.BoolOp .And (b :: rest) pos) tB'):PDW X Tb EV (.BoolOp .And (a :: b :: rest) pos) (dAnd tA tB'):=pw_imp (pw_and ha hb) fun σ H QV h=>by
 obtain ⟨al,rho,M,E,Q,a,t,p⟩:=h
 refine seqT a t fun al1 k M1 H1 s1 a1 q1=>?_
 cases k with
 | true=>exact ⟨al1,rho,M1,E,Q,a1,q1,p.mono s1⟩
 | false=>exact p _ _ _ _ s1 a1.wf q1
theorem dw_or (ha:PDT X Tb EV a tA) (hb:PDW X Tb EV (.BoolOp .Or (b :: rest) pos) tB'):PDW X Tb EV (.BoolOp .Or (a :: b :: rest) pos) (dOr tA tB'):=pw_imp (pw_or ha hb) fun σ H QV h=>by
 obtain ⟨al,rho,M,E,Q,a,t,p⟩:=h
 refine seqT a t fun al1 k M1 H1 s1 a1 q1=>?_
 cases k with
 | true=>exact p _ _ _ _ s1 a1.wf q1
 | false=>exact ⟨al1,rho,M1,E,Q,a1,q1,p.mono s1⟩
theorem dt_w {e:Expr} (h:PDW X Tb EV e tA):PDT X Tb EV e tA:=h.pt
abbrev dOrV (t u:TED):TED:=fun E rho M Q=>t E rho M fun x M1=>match x with
 | .bl k=>if k=true then Q (.bl true) M1 else u E rho M1 Q
 | _=>False
theorem dv_one {op} (h:PD X Tb EV a ta):PD X Tb EV (.BoolOp op [a] pos) ta:=pe_one h
theorem dv_or (ha:PD X Tb EV a ta) (hb:PD X Tb EV (.BoolOp .Or (b :: rest) pos) tb):PD X Tb EV (.BoolOp .Or (a :: b :: rest) pos) (dOrV ta tb):=pe_imp (pe_or ha hb) fun σ H QV h=>by
 obtain ⟨al,rho,M,E,Q,a,t,p⟩:=h
 refine seq1 a t fun al1 x M1 vx H1 s1 a1 r1 q1=>?_
 cases x with
 | bl k =>
  refine ⟨k,r1,?_⟩
  cases k with
  | true=>exact p _ (.bl true) _ _ _ s1 a1.wf rfl q1
  | false=>exact ⟨al1,rho,M1,E,Q,a1,q1,p.mono s1⟩
 | _=>exact (show False from q1).elim
abbrev dIf (t:TTD) (ta tb:TED):TED:=fun E rho M Q=>t E rho M fun k M1=>if k=true then ta E rho M1 Q else tb E rho M1 Q
theorem dv_if (hc:PDT X Tb EV c tA) (ha:PD X Tb EV a ta) (hb:PD X Tb EV b tb):PD X Tb EV (.IfExp c a b pos) (dIf tA ta tb):=pe_imp (pe_ifExp hc ha hb) fun σ H QV h=>by
 obtain ⟨al,rho,M,E,Q,a,t,p⟩:=h
 refine seqT a t fun al1 k M1 H1 s1 a1 q1=>?_
 cases k with
 | true=>exact ⟨al1,rho,M1,E,Q,a1,q1,p.mono s1⟩
 | false=>exact ⟨al1,rho,M1,E,Q,a1,q1,p.mono s1⟩
def dChain (r r':RD2) (ta tb tc:TED):TED:=fun E rho M Q=>ta E rho M fun x M1=>tb E rho M1 fun y M2=>r x y M2 fun z M3=>match z with
 | .bl k=>if k=true then tc E rho M3 fun w M4=>r' y w M4 Q else Q (.bl false) M3
 | _=>False
end
theorem ifd {p:Prop} [Decidable p] {A B:Prop} (h1:p->A) (h2:¬ p->B):if decide p=true then A else B:=by
 by_cases h:p
 ·rw [decide_eq_true h];exact h1 h
 ·rw [decide_eq_false h];exact h2 h
theorem ifn {p:Prop} [Decidable p] {A B:Prop} (h1:¬ p->A) (h2:p->B):if (!decide p)=true then A else B:=by
 by_cases h:p
 ·rw [decide_eq_true h];exact h2 h
 ·rw [decide_eq_false h];exact h1 h
theorem ifb {b:Bool} {A B:Prop} (h1:b=true->A) (h2:b=false->B):if b=true then A else B:=by
 cases b
 ·exact h2 rfl
 ·exact h1 rfl
def memL (M:Mem) (i:Nat):Option (List D):=match M[i]? with
 | some (some (.lst xs))=>some xs
 | _=>none
def asL (M:Mem):D->Option (List D)
 | .lst xs=>some xs
 | .mt i=>memL M i
 | _=>none
def seqD (M:Mem):D->Option (List D)
 | .tup xs=>some xs
 | .lst xs=>some xs
 | .rol xs=>some xs
 | .mt i=>memL M i
 | _=>none
section
variable {K:PySem.W.Frag} {Tb:List (Addr×Str)} {al:Al} {M:Mem} {H:Hp}
theorem memL_ok (w:Wf K Tb al H M) {i:Nat} {ds:List D} (h:memL M i=some ds) {v:V} (r:Rp K al M H (.mt i) v):∃ a xs,v = .ref a/\al.a[i]?=some a/\M[i]?=some (some (.lst ds))/\H a=some (.lst xs)/\Rps K al M H ds xs:=by
 obtain ⟨a,e,rfl⟩:=r
 unfold memL at h
 split at h
 ·rename_i xs e2
  cases h
  obtain ⟨ys,h1,h2⟩:=w.rep i a _ e e2
  exact ⟨a,ys,rfl,e,e2,h1,h2⟩
 ·cases h
theorem asL_ok (w:Wf K Tb al H M) {d:D} {ds:List D} (h:asL M d=some ds) {v:V} (r:Rp K al M H d v):∃ a xs,v = .ref a/\H a=some (.lst xs)/\Rps K al M H ds xs:=by
 cases d with
 | lst xs =>
  cases h
  obtain ⟨a,ys,e,h1,_,h2⟩:=r
  exact ⟨a,ys,e,h1,h2⟩
 | mt i =>
  obtain ⟨a,xs,e,_,_,h1,h2⟩:=memL_ok w h r
  exact ⟨a,xs,e,h1,h2⟩
 | _=>cases h
theorem seqD_ok (w:Wf K Tb al H M) {d:D} {ds:List D} (h:seqD M d=some ds) {v:V} (r:Rp K al M H d v):∃ a xs,v = .ref a/\(SqL K H a xs\/SqT K H a xs)/\Rps K al M H ds xs:=by
 cases d with
 | tup xs =>
  cases h
  obtain ⟨a,ys,e,h1,h2⟩:=r
  exact ⟨a,ys,e,.inr h1.sq,h2⟩
 | lst xs =>
  cases h
  obtain ⟨a,ys,e,h1,_,h2⟩:=r
  exact ⟨a,ys,e,.inl (SqL.of h1),h2⟩
 | rol xs =>
  cases h
  obtain ⟨a,ys,e,h1,h2⟩:=r
  exact ⟨a,ys,e,.inl h1.sq,h2⟩
 | mt i =>
  obtain ⟨a,xs,e,_,_,h1,h2⟩:=memL_ok w h r
  exact ⟨a,xs,e,.inl (SqL.of h1),h2⟩
 | _=>cases h
theorem Rps.atI {ds:List D} {xs:List V} {i:Int} {d:D} (r:Rps K al M H ds xs) (h:L2.atI ds i=some d):∃ v,L2.atI xs i=some v/\Rp K al M H d v:=by
 unfold L2.atI at h ⊢
 rw [r.length] at h
 cases e:ixN xs.length i with
 | none=>rw [e] at h;cases h
 | some j =>
  rw [e] at h
  exact r.get h
end
abbrev dNil:TAD:=fun _ _ M Q=>Q [] M
abbrev dCons (t:TED) (u:TAD):TAD:=fun E rho M Q=>t E rho M fun x M1=>u E rho M1 fun xs M2=>Q (x :: xs) M2
abbrev dTup (t:TAD):TED:=fun E rho M Q=>t E rho M fun xs M1=>xs.length<=sizeLine/\Q (.tup xs) M1
abbrev dLst (t:TAD):TED:=fun E rho M Q=>t E rho M fun xs M1=>xs.length<=sizeLine/\Q (.lst xs) M1
abbrev dLstM (t:TAD):TED:=fun E rho M Q=>t E rho M fun xs M1=>xs.length<=sizeLine/\Q (.mt M1.length) (M1 ++ [some (.lst xs)])
section
variable {X:Cx} {Tb:List (Addr×Str)} {EV:XK} {e:Expr} {es:List Expr} {te:TED} {t:TAD} {pos:Pos}
theorem da_nil:PDA X Tb EV [] dNil:=pa_imp pa_nil fun σ H QV h=>by
 obtain ⟨al,rho,M,E,Q,a,t,p⟩:=h
 exact p _ [] _ _ _ (Stp.refl ..) a.wf rfl t
theorem da_cons (ha:PD X Tb EV e te) (hr:PDA X Tb EV es t) (hs:starEach (e :: es) X.env=(false,eval e X.env) :: starEach es X.env:=by rfl):PDA X Tb EV (e :: es) (dCons te t):=pa_imp (pa_cons ha hr hs) fun σ H QV h=>by
 obtain ⟨al,rho,M,E,Q,a,t,p⟩:=h
 refine seq1 a t fun al1 x M1 vx H1 s1 a1 r1 q1=>seqA a1 q1 fun al2 xs M2 vs H2 s2 a2 r2 q2=>?_
 exact p _ (x :: xs) _ _ _ (s1.trans s2) a2.wf ⟨vx,vs,rfl,r1.mono s2,r2⟩ q2
theorem dv_tup {x1} (h:PDA X Tb EV es t):PD X Tb EV (.Tuple es x1 pos) (dTup t):=pe_imp (pe_tup h) fun σ H QV h=>by
 obtain ⟨al,rho,M,E,Q,a,t,p⟩:=h
 refine seqA a t fun al1 xs M1 vs H1 s1 a1 r1 q1=>⟨by rw [<- r1.length];exact q1.1,fun b hb=>?_⟩
 exact p _ _ _ _ _ (s1.trans (stp_new a1.wf hb _)) (wf_new a1.wf hb _) (rp_tup a1.wf hb r1) q1.2
theorem dv_lst (h:PDA X Tb EV es t):PD X Tb EV (.List es pos) (dLst t):=pe_imp (pe_lst h) fun σ H QV h=>by
 obtain ⟨al,rho,M,E,Q,a,t,p⟩:=h
 refine seqA a t fun al1 xs M1 vs H1 s1 a1 r1 q1=>⟨by rw [<- r1.length];exact q1.1,fun b hb=>?_⟩
 exact p _ _ _ _ _ (s1.trans (stp_new a1.wf hb _)) (wf_new a1.wf hb _) (rp_lst a1.wf hb r1) q1.2
theorem mut_lst {K:PySem.W.Frag} {al:Al} {M:Mem} {H:Hp} {p:Addr} {ds:List D} {xs:List V} (w:Wf K Tb al H M) (hp:H p=none) (r:Rps K al M H ds xs) :
  Stp al M H (al.push p) (M ++ [some (.lst ds)]) (upd H p (.lst xs))/\Wf K Tb (al.push p) (upd H p (.lst xs)) (M ++ [some (.lst ds)])/\Rp K (al.push p) (M ++ [some (.lst ds)]) (upd H p (.lst xs)) (.mt M.length) (.ref p) :=
 have s:=stp_mut w hp (.lst xs) (.lst ds)
 ⟨s,wf_mut w hp (fun _ z=>by cases z) ⟨xs,upd_same,r.mono s⟩,⟨p,al_last w,rfl⟩⟩
theorem dv_lstM (h:PDA X Tb EV es t):PD X Tb EV (.List es pos) (dLstM t):=pe_imp (pe_lst h) fun σ H QV h=>by
 obtain ⟨al,rho,M,E,Q,a,t,p⟩:=h
 refine seqA a t fun al1 xs M1 vs H1 s1 a1 r1 q1=>⟨by rw [<- r1.length];exact q1.1,fun b hb=>?_⟩
 obtain ⟨h1,h2,h3⟩:=mut_lst a1.wf hb r1
 exact p _ _ _ _ _ (s1.trans h1) h2 h3 q1.2
end
def rAdd_:RD2:=fun x y M Q=>match x,y with
 | .int i,.int j=>Q (.int (i+j)) M
 | .str i,.str j=>i.length+j.length<=sizeLine/\Q (.str (i ++ j)) M
 | .tup xs,.tup ys=>xs.length+ys.length<=sizeLine/\Q (.tup (xs ++ ys)) M
 | x,y=>match asL M x,asL M y with
  | some xs,some ys=>xs.length+ys.length<=sizeLine/\Q (.lst (xs ++ ys)) M
  | _,_=>False
section
variable {X:Cx} {Tb:List (Addr×Str)} {EV:XK} {a b c:Expr} {ta tb tc:TED} {pos:Pos}
theorem Rps.nil_of {K:PySem.W.Frag} {al:Al} {M:Mem} {H:Hp} {ds:List D} {xs:List V} (r:Rps K al M H ds xs):ds=[] ↔ xs=[]:=by
 have:=r.length
 constructor
 ·rintro rfl;cases xs with | nil=>rfl | cons=>simp at this
 ·rintro rfl;cases ds with | nil=>rfl | cons=>simp at this
theorem ref_add:RefOp X.K Tb (fun x y H Q=>(rI0 fun i j=>V.int (i+j)) x y H Q\/(∃ i j,x = .str i/\y = .str j/\i.length+j.length<=sizeLine/\Q (.str (i ++ j)) H)\/rCatA X.K x y H Q\/rCat x y H Q) rAdd_:=by
 intro al M H x y dx dy Q QV w rx ry h p
 unfold rAdd_ at h
 split at h
 ·rename_i i j
  exact .inl ⟨i,j,rx,ry,p al (.int (i+j)) M _ H (Stp.refl ..) w rfl h⟩
 ·rename_i i j
  exact .inr (.inl ⟨i,j,rx,ry,h.1,p al (.str (i ++ j)) M _ H (Stp.refl ..) w rfl h.2⟩)
 ·rename_i xs ys
  obtain ⟨a,us,rfl,h1,h2⟩:=rx
  obtain ⟨b,ws,rfl,h3,h4⟩:=ry
  refine .inr (.inr (.inl ⟨a,b,us,ws,rfl,rfl,h1.sq,h3.sq,by rw [<- h2.length,<- h4.length];exact h.1,fun e=>?_,fun _ e=>?_,fun _ _ q hq=>?_⟩))
  ·have e':=h2.nil_of.mpr e
   subst e'
   exact p al (.tup ys) M _ H (Stp.refl ..) w ⟨b,ws,rfl,h3,h4⟩ (by simpa using h.2)
  ·have e':=h4.nil_of.mpr e
   subst e'
   exact p al (.tup xs) M _ H (Stp.refl ..) w ⟨a,us,rfl,h1,h2⟩ (by simpa using h.2)
  ·exact p _ _ _ _ _ (stp_new w hq _) (wf_new w hq _) (rp_tup w hq (h2.append h4)) h.2
 ·split at h
  ·rename_i xs ys e1 e2
   obtain ⟨a,us,rfl,h1,h2⟩:=asL_ok w e1 rx
   obtain ⟨b,ws,rfl,h3,h4⟩:=asL_ok w e2 ry
   exact .inr (.inr (.inr ⟨a,b,us,ws,rfl,rfl,h1,h3,by rw [<- h2.length,<- h4.length];exact h.1,fun q hq=>p _ _ _ _ _ (stp_new w hq _) (wf_new w hq _) (rp_lst w hq (h2.append h4)) h.2⟩))
  ·exact h.elim
theorem dv_add (ha:PD X Tb EV a ta) (hb:PD X Tb EV b tb):PD X Tb EV (.BinOp a .Add b pos) (dOp rAdd_ ta tb):=dv_op (op_add.or (op_add_str.or (op_catA.or op_cat))) ref_add ha hb
def rIx_:RD2:=fun x y M Q=>match y with
 | .int i=>match seqD M x with
  | some ds=>(match L2.atI ds i with
   | some d=>Q d M
   | none=>False)
  | none=>match x with
   | .str z=>z.length<=sizeLine/\(match L2.atI z.cps.toList i with
    | some c=>Q (.str ⟨#[c]⟩) M
    | none=>False)
   | _=>False
 | _=>False
theorem ref_ix:RefOp X.K Tb (rIx X.K) rIx_:=by
 intro al M H x y dx dy Q QV w rx ry h p
 unfold rIx_ at h
 split at h
 ·rename_i i
  split at h
  ·rename_i ds e
   split at h
   ·rename_i d e2
    obtain ⟨a,xs,rfl,hq,r⟩:=seqD_ok w e rx
    obtain ⟨v,e3,rv⟩:=r.atI e2
    rcases hq with hq | hq
    ·exact .inl ⟨a,xs,i,v,rfl,ry,hq,e3,p _ _ _ _ _ (Stp.refl ..) w rv h⟩
    ·exact .inr (.inl ⟨a,xs,i,v,rfl,ry,hq,e3,p _ _ _ _ _ (Stp.refl ..) w rv h⟩)
   ·exact h.elim
  ·split at h
   ·rename_i z _
    obtain ⟨h1,h⟩:=h
    split at h
    ·rename_i c e2
     exact .inr (.inr ⟨z,i,c,rx,ry,h1,e2,p _ (.str ⟨#[c]⟩) _ _ _ (Stp.refl ..) w rfl h⟩)
    ·exact h.elim
   ·exact h.elim
 ·exact h.elim
theorem dv_ix (ha:PD X Tb EV a ta) (hb:PD X Tb EV b tb) (hs:PlainIx b:=by intro _ _;rfl):PD X Tb EV (.Subscript a b pos) (dOp rIx_ ta tb):=pe_imp (pe_ix ix_seq ha hb hs) fun _ _ _ h=>op_lift ref_ix h
end
abbrev TOD:=XD->Rho->Mem->(Option Int->Mem->Prop)->Prop
def liftO (K:PySem.W.Frag) (Tb:List (Addr×Str)) (EV:XK) (t:TOD):TO:=fun σ H QV=>∃ al rho M E Q,At K Tb EV al σ H rho M E/\t E rho M Q/\∀ al' o M' H',Stp al M H al' M' H'->Wf K Tb al' H' M'->Q o M'->QV o H'
abbrev oNone:TOD:=fun _ _ M Q=>Q none M
abbrev oSome (t:TED):TOD:=fun E rho M Q=>t E rho M fun x M1=>match x with
 | .int i=>Q (some i) M1
 | _=>False
def cutL {α:Type} (xs:List α) (lo hi:Option Int):List α:=(xs.drop (HT.sIx xs.length 0 lo)).take (HT.sIx xs.length xs.length hi - HT.sIx xs.length 0 lo)
theorem Rps.cut {K:PySem.W.Frag} {al:Al} {M:Mem} {H:Hp} {ds:List D} {xs:List V} (r:Rps K al M H ds xs) (lo hi:Option Int):Rps K al M H (cutL ds lo hi) (cutV xs lo hi):=by
 unfold cutL cutV
 rw [r.length]
 exact (r.drop _).take _
def rSl_ (x:D) (lo hi:Option Int) (M:Mem) (Q:VD):Prop:=match x with
 | .str z=>z.length<=sizeLine/\Q (.str (cutS z lo hi)) M
 | .tup xs=>Q (.tup (cutL xs lo hi)) M
 | .rol xs=>Q (.lst (cutL xs lo hi)) M
 | x=>match asL M x with
  | some xs=>Q (.lst (cutL xs lo hi)) M
  | none=>False
abbrev dSl (te:TED) (tl th:TOD):TED:=fun E rho M Q=>te E rho M fun x M1=>tl E rho M1 fun l M2=>th E rho M2 fun u M3=>rSl_ x l u M3 Q
section
variable {X:Cx} {Tb:List (Addr×Str)} {EV:XK} {e:Expr} {lo hi:Option Expr} {te:TED} {tl th:TOD} {pos p2:Pos}
theorem do_none:PO X none (liftO X.K Tb EV oNone):=⟨fun pins s σ H Q I h=>by
 obtain ⟨al,rho,M,E,Q',a,t,p⟩:=h
 exact po_none.run pins s σ H Q I (p _ _ _ _ (Stp.refl ..) a.wf t)⟩
theorem do_some (h:PD X Tb EV e te):PO X (some e) (liftO X.K Tb EV (oSome te)):=⟨fun pins s σ H Q I q=>by
 obtain ⟨al,rho,M,E,Q',a,t,p⟩:=q
 refine (po_some h).run pins s σ H Q I (seq1 a t fun al1 x M1 vx H1 s1 a1 r1 q1=>?_)
 cases x with
 | int i=>exact ⟨i,r1,p _ _ _ _ s1 a1.wf q1⟩
 | _=>exact (show False from q1).elim⟩
theorem dv_slice (he:PD X Tb EV e te) (hl:PO X lo (liftO X.K Tb EV tl)) (hu:PO X hi (liftO X.K Tb EV th)):PD X Tb EV (.Subscript e (.Slice lo hi none p2) pos) (dSl te tl th) :=
 pe_imp (pe_slice (sl_list.or (sl_tupA.or sl_str)) he hl hu) fun σ H QV h=>by
  obtain ⟨al,rho,M,E,Q,a,t,p⟩:=h
  refine seq1 a t fun al1 x M1 vx H1 s1 a1 r1 q1=>⟨al1,rho,M1,E,_,a1,q1,fun al2 l M2 H2 s2 w2 q2=>⟨al2,rho,M2,E,_,a1.go s2 w2,q2,fun al3 u M3 H3 s3 w3 q3=>?_⟩⟩
  have r3:=r1.mono (s2.trans s3)
  have p3:=p.mono (s1.trans (s2.trans s3))
  unfold rSl_ at q3
  split at q3
  ·rename_i z
   exact .inr (.inr ⟨z,r3,q3.1,p3 _ (.str (cutS z l u)) _ _ _ (Stp.refl ..) w3 rfl q3.2⟩)
  ·rename_i xs
   obtain ⟨b,ys,rfl,h1,h2⟩:=r3
   refine .inr (.inl ⟨b,ys,rfl,h1.sq,fun hw=>?_,fun hw q hq=>p3 _ _ _ _ _ (stp_new w3 hq _) (wf_new w3 hq _) (rp_tup w3 hq (h2.cut l u)) q3⟩)
   have e:cutL xs l u=xs:=by
    unfold cutL
    rw [h2.length,hw.1,hw.2]
    simp [<- h2.length]
   rw [e] at q3
   exact p3 _ (.tup xs) _ _ _ (Stp.refl ..) w3 ⟨b,ys,rfl,h1,h2⟩ q3
  ·rename_i xs
   obtain ⟨b,ys,rfl,h1,h2⟩:=r3
   exact .inl ⟨b,ys,rfl,h1.sq,fun q hq=>p3 _ _ _ _ _ (stp_new w3 hq _) (wf_new w3 hq _) (rp_lst w3 hq (h2.cut l u)) q3⟩
  ·split at q3
   ·rename_i xs e1
    obtain ⟨b,ys,rfl,h1,h2⟩:=asL_ok w3 e1 r3
    exact .inl ⟨b,ys,rfl,SqL.of h1,fun q hq=>p3 _ _ _ _ _ (stp_new w3 hq _) (wf_new w3 hq _) (rp_lst w3 hq (h2.cut l u)) q3⟩
   ·exact q3.elim
end
mutual
def toPy:D->Option PyData
 | .non=>some .none
 | .bl b=>some (.bool b)
 | .int i=>some (.int i)
 | .str x=>some (.str x)
 | .tup xs=>(toPys xs).map .tuple
 | .lst xs=>(toPys xs).map .list
 | .rol xs=>(toPys xs).map .list
 | _=>none
def toPys:List D->Option (List PyData)
 | []=>some []
 | x :: xs=>match toPy x,toPys xs with
  | some p,some ps=>some (p :: ps)
  | _,_=>none
end
def toPyM (M:Mem):D->Option PyData
 | .mt i=>match memL M i with
  | some xs=>(toPys xs).map .list
  | none=>none
 | d=>toPy d
section
variable {K:PySem.W.Frag} {Tb:List (Addr×Str)} {al:Al} {M:Mem} {H:Hp}
mutual
theorem toPy_ok:∀ {d:D} {p:PyData} {v:V},toPy d=some p->Rp K al M H d v->Dp K H v p
 | .non,_,_,e,r=>by cases e;cases (show _=_ from r);exact .non
 | .bl b,_,_,e,r=>by cases e;cases (show _=_ from r);exact .bl b
 | .int i,_,_,e,r=>by cases e;cases (show _=_ from r);exact .int i
 | .str x,_,_,e,r=>by cases e;cases (show _=_ from r);exact .str x
 | .tup xs,_,_,e,r=>by
  obtain ⟨a,ys,rfl,h1,h2⟩:=r
  unfold toPy at e
  cases q:toPys xs with
  | none=>rw [q] at e;cases e
  | some ps=>rw [q] at e;cases e;exact .tup h1.sq (toPys_ok q h2)
 | .lst xs,_,_,e,r=>by
  obtain ⟨a,ys,rfl,h1,_,h2⟩:=r
  unfold toPy at e
  cases q:toPys xs with
  | none=>rw [q] at e;cases e
  | some ps=>rw [q] at e;cases e;exact .lst (SqL.of h1) (toPys_ok q h2)
 | .rol xs,_,_,e,r=>by
  obtain ⟨a,ys,rfl,h1,h2⟩:=r
  unfold toPy at e
  cases q:toPys xs with
  | none=>rw [q] at e;cases e
  | some ps=>rw [q] at e;cases e;exact .lst h1.sq (toPys_ok q h2)
 | .ty _,_,_,e,_=>by cases e
 | .obj _ _ _,_,_,e,_=>by cases e
 | .exc _ _ _,_,_,e,_=>by cases e
 | .dk _ _,_,_,e,_=>by cases e
 | .dt _ _,_,_,e,_=>by cases e
 | .ref _,_,_,e,_=>by cases e
 | .lam _ _,_,_,e,_=>by cases e
 | .mt _,_,_,e,_=>by cases e
theorem toPys_ok:∀ {ds:List D} {ps:List PyData} {xs:List V},toPys ds=some ps->Rps K al M H ds xs->DpAll K H xs ps
 | [],_,_,e,r=>by cases e;cases (show _=[] from r);exact .nil
 | d :: ds,_,_,e,r=>by
  obtain ⟨x,xs,rfl,h1,h2⟩:=r
  unfold toPys at e
  split at e
  ·rename_i p ps e1 e2
   cases e
   exact .cons (toPy_ok e1 h1) (toPys_ok e2 h2)
  ·cases e
end
theorem toPyM_ok (w:Wf K Tb al H M) {d:D} {p:PyData} {v:V} (e:toPyM M d=some p) (r:Rp K al M H d v):Dp K H v p:=by
 unfold toPyM at e
 split at e
 ·rename_i i
  split at e
  ·rename_i xs e1
   obtain ⟨a,ys,rfl,_,_,h1,h2⟩:=memL_ok w e1 r
   cases q:toPys xs with
   | none=>rw [q] at e;cases e
   | some ps=>rw [q] at e;cases e;exact .lst (SqL.of h1) (toPys_ok q h2)
  ·cases e
 ·exact toPy_ok e r
end
def scalD:D->D->Option Bool
 | .int i,.int j=>some (decide (i=j))
 | .str x,.str y=>some (decide (x=y))
 | .bl a,.bl b=>some (decide (a=b))
 | .non,.non=>some true
 | .non,.int _=>some false | .int _,.non=>some false | .non,.bl _=>some false | .bl _,.non=>some false | .non,.str _=>some false | .str _,.non=>some false
 | .int _,.str _=>some false | .str _,.int _=>some false | .bl _,.str _=>some false | .str _,.bl _=>some false
 | _,_=>none
theorem scalD_ok {K:PySem.W.Frag} {al:Al} {M:Mem} {H:Hp} {dx dy:D} {x y:V} {b:Bool} (e:scalD dx dy=some b) (rx:Rp K al M H dx x) (ry:Rp K al M H dy y):scal x y=true/\decide (x=y)=b:=by
 cases dx <;> cases dy <;> first | (cases (show (none:Option Bool)=some b from e)) | skip
 all_goals
  cases (show _=_ from rx)
  cases (show _=_ from ry)
  have e':=Option.some.inj e
  subst e'
  exact ⟨rfl,by simp⟩
def rEq_:RD2:=fun x y M Q=>match scalD x y with
 | some b=>Q (.bl b) M
 | none=>match toPyM M x,toPyM M y with
  | some p,some q=>SeqAt.shaped p=true/\SeqAt.shaped q=true/\Q (.bl (PyData.eqv p q)) M
  | _,_=>False
def rNe_:RD2:=fun x y M Q=>match scalD x y with
 | some b=>Q (.bl (!b)) M
 | none=>match toPyM M x,toPyM M y with
  | some p,some q=>SeqAt.shaped p=true/\SeqAt.shaped q=true/\Q (.bl (!PyData.eqv p q)) M
  | _,_=>False
section
variable {X:Cx} {Tb:List (Addr×Str)} {EV:XK} {a b c:Expr} {ta tb tc:TED} {pos:Pos}
theorem ref_eq:RefOp X.K Tb (fun x y H Q=>rEq x y H Q\/L2.rEqD X.K x y H Q) rEq_:=by
 intro al M H x y dx dy Q QV w rx ry h p
 unfold rEq_ at h
 split at h
 ·rename_i b e
  obtain ⟨h1,h2⟩:=scalD_ok e rx ry
  exact .inl ⟨h1,by rw [h2];exact p _ (.bl b) _ _ _ (Stp.refl ..) w rfl (by simpa using h)⟩
 ·split at h
  ·rename_i p1 p2 e1 e2
   exact .inr ⟨p1,p2,toPyM_ok w e1 rx,toPyM_ok w e2 ry,h.1,h.2.1,p _ (.bl _) _ _ _ (Stp.refl ..) w rfl (by simpa using h.2.2)⟩
  ·exact h.elim
theorem ref_ne:RefOp X.K Tb (fun x y H Q=>rNe x y H Q\/L2.rNeD X.K x y H Q) rNe_:=by
 intro al M H x y dx dy Q QV w rx ry h p
 unfold rNe_ at h
 split at h
 ·rename_i b e
  obtain ⟨h1,h2⟩:=scalD_ok e rx ry
  exact .inl ⟨h1,by rw [h2];exact p _ (.bl (!b)) _ _ _ (Stp.refl ..) w rfl (by simpa using h)⟩
 ·split at h
  ·rename_i p1 p2 e1 e2
   exact .inr ⟨p1,p2,toPyM_ok w e1 rx,toPyM_ok w e2 ry,h.1,h.2.1,p _ (.bl _) _ _ _ (Stp.refl ..) w rfl (by simpa using h.2.2)⟩
  ·exact h.elim
theorem dv_eq (hu:X.A.units+64 < cLine) (ha:PD X Tb EV a ta) (hb:PD X Tb EV b tb):PD X Tb EV (.Compare a [.Eq] [b] pos) (dOp rEq_ ta tb):=dv_cmp (op_eq.or (op_eqD hu)) ref_eq ha hb (nomark _)
theorem dt_eq (hu:X.A.units+64 < cLine) (ha:PD X Tb EV a ta) (hb:PD X Tb EV b tb):PDT X Tb EV (.Compare a [.Eq] [b] pos) (dB (dOp rEq_ ta tb)):=dt_cmp (op_eq.or (op_eqD hu)) ref_eq ha hb (nomark _)
theorem dt_ne (hu:X.A.units+64 < cLine) (ha:PD X Tb EV a ta) (hb:PD X Tb EV b tb):PDT X Tb EV (.Compare a [.NotEq] [b] pos) (dB (dOp rNe_ ta tb)):=dt_cmp (op_ne.or (op_neD hu)) ref_ne ha hb (nomark _)
def isNon:D->Bool
 | .non=>true
 | _=>false
def rIs_:RD2:=fun x y M Q=>match y with
 | .non=>Q (.bl (isNon x)) M
 | _=>False
def rIsNot_:RD2:=fun x y M Q=>match y with
 | .non=>Q (.bl (!isNon x)) M
 | _=>False
abbrev truD (x:D) (M:Mem) (Q:Bool->Mem->Prop):Prop:=match x with
 | .bl k=>Q k M
 | .int i=>Q (i != 0) M
 | .non=>Q false M
 | .str z=>z.length<=sizeLine/\Q ((z.length:Int) != 0) M
 | x=>match seqD M x with
  | some xs=>Q (!xs.isEmpty) M
  | none=>False
abbrev dTru (t:TED):TTD:=fun E rho M Q=>t E rho M fun x M1=>truD x M1 Q
theorem dt_tru (ha:PD X Tb EV a ta) (he:∀ whole,isTrue a X.env whole=(do let v <- whole;standAt a.pos;holding [v] (truthy v)):=by intro _;rfl):PDT X Tb EV a (dTru ta):=pt_imp (pt_truth ha he) fun σ H QV h=>by
 obtain ⟨al,rho,M,E,Q,a,t,p⟩:=h
 refine seq1 a t fun al1 x M1 vx H1 s1 a1 r1 q1=>?_
 unfold truD at q1
 split at q1
 ·rename_i k;cases (show _=_ from r1);exact ⟨k,rfl,p _ _ _ _ s1 a1.wf q1⟩
 ·rename_i i;cases (show _=_ from r1);exact ⟨_,rfl,p _ _ _ _ s1 a1.wf q1⟩
 ·cases (show _=_ from r1);exact ⟨_,rfl,p _ _ _ _ s1 a1.wf q1⟩
 ·rename_i z;cases (show _=_ from r1);exact ⟨_,⟨q1.1,rfl⟩,p _ _ _ _ s1 a1.wf q1.2⟩
 ·split at q1
  ·rename_i xs e
   obtain ⟨b,ys,rfl,hq,r⟩:=seqD_ok a1.wf e r1
   have hz:(!ys.isEmpty)=!xs.isEmpty:=by
    have:=r.length
    cases xs <;> cases ys <;> simp_all
   refine ⟨!ys.isEmpty,?_,by rw [hz];exact p _ _ _ _ s1 a1.wf q1⟩
   rcases hq with hq | hq
   ·exact .inl ⟨ys,hq,rfl⟩
   ·exact .inr (.inl ⟨ys,hq,rfl⟩)
  ·exact q1.elim
end
section
variable {K:PySem.W.Frag} {Tb:List (Addr×Str)} {al:Al} {M:Mem} {H:Hp}
theorem Wf.okM (w:Wf K Tb al H M):okM M.length M:=fun i mo hi e=>by
 obtain ⟨a,ha⟩:∃ a,al.a[i]?=some a:=by rw [List.getElem?_eq_some_iff.mpr ⟨by rw [w.len];exact hi,rfl⟩];exact ⟨_,rfl⟩
 have r:=w.rep i a mo ha e
 rw [<- w.len]
 cases mo with
 | lst xs=>obtain ⟨_,_,r⟩:=r;exact r.hb
 | dK kvs=>obtain ⟨_,_,r⟩:=r;exact r.2.hb
 | dT ks ds=>obtain ⟨_,_,r⟩:=r;exact r.2.hb
 | ins C fs=>obtain ⟨_,_,_,r⟩:=r;exact r.2.hb
theorem cut_lt {n i:Nat} {a:Addr} (e:(al.cut n).a[i]?=some a):i < n/\al.a[i]?=some a:=by
 have e:(al.a.take n)[i]?=some a:=e
 have hi:i < n:=by
  have:=(List.getElem?_eq_some_iff.mp e).1
  simp at this;omega
 rw [List.getElem?_take_of_lt hi] at e
 exact ⟨hi,e⟩
theorem lt_cut {n i:Nat} {a:Addr} (hi:i < n) (e:al.a[i]?=some a):(al.cut n).a[i]?=some a:=by
 show (al.a.take n)[i]?=some a
 rw [List.getElem?_take_of_lt hi];exact e
theorem Fz.cut {n:Nat} {a:Addr} (f:Fz al M a):Fz (al.cut n) (M.take n) a:=⟨f.1,fun i mo e1 e2=>by
 obtain ⟨hi,e1⟩:=cut_lt e1
 rw [List.getElem?_take_of_lt hi] at e2
 exact f.2 i mo e1 e2⟩
mutual
theorem Rp.cutH {n:Nat}:∀ {d:D} {v:V},Rp K al M H d v->D.hb n d=true->Rp K (al.cut n) (M.take n) H d v
 | .mt i,_,h,b=>by
  obtain ⟨a,e,q⟩:=h
  have hi:i < n:=of_decide_eq_true b
  exact ⟨a,lt_cut hi e,q⟩
 | .tup xs,_,h,b=>by
  obtain ⟨a,ys,e,q,r⟩:=h
  refine ⟨a,ys,e,?_,Rps.cutH r b⟩
  rcases q with ⟨q,f⟩ | q
  ·exact .inl ⟨q,f.cut⟩
  ·exact .inr q
 | .lst xs,_,h,b=>by
  obtain ⟨a,ys,e,q,f,r⟩:=h
  exact ⟨a,ys,e,q,f.cut,Rps.cutH r b⟩
 | .rol xs,_,h,b=>by
  obtain ⟨a,ys,e,q,r⟩:=h
  refine ⟨a,ys,e,?_,Rps.cutH r b⟩
  rcases q with ⟨q,f⟩ | q
  ·exact .inl ⟨q,f.cut⟩
  ·exact .inr q
 | .obj _ _ xs,_,h,b=>by
  obtain ⟨a,dx,ys,e,q,f,l,r⟩:=h
  exact ⟨a,dx,ys,e,q,f.cut,l,Rps.cutH r b⟩
 | .dk _ xs,_,h,b=>by
  obtain ⟨a,dx,ys,e,q,f,l,r⟩:=h
  exact ⟨a,dx,ys,e,q,f.cut,l,Rps.cutH r b⟩
 | .dt _ xs,_,h,b=>by
  obtain ⟨a,dx,ys,e,q,f,l,r⟩:=h
  exact ⟨a,dx,ys,e,q,f.cut,l,Rps.cutH r b⟩
 | .exc _ _ xs,_,h,b=>by
  obtain ⟨a,dx,ys,e,q,f,q2,f2,l,r⟩:=h
  exact ⟨a,dx,ys,e,q,f.cut,q2,f2.cut,l,Rps.cutH r b⟩
 | .non,_,h,_=>h
 | .bl _,_,h,_=>h
 | .int _,_,h,_=>h
 | .str _,_,h,_=>h
 | .ty _,_,h,_=>h
 | .lam _ _,_,h,_=>⟨h.1,fun x hx=>⟨(h.2 x hx).1,(h.2 x hx).2.cut⟩⟩
 | .ref _,_,h,_=>h
theorem Rps.cutH {n:Nat}:∀ {ds:List D} {vs:List V},Rps K al M H ds vs->D.hbs n ds=true->Rps K (al.cut n) (M.take n) H ds vs
 | [],_,h,_=>h
 | d :: ds,_,h,b=>by
  obtain ⟨x,r,e,q,t⟩:=h
  have b':(D.hb n d && D.hbs n ds)=true:=b
  rw [Bool.and_eq_true] at b'
  exact ⟨x,r,e,Rp.cutH q b'.1,Rps.cutH t b'.2⟩
end
theorem Rpk.cutH {κ:Type} {n:Nat} {ds:List (κ×D)} {xs:List (κ×V)} (h:Rpk K al M H ds xs) (b:D.hbs n (ds.map (·.2))=true):Rpk K (al.cut n) (M.take n) H ds xs:=⟨h.1,h.2.cutH b⟩
theorem Rpd.cutH {n:Nat} {ks:List (List Int)} {ds:List D} {L:Ents} (h:Rpd K al M H ks ds L) (b:D.hbs n ds=true):Rpd K (al.cut n) (M.take n) H ks ds L:=⟨h.1,h.2.cutH b⟩
theorem wf_cut {n:Nat} (w:Wf K Tb al H M) (ok:DL.okM n M):Wf K Tb (al.cut n) H (M.take n):=by
 refine ⟨by simp [w.len,Al.cut],w.nd.sublist (List.take_sublist _ _),fun i a mo e1 e2=>?_,fun i a e1=>?_,w.tb,w.hth,fun i a mo e1 e2=>?_⟩
 ·obtain ⟨hi,e1⟩:=cut_lt e1
  rw [List.getElem?_take_of_lt hi] at e2
  have r:=w.rep i a mo e1 e2
  have b:=ok i mo hi e2
  cases mo with
  | lst xs=>obtain ⟨ys,h1,h2⟩:=r;exact ⟨ys,h1,h2.cutH b⟩
  | dK kvs=>obtain ⟨ys,h1,h2⟩:=r;exact ⟨ys,h1,h2.cutH b⟩
  | dT ks ds=>obtain ⟨ys,h1,h2⟩:=r;exact ⟨ys,h1,h2.cutH b⟩
  | ins C fs=>obtain ⟨dx,ys,h1,h2⟩:=r;exact ⟨dx,ys,h1,h2.cutH b⟩
 ·obtain ⟨hi,e1⟩:=cut_lt e1
  exact w.there i a e1
 ·obtain ⟨hi,e1⟩:=cut_lt e1
  rw [List.getElem?_take_of_lt hi] at e2
  exact w.hdis i a mo e1 e2
theorem stp_cut {al':Al} {M':Mem} {H':Hp} {m:Nat} (w:Wf K Tb al H M) (hm:M.length<=m) (s:Stp al M H al' M' H'):Stp al M H (al'.cut m) (M'.take m) H' :=
 ⟨fun i a e=>lt_cut (Nat.lt_of_lt_of_le (by rw [<- w.len];exact (List.getElem?_eq_some_iff.mp e).1) hm) (s.pre i a e),fun a o h n f=>⟨(s.fz a o h n f).1,(s.fz a o h n f).2.cut⟩,s.hh,s.hid⟩
end
theorem Cut.same {Q:VD} {d:D} {M:Mem} (h:d.hb M.length=true) (ok:okM M.length M) (q:Q d M):Cut M.length Q d M:=⟨M.length,Nat.le_refl _,h,ok,by rw [List.take_length];exact q⟩
theorem CutX.same {E:XD} {x:Exn} {M:Mem} (h:D.hbs M.length (x.fs.map (·.2))=true) (ok:okM M.length M) (q:E x M):CutX M.length E x M:=⟨h,ok,by rw [List.take_length];exact q⟩
abbrev dCall (dsp:DSp) (t:TAD):TED:=fun E rho M Q=>t E rho M fun ds M1=>dsp ds M1 Q E
section
variable {X:Cx} {Tb:List (Addr×Str)} {EV:XK} {k:Nat} {f:Addr} {fd:FuncData} {ps:List Str} {dsp:DSp} {x:Str} {p pos:Pos} {e:Expr} {es:List Expr} {t:TAD}
theorem call_lift {σ:L2.St} {H:Hp} {QV:VK} (h:lift X.K Tb EV (dCall dsp t) σ H QV):tCall (liftSp X.K Tb dsp) [] EV (liftA X.K Tb EV t) σ H QV:=by
 obtain ⟨al,rho,M,E,Q,a,t,p⟩:=h
 refine seqA a t fun al1 ds M1 vs H1 s1 a1 r1 q1=>?_
 rw [List.append_nil]
 exact ⟨al1,M1,ds,Q,E,a1.wf,r1,q1,p.mono s1,a1.ex⟩
theorem dv_call (F:FnD X.prog X.w X.K X.mg X.base Tb k f fd ps dsp) (hr:Room k X.A) (hg:Gl X x) (hm:X.mg x=some (.ref f)) (hk:PySem.W.keepIn X.K (.ref f)=true) (hb:Binds X.K fd ps []) (hx:Passes (L2.CX X.prog X.w) X EV)
  (ha:PDA X Tb EV (e :: es) t) (hdb:(x == ("__debug__":Str))=false:=by decide) (he:starEach (e :: es) X.env=(false,eval e X.env) :: starEach es X.env:=by rfl) (hpl:(backTo pos (starEach es X.env)).any (·.1)=false:=by rfl) :
  PD X Tb EV (.Call (.Name x p) (e :: es) [] pos) (dCall dsp t):=pe_imp (pe_call F.ok hr hg hm hk hb .nil hx ha hdb he hpl) fun _ _ _ h=>call_lift h
end
def startD (N:List Str) (ds:List D):Rho:=ds.map some ++ List.replicate (N.length - ds.length) none
theorem start_ok {K:PySem.W.Frag} {al:Al} {M:Mem} {H:Hp} {N:List Str} {ds:List D} {vs:List V} (r:Rps K al M H ds vs):RpS K al M H (L2.start N vs) (startD N ds):=by
 have hl:=r.length
 unfold L2.start startD
 refine ⟨by simp [hl],fun i d e=>?_⟩
 by_cases hi:i < ds.length
 ·rw [List.getElem?_append_left (by simpa using hi),List.getElem?_map] at e
  cases q:ds[i]? with
  | none=>rw [q] at e;cases e
  | some d' =>
   rw [q] at e;cases e
   obtain ⟨v,e2,rv⟩:=r.get q
   exact ⟨v,by rw [List.getElem?_append_left (by rw [List.length_map,<- hl];exact hi),List.getElem?_map,e2];rfl,rv⟩
 ·rw [List.getElem?_append_right (by simpa using hi),List.getElem?_replicate] at e
  split at e <;> cases e
section
variable {P:Program} {w:World} {K:PySem.W.Frag} {mg:Str->Option Value} {base:Heap} {Tb:List (Addr×Str)}
theorem fnD_of {x qual:Str} {params:Arguments} {body:List Stmt} {scope:Scope} {dvs:List V} {kws:List (Str×V)} {f:Addr} {fd:FuncData} {N ps:List Str} {k:Nat} {dsp:DSp} (tb:TSD) (F:FunD K x qual params body scope dvs kws f fd) (S:FnScope N ps scope)
  (len:∀ ds M Q E,dsp ds M Q E->ds.length=ps.length)
  (hbody:∀ (cdv:Value) (A:Around) (outer:List Env) (s:Shared) (H:Hp) (EV:XK),Room k (A.deeper (envOfC qual scope s.heap.objs.size f cdv))->PDSs (cxOf (L2.CX P w) P w K mg base N qual scope f cdv A outer s H EV) Tb EV body tb)
  (hq:∀ ds M Q E,okM M.length M->D.hbs M.length ds=true->dsp ds M Q E->tb (CutX M.length E) { nx:=fun _ M'=>Cut M.length Q .non M',rt:=Cut M.length Q } (startD N ds) M):FnD P w K mg base Tb (k+1) f fd ps dsp:=by
 refine ⟨F.ok S (fun vs H Q E h=>?_) fun cdv A outer s H vs QV EV hr h=>?_⟩
 ·obtain ⟨al,M,ds,Q,E,wf,r,q,_⟩:=h
  rw [<- r.length];exact len _ _ _ _ q
 ·obtain ⟨al,M,ds,Q,E,wf,r,q,p,px⟩:=h
  have pv:PostV K Tb al M H (Cut M.length Q) QV:=fun al' d M' v H' s' w' r' q' =>
   let ⟨m,hm,q1,q2,q3⟩:=q';p _ _ _ _ _ (stp_cut wf hm s') (wf_cut w' q2) (r'.cutH q1) q3
  refine ⟨_,hbody cdv A outer s H EV hr,al,startD N ds,M,CutX M.length E,_,⟨wf,start_ok r,fun al' y M' cls dct H' s' w' r' q'=>?_⟩,hq ds M Q E wf.okM (by rw [<- wf.len];exact r.hb) q,?_⟩
  ·obtain ⟨e1,dx,ys,e2,h1,h2⟩:=r'
   exact px _ y _ cls dct _ (stp_cut wf (Nat.le_refl _) s') (wf_cut w' q'.2.1) ⟨e1,dx,ys,e2,h1,h2.cutH q'.1⟩ q'.2.2
  ·refine ⟨fun al' rho' M' σ' H' s' w' _ q'=>?_,pv,fun _ _ _ _ _ _ _ _ q'=>q'.elim,fun _ _ _ _ _ _ _ _ q'=>q'.elim⟩
   exact pv al' .non M' .non H' s' w' rfl q'
end
abbrev dNext:TSD:=fun _ DD rho M=>DD.nx rho M
def dSeq (t u:TSD):TSD:=fun E DD rho M=>t E { DD with nx:=u E DD } rho M
abbrev dDrop (te:TED):TSD:=fun E DD rho M=>te E rho M fun _ M1=>DD.nx rho M1
abbrev dRet (te:TED):TSD:=fun E DD rho M=>te E rho M DD.rt
abbrev dIfS (c:TTD) (t u:TSD):TSD:=fun E DD rho M=>c E rho M fun b M1=>if b=true then t E DD rho M1 else u E DD rho M1
section
variable {X:Cx} {Tb:List (Addr×Str)} {EV:XK} {st:Stmt} {rest:List Stmt} {t u:TSD} {e:Expr} {te:TED} {pos:Pos}
theorem ds_nil:PDSs X Tb EV [] dNext:=pss_imp pss_nil fun DV σ H h=>by
 obtain ⟨al,rho,M,E,DD,a,t,p⟩:=h
 exact p.nx _ _ _ _ _ (Stp.refl ..) a.wf a.sl t
theorem ds_cons (h1:PDS X Tb EV st t) (h2:PDSs X Tb EV rest u):PDSs X Tb EV (st :: rest) (dSeq t u):=pss_imp (pss_cons h1 h2) fun DV σ H h=>by
 obtain ⟨al,rho,M,E,DD,a,t,p⟩:=h
 exact ⟨al,rho,M,E,_,a,t,⟨fun al' rho' M' σ' H' s w r q=>⟨al',rho',M',E,DD,⟨w,r,a.ex.mono s⟩,q,p.mono s⟩,p.rt,p.bk,p.ct⟩⟩
theorem ds_one (h1:PDS X Tb EV st t):PDSs X Tb EV [st] t:=pss_one h1
theorem dp_expr (he:PD X Tb EV e te) (hs:swapsWith e none pos.line X.env=pure false:=by rfl):PDS X Tb EV (.Expr e pos) (dDrop te):=ps_imp (ps_expr he hs) fun DV σ H h=>by
 obtain ⟨al,rho,M,E,DD,a,t,p⟩:=h
 exact seq1 a t fun al1 x M1 vx H1 s1 a1 r1 q1=>p.nx _ _ _ _ _ s1 a1.wf a1.sl q1
theorem dp_ret (he:PD X Tb EV e te):PDS X Tb EV (.Return (some e) pos) (dRet te):=ps_imp (ps_ret he) fun DV σ H h=>by
 obtain ⟨al,rho,M,E,DD,a,t,p⟩:=h
 exact ⟨al,rho,M,E,DD.rt,a,t,p.rt⟩
theorem dp_if {c:Expr} {ss us:List Stmt} {tc:TTD} (hc:PDT X Tb EV c tc) (ha:PDSs X Tb EV ss t) (hb:PDSs X Tb EV us u):PDS X Tb EV (.If c ss us pos) (dIfS tc t u):=ps_imp (ps_if hc ha hb) fun DV σ H h=>by
 obtain ⟨al,rho,M,E,DD,a,t,p⟩:=h
 refine seqT a t fun al1 k M1 H1 s1 a1 q1=>?_
 cases k with
 | true=>exact ⟨al1,rho,M1,E,DD,a1,q1,p.mono s1⟩
 | false=>exact ⟨al1,rho,M1,E,DD,a1,q1,p.mono s1⟩
end
abbrev TGD:=D->XD->Rho->Mem->(Rho->Mem->Prop)->Prop
abbrev TGsD:=List D->XD->Rho->Mem->(Rho->Mem->Prop)->Prop
def liftG (K:PySem.W.Frag) (Tb:List (Addr×Str)) (EV:XK) (t:TGD):TG:=fun v σ H QS=>∃ al rho M E d Q,At K Tb EV al σ H rho M E/\Rp K al M H d v/\t d E rho M Q/\PostS K Tb al M H Q QS
def liftGs (K:PySem.W.Frag) (Tb:List (Addr×Str)) (EV:XK) (t:TGsD):TGs:=fun vs σ H QS=>∃ al rho M E ds Q,At K Tb EV al σ H rho M E/\Rps K al M H ds vs/\t ds E rho M Q/\PostS K Tb al M H Q QS
abbrev PDG (X:Cx) (Tb:List (Addr×Str)) (EV:XK) (e:Expr) (t:TGD):Prop:=PG X e (liftG X.K Tb EV t)
abbrev PDGs (X:Cx) (Tb:List (Addr×Str)) (EV:XK) (es:List Expr) (t:TGsD):Prop:=PGs X es (liftGs X.K Tb EV t)
abbrev hName (i:Nat):TGD:=fun d _ rho M Q=>Q (rho.set i (some d)) M
abbrev hNil:TGsD:=fun ds _ rho M Q=>match ds with
 | []=>Q rho M
 | _=>False
abbrev hCons (t:TGD) (u:TGsD):TGsD:=fun ds E rho M Q=>match ds with
 | d :: r=>t d E rho M fun rho' M'=>u r E rho' M' Q
 | []=>False
def hTup (n:Nat) (t:TGsD):TGD:=fun d E rho M Q=>match d with
 | .tup xs=>xs.length=n/\t xs E rho M Q
 | _=>False
abbrev dAsg (te:TED) (g:TGD):TSD:=fun E DD rho M=>te E rho M fun x M1=>g x E rho M1 DD.nx
section
variable {X:Cx} {Tb:List (Addr×Str)} {EV:XK} {pos:Pos}
theorem dg_name (i:Nat) {x:Str} (hN:X.N.Nodup) (hi:X.N[i]?=some x:=by rfl) (hx:Loc X.env.scope x:=by first | exact Or.inl rfl | exact Or.inr rfl) (hf:X.fn x=true\/X.env.scope.names.lookup x=some .local:=by first | exact .inl rfl | exact .inr rfl | assumption):PDG X Tb EV (.Name x pos) (hName i):=by
 refine ⟨fun pins s σ H v u Q I r h=>(pg_name hN hi hx hf).run pins s σ H v u Q I r ?_⟩
 obtain ⟨al,rho,M,E,d,Q',a,rd,t,p⟩:=h
 exact p _ _ _ _ _ (Stp.refl ..) a.wf (a.sl.set i rd) t
theorem dgs_nil:PDGs X Tb EV [] hNil:=by
 refine ⟨fun pins s σ H vs us Q I r h=>pgs_nil.run pins s σ H vs us Q I r ?_⟩
 obtain ⟨al,rho,M,E,d,Q',a,rd,t,p⟩:=h
 unfold hNil at t
 split at t
 ·exact ⟨rd,p _ _ _ _ _ (Stp.refl ..) a.wf a.sl t⟩
 ·exact t.elim
theorem dgs_cons {e:Expr} {es:List Expr} {t:TGD} {u:TGsD} (h1:PDG X Tb EV e t) (h2:PDGs X Tb EV es u)
  (hs:(assignEach (e :: es) X.env).map (·.2)=assign e X.env :: (assignEach es X.env).map (·.2):=by rfl):PDGs X Tb EV (e :: es) (hCons t u):=by
 refine ⟨fun pins s σ H vs us Q I r h=>(pgs_cons h1 h2 hs).run pins s σ H vs us Q I r ?_⟩
 obtain ⟨al,rho,M,E,ds,Q',a,rd,t,p⟩:=h
 unfold hCons at t
 split at t
 ·obtain ⟨x,xs,rfl,rx,rxs⟩:=rd
  exact ⟨x,xs,rfl,al,rho,M,E,_,_,a,rx,t,fun al' rho' M' σ' H' s w r q=>⟨al',rho',M',E,_,Q',⟨w,r,a.ex.mono s⟩,rxs.mono s,q,p.mono s⟩⟩
 ·exact t.elim
theorem dg_tup {es:List Expr} {k:Nat} {t:TGsD} {n:Nat} (hc:X.calm=true) (hg:PDGs X Tb EV es t)
  (hn:(assignEach es X.env).length=n:=by rfl) (hst:(assignEach es X.env).findIdx? (·.1)=none:=by rfl):PDG X Tb EV (.Tuple es k pos) (hTup n t):=by
 refine ⟨fun pins s σ H v u Q I r h=>(pg_tup hc hg hn hst).run pins s σ H v u Q I r ?_⟩
 obtain ⟨al,rho,M,E,d,Q',a,rd,t,p⟩:=h
 unfold hTup at t
 split at t
 ·obtain ⟨b,ys,rfl,q1,q2⟩:=rd
  exact ⟨b,ys,rfl,q1.sq,by rw [<- q2.length];exact t.1,al,rho,M,E,_,Q',a,q2,t.2,p⟩
 ·exact t.elim
theorem dp_asg {tg e:Expr} {te:TED} {g:TGD} (he:PD X Tb EV e te) (hg:PDG X Tb EV tg g) (hs:swapsWithSole [tg] e pos.line X.env=pure false:=by rfl) (hw:swappedStores [tg] e X.env=pure none:=by rfl)
  (h1:(assignEach [tg] X.env).map (·.2)=[assign tg X.env]:=by rfl):PDS X Tb EV (.Assign [tg] e pos) (dAsg te g):=ps_imp (ps_asg he hg hs hw h1) fun DV σ H h=>by
 obtain ⟨al,rho,M,E,DD,a,t,p⟩:=h
 exact seq1 a t fun al1 x M1 vx H1 s1 a1 r1 q1=>⟨al1,rho,M1,E,x,_,a1,r1,q1,p.nx.mono s1⟩
theorem dp_set (i:Nat) {x:Str} {e:Expr} {te:TED} {pos':Pos} (hN:X.N.Nodup) (he:PD X Tb EV e te) (hi:X.N[i]?=some x:=by rfl) (hx:Loc X.env.scope x:=by first | exact Or.inl rfl | exact Or.inr rfl) (hs:swapsWith e (some (.Name x pos')) pos.line X.env=pure false:=by rfl) (hf:X.fn x=true\/X.env.scope.names.lookup x=some .local:=by first | exact .inl rfl | exact .inr rfl | assumption) :
  PDS X Tb EV (.Assign [.Name x pos'] e pos) (dAsg te (hName i)):=ps_imp (ps_set hN hi hx he hs hf) fun DV σ H h=>by
 obtain ⟨al,rho,M,E,DD,a,t,p⟩:=h
 exact seq1 a t fun al1 x M1 vx H1 s1 a1 r1 q1=>p.nx _ _ _ _ _ s1 a1.wf (a1.sl.set i r1) q1
abbrev dPar (i j:Nat) (ta:TAD):TSD:=fun E DD rho M=>ta E rho M fun ds M1=>match ds with
 | [d,d']=>DD.nx ((rho.set i (some d)).set j (some d')) M1
 | _=>False
theorem dp_par (i j:Nat) {x y:Str} {a b:Expr} {ta:TAD} {px py pt:Pos} {kt k2 pt2} (hc:X.calm=true) (hN:X.N.Nodup) (ha:PDA X Tb EV [a,b] ta)
  (hw:swappedStores [.Tuple [.Name x px,.Name y py] kt pt] (.Tuple [a,b] k2 pt2) X.env=pure (some [x,y])) (hi:X.N[i]?=some x:=by rfl) (hj:X.N[j]?=some y:=by rfl) (hij:i≠j:=by decide)
  (hx:X.env.scope.names.lookup x=some .local:=by rfl) (hy:X.env.scope.names.lookup y=some .local:=by rfl)
  (hs:swapsWithSole [.Tuple [.Name x px,.Name y py] kt pt] (.Tuple [a,b] k2 pt2) pos.line X.env=pure false:=by rfl) :
  PDS X Tb EV (.Assign [.Tuple [.Name x px,.Name y py] kt pt] (.Tuple [a,b] k2 pt2) pos) (dPar i j ta):=ps_imp (ps_par hc hN hi hj hij hx hy ha hw hs) fun DV σ H h=>by
 obtain ⟨al,rho,M,E,DD,a,t,p⟩:=h
 refine seqA a t fun al1 ds M1 vs H1 s1 a1 r1 q1=>?_
 split at q1
 ·rename_i d d'
  obtain ⟨v,r,rfl,rv,v',r',rfl,rv',e⟩:=r1
  cases (show _=[] from e)
  exact ⟨v,v',rfl,p.nx _ _ _ _ _ s1 a1.wf ((a1.sl.set i rv).set j rv') q1⟩
 ·exact q1.elim
def dAug (i:Nat) (te:TED) (r:RD2):TSD:=fun E DD rho M=>match rho[i]? with
 | some (some x)=>te E rho M fun y M1=>r x y M1 fun z M2=>DD.nx (rho.set i (some z)) M2
 | _=>False
theorem dp_aug (i:Nat) {x:Str} {e:Expr} {te:TED} {op:Operator} {r:R2} {rD:RD2} {pos':Pos} (hN:X.N.Nodup) (he:PD X Tb EV e te) (ho:OpR X (inplaceOp op) r) (hr:RefOp X.K Tb r rD) (hi:X.N[i]?=some x:=by rfl) (hx:Loc X.env.scope x:=by first | exact Or.inl rfl | exact Or.inr rfl) (hf:X.fn x=true\/X.env.scope.names.lookup x=some .local:=by first | exact .inl rfl | exact .inr rfl | assumption) :
  PDS X Tb EV (.AugAssign (.Name x pos') op e pos) (dAug i te rD):=ps_imp (ps_aug (ti:=r) hN hi hx he ho hf) fun DV σ H h=>by
 obtain ⟨al,rho,M,E,DD,a,t,p⟩:=h
 unfold dAug at t
 split at t
 ·rename_i d e
  obtain ⟨v,e1,rv⟩:=a.sl.2 i d e
  refine ⟨v,e1,seq1 a t fun al1 y M1 vy H1 s1 a1 r1 q1=>hr _ _ _ _ _ _ _ _ _ a1.wf (rv.mono s1) r1 q1 fun al2 z M2 vz H2 s2 w2 r2 q2=>?_⟩
  exact p.nx _ _ _ _ _ (s1.trans s2) w2 ((a1.sl.mono s2).set i r2) q2
 ·exact t.elim
theorem dp_augAdd (i:Nat) {x:Str} {e:Expr} {te:TED} {pos':Pos} (hN:X.N.Nodup) (he:PD X Tb EV e te) (hi:X.N[i]?=some x:=by rfl) (hx:Loc X.env.scope x:=by first | exact Or.inl rfl | exact Or.inr rfl) (hf:X.fn x=true\/X.env.scope.names.lookup x=some .local:=by first | exact .inl rfl | exact .inr rfl | assumption) :
  PDS X Tb EV (.AugAssign (.Name x pos') .Add e pos) (dAug i te (rInt0D fun i j=>.int (i+j))):=dp_aug i hN he iop_add (ref_int0 fun _ _ _ _ _=>rfl) hi hx hf
def hSub (to ti:TED):TGD:=fun d E rho M Q=>to E rho M fun o M1=>ti E rho M1 fun i M2=>match o,i with
 | .mt n,.int k=>match memL M2 n with
  | some xs=>(match ixN xs.length k with
   | some j=>Q rho (M2.set n (some (.lst (xs.set j d))))
   | none=>False)
  | none=>False
 | _,_=>False
theorem lst_not_code {xs:List V} {c:Addr} {q:Str}:HO.lst xs≠LamX.CodeO c q:=fun z=>by unfold LamX.CodeO at z;cases z
theorem set_lst {K:PySem.W.Frag} {al:Al} {M:Mem} {H:Hp} {a:Addr} {n:Nat} {ds:List D} {xs ys:List V} {es:List D} (w:Wf K Tb al H M) (hi:al.a[n]?=some a) (hm:M[n]?=some (some (.lst ds))) (hH:H a=some (.lst xs)) (r:Rps K al M H es ys) :
  Stp al M H al (M.set n (some (.lst es))) (upd H a (.lst ys))/\Wf K Tb al (upd H a (.lst ys)) (M.set n (some (.lst es))) :=
 have s:Stp al M H al (M.set n (some (.lst es))) (upd H a (.lst ys)):=stp_set w hi hm _
 ⟨s,wf_set w hi hm (fun _ z=>by cases z) ⟨ys,upd_same,r.mono s⟩ fun c q z=>lst_not_code (Option.some.inj (hH.symm.trans z))⟩
theorem dg_sub {o i:Expr} {to ti:TED} (ho:PD X Tb EV o to) (hi:PD X Tb EV i ti)
  (ha:∀ v,assign (.Subscript o i pos) X.env v=(do
   let ov <- holding [v] (eval o X.env)
   let iv <- holding [v,ov] (eval i X.env)
   standAt pos
   holding [v,ov,iv] (setItem ov iv v)
   release [v,ov,iv] []):=by intro _;rfl):PDG X Tb EV (.Subscript o i pos) (hSub to ti):=by
 refine ⟨fun pins s σ H v u Q I r h=>(pg_sub ho hi set_list ha).run pins s σ H v u Q I r ?_⟩
 obtain ⟨al,rho,M,E,d,Q',a,rd,t,p⟩:=h
 refine seq1 a t fun al1 o M1 vo H1 s1 a1 r1 q1=>seq1 a1 q1 fun al2 i M2 vi H2 s2 a2 r2 q2=>?_
 split at q2
 ·rename_i n k
  split at q2
  ·rename_i xs e1
   split at q2
   ·rename_i j e2
    obtain ⟨b,ys,rfl,hb,hm,hH,rr⟩:=memL_ok a2.wf e1 (r1.mono s2)
    obtain ⟨g1,g2⟩:=set_lst a2.wf hb hm hH (rr.set j (rd.mono (s1.trans s2)))
    exact ⟨b,ys,k,j,rfl,r2,hH,by rw [<- rr.length];exact e2,p _ _ _ _ _ ((s1.trans s2).trans g1) g2 (a2.sl.mono g1) q2⟩
   ·exact q2.elim
  ·exact q2.elim
 ·exact q2.elim
end
def whU (c:TTD) (tb:TSD):Nat->TSD
 | 0=>fun _ _ _ _=>False
 | n+1=>fun E DD rho M=>c E rho M fun b M1=>if b=true then tb E { DD with nx:=whU c tb n E DD,ct:=whU c tb n E DD,bk:=DD.nx } rho M1 else DD.nx rho M1
def dWhile (c:TTD) (tb:TSD):TSD:=fun E DD rho M=>∃ n,whU c tb n E DD rho M
theorem dp_while {X:Cx} {Tb:List (Addr×Str)} {EV:XK} {pos:Pos} {c:Expr} {body:List Stmt} {tc:TTD} {tb:TSD} (hp:PassesOwn (model X.prog X.w) X.A X.env X.xe) (hc:PDT X Tb EV c tc) (hb:PDSs X Tb EV body tb):PDS X Tb EV (.While c body [] pos) (dWhile tc tb):=ps_imp (ps_while hp hc hb) fun DV σ H h=>by
 obtain ⟨al,rho,M,E,DD,a,⟨n,t⟩,p⟩:=h
 refine ⟨fun m σ' H'=>∃ al' rho' M',Stp al M H al' M' H'/\At X.K Tb EV al' σ' H' rho' M' E/\whU tc tb m E DD rho' M',⟨n,al,rho,M,Stp.refl ..,a,t⟩,?_⟩
 rintro m σ' H' ⟨al',rho',M',s',a',t'⟩
 cases m with
 | zero=>exact t'.elim
 | succ m =>
  refine seqT a' t' fun al1 k M1 H1 s1 a1 q1=>?_
  cases k with
  | true =>
   refine ⟨fun σ2 H2=>∃ al2 rho2 M2,Stp al M H al2 M2 H2/\At X.K Tb EV al2 σ2 H2 rho2 M2 E/\whU tc tb m E DD rho2 M2,fun σ2 H2 h2=>⟨m,Nat.lt_succ_self m,h2⟩,al1,rho',M1,E,_,a1,q1,?_⟩
   have st:=s'.trans s1
   exact ⟨fun al2 rho2 M2 σ2 H2 s2 w2 r2 q2=>⟨al2,rho2,M2,st.trans s2,⟨w2,r2,a1.ex.mono s2⟩,q2⟩,p.rt.mono st,p.nx.mono st,fun al2 rho2 M2 σ2 H2 s2 w2 r2 q2=>⟨al2,rho2,M2,st.trans s2,⟨w2,r2,a1.ex.mono s2⟩,q2⟩⟩
  | false=>exact p.nx _ _ _ _ _ (s'.trans s1) a1.wf a1.sl q1
structure Stw (al:Al) (M:Mem) (H:Hp) (al':Al) (M':Mem) (H':Hp):Prop where
 pre:∀ (i:Nat) (a:Addr),al.a[i]?=some a->al'.a[i]?=some a
 fz:∀ a o,H a=some o->(∀ ps,o≠.tbl ps)->Fz al M a->H' a=some o/\Fz al' M' a
 hid:∀ a∈al.h,a∈al'.h/\H' a=H a
theorem Stp.stw {al al':Al} {M M':Mem} {H H':Hp} (s:Stp al M H al' M' H'):Stw al M H al' M' H':=⟨s.pre,s.fz,fun a ha=>⟨by rw [s.hh];exact ha,s.hid a ha⟩⟩
theorem Stw.stp {al al1 al2:Al} {M M1 M2:Mem} {H H1 H2:Hp} (a:Stw al M H al1 M1 H1) (b:Stp al1 M1 H1 al2 M2 H2):Stw al M H al2 M2 H2 :=
 ⟨fun i x h=>b.pre i x (a.pre i x h),fun x o h n f=>b.fz x o (a.fz x o h n f).1 n (a.fz x o h n f).2,fun x hx=>⟨by rw [b.hh];exact (a.hid x hx).1,(b.hid x (a.hid x hx).1).trans (a.hid x hx).2⟩⟩
theorem SqTz.monow {K:PySem.W.Frag} {al al':Al} {M M':Mem} {H H':Hp} {a:Addr} {xs:List V} (s:Stw al M H al' M' H') (h:SqTz K al M H a xs):SqTz K al' M' H' a xs:=by
 rcases h with ⟨h,f⟩ | h
 ·exact .inl ⟨(s.fz _ _ h (fun _ z=>by cases z) f).1,(s.fz _ _ h (fun _ z=>by cases z) f).2⟩
 ·exact .inr h
theorem SqLz.monow {K:PySem.W.Frag} {al al':Al} {M M':Mem} {H H':Hp} {a:Addr} {xs:List V} (s:Stw al M H al' M' H') (h:SqLz K al M H a xs):SqLz K al' M' H' a xs:=by
 rcases h with ⟨h | ⟨o,h⟩,f⟩ | h
 ·exact .inl ⟨.inl (s.fz _ _ h (fun _ z=>by cases z) f).1,(s.fz _ _ h (fun _ z=>by cases z) f).2⟩
 ·exact .inl ⟨.inr ⟨o,(s.fz _ _ h (fun _ z=>by cases z) f).1⟩,(s.fz _ _ h (fun _ z=>by cases z) f).2⟩
 ·exact .inr h
mutual
theorem Rp.monow {K:PySem.W.Frag} {al al':Al} {M M':Mem} {H H':Hp} (s:Stw al M H al' M' H'):∀ {d:D} {v:V},Rp K al M H d v->Rp K al' M' H' d v
 | .non,_,h=>h
 | .bl _,_,h=>h
 | .int _,_,h=>h
 | .str _,_,h=>h
 | .ty _,_,h=>h
 | .tup ds,_,h=>by
  obtain ⟨a,xs,e,q,r⟩:=h
  exact ⟨a,xs,e,q.monow s,Rps.monow s r⟩
 | .lst ds,_,h=>by
  obtain ⟨a,xs,e,q,f,r⟩:=h
  exact ⟨a,xs,e,(s.fz _ _ q (fun _ z=>by cases z) f).1,(s.fz _ _ q (fun _ z=>by cases z) f).2,Rps.monow s r⟩
 | .rol ds,_,h=>by
  obtain ⟨a,xs,e,q,r⟩:=h
  exact ⟨a,xs,e,q.monow s,Rps.monow s r⟩
 | .obj C ns ds,_,h=>by
  obtain ⟨a,dx,xs,e,q,f,l,r⟩:=h
  exact ⟨a,dx,xs,e,(s.fz _ _ q (fun _ z=>by cases z) f).1,(s.fz _ _ q (fun _ z=>by cases z) f).2,l,Rps.monow s r⟩
 | .dk C ds,_,h=>by
  obtain ⟨a,dx,xs,e,q,f,l,r⟩:=h
  exact ⟨a,dx,xs,e,(s.fz _ _ q (fun _ z=>by cases z) f).1,(s.fz _ _ q (fun _ z=>by cases z) f).2,l,Rps.monow s r⟩
 | .dt C ds,_,h=>by
  obtain ⟨a,dx,xs,e,q,f,l,r⟩:=h
  exact ⟨a,dx,xs,e,(s.fz _ _ q (fun _ z=>by cases z) f).1,(s.fz _ _ q (fun _ z=>by cases z) f).2,l,Rps.monow s r⟩
 | .exc C ns ds,_,h=>by
  obtain ⟨a,dx,xs,e,q,f,q2,f2,l,r⟩:=h
  exact ⟨a,dx,xs,e,(s.fz _ _ q (fun _ z=>by cases z) f).1,(s.fz _ _ q (fun _ z=>by cases z) f).2,(s.fz _ _ q2 (fun _ z=>by cases z) f2).1,(s.fz _ _ q2 (fun _ z=>by cases z) f2).2,l,Rps.monow s r⟩
 | .lam _ _,_,h=>⟨h.1,fun x hx=>s.fz _ _ (h.2 x hx).1 (fun _ z=>by cases z) (h.2 x hx).2⟩
 | .ref _,_,h=>h
 | .mt i,_,h=>by
  obtain ⟨a,e,q⟩:=h
  exact ⟨a,s.pre _ _ e,q⟩
theorem Rps.monow {K:PySem.W.Frag} {al al':Al} {M M':Mem} {H H':Hp} (s:Stw al M H al' M' H'):∀ {ds:List D} {xs:List V},Rps K al M H ds xs->Rps K al' M' H' ds xs
 | [],_,h=>h
 | d :: ds,_,h=>by
  obtain ⟨x,r,e,q,t⟩:=h
  exact ⟨x,r,e,Rp.monow s q,Rps.monow s t⟩
end
structure ItOk (K:PySem.W.Frag) (Tb:List (Addr×Str)) (al:Al) (M:Mem) (H:Hp) (J:It) (ds:List D):Prop where
 stop:∀ al1 M1 H1,Stw al M H al1 M1 H1->Wf K Tb al1 H1 M1->J.stop ds.length H1
 go:∀ al1 M1 H1,Stw al M H al1 M1 H1->Wf K Tb al1 H1 M1->∀ (i:Nat) (d:D),ds[i]?=some d->J.go i H1
 yld:∀ al1 M1 H1,Stw al M H al1 M1 H1->Wf K Tb al1 H1 M1->∀ (i:Nat) (d:D) x H2,ds[i]?=some d->J.yld i H1 x H2->Stp al1 M1 H1 al1 M1 H2/\Wf K Tb al1 H2 M1/\Rp K al1 M1 H2 d x
abbrev TID:=XD->Rho->Mem->(List D->Mem->Prop)->Prop
def liftI (K:PySem.W.Frag) (Tb:List (Addr×Str)) (EV:XK) (t:TID):TI:=fun σ H R=>∃ al rho M E Q,At K Tb EV al σ H rho M E/\t E rho M Q /\
 ∀ al' ds M' H' J,Stp al M H al' M' H'->Wf K Tb al' H' M'->ItOk K Tb al' M' H' J ds->Q ds M'->R J H'
abbrev PDI (X:Cx) (Tb:List (Addr×Str)) (EV:XK) (tg iter:Expr) (t:TID):Prop:=PI X tg iter (liftI X.K Tb EV t)
section
variable {K:PySem.W.Frag} {Tb:List (Addr×Str)} {al:Al} {M:Mem} {H:Hp}
theorem it_list {a:Addr} {ds:List D} {xs:List V} (h:SqLz K al M H a xs) (r:Rps K al M H ds xs):ItOk K Tb al M H (Itl K a) ds where
 stop:=fun al1 M1 H1 s w=>⟨xs,(h.monow s).sq,by rw [r.length];exact Nat.le_refl _⟩
 go:=fun al1 M1 H1 s w i d e=>by
  obtain ⟨x,ex,_⟩:=r.get e
  exact ⟨xs,x,(h.monow s).sq,ex⟩
 yld:=fun al1 M1 H1 s w i d x H2 e y=>by
  obtain ⟨rfl,y⟩:=y
  obtain ⟨z,ez,rz⟩:=r.get e
  have:=(y xs (h.monow s).sq).symm.trans ez
  cases this
  exact ⟨Stp.refl ..,w,rz.monow s⟩
theorem it_tup {a:Addr} {ds:List D} {xs:List V} (h:SqTz K al M H a xs) (r:Rps K al M H ds xs):ItOk K Tb al M H (Itt K a) ds where
 stop:=fun al1 M1 H1 s w=>⟨xs,(h.monow s).sq,by rw [r.length];exact Nat.le_refl _⟩
 go:=fun al1 M1 H1 s w i d e=>by
  obtain ⟨x,ex,_⟩:=r.get e
  exact ⟨xs,x,(h.monow s).sq,ex⟩
 yld:=fun al1 M1 H1 s w i d x H2 e y=>by
  obtain ⟨rfl,y⟩:=y
  obtain ⟨z,ez,rz⟩:=r.get e
  have:=(y xs (h.monow s).sq).symm.trans ez
  cases this
  exact ⟨Stp.refl ..,w,rz.monow s⟩
def rangeD (lo:Int) (n:Nat):List D:=(List.range n).map fun i=>D.int (lo+(i:Nat))
theorem it_range {lo:Int} {n:Nat}:ItOk K Tb al M H (Itr lo n) (rangeD lo n) where
 stop:=fun al1 M1 H1 s w=>by show n<=(rangeD lo n).length;simp [rangeD]
 go:=fun al1 M1 H1 s w i d e=>by
  have:=(List.getElem?_eq_some_iff.mp e).1
  show i < n
  simpa [rangeD] using this
 yld:=fun al1 M1 H1 s w i d x H2 e y=>by
  obtain ⟨rfl,rfl⟩:=y
  refine ⟨Stp.refl ..,w,?_⟩
  have hi:=(List.getElem?_eq_some_iff.mp e).1
  simp [rangeD] at hi
  simp [rangeD,hi] at e
  subst e
  rfl
theorem it_str {z:Str}:ItOk K Tb al M H (Its z) (signsD z) where
 stop:=fun al1 M1 H1 s w=>by show z.cps.size<=(signsD z).length;simp [signsD]
 go:=fun al1 M1 H1 s w i d e=>by
  have:=(List.getElem?_eq_some_iff.mp e).1
  show i < z.cps.size
  simpa [signsD] using this
 yld:=fun al1 M1 H1 s w i d x H2 e y=>by
  obtain ⟨rfl,c,ec,rfl⟩:=y
  refine ⟨Stp.refl ..,w,?_⟩
  simp [signsD,ec] at e
  subst e
  rfl
end
abbrev iSeq (t:TED):TID:=fun E rho M Q=>t E rho M fun x M1=>match x with
 | .lst xs=>Q xs M1
 | .rol xs=>Q xs M1
 | .tup xs=>Q xs M1
 | .str z=>Q (signsD z) M1
 | _=>False
def iRange1 (t:TAD):TID:=fun E rho M Q=>t E rho M fun ds M1=>match ds with
 | [.int j]=>(-(2 ^ 62)<=j/\j < 2 ^ 62)/\Q (rangeD 0 j.toNat) M1
 | _=>False
def iRange2 (t:TAD):TID:=fun E rho M Q=>t E rho M fun ds M1=>match ds with
 | [.int i,.int j]=>(-(2 ^ 62)<=i/\i < 2 ^ 62/\-(2 ^ 62)<=j/\j < 2 ^ 62)/\Q (rangeD i (j - i).toNat) M1
 | _=>False
section
variable {X:Cx} {Tb:List (Addr×Str)} {EV:XK} {tg:Expr}
theorem di_seq {l:Expr} {tl:TED} (hl:PD X Tb EV l tl):PDI X Tb EV tg l (iSeq tl):=by
 refine ⟨fun pins s σ H R I h=>?_⟩
 obtain ⟨al,rho,M,E,Q,a,t,p⟩:=h
 refine thn (hl.run pins s σ H _ I (seq1 a t fun al1 x M1 vx H1 s1 a1 r1 q1=>(show (∃ z,vx = .str z/\R (Its z) H1)\/∃ a,vx = .ref a/\(((∃ xs,SqL X.K H1 a xs)/\R (Itl X.K a) H1)\/((∃ xs,SqT X.K H1 a xs)/\R (Itt X.K a) H1)) from ?_))) fun v s1 ⟨x,H1,I1,r1,q1⟩=>?_
 ·split at q1
  ·obtain ⟨b,ys,rfl,h1,h2,h3⟩:=r1
   exact .inr ⟨b,rfl,.inl ⟨⟨ys,SqL.of h1⟩,p _ _ _ _ _ s1 a1.wf (it_list (.inl ⟨.inl h1,h2⟩) h3) q1⟩⟩
  ·obtain ⟨b,ys,rfl,h1,h3⟩:=r1
   exact .inr ⟨b,rfl,.inl ⟨⟨ys,h1.sq⟩,p _ _ _ _ _ s1 a1.wf (it_list h1 h3) q1⟩⟩
  ·obtain ⟨b,ys,rfl,h1,h3⟩:=r1
   exact .inr ⟨b,rfl,.inr ⟨⟨ys,h1.sq⟩,p _ _ _ _ _ s1 a1.wf (it_tup h1 h3) q1⟩⟩
  ·rename_i z
   exact .inl ⟨z,r1,p _ _ _ _ _ s1 a1.wf it_str q1⟩
  ·exact q1.elim
 ·rcases q1 with ⟨z,e,q⟩ | ⟨a,e,⟨⟨xs,hq⟩,q⟩ | ⟨⟨xs,hq⟩,q⟩⟩
  ·subst e
   obtain ⟨t,rfl⟩:=r1
   cases ha:z.cps.all (· < 128)
   ·exact wpAny_pyIter_wide ha (pi_one (tk:=s1.toks) I1 _ (turn_str _ z t "str_iterator" (.inr rfl)) ⟨_,Heap.get?_push_size _ rfl,rfl,rfl⟩ q)
   ·exact wpAny_pyIter_ascii ha (pi_one (tk:=s1.toks) I1 _ (turn_str _ z t "str_ascii_iterator" (.inl rfl)) ⟨_,Heap.get?_push_size _ rfl,rfl,rfl⟩ q)
  ·subst e
   cases r1
   obtain ⟨its,rv,p,hz⟩:=I1.list hq
   refine wpAny_pyIter_list p.isList ?_
   refine ⟨s1.heap.objs.size,[s1.heap.objs.size],_,_,H1,rfl,I1.kept (t':=s1.toks) fun b o e=>Heap.get?_push_of_some _ e,turn_list a _,⟨_,Heap.get?_push_size _ rfl,rfl,rfl⟩,fun b hb=>?_,q⟩
   have e:b=s1.heap.objs.size:=by simpa using hb
   subst e
   exact I1.fpOk (Nat.le_refl _) (I1.hok.fresh (Nat.le_refl _))
  ·subst e
   cases r1
   obtain ⟨its,rv,p,hz⟩:=I1.tuple hq
   refine wpAny_pyIter_tuple (show s1.heap.IsTuple a its.toArray from p) ?_
   refine ⟨s1.heap.objs.size,[s1.heap.objs.size],_,_,H1,rfl,I1.kept (t':=s1.toks) fun b o e=>Heap.get?_push_of_some _ e,turn_tuple a _,⟨_,Heap.get?_push_size _ rfl,rfl,rfl⟩,fun b hb=>?_,q⟩
   have e:b=s1.heap.objs.size:=by simpa using hb
   subst e
   exact I1.fpOk (Nat.le_refl _) (I1.hok.fresh (Nat.le_refl _))
theorem pi_imp {iter:Expr} {t t':TI} (h:PI X tg iter t) (w:∀ σ H R,t' σ H R->t σ H R):PI X tg iter t':=⟨fun pins s σ H R I q=>h.run pins s σ H R I (w σ H R q)⟩
theorem Rps.two {K:PySem.W.Frag} {al:Al} {M:Mem} {H:Hp} {d d':D} {vs:List V} (r:Rps K al M H [d,d'] vs):∃ v v',vs=[v,v']/\Rp K al M H d v/\Rp K al M H d' v':=by
 obtain ⟨v,w,rfl,r,r2⟩:=r
 obtain ⟨v',rfl,r3⟩:=r2.one
 exact ⟨v,v',rfl,r,r3⟩
theorem di_range1 {a:Expr} {ta:TAD} {p pos:Pos} (hg:Gl X "range") (hm:X.mg "range"=none) (ha:PDA X Tb EV [a] ta) (hs:starEach [a] X.env=[(false,eval a X.env)]:=by rfl):PDI X Tb EV tg (.Call (.Name "range" p) [a] [] pos) (iRange1 ta) :=
 pi_imp (pi_range1 hg hm ha hs) fun σ H R h=>by
  obtain ⟨al,rho,M,E,Q,a,t,p⟩:=h
  refine seqA a t fun al1 ds M1 vs H1 s1 a1 r1 q1=>?_
  split at q1
  ·rename_i j
   obtain ⟨v,rfl,rfl⟩:=r1.one
   exact ⟨j,rfl,q1.1.1,q1.1.2,p _ _ _ _ _ s1 a1.wf it_range q1.2⟩
  ·exact q1.elim
theorem di_range2 {a b:Expr} {ta:TAD} {p pos:Pos} (hg:Gl X "range") (hm:X.mg "range"=none) (ha:PDA X Tb EV [a,b] ta) (hs:starEach [a,b] X.env=[(false,eval a X.env),(false,eval b X.env)]:=by rfl) (hs2:starEach [b] X.env=[(false,eval b X.env)]:=by rfl):PDI X Tb EV tg (.Call (.Name "range" p) [a,b] [] pos) (iRange2 ta) :=
 pi_imp (pi_range2 hg hm ha hs hs2) fun σ H R h=>by
  obtain ⟨al,rho,M,E,Q,a,t,p⟩:=h
  refine seqA a t fun al1 ds M1 vs H1 s1 a1 r1 q1=>?_
  split at q1
  ·rename_i i j
   obtain ⟨v,v',rfl,rfl,rfl⟩:=r1.two
   exact ⟨i,j,rfl,q1.1,p _ _ _ _ _ s1 a1.wf it_range q1.2⟩
  ·exact q1.elim
end
def forU (g:TGD) (tb:TSD):List D->TSD
 | []=>fun _ DD rho M=>DD.nx rho M
 | d :: r=>fun E DD rho M=>g d E rho M fun rho' M'=>tb E { DD with nx:=forU g tb r E DD,ct:=forU g tb r E DD,bk:=DD.nx } rho' M'
abbrev dFor (it:TID) (g:TGD) (tb:TSD):TSD:=fun E DD rho M=>it E rho M fun ds M1=>forU g tb ds E DD rho M1
theorem dp_for {X:Cx} {Tb:List (Addr×Str)} {EV:XK} {tg iter:Expr} {body:List Stmt} {it:TID} {g:TGD} {tb:TSD} {pos:Pos} (hp:PassesOwn (model X.prog X.w) X.A X.env X.xe) (hc:X.calm=true) (hi:PDI X Tb EV tg iter it) (hg:PDG X Tb EV tg g) (hb:PDSs X Tb EV body tb)
  (hs:∀ x,foldedSetIterable iter X.env x=pure x:=by intro _;rfl):PDS X Tb EV (.For tg iter body [] pos) (dFor it g tb):=ps_imp (ps_for hp hc hi hg hb hs) fun DV σ H h=>by
 obtain ⟨al,rho,M,E,DD,a,t,p⟩:=h
 refine ⟨al,rho,M,E,_,a,t,fun al0 ds M0 H0 J s0 w0 ok q=>?_⟩
 refine ⟨fun i m σ1 H1=>m=ds.length - i/\i<=ds.length/\∃ al1 rho1 M1,Stp al0 M0 H0 al1 M1 H1/\At X.K Tb EV al1 σ1 H1 rho1 M1 E/\forU g tb (ds.drop i) E DD rho1 M1,⟨ds.length,by simp,Nat.zero_le _,al0,rho,M0,Stp.refl ..,a.go s0 w0,by simpa using q⟩,?_⟩
 rintro i m σ1 H1 ⟨rfl,hi,al1,rho1,M1,s1,a1,t1⟩
 by_cases hlt:i < ds.length
 ·have e:ds[i]?=some ds[i]:=by simp [hlt]
  have ed:ds.drop i=ds[i] :: ds.drop (i+1):=List.drop_eq_getElem_cons hlt
  rw [ed] at t1
  refine .inr ⟨ok.go _ _ _ s1.stw a1.wf i _ e,fun σ2 H2=>∃ al2 rho2 M2,Stp al0 M0 H0 al2 M2 H2/\At X.K Tb EV al2 σ2 H2 rho2 M2 E/\forU g tb (ds.drop (i+1)) E DD rho2 M2,fun σ2 H2 h2=>⟨ds.length - (i+1),by omega,rfl,hlt,h2⟩,fun x H2 y=>?_⟩
  obtain ⟨s2,w2,r2⟩:=ok.yld _ _ _ s1.stw a1.wf i _ x H2 e y
  have a2:=a1.go s2 w2
  have st:=s0.trans (s1.trans s2)
  refine ⟨al1,rho1,M1,E,_,_,a2,r2,t1,fun al3 rho3 M3 σ3 H3 s3 w3 r3 q3=>⟨al3,rho3,M3,E,_,⟨w3,r3,a2.ex.mono s3⟩,q3,?_⟩⟩
  have st3:=st.trans s3
  exact ⟨fun al4 rho4 M4 σ4 H4 s4 w4 r4 q4=>⟨al4,rho4,M4,(s1.trans s2).trans (s3.trans s4),⟨w4,r4,(a2.ex.mono s3).mono s4⟩,q4⟩,p.rt.mono st3,p.nx.mono st3,fun al4 rho4 M4 σ4 H4 s4 w4 r4 q4=>⟨al4,rho4,M4,(s1.trans s2).trans (s3.trans s4),⟨w4,r4,(a2.ex.mono s3).mono s4⟩,q4⟩⟩
 ·have e:i=ds.length:=by omega
  subst e
  refine .inl ⟨ok.stop _ _ _ s1.stw a1.wf,?_⟩
  simp [forU] at t1
  exact p.nx _ _ _ _ _ (s0.trans s1) a1.wf a1.sl t1
def wipeD (rho:Rho):List Nat->Rho
 | []=>rho
 | v :: vs=>(wipeD rho vs).set v none
theorem wipe_ok {K:PySem.W.Frag} {al:Al} {M:Mem} {H:Hp} {σ:L2.St} {rho:Rho} (h:RpS K al M H σ rho):∀ vs:List Nat,RpS K al M H (wipe σ vs) (wipeD rho vs)
 | []=>h
 | v :: vs=>by
  show RpS K al M H ((wipe σ vs).set v none) ((wipeD rho vs).set v none)
  exact (wipe_ok h vs).wipe1 v
theorem wipe_in {σ:L2.St} {i:Nat}:∀ {vs:List Nat},i∈vs->i < σ.length->(wipe σ vs)[i]?=some none
 | v :: vs,h,hl=>by
  show ((wipe σ vs).set v none)[i]?=some none
  by_cases e:v=i
  ·subst e
   rw [List.getElem?_set_self (by rw [wipe_length];exact hl)]
  ·rw [List.getElem?_set_ne e]
   exact wipe_in ((List.mem_cons.mp h).resolve_left fun z=>e z.symm) hl
theorem wipe_set {σ:L2.St} {i:Nat} {v:Option V} {vs:List Nat} (hi:i∈vs):wipe (σ.set i v) vs=wipe σ vs:=by
 apply List.ext_getElem?
 intro j
 by_cases hj:j∈vs
 ·by_cases hl:j < σ.length
  ·rw [wipe_in hj (by simpa using hl),wipe_in hj hl]
  ·rw [List.getElem?_eq_none (by rw [wipe_length];simp;omega),List.getElem?_eq_none (by rw [wipe_length];omega)]
 ·rw [wipe_out hj,wipe_out hj,List.getElem?_set_ne (fun (z:i=j)=>hj (z ▸ hi))]
theorem wipe_wipe {σ:L2.St}:∀ {vs ws:List Nat},(∀ i∈ws,i∈vs)->wipe (wipe σ ws) vs=wipe σ vs
 | vs,[],_=>rfl
 | vs,w :: ws,h=>by
  show wipe ((wipe σ ws).set w none) vs=wipe σ vs
  rw [wipe_set (h w (by simp)),wipe_wipe fun i hi=>h i (by simp [hi])]
def TgN (K:PySem.W.Frag) (gV:TG) (gD:TGD) (vs:List Nat):Prop:=∀ al rho M E d x σ H Q QS,RpS K al M H σ rho->Rp K al M H d x->gD d E rho M Q->(∀ σ' rho',wipe σ' vs=wipe σ vs->RpS K al M H σ' rho'->Q rho' M->QS σ' H)->gV x σ H QS
theorem tgn_name {K:PySem.W.Frag} {i:Nat} {vs:List Nat} (hi:i∈vs):TgN K (gName i) (hName i) vs:=fun al rho M E d x σ H Q QS a r t k =>
 k _ _ (wipe_set hi) (a.set i r) t
def TgNs (K:PySem.W.Frag) (gV:TGs) (gD:TGsD) (vs:List Nat):Prop:=∀ al rho M E ds xs σ H Q QS,RpS K al M H σ rho->Rps K al M H ds xs->gD ds E rho M Q->(∀ σ' rho',wipe σ' vs=wipe σ vs->RpS K al M H σ' rho'->Q rho' M->QS σ' H)->gV xs σ H QS
theorem tgns_nil {K:PySem.W.Frag} {vs:List Nat}:TgNs K gNil hNil vs:=fun al rho M E ds xs σ H Q QS a r t k=>by
 unfold hNil at t
 split at t
 ·exact ⟨r,k _ _ rfl a t⟩
 ·exact t.elim
theorem tgns_cons {K:PySem.W.Frag} {vs:List Nat} {g:TG} {gD:TGD} {u:TGs} {uD:TGsD} (h1:TgN K g gD vs) (h2:TgNs K u uD vs):TgNs K (gCons g u) (hCons gD uD) vs:=fun al rho M E ds xs σ H Q QS a r t k=>by
 unfold hCons at t
 split at t
 ·obtain ⟨x,ys,rfl,rx,rys⟩:=r
  exact ⟨x,ys,rfl,h1 _ _ _ _ _ _ _ _ _ _ a rx t fun σ' rho' e1 a1 t1=>h2 _ _ _ _ _ _ _ _ _ _ a1 rys t1 fun σ2 rho2 e2 a2 t2=>k _ _ (e2.trans e1) a2 t2⟩
 ·exact t.elim
theorem tgn_tup {K:PySem.W.Frag} {n:Nat} {vs:List Nat} {u:TGs} {uD:TGsD} (h:TgNs K u uD vs):TgN K (gTup K n u) (hTup n uD) vs:=fun al rho M E d x σ H Q QS a r t k=>by
 unfold hTup at t
 split at t
 ·obtain ⟨b,ys,rfl,q1,q2⟩:=r
  exact ⟨b,ys,rfl,q1.sq,by rw [<- q2.length];exact t.1,h _ _ _ _ _ _ _ _ _ _ a q2 t.2 k⟩
 ·exact t.elim
def lcU (g:TGD) (tt:TTD) (te:TED) (vs:List Nat):List D->List D->Rho->Mem->VD->Prop
 | [],acc=>fun _ M Q=>Q (.lst acc) M
 | d :: r,acc=>fun rho M Q=>g d noE (wipeD rho vs) M fun rho' M1=>tt noE rho' M1 fun b M2=>if b=true then te noE rho' M2 (fun y M3=>acc.length < sizeLine/\lcU g tt te vs r (acc ++ [y]) rho M3 Q) else lcU g tt te vs r acc rho M2 Q
abbrev dLc (it:TID) (g:TGD) (tt:TTD) (te:TED) (vs:List Nat):TED:=fun E rho M Q=>it E rho M fun ds M1=>lcU g tt te vs ds [] rho M1 Q
abbrev dYes:TTD:=fun _ _ M Q=>Q true M
section
variable {K:PySem.W.Frag} {Tb:List (Addr×Str)} {al:Al} {M:Mem} {H:Hp} {D0:Addr}
theorem Al.eta {al:Al} {p:Addr} {l:List Addr} (h:al.h=p :: l):al=Al.hide ⟨al.a,l⟩ p:=by
 obtain ⟨a,h'⟩:=al
 cases h
 rfl
theorem fz_unhide {a:Addr} (f:Fz (al.hide D0) M a):a≠D0/\Fz al M a:=⟨fun z=>f.1 (by rw [z];exact List.mem_cons_self),fun hm=>f.1 (List.mem_cons_of_mem _ hm),f.2⟩
theorem hid_set (w:Wf K Tb (al.hide D0) H M) (u:HO) (hu:HidO D0 u):Wf K Tb (al.hide D0) (upd H D0 u) M/\(∀ (d:D) (v:V),Rp K (al.hide D0) M H d v->Rp K (al.hide D0) M (upd H D0 u) d v)/\(∀ (d:List D) (v:List V),Rps K (al.hide D0) M H d v->Rps K (al.hide D0) M (upd H D0 u) d v):=by
 obtain ⟨xs0,hD,hz⟩:=w.hth D0 List.mem_cons_self
 have up:∀ b o,H b=some o->Fz (al.hide D0) M b->upd H D0 u b=some o:=fun b o h f=>by rw [upd_ne (fz_unhide f).1];exact h
 have all:=hideRp (K:=K) (al:=al.hide D0) (al':=al.hide D0) (M:=M) (fun _ _ _ f=>f) up
 have alls:=hideRps (K:=K) (al:=al.hide D0) (al':=al.hide D0) (M:=M) (fun _ _ _ f=>f) up
 have live:∀ (i:Nat) (b:Addr) (mo:MO),al.a[i]?=some b->M[i]?=some (some mo)->b≠D0:=fun i b mo e1 e2 z=>w.hdis i b mo e1 e2 (by rw [z];exact List.mem_cons_self)
 refine ⟨⟨w.len,w.nd,fun i b mo e1 e2=>?_,fun i b e=>?_,fun q hq=>?_,fun b hb=>?_,w.hdis⟩,all,alls⟩
 ·have r:=w.rep i b mo e1 e2
  have ne:=live i b mo e1 e2
  cases mo with
  | lst ds=>obtain ⟨zs,h1,h2⟩:=r;exact ⟨zs,by rw [upd_ne ne];exact h1,alls _ _ h2⟩
  | dK kvs=>obtain ⟨zs,h1,h2⟩:=r;exact ⟨zs,by rw [upd_ne ne];exact h1,h2.1,alls _ _ h2.2⟩
  | dT ks ds=>obtain ⟨zs,h1,h2⟩:=r;exact ⟨zs,by rw [upd_ne ne];exact h1,h2.1,alls _ _ h2.2⟩
  | ins C fs=>obtain ⟨dx,zs,h1,h2⟩:=r;exact ⟨dx,zs,by rw [upd_ne ne];exact h1,h2.1,alls _ _ h2.2⟩
 ·by_cases hb:b=D0
  ·exact ⟨_,by rw [hb];exact upd_same,hu.tbl⟩
  ·obtain ⟨o,h1,h2⟩:=w.there i b e
   exact ⟨o,by rw [upd_ne hb];exact h1,h2⟩
 ·obtain ⟨ps,h1,h2,h3⟩:=w.tb q hq
  refine ⟨ps,?_,h2,fun pos cv hc=>?_⟩
  ·rw [upd_ne (fun (z:q.1=D0)=>by rw [z,hD] at h1;exact hz.tbl _ (Option.some.inj h1))]
   exact h1
  ·obtain ⟨c,e1,e2⟩:=h3 pos cv hc
   refine ⟨c,e1,?_⟩
   rw [upd_ne (fun (z:c=D0)=>by rw [z,hD] at e2;exact hz.code _ _ (Option.some.inj e2))]
   exact e2
 ·by_cases hbD:b=D0
  ·exact ⟨u,by rw [hbD];exact upd_same,hbD ▸ hu⟩
  ·obtain ⟨zs,h,q⟩:=w.hth b hb
   exact ⟨zs,by rw [upd_ne hbD];exact h,q⟩
theorem unhide (w:Wf K Tb (al.hide D0) H M):Wf K Tb al H M/\(∀ (d:D) (v:V),Rp K (al.hide D0) M H d v->Rp K al M H d v)/\(∀ (d:List D) (v:List V),Rps K (al.hide D0) M H d v->Rps K al M H d v):=by
 have all:=hideRp (K:=K) (al:=al.hide D0) (al':=al) (M:=M) (H:=H) (H':=H) (fun _ _ _ f=>(fz_unhide f).2) fun _ _ h _=>h
 have alls:=hideRps (K:=K) (al:=al.hide D0) (al':=al) (M:=M) (H:=H) (H':=H) (fun _ _ _ f=>(fz_unhide f).2) fun _ _ h _=>h
 refine ⟨⟨w.len,w.nd,fun i b mo e1 e2=>?_,w.there,w.tb,fun b hb=>w.hth b (List.mem_cons_of_mem _ hb),fun i b mo e1 e2 hm=>w.hdis i b mo e1 e2 (List.mem_cons_of_mem _ hm)⟩,all,alls⟩
 have r:=w.rep i b mo e1 e2
 cases mo with
 | lst ds=>obtain ⟨zs,h1,h2⟩:=r;exact ⟨zs,h1,alls _ _ h2⟩
 | dK kvs=>obtain ⟨zs,h1,h2⟩:=r;exact ⟨zs,h1,h2.1,alls _ _ h2.2⟩
 | dT ks ds=>obtain ⟨zs,h1,h2⟩:=r;exact ⟨zs,h1,h2.1,alls _ _ h2.2⟩
 | ins C fs=>obtain ⟨dx,zs,h1,h2⟩:=r;exact ⟨dx,zs,h1,h2.1,alls _ _ h2.2⟩
end
theorem lc_lift {K:PySem.W.Frag} {Tb:List (Addr×Str)} {EV:XK} {it:TID} {gV:TG} {g:TGD} {tt:TTD} {te:TED} {vs:List Nat} (hN:TgN K gV g vs) {σ:L2.St} {H:Hp} {QV:VK} (h:lift K Tb EV (dLc it g tt te vs) σ H QV) :
  tLc (liftI K Tb EV it) gV (liftT K Tb E0 tt) (lift K Tb E0 te) vs σ H QV:=by
 obtain ⟨al,rho,M,E,Q,a,t,p⟩:=h
 refine ⟨al,rho,M,E,_,a,t,fun al0 ds M0 H0 J s0 w0 ok q D0 hD0=>?_⟩
 have a0:=a.go s0 w0
 refine ⟨fun i m H1=>m=ds.length - i/\i<=ds.length/\∃ (l1:List Addr) (M1:Mem) (acc:List D) (ys:List V),Stw al0 M0 H0 (Al.hide ⟨l1,al0.h⟩ D0) M1 H1/\Wf K Tb (Al.hide ⟨l1,al0.h⟩ D0) H1 M1/\RpS K (Al.hide ⟨l1,al0.h⟩ D0) M1 H1 σ rho /\
   Rps K (Al.hide ⟨l1,al0.h⟩ D0) M1 H1 acc ys/\H1 D0=some (.lst ys)/\lcU g tt te vs (ds.drop i) acc rho M1 Q,⟨ds.length,by simp,Nat.zero_le _,al0.a,M0,[],[],?_⟩,?_⟩
 ·obtain ⟨w1,r1⟩:=hide_stp w0 hD0 (.lst []) (.inl ⟨_,rfl⟩)
  refine ⟨⟨fun _ _ h=>h,fun b o h _ f=>⟨by rw [upd_ne (ne_of_none h hD0)];exact h,fun hm=>?_,f.2⟩,fun b hb=>⟨List.mem_cons_of_mem _ hb,upd_ne fun z=>w0.nohid hD0 (z ▸ hb)⟩⟩,w1,⟨a0.sl.1,fun i d e=>let ⟨v,e1,r⟩:=a0.sl.2 i d e;⟨v,e1,r1 _ _ r⟩⟩,rfl,upd_same,by simpa using q⟩
  rcases List.mem_cons.mp hm with z | z
  ·exact absurd (z ▸ h) (by rw [hD0];intro q;cases q)
  ·exact f.1 z
 ·rintro i m H1 ⟨rfl,hi,l1,M1,acc,ys,s1,w1,sl1,racc,hD1,t1⟩
  by_cases hlt:i < ds.length
  ·have e:ds[i]?=some ds[i]:=by simp [hlt]
   have ed:ds.drop i=ds[i] :: ds.drop (i+1):=List.drop_eq_getElem_cons hlt
   rw [ed] at t1
   refine .inr ⟨ok.go _ _ _ s1 w1 i _ e,fun H2=>∃ (l2:List Addr) (M2:Mem) (acc:List D) (ys:List V),Stw al0 M0 H0 (Al.hide ⟨l2,al0.h⟩ D0) M2 H2/\Wf K Tb (Al.hide ⟨l2,al0.h⟩ D0) H2 M2/\RpS K (Al.hide ⟨l2,al0.h⟩ D0) M2 H2 σ rho /\
    Rps K (Al.hide ⟨l2,al0.h⟩ D0) M2 H2 acc ys/\H2 D0=some (.lst ys)/\lcU g tt te vs (ds.drop (i+1)) acc rho M2 Q,fun H2 h2=>⟨ds.length - (i+1),by omega,rfl,hlt,h2⟩,fun x H2 y=>?_⟩
   obtain ⟨s2,w2,r2⟩:=ok.yld _ _ _ s1 w1 i _ x H2 e y
   have sl2:=sl1.mono s2
   refine hN _ _ _ _ _ _ _ _ _ _ (wipe_ok sl2 vs) r2 t1 fun σ' rho' ew sl' t2=>⟨by rw [ew];exact wipe_wipe fun _ h=>h,?_⟩
   have aB:At K Tb E0 (Al.hide ⟨l1,al0.h⟩ D0) σ' H2 rho' M1 noE:=⟨w2,sl',fun _ _ _ _ _ _ _ _ _ z=>z⟩
   have hD2:H2 D0=some (.lst ys):=(s2.hid D0 List.mem_cons_self).trans hD1
   refine seqT aB t2 fun al3 b M3 H3 s3 a3 q3=>?_
   have hh3:al3=Al.hide ⟨al3.a,al0.h⟩ D0:=Al.eta (show al3.h=D0 :: al0.h from s3.hh)
   have hD3:H3 D0=some (.lst ys):=(s3.hid D0 List.mem_cons_self).trans hD2
   cases b with
   | false =>
    rw [if_neg Bool.false_ne_true]
    refine ⟨al3.a,M3,acc,ys,?_,?_,?_,?_,hD3,q3⟩
    ·rw [<- hh3];exact (s1.stp s2).stp s3
    ·rw [<- hh3];exact a3.wf
    ·rw [<- hh3];exact sl2.mono s3
    ·rw [<- hh3];exact (racc.mono s2).mono s3
   | true =>
    rw [if_pos rfl]
    refine seq1 a3 q3 fun al4 d4 M4 v4 H4 s4 a4 r4 q4=>?_
    have hh4:al4=Al.hide ⟨al4.a,al0.h⟩ D0:=Al.eta (show al4.h=D0 :: al0.h from s4.hh.trans s3.hh)
    have hm3:D0∈al3.h:=by rw [hh3];exact List.mem_cons_self
    have hD4:H4 D0=some (.lst ys):=(s4.hid D0 hm3).trans hD3
    have S4:=((s1.stp s2).stp s3).stp s4
    have W4:=a4.wf
    have L4:=(sl2.mono s3).mono s4
    have R4:=((racc.mono s2).mono s3).mono s4
    rw [hh4] at S4 W4 L4 R4 r4
    obtain ⟨w5,u1,u2⟩:=hid_set W4 (.lst (ys ++ [v4])) (.inl ⟨_,rfl⟩)
    refine ⟨ys,hD4,by rw [<- racc.length];exact q4.1,al4.a,M4,acc ++ [d4],ys ++ [v4],⟨S4.pre,fun b o h n f=>⟨?_,(S4.fz b o h n f).2⟩,fun b hb=>⟨(S4.hid b hb).1,?_⟩⟩,w5,⟨L4.1,fun i d e=>let ⟨v,e1,r⟩:=L4.2 i d e;⟨v,e1,u1 _ _ r⟩⟩,u2 _ _ (R4.append ⟨v4,[],rfl,r4,rfl⟩),upd_same,q4.2⟩
    ·rw [upd_ne (ne_of_none h hD0)];exact (S4.fz b o h n f).1
    ·rw [upd_ne (fun (z:b=D0)=>w0.nohid hD0 (z ▸ hb))];exact (S4.hid b hb).2
  ·have e:i=ds.length:=by omega
   subst e
   refine .inl ⟨ok.stop _ _ _ s1 w1,?_⟩
   simp [lcU] at t1
   obtain ⟨w2,u1,u2⟩:=unhide w1
   refine p ⟨l1,al0.h⟩ (.lst acc) M1 _ H1 (s0.trans ⟨s1.pre,fun b o h n f=>⟨(s1.fz b o h n f).1,(fz_unhide (s1.fz b o h n f).2).2⟩,rfl,fun b hb=>(s1.hid b hb).2⟩) w2 ⟨D0,ys,rfl,hD1,⟨fun hm=>?_,fun j mo e1 e2=>w1.hdis j D0 mo e1 e2 List.mem_cons_self⟩,u2 _ _ racc⟩ t1
   exact w0.nohid hD0 hm
section
variable {X:Cx} {Tb:List (Addr×Str)} {EV:XK} {elt tg iter:Expr} {ifs:List Expr} {scope:Scope} {own:List (Str×Nat)} {pos:Pos} {it:TID} {gV:TG} {g:TGD} {tt:TTD} {te:TED}
theorem dv_lc (hc:X.calm=true) (hN:X.N.Nodup) (hi:PDI X Tb EV tg iter it) (ok:BlkOk X.N X.env.scope scope own) (hT:TgN X.K gV g (own.map (·.2)))
  (hg:∀ (s:Shared) (H:Hp) (C:Addr) (cl:List (Str×Addr)) (fp:List Addr),PG (X.blk s H scope (compEnvC scope cl C X.env) fp) tg gV) (ht:∀ (s:Shared) (H:Hp) (C:Addr) (cl:List (Str×Addr)) (fp:List Addr),PTs (X.blk s H scope (compEnvC scope cl C X.env) fp) ifs (liftT X.K Tb E0 tt))
  (he:∀ (s:Shared) (H:Hp) (C:Addr) (cl:List (Str×Addr)) (fp:List Addr),PD (X.blk s H scope (compEnvC scope cl C X.env) fp) Tb E0 elt te) (hs:∀ x,foldedSetIterable iter X.env x=pure x:=by intro _;rfl) :
  PD X Tb EV (.ListComp elt [⟨tg,iter,ifs,0⟩] scope pos) (dLc it g tt te (own.map (·.2))):=pe_imp (pe_lc hc hN hi ok hg ht he hs) fun _ _ _ h=>lc_lift hT h
theorem dp_setLc (i:Nat) {y:Str} {py spos:Pos} (hc:X.calm=true) (hN:X.N.Nodup) (hi:PDI X Tb EV tg iter it) (ok:BlkOk X.N X.env.scope scope own) (hT:TgN X.K gV g (own.map (·.2)))
  (hg:∀ (s:Shared) (H:Hp) (C:Addr) (cl:List (Str×Addr)) (fp:List Addr),PG (X.blk s H scope (compEnvC scope cl C X.env) fp) tg gV) (ht:∀ (s:Shared) (H:Hp) (C:Addr) (cl:List (Str×Addr)) (fp:List Addr),PTs (X.blk s H scope (compEnvC scope cl C X.env) fp) ifs (liftT X.K Tb E0 tt))
  (he:∀ (s:Shared) (H:Hp) (C:Addr) (cl:List (Str×Addr)) (fp:List Addr),PD (X.blk s H scope (compEnvC scope cl C X.env) fp) Tb E0 elt te)
  (hsw:swapsWith (.ListComp elt [⟨tg,iter,ifs,0⟩] scope pos) (some (.Name y py)) spos.line X.env=pure true) (hy:X.N[i]?=some y:=by rfl) (hyl:X.env.scope.names.lookup y=some .local:=by rfl) (hs:∀ x,foldedSetIterable iter X.env x=pure x:=by intro _;rfl) :
  PDS X Tb EV (.Assign [.Name y py] (.ListComp elt [⟨tg,iter,ifs,0⟩] scope pos) spos) (dAsg (dLc it g tt te (own.map (·.2))) (hName i)):=ps_imp (ps_setLc hc hN hy hyl hsw hi ok hg ht he hs) fun DV σ H h=>by
 obtain ⟨al,rho,M,E,DD,a,t,p⟩:=h
 refine lc_lift hT ⟨al,rho,M,E,_,a,t,fun al' d M' v H' s w r q=>?_⟩
 exact p.nx _ _ _ _ _ s w ((a.sl.mono s).set i r) q
theorem dts_nil {X:Cx} {K:PySem.W.Frag} {EV:XK}:PTs X [] (liftT K Tb EV dYes):=⟨fun pins s σ H Q I h=>pts_nil.run pins s σ H Q I (by
 obtain ⟨al,rho,M,E,Q',a,t,p⟩:=h
 exact p _ _ _ _ (Stp.refl ..) a.wf t)⟩
end
abbrev RDC:=List D->Mem->VD->Prop
def RefC (K:PySem.W.Frag) (Tb:List (Addr×Str)) (r:List V->Hp->VK->Prop) (rD:RDC):Prop :=
 ∀ al M H xs ds Q QV,Wf K Tb al H M->Rps K al M H ds xs->rD ds M Q->PostV K Tb al M H Q QV->r xs H QV
abbrev dCB (rD:RDC) (t:TAD):TED:=fun E rho M Q=>t E rho M fun ds M1=>rD ds M1 Q
section
variable {X:Cx} {Tb:List (Addr×Str)} {EV:XK} {x:Str} {p pos:Pos} {e:Expr} {es:List Expr} {t:TAD} {id T:String} {r:List V->Hp->VK->Prop} {rD:RDC}
theorem cb_lift (hr:RefC X.K Tb r rD) {σ:L2.St} {H:Hp} {QV:VK} (h:lift X.K Tb EV (dCB rD t) σ H QV):tCB r (liftA X.K Tb EV t) σ H QV:=by
 obtain ⟨al,rho,M,E,Q,a,t,p⟩:=h
 exact seqA a t fun al1 ds M1 vs H1 s1 a1 r1 q1=>hr _ _ _ _ _ _ _ a1.wf r1 q1 (p.mono s1)
theorem dv_callB (hc:CallR X (.builtin id) r) (hr:RefC X.K Tb r rD) (hg:Gl X x) (hm:X.mg x=none) (hv:bootBuiltins x=some (.builtin id)) (ha:PDA X Tb EV (e :: es) t) (hn:x≠"__name__":=by decide) (hdb:(x == ("__debug__":Str))=false:=by decide)
  (he:starEach (e :: es) X.env=(false,eval e X.env) :: starEach es X.env:=by rfl) (hpl:(backTo pos (starEach es X.env)).any (·.1)=false:=by rfl):PD X Tb EV (.Call (.Name x p) (e :: es) [] pos) (dCB rD t):=pe_imp (pe_callB hc hg hm hv ha hn hdb he hpl) fun _ _ _ h=>cb_lift hr h
theorem dv_callTy (hc:CallR X (.type T) r) (hr:RefC X.K Tb r rD) (hg:Gl X x) (hm:X.mg x=none) (hv:bootBuiltins x=some (.type T)) (ha:PDA X Tb EV (e :: es) t) (hn:x≠"__name__":=by decide) (hdb:(x == ("__debug__":Str))=false:=by decide)
  (he:starEach (e :: es) X.env=(false,eval e X.env) :: starEach es X.env:=by rfl) (hpl:(backTo pos (starEach es X.env)).any (·.1)=false:=by rfl):PD X Tb EV (.Call (.Name x p) (e :: es) [] pos) (dCB rD t):=pe_imp (pe_callTy hc hg hm hv ha hn hdb he hpl) fun _ _ _ h=>cb_lift hr h
end
def rLen_:RDC:=fun ds M Q=>match ds with
 | [x]=>(match seqD M x with
  | some xs=>Q (.int xs.length) M
  | none=>match x with
   | .str z=>z.length<=sizeLine/\Q (.int z.length) M
   | _=>False)
 | _=>False
def rAbs_:RDC:=fun ds M Q=>match ds with
 | [.int i]=>Q (.int i.natAbs) M
 | _=>False
def rList_:RDC:=fun ds M Q=>match ds with
 | [x]=>(match seqD M x with
  | some xs=>Q (.lst xs) M
  | none=>False)
 | _=>False
def rListM_:RDC:=fun ds M Q=>match ds with
 | [x]=>(match seqD M x with
  | some xs=>Q (.mt M.length) (M ++ [some (.lst xs)])
  | none=>False)
 | _=>False
def rTuple_:RDC:=fun ds M Q=>match ds with
 | [x]=>(match seqD M x with
  | some xs=>Q (.tup xs) M
  | none=>False)
 | _=>False
def rInt_:RDC:=fun ds M Q=>match ds with
 | [.int i]=>Q (.int i) M
 | [.bl k]=>Q (.int (if k then 1 else 0)) M
 | [.str a]=>(match PySem.intText? a with
  | some n=>a.length<=640/\Q (.int n) M
  | none=>False)
 | _=>False
def bls:List D->Option (List Bool)
 | []=>some []
 | .bl b :: r=>(bls r).map (b :: ·)
 | _=>none
def rAll_:RDC:=fun ds M Q=>match ds with
 | [x]=>(match asL M x with
  | some xs=>(match bls xs with
   | some bs=>Q (.bl (bs.all _root_.id)) M
   | none=>False)
  | none=>False)
 | _=>False
def rAny_:RDC:=fun ds M Q=>match ds with
 | [x]=>(match asL M x with
  | some xs=>(match bls xs with
   | some bs=>Q (.bl (bs.any _root_.id)) M
   | none=>False)
  | none=>False)
 | _=>False
section
variable {K:PySem.W.Frag} {Tb:List (Addr×Str)} {al:Al} {M:Mem} {H:Hp}
theorem bls_ok:∀ {ds:List D} {bs:List Bool} {xs:List V},bls ds=some bs->Rps K al M H ds xs->xs=bs.map V.bl
 | [],_,_,e,r=>by cases e;exact r
 | .bl b :: ds,_,_,e,r=>by
  obtain ⟨x,ys,rfl,rx,ry⟩:=r
  unfold bls at e
  cases q:bls ds with
  | none=>rw [q] at e;cases e
  | some bs' =>
   rw [q] at e;cases e
   cases (show x = .bl b from rx)
   rw [bls_ok q ry];rfl
 | .non :: _,_,_,e,_=>by cases e
 | .int _ :: _,_,_,e,_=>by cases e
 | .str _ :: _,_,_,e,_=>by cases e
 | .ty _ :: _,_,_,e,_=>by cases e
 | .tup _ :: _,_,_,e,_=>by cases e
 | .lst _ :: _,_,_,e,_=>by cases e
 | .rol _ :: _,_,_,e,_=>by cases e
 | .obj _ _ _ :: _,_,_,e,_=>by cases e
 | .exc _ _ _ :: _,_,_,e,_=>by cases e
 | .dk _ _ :: _,_,_,e,_=>by cases e
 | .dt _ _ :: _,_,_,e,_=>by cases e
 | .ref _ :: _,_,_,e,_=>by cases e
 | .lam _ _ :: _,_,_,e,_=>by cases e
 | .mt _ :: _,_,_,e,_=>by cases e
theorem ref_len {X:Cx}:RefC X.K Tb (fun xs H Q=>∃ x n,xs=[x]/\LenV X.K x H n/\Q (.int n) H) rLen_:=by
 intro al M H xs ds Q QV w r h p
 unfold rLen_ at h
 split at h
 ·rename_i x
  obtain ⟨v,rfl,rv⟩:=r.one
  split at h
  ·rename_i ys e
   obtain ⟨a,zs,rfl,hq,rz⟩:=seqD_ok w e rv
   refine ⟨_,ys.length,rfl,?_,p _ (.int ys.length) _ _ _ (Stp.refl ..) w rfl h⟩
   rcases hq with hq | hq
   ·exact .inl ⟨zs,hq,rz.length⟩
   ·exact .inr ⟨zs,hq,rz.length⟩
  ·split at h
   ·rename_i z _
    cases (show _=_ from rv)
    exact ⟨_,z.length,rfl,⟨h.1,rfl⟩,p _ (.int z.length) _ _ _ (Stp.refl ..) w rfl h.2⟩
   ·exact h.elim
 ·exact h.elim
theorem ref_abs:RefC K Tb (fun xs H Q=>∃ i,xs=[.int i]/\Q (.int (if i < 0 then -i else i)) H) rAbs_:=by
 intro al M H xs ds Q QV w r h p
 unfold rAbs_ at h
 split at h
 ·rename_i i
  obtain ⟨v,rfl,rfl⟩:=r.one
  refine ⟨i,rfl,?_⟩
  have e:(if i < 0 then -i else i)=(i.natAbs:Int):=by split <;> omega
  rw [e]
  exact p _ (.int i.natAbs) _ _ _ (Stp.refl ..) w rfl h
 ·exact h.elim
theorem ref_list {X:Cx}:RefC X.K Tb (fun xs H Q=>∃ p ys,xs=[.ref p]/\(SqL X.K H p ys\/SqT X.K H p ys)/\∀ l,H l=none->Q (.ref l) (upd H l (.lst ys))) rList_:=by
 intro al M H xs ds Q QV w r h p
 unfold rList_ at h
 split at h
 ·obtain ⟨v,rfl,rv⟩:=r.one
  split at h
  ·rename_i ys e
   obtain ⟨a,zs,rfl,hq,rz⟩:=seqD_ok w e rv
   exact ⟨a,zs,rfl,hq,fun l hl=>p _ _ _ _ _ (stp_new w hl _) (wf_new w hl _) (rp_lst w hl rz) h⟩
  ·exact h.elim
 ·exact h.elim
theorem ref_listM {X:Cx}:RefC X.K Tb (fun xs H Q=>∃ p ys,xs=[.ref p]/\(SqL X.K H p ys\/SqT X.K H p ys)/\∀ l,H l=none->Q (.ref l) (upd H l (.lst ys))) rListM_:=by
 intro al M H xs ds Q QV w r h p
 unfold rListM_ at h
 split at h
 ·obtain ⟨v,rfl,rv⟩:=r.one
  split at h
  ·rename_i ys e
   obtain ⟨a,zs,rfl,hq,rz⟩:=seqD_ok w e rv
   refine ⟨a,zs,rfl,hq,fun l hl=>?_⟩
   obtain ⟨h1,h2,h3⟩:=mut_lst w hl rz
   exact p _ _ _ _ _ h1 h2 h3 h
  ·exact h.elim
 ·exact h.elim
theorem ref_tuple {X:Cx}:RefC X.K Tb (fun xs H Q=>∃ p ys,xs=[.ref p]/\((SqL X.K H p ys/\∀ l,H l=none->Q (.ref l) (upd H l (.tup ys)))\/(SqT X.K H p ys/\Q (.ref p) H))) rTuple_:=by
 intro al M H xs ds Q QV w r h p
 unfold rTuple_ at h
 split at h
 ·rename_i d
  obtain ⟨v,rfl,rv⟩:=r.one
  split at h
  ·rename_i ys e
   by_cases ht:∃ zs,d = .tup zs
   ·obtain ⟨zs,rfl⟩:=ht
    cases e
    obtain ⟨a,us,rfl,h1,h2⟩:=rv
    exact ⟨a,us,rfl,.inr ⟨h1.sq,p _ (.tup ys) _ _ _ (Stp.refl ..) w ⟨a,us,rfl,h1,h2⟩ h⟩⟩
   ·have hL:∃ a zs,v = .ref a/\SqL X.K H a zs/\Rps X.K al M H ys zs:=by
     cases d with
     | tup zs=>exact absurd ⟨zs,rfl⟩ ht
     | lst zs=>cases e;obtain ⟨a,us,rfl,h1,_,h2⟩:=rv;exact ⟨a,us,rfl,SqL.of h1,h2⟩
     | rol zs=>cases e;obtain ⟨a,us,rfl,h1,h2⟩:=rv;exact ⟨a,us,rfl,h1.sq,h2⟩
     | mt i=>obtain ⟨a,us,rfl,_,_,h1,h2⟩:=memL_ok w e rv;exact ⟨a,us,rfl,SqL.of h1,h2⟩
     | _=>cases e
    obtain ⟨a,zs,rfl,hq,rz⟩:=hL
    exact ⟨a,zs,rfl,.inl ⟨hq,fun l hl=>p _ _ _ _ _ (stp_new w hl _) (wf_new w hl _) (rp_tup w hl rz) h⟩⟩
  ·exact h.elim
 ·exact h.elim
theorem ref_all {X:Cx}:RefC X.K Tb (L2.rAll X.K) rAll_:=by
 intro al M H xs ds Q QV w r h p
 unfold rAll_ at h
 split at h
 ·obtain ⟨v,rfl,rv⟩:=r.one
  split at h
  ·rename_i ys e
   split at h
   ·rename_i bs e2
    obtain ⟨a,zs,rfl,h1,h2⟩:=asL_ok w e rv
    have:=bls_ok e2 h2
    subst this
    exact ⟨a,bs,rfl,SqL.of h1,p _ (.bl _) _ _ _ (Stp.refl ..) w rfl h⟩
   ·exact h.elim
  ·exact h.elim
 ·exact h.elim
theorem ref_any {X:Cx}:RefC X.K Tb (L2.rAny X.K) rAny_:=by
 intro al M H xs ds Q QV w r h p
 unfold rAny_ at h
 split at h
 ·obtain ⟨v,rfl,rv⟩:=r.one
  split at h
  ·rename_i ys e
   split at h
   ·rename_i bs e2
    obtain ⟨a,zs,rfl,h1,h2⟩:=asL_ok w e rv
    have:=bls_ok e2 h2
    subst this
    exact ⟨a,bs,rfl,SqL.of h1,p _ (.bl _) _ _ _ (Stp.refl ..) w rfl h⟩
   ·exact h.elim
  ·exact h.elim
 ·exact h.elim
end
def tyM:Option (Option MO)->Option String
 | some (some (.lst _))=>some "list"
 | some (some (.dK _))=>some "dict"
 | _=>none
def tyN (M:Mem):D->Option String
 | .non=>some "NoneType"
 | .bl _=>some "bool"
 | .int _=>some "int"
 | .str _=>some "str"
 | .tup _=>some "tuple"
 | .lst _=>some "list"
 | .rol _=>some "list"
 | .mt i=>tyM M[i]?
 | _=>none
def isTab (t u:String):Bool:=t == u || (t == "bool" && u == "int")
def clTab:List String:=["bool","int","str","tuple","list","dict"]
def tyNames:List D->Option (List String)
 | []=>some []
 | .ty n :: r=>(tyNames r).map (n :: ·)
 | _=>none
def rIsi_:RDC:=fun ds M Q=>match ds with
 | [x,.ty u]=>(match tyN M x with
  | some t=>clTab.contains u=true/\Q (.bl (isTab t u)) M
  | none=>False)
 | [x,.tup cs]=>(match tyN M x,tyNames cs with
  | some t,some us=>us.all clTab.contains=true/\Q (.bl (us.any (isTab t))) M
  | _,_=>False)
 | _=>False
def vOf:D->Option V
 | .non=>some .non
 | .bl b=>some (.bl b)
 | .int i=>some (.int i)
 | .str z=>some (.str z)
 | _=>none
def vsOf:List D->Option (List V)
 | []=>some []
 | d :: r=>match vOf d,vsOf r with
  | some v,some vs=>some (v :: vs)
  | _,_=>none
theorem vOf_ok {K:PySem.W.Frag} {al:Al} {M:Mem} {H:Hp} {d:D} {v u:V} (e:vOf d=some u) (r:Rp K al M H d v):v=u/\L2.flatV u=true:=by
 cases d <;> first | (cases e;exact ⟨r,rfl⟩) | cases e
theorem vsOf_ok {K:PySem.W.Frag} {al:Al} {M:Mem} {H:Hp}:∀ {ds:List D} {vs us:List V},vsOf ds=some us->Rps K al M H ds vs->vs=us/\us.all L2.flatV=true
 | [],_,_,e,r=>by cases e;exact ⟨r,rfl⟩
 | d :: ds,_,_,e,r=>by
  obtain ⟨x,ys,rfl,rx,ry⟩:=r
  unfold vsOf at e
  split at e
  ·rename_i v vs h1 h2
   cases e
   obtain ⟨rfl,f1⟩:=vOf_ok h1 rx
   obtain ⟨rfl,f2⟩:=vsOf_ok h2 ry
   exact ⟨rfl,by simp [f1,f2]⟩
  ·cases e
def rInX (neg:Bool):RD2:=fun x y M Q=>match x,y with
 | .str c,.str z=>(match c.cps.toList with
  | [k]=>Q (.bl (if neg then !decide (k∈z.cps.toList) else decide (k∈z.cps.toList))) M
  | _=>False)
 | x,y=>(match seqD M y with
  | some ds=>(match vOf x,vsOf ds with
   | some v,some vs=>Q (.bl (if neg then !L2.inV v vs else L2.inV v vs)) M
   | _,_=>False)
  | none=>False)
abbrev rIn_:RD2:=rInX false
section
variable {X:Cx} {Tb:List (Addr×Str)} {EV:XK} {a b c:Expr} {ta tb tc:TED} {pos:Pos}
theorem str_one {c:Str} {k:Nat} (h:c.cps.toList=[k]):c=⟨#[k]⟩:=by
 obtain ⟨⟨l⟩⟩:=c
 have:l=[k]:=h
 subst this
 rfl
theorem ref_inX {neg:Bool}:RefOp X.K Tb (fun x y H Q=>(∃ (c:Nat) (z:Str),x = .str ⟨#[c]⟩/\y = .str z/\Q (.bl (if neg then !decide (c∈z.cps.toList) else decide (c∈z.cps.toList))) H)\/L2.rIn X.K neg x y H Q) (rInX neg):=by
 intro al M H x y dx dy Q QV w rx ry h p
 unfold rInX at h
 split at h
 ·rename_i c z
  split at h
  ·rename_i k e
   rw [str_one e] at rx
   exact .inl ⟨k,z,rx,ry,p _ (.bl _) _ _ _ (Stp.refl ..) w rfl (by simpa using h)⟩
  ·exact h.elim
 ·split at h
  ·rename_i ds e
   split at h
   ·rename_i v vs h1 h2
    obtain ⟨a,xs,rfl,hq,r⟩:=seqD_ok w e ry
    obtain ⟨rfl,f1⟩:=vOf_ok h1 rx
    obtain ⟨rfl,f2⟩:=vsOf_ok h2 r
    exact .inr ⟨a,_,rfl,hq,f1,f2,p _ (.bl _) _ _ _ (Stp.refl ..) w rfl h⟩
   ·exact h.elim
  ·exact h.elim
theorem dt_in (ha:PD X Tb EV a ta) (hb:PD X Tb EV b tb) (hm:behindInMarks .In b=false:=by rfl):PDT X Tb EV (.Compare a [.In] [b] pos) (dB (dOp rIn_ ta tb)):=dt_cmp (op_in_sign.or op_in_seq) (ref_inX (neg:=false)) ha hb hm
end
def tyB (T:String) (M:Mem):D->Bool
 | .str _=>T == "str"
 | .int _=>T == "int"
 | .lst _=>T == "list"
 | .rol _=>T == "list"
 | .mt i=>tyM M[i]? == some T
 | _=>false
abbrev RDM:=D->List D->Mem->VD->Prop
def RefM (K:PySem.W.Frag) (Tb:List (Addr×Str)) (r:V->List V->Hp->VK->Prop) (rD:RDM):Prop :=
 ∀ al M H x xs d ds Q QV,Wf K Tb al H M->Rp K al M H d x->Rps K al M H ds xs->rD d ds M Q->PostV K Tb al M H Q QV->r x xs H QV
abbrev dBM (T:String) (rD:RDM) (to:TED) (t:TAD):TED:=fun E rho M Q=>to E rho M fun x M1=>tyB T M1 x=true/\t E rho M1 fun ds M2=>rD x ds M2 Q
theorem tyB_ok {K:PySem.W.Frag} {Tb:List (Addr×Str)} {al:Al} {M:Mem} {H:Hp} (w:Wf K Tb al H M) {T:String} {d:D} {v:V} (h:tyB T M d=true) (r:Rp K al M H d v):tyV K T v H:=by
 cases d with
 | str z=>cases (show _=_ from r);exact eq_of_beq h
 | int z=>cases (show _=_ from r);exact eq_of_beq h
 | lst xs=>obtain ⟨a,ys,rfl,h1,_⟩:=r;exact .inl ⟨eq_of_beq h,ys,SqL.of h1⟩
 | rol xs=>obtain ⟨a,ys,rfl,h1,_⟩:=r;exact .inl ⟨eq_of_beq h,ys,h1.sq⟩
 | mt i =>
  obtain ⟨a,ea,rfl⟩:=r
  have e:tyM M[i]?=some T:=eq_of_beq h
  unfold tyM at e
  split at e
  ·rename_i xs em
   cases e
   obtain ⟨ys,h,_⟩:=w.rep i a _ ea em
   exact .inl ⟨rfl,ys,SqL.of h⟩
  ·rename_i xs em
   cases e
   obtain ⟨ys,h,_⟩:=w.rep i a _ ea em
   exact .inr (.inr (.inl ⟨rfl,.inl ⟨ys,h⟩⟩))
  ·cases e
 | _=>cases h
section
variable {X:Cx} {Tb:List (Addr×Str)} {EV:XK} {o e:Expr} {es:List Expr} {to:TED} {t:TAD} {name:Str} {apos cpos:Pos} {T id:String} {r:V->List V->Hp->VK->Prop} {rD:RDM}
theorem dv_bm (pa:PlainAttrs T) (slot:Slot T name id) (hty:typeOf (.builtin id)=pure (.type "method_descriptor")) (hm:MtR X id r) (hr:RefM X.K Tb r rD) (ho:PD X Tb EV o to) (ha:PDA X Tb EV (e :: es) t)
  (hbase:attributeBase o name X.env (eval o X.env)=eval o X.env:=by rfl)
  (hfew:((backTo cpos (starEach (e :: es) X.env)).all (fun x=>!x.1) && (backToKw cpos (keywordEach [] X.env)).all (fun x=>x.1.isSome)
   && decide ((e :: es).length+([]:List Keyword).length+(if ([]:List Keyword).isEmpty then 0 else 1) < 30))=true:=by rfl)
  (hline:(apos.endLine == cpos.line)=true:=by rfl) (hs:starEach (e :: es) X.env=(false,eval e X.env) :: starEach es X.env:=by rfl) (hplain:(backTo cpos (starEach es X.env)).any (·.1)=false:=by rfl) :
  PD X Tb EV (.Call (.Attribute o name apos) (e :: es) [] cpos) (dBM T rD to t):=pe_imp (pe_bm pa slot hty hm ho ha hbase hfew hline hs hplain) fun σ H QV h=>by
 obtain ⟨al,rho,M,E,Q,a,t,p⟩:=h
 refine seq1 a t fun al1 x M1 vx H1 s1 a1 r1 q1=>⟨tyB_ok a1.wf q1.1 r1,seqA a1 q1.2 fun al2 ds M2 vs H2 s2 a2 r2 q2=>?_⟩
 exact hr _ _ _ _ _ _ _ _ _ a2.wf (r1.mono s2) r2 q2 (p.mono (s1.trans s2))
end
theorem pick_cons {α:Type} (i:Nat) (is:List Nat) (xs:List α):pick (i :: is) xs=match xs[i]? with
 | some x=>x :: pick is xs
 | none=>pick is xs:=by
 unfold pick
 rw [List.filterMap_cons]
 cases xs[i]? <;> rfl
theorem pick_vals {vs:List V} {us:List Value} (r:Vals vs us):∀ is:List Nat,Vals (pick is vs) (pick is us)
 | []=>.nil
 | i :: is=>by
  rw [pick_cons,pick_cons]
  cases e:vs[i]? with
  | none=>rw [r.none_of e];exact pick_vals r is
  | some v =>
   obtain ⟨u,e2,rv⟩:=r.get e
   rw [e2]
   exact .cons rv (pick_vals r is)
theorem pick_rps {K:PySem.W.Frag} {al:Al} {M:Mem} {H:Hp} {ds:List D} {vs:List V} (r:Rps K al M H ds vs):∀ is:List Nat,Rps K al M H (pick is ds) (pick is vs)
 | []=>rfl
 | i :: is=>by
  rw [pick_cons,pick_cons]
  cases e:ds[i]? with
  | none =>
   have:vs[i]?=none:=by
    rw [List.getElem?_eq_none_iff] at e ⊢
    rw [<- r.length];exact e
   rw [this];exact pick_rps r is
  | some d =>
   obtain ⟨v,e2,rv⟩:=r.get e
   rw [e2]
   exact ⟨v,_,rfl,rv,pick_rps r is⟩
def KBp (K:PySem.W.Frag) (fd:FuncData) (ps:List Str) (n:Nat) (ks:List Str) (is:List Nat) (dvs:List V):Prop :=
 ∃ dfl:List Value,Vals dvs dfl/\∀ (s:Shared) (us ws:List Value),K.In s.heap->us.length=n->ws.length=ks.length->BindsTo s fd ⟨us,ks.zip ws⟩ (ps.zip (pick is (us ++ dfl ++ ws)))
theorem KBp.kbn {K:PySem.W.Frag} {fd:FuncData} {ps:List Str} {n:Nat} {ks:List Str} {is:List Nat} {dvs:List V} (h:KBp K fd ps n ks is dvs):∃ g,KBn K fd ps n ks g (fun vs zs=>pick is (vs ++ dvs ++ zs)):=by
 obtain ⟨dfl,hd,h⟩:=h
 exact ⟨fun us ws=>pick is (us ++ dfl ++ ws),h,fun r1 r2=>pick_vals ((r1.append hd).append r2) is⟩
section
variable {K:PySem.W.Frag} {x qual:Str} {params:Arguments} {body:List Stmt} {scope:Scope} {dvs:List V} {kws:List (Str×V)} {f:Addr} {fd:FuncData} {ps:List Str}
theorem kbp_plain (F:FunD K x qual params body scope [] kws f fd) (n:Nat) (ks:List Str) (is:List Nat)
  (h:∀ (kV doc pm:Value) (an:Option Addr) (cdv ct:Value) (us ws:List Value),us.length=n->ws.length=ks.length->bindArgs (PySem.W.fnOf x qual params body scope .none kV doc pm an cdv ct) ⟨us,ks.zip ws⟩=pure (ps.zip (pick is (us ++ [] ++ ws)))):KBp K fd ps n ks is []:=by
 obtain ⟨oc,od,dV,kV,doc,pm,an,cdv,ct,osl,rfl,lk,hcd,hD,hK⟩:=F.ex
 rcases hD with ⟨_,rfl⟩ | ⟨e,_⟩
 ·exact ⟨[],.nil,fun s us ws _ l1 l2=>.of_eq (h kV doc pm an cdv ct us ws l1 l2)⟩
 ·exact absurd rfl e
theorem kbp_dfl (F:FunD K x qual params body scope dvs kws f fd) (hd:dvs≠[]) (n:Nat) (ks:List Str) (is:List Nat)
  (h:∀ (T:Addr) (kV doc pm:Value) (an:Option Addr) (cdv ct:Value) (us its ws:List Value),us.length=n->its.length=dvs.length->ws.length=ks.length ->
   ∃ k,bindArgs (PySem.W.fnOf x qual params body scope (.ref T) kV doc pm an cdv ct) ⟨us,ks.zip ws⟩=seqItems? (.ref T) >>= k/\k (some its.toArray)=pure (ps.zip (pick is (us ++ its ++ ws)))):KBp K fd ps n ks is dvs:=by
 obtain ⟨oc,od,dV,kV,doc,pm,an,cdv,ct,osl,rfl,lk,hcd,hD,hK⟩:=F.ex
 rcases hD with ⟨e,_⟩ | ⟨_,T,o,its,m,rfl,lT,oT,rT⟩
 ·exact absurd e hd
 ·refine ⟨its,rT,fun s us ws X l1 l2=>?_⟩
  obtain ⟨k,e1,e2⟩:=h T kV doc pm an cdv ct us its ws l1 rT.length.symm l2
  refine BindsTo.of_looks fun M=>?_
  rw [e1]
  exact looks_items X lT oT (.of_pure e2)
theorem kbp_kw (F:FunD K x qual params body scope [] kws f fd) (n:Nat) (ks:List Str) (ms:List (Str×V)) (is:List Nat) (hk:kws≠[]) (hms:∀ q∈ms,q∈kws)
  (h:∀ (D:Addr) (doc pm:Value) (an:Option Addr) (cdv ct:Value) (us mv ws:List Value),us.length=n->mv.length=ms.length->ws.length=ks.length ->
   KwChain D ((ms.map (·.1)).zip mv) (bindArgs (PySem.W.fnOf x qual params body scope .none (.ref D) doc pm an cdv ct) ⟨us,ks.zip ws⟩) (ps.zip (pick is (us ++ mv ++ ws)))):KBp K fd ps n ks is (ms.map (·.2)):=by
 obtain ⟨oc,od,dV,kV,doc,pm,an,cdv,ct,osl,rfl,lk,hcd,hD,hK⟩:=F.ex
 rcases hD with ⟨_,rfl⟩ | ⟨e,_⟩
 ·rcases hK with e | ⟨D,rfl,hq⟩
  ·exact absurd e hk
  ·obtain ⟨mv,hl,rk,hks⟩:=kwd_vals (ms:=ms) fun q hm=>hq q (hms q hm)
   exact ⟨mv,rk,fun s us ws X l1 l2=>BindsTo.of_looks fun M=>KwChain.looks X hks (h D doc pm an cdv ct us mv ws l1 hl l2)⟩
 ·exact absurd rfl e
end
abbrev PDK (X:Cx) (Tb:List (Addr×Str)) (EV:XK) (kws:List Keyword) (t:TAD):Prop:=PK X kws (liftA X.K Tb EV t)
abbrev dCallK (n m:Nat) (is:List Nat) (dds:List D) (dsp:DSp) (t tk:TAD):TED:=fun E rho M Q=>t E rho M fun ds M1=>tk E rho M1 fun es M2=>ds.length=n/\es.length=m/\dsp (pick is (ds ++ dds ++ es)) M2 Q E
section
variable {X:Cx} {Tb:List (Addr×Str)} {EV:XK} {k n:Nat} {f:Addr} {fd:FuncData} {ps ks:List Str} {dsp:DSp} {x:Str} {p pos kpos:Pos} {e:Expr} {es:List Expr} {t tk:TAD} {te:TED} {kws:List Keyword} {nm:Option Str} {is:List Nat} {dvs:List V} {dds:List D}
theorem dk_nil:PDK X Tb EV [] dNil:=⟨fun pos pins s σ H Q I h=>pk_nil.run pos pins s σ H Q I (by
 obtain ⟨al,rho,M,E,Q',a,t,p⟩:=h
 exact p _ [] _ _ _ (Stp.refl ..) a.wf rfl t)⟩
theorem callK_lift (hc:CsD X.K dds dvs) {σ:L2.St} {H:Hp} {QV:VK} (h:lift X.K Tb EV (dCallK n ks.length is dds dsp t tk) σ H QV):tCallN n ks.length (liftSp X.K Tb dsp) (fun vs zs=>pick is (vs ++ dvs ++ zs)) EV (liftA X.K Tb EV t) (liftA X.K Tb EV tk) σ H QV:=by
 obtain ⟨al,rho,M,E,Q,a,t,p⟩:=h
 refine seqA a t fun al1 ds M1 vs H1 s1 a1 r1 q1=>seqA a1 q1 fun al2 es M2 zs H2 s2 a2 r2 q2=>?_
 have r1':=r1.mono s2
 exact ⟨by rw [<- r1.length];exact q2.1,by rw [<- r2.length];exact q2.2.1,al2,M2,_,Q,E,a2.wf,pick_rps ((r1'.append (hc _ _ _)).append r2) is,q2.2.2,p.mono (s1.trans s2),a2.ex⟩
theorem dv_callK (F:FnD X.prog X.w X.K X.mg X.base Tb k f fd ps dsp) (hr:Room k X.A) (hg:Gl X x) (hm:X.mg x=some (.ref f)) (hk:PySem.W.keepIn X.K (.ref f)=true) (hb:KBp X.K fd ps n ks is dvs) (hc:CsD X.K dds dvs) (hx:Passes (L2.CX X.prog X.w) X EV)
  (ha:PDA X Tb EV (e :: es) t) (hkw:PDK X Tb EV kws tk) (hall:(backToKw pos (keywordEach kws X.env)).all (·.1.isSome)=true:=by rfl) (hks:(backToKw pos (keywordEach kws X.env)).filterMap (·.1)=ks:=by rfl)
  (hdb:(x == ("__debug__":Str))=false:=by decide) (he:starEach (e :: es) X.env=(false,eval e X.env) :: starEach es X.env:=by rfl)
  (hpl:((backTo pos (starEach (e :: es) X.env)).any (·.1) || (backToKw pos (keywordEach kws X.env)).any (·.1.isNone))=false:=by rfl) :
  PD X Tb EV (.Call (.Name x p) (e :: es) kws pos) (dCallK n ks.length is dds dsp t tk):=by
 obtain ⟨g,kb⟩:=hb.kbn
 exact pe_imp (pe_callN F.ok hr hg hm hk kb hx ha hkw hall hks hdb he hpl) fun _ _ _ h=>callK_lift hc h
end
structure Cal (P:Program) (w:World) (K:PySem.W.Frag) (mg:Str->Option Value) (base:Heap) (Tb:List (Addr×Str)) (x qual:Str) (st:Stmt) (dvs:List V) (kws:List (Str×V)) (k:Nat) (ps:List Str) (dsp:DSp) where
 f:Addr
 fd:FuncData
 F:FunD K x qual (defArgs st) (defBody st) (defScope st) dvs kws f fd
 fn:FnD P w K mg base Tb k f fd ps dsp
 mgx:mg x=some (.ref f)
theorem hxF {P:Program} {w:World} {K:PySem.W.Frag} {mg:Str->Option Value} {base:Heap} {N:List Str} {qual:Str} {scope:Scope} {f:Addr} {cdv:Value} {A:Around} {outer:List Env} {s:Shared} {H:Hp} {EV:XK} :
  Passes (L2.CX P w) (cxOf (L2.CX P w) P w K mg base N qual scope f cdv A outer s H EV) EV:=passes_call (takes_of rfl rfl rfl rfl) fun _ _ _ _ h=>h
theorem dts_one {X:Cx} {Tb:List (Addr×Str)} {EV:XK} {c:Expr} {t:TTD} (h:PDT X Tb EV c t):PTs X [c] (liftT X.K Tb EV t):=pts_one h
theorem for_inv {g:TGD} {tb:TSD} {E:XD} {DD:DEnds} (Pv:List D->Rho->Mem->Prop)
  (hs:∀ d r rho M (N:Rho->Mem->Prop),Pv (d :: r) rho M->(∀ rho' M',Pv r rho' M'->N rho' M')->g d E rho M fun rho' M'=>tb E { DD with nx:=N,ct:=N,bk:=DD.nx } rho' M')
  (hd:∀ rho M,Pv [] rho M->DD.nx rho M):∀ ds rho M,Pv ds rho M->forU g tb ds E DD rho M
 | [],rho,M,h=>hd rho M h
 | d :: r,rho,M,h=>hs d r rho M _ h fun rho' M' h'=>for_inv Pv hs hd r rho' M' h'
theorem wh_inv {c:TTD} {tb:TSD} {E:XD} {DD:DEnds} (Pv:Rho->Mem->Prop) (mu:Rho->Mem->Nat)
  (hs:∀ rho M (N:Rho->Mem->Prop),Pv rho M->(∀ rho' M',Pv rho' M'->mu rho' M' < mu rho M->N rho' M')->c E rho M fun b M1=>if b=true then tb E { DD with nx:=N,ct:=N,bk:=DD.nx } rho M1 else DD.nx rho M1)
  (rho:Rho) (M:Mem) (h:Pv rho M):dWhile c tb E DD rho M:=by
 have key:∀ n rho M,mu rho M < n->Pv rho M->whU c tb n E DD rho M:=by
  intro n
  induction n with
  | zero=>intro rho M hl _;omega
  | succ n ih=>intro rho M hl h;exact hs rho M _ h fun rho' M' h' hm=>ih rho' M' (by omega) h'
 exact ⟨mu rho M+1,key _ _ _ (Nat.lt_succ_self _) h⟩
theorem lc_inv {g:TGD} {tt:TTD} {te:TED} {vs:List Nat} {rho:Rho} {Q:VD} (Pv:List D->List D->Mem->Prop)
  (hs:∀ d r acc M (N:List D->Mem->Prop),Pv (d :: r) acc M->(∀ acc' M',Pv r acc' M'->N acc' M')->g d noE (wipeD rho vs) M fun rho' M1=>tt noE rho' M1 fun b M2=>if b=true then te noE rho' M2 (fun y M3=>acc.length < sizeLine/\N (acc ++ [y]) M3) else N acc M2)
  (hd:∀ acc M,Pv [] acc M->Q (.lst acc) M):∀ ds acc M,Pv ds acc M->lcU g tt te vs ds acc rho M Q
 | [],acc,M,h=>hd acc M h
 | d :: r,acc,M,h=>hs d r acc M (fun acc M=>lcU g tt te vs r acc rho M Q) h fun acc' M' h'=>lc_inv Pv hs hd r acc' M' h'
def CcD (K:PySem.W.Frag) (mg:Str->Option Value) (x:Str) (d:D):Prop:=∃ (v:V) (u:Value),mg x=some u/\RelV v u/\∀ al M H,Rp K al M H d v
theorem dv_gl {X:Cx} {Tb:List (Addr×Str)} {EV:XK} {x:Str} {d:D} {pos:Pos} (c:CcD X.K X.mg x d) (hg:Gl X x) (hd:(x == ("__debug__":Str))=false:=by decide):PD X Tb EV (.Name x pos) (dC d):=by
 obtain ⟨v,u,hm,rv,r⟩:=c
 exact dv_glob hg hm rv r hd
end DL
namespace Mt
theorem fdiv_exact {a g c:Int} (hg:g≠0) (h:a=g * c):a.fdiv g=c:=by
 subst h
 exact Int.mul_fdiv_cancel_left c hg
theorem low_num (a b:Int) (hb:b≠0):a.fdiv (if b < 0 then -(Int.gcd a b:Int) else (Int.gcd a b:Int))=(Rat.divInt a b).num:=by
 have hg:(Int.gcd a b:Int)≠0:=by
  intro h
  have:Int.gcd a b=0:=by omega
  exact hb (Int.gcd_eq_zero_iff.mp this).2
 have hd:(Int.gcd a b:Int) ∣ a:=Int.gcd_dvd_left ..
 rw [Rat.num_divInt,Int.gcd_comm b a]
 obtain ⟨c,hc⟩:=hd
 by_cases hneg:b < 0
 ·rw [if_pos hneg,Int.sign_eq_neg_one_of_neg hneg]
  rw [fdiv_exact (c:=-c) (by omega) (by rw [Int.neg_mul_neg];exact hc)]
  have:-1 * a=(Int.gcd a b:Int) * (-c):=by rw [Int.mul_neg,<- hc];omega
  rw [this,Int.mul_ediv_cancel_left _ hg]
 ·have hp:0 < b:=by omega
  rw [if_neg hneg,Int.sign_eq_one_of_pos hp,Int.one_mul]
  rw [fdiv_exact (c:=c) hg hc]
  generalize (Int.gcd a b:Int)=g at hc hg
  subst hc
  rw [Int.mul_ediv_cancel_left _ hg]
theorem low_den (a b:Int) (hb:b≠0):b.fdiv (if b < 0 then -(Int.gcd a b:Int) else (Int.gcd a b:Int))=((Rat.divInt a b).den:Int):=by
 have hg:(Int.gcd a b:Int)≠0:=by
  intro h
  have:Int.gcd a b=0:=by omega
  exact hb (Int.gcd_eq_zero_iff.mp this).2
 have hd:(Int.gcd a b:Int) ∣ b:=Int.gcd_dvd_right ..
 rw [Rat.den_divInt,if_neg hb,Int.gcd_comm b a]
 obtain ⟨c,hc⟩:=hd
 have hg':0 < (Int.gcd a b:Int):=by omega
 by_cases hneg:b < 0
 ·rw [if_pos hneg]
  rw [fdiv_exact (c:=-c) (by omega) (by rw [Int.neg_mul_neg];exact hc)]
  have e:(b.natAbs:Int)=(Int.gcd a b:Int) * (-c):=by rw [Int.mul_neg,<- hc];omega
  rw [Int.natCast_ediv,e,Int.mul_ediv_cancel_left _ hg]
 ·rw [if_neg hneg]
  rw [fdiv_exact (c:=c) hg hc]
  have e:(b.natAbs:Int)=(Int.gcd a b:Int) * c:=by rw [<- hc];omega
  rw [Int.natCast_ediv,e,Int.mul_ediv_cancel_left _ hg]
end Mt
namespace DL
open PySem PySem.Spec PyProof.Rows L2 Mt
theorem mok_r {i j:Int} (h1:-(2 ^ 64) < j) (h2:j < 2 ^ 64):IntMulOk i j:=.of_right (intBits_le_64 h1 h2)
theorem mok_l {i j:Int} (h1:-(2 ^ 64) < i) (h2:i < 2 ^ 64):IntMulOk i j:=.of_left (intBits_le_64 h1 h2)
theorem log2_bs (n:Nat):n.log2<=bs n:=by
 unfold bs
 split
 ·subst_vars;decide
 ·omega
theorem mok_b {i j:Int} (h:bz i+bz j<=100000000):IntMulOk i j:=by
 have b:∀ x:Int,Builtin.Int.intBits x<=x.natAbs.log2+1:=fun x=>by
  unfold Builtin.Int.intBits
  split <;> omega
 have h1:=b i
 have h2:=b j
 have:=log2_bs i.natAbs
 have:=log2_bs j.natAbs
 unfold bz at h
 exact PyProof.Rows.mulOk_of_bits h1 h2 (by omega)
theorem cdx {j:Int} (h:j≠0) (hb:bz j<=8900):CDivX j:=⟨h,by
 have:=log2_bs j.natAbs
 unfold bz at hb
 omega⟩
theorem cdx_small {j:Int} (h:0 < j) (h2:j < 2 ^ 8000):CDivX j:=cdx (by omega) (by
 have:bz j<=8000:=bs_le (by
  have h3:((j.natAbs:Nat):Int) < ((2 ^ 8000:Nat):Int):=by
   rw [Int.natCast_pow]
   have:(j.natAbs:Int)=j:=by omega
   rw [this]
   exact h2
  exact Int.ofNat_lt.mp h3)
 omega)
theorem cpow {i j:Int} (h0:0<=j) (h1:j<=1000000) (h2:-(2 ^ 64) < i) (h3:i < 2 ^ 64):CPow i j:=⟨h0,h1,by omega⟩
theorem RgTo.okM {M M':Mem} {i:Nat} (t:RgTo M i M') (ok:okM M.length M):DL.okM M.length M':=by
 obtain ⟨r,_,rfl⟩:=t
 exact ok.set (r.hb _)
theorem RgTo.ne {M M':Mem} {i j:Nat} (t:RgTo M i M') (h:i≠j):M'[j]?=M[j]?:=by
 obtain ⟨r,_,rfl⟩:=t
 rw [List.getElem?_set_ne h]
theorem Cut.rg {Q:VD} {d:D} {M M':Mem} {i:Nat} (t:RgTo M i M') (h:d.hb M.length=true) (ok:okM M.length M) (q:Q d M'):Cut M.length Q d M' :=
 ⟨M.length,Nat.le_refl _,h,t.okM ok,by rw [List.take_of_length_le (by rw [t.len];exact Nat.le_refl _)];exact q⟩
theorem fmod_pos {a b:Int} (h:0 < b):0<=a.fmod b/\a.fmod b < b:=⟨Int.fmod_nonneg_of_pos a h,Int.fmod_lt_of_pos a h⟩
theorem fmod_nat (a b:Nat):(a:Int).fmod (b:Int)=((a % b:Nat):Int):=by
 rw [Int.fmod_eq_emod_of_nonneg _ (by omega)]
 rfl
def hSubC (o j:D):TGD:=hSub (dC o) (dC j)
section
variable {E:XD} {DD:DEnds} {rho:Rho} {M:Mem} {Q:VD} {ta tb tc:TED} {t u:TSD} {c c':TTD} {aa:TAD} {rD rD':RD2} {R:Bool->Mem->Prop} {N:Rho->Mem->Prop} {L:List D->Mem->Prop} {d d':D} {i n:Nat} {k k':Int} {xs ys:List D} {r:RDC}
theorem e_seq (h:t E { DD with nx:=u E DD } rho M):dSeq t u E DD rho M:=h
theorem e_var (e:rho[i]?=some (some d)) (h:Q d M):dVar i E rho M Q:=by
 unfold dVar;rw [e];exact h
theorem e_int {C:Int->Int->Prop} {g:Int->Int->D} (h1:C k k') (h2:Q (g k k') M):rIntD C g (.int k) (.int k') M Q:=⟨h1,h2⟩
theorem e_add (h:Q (.int (k+k')) M):rAdd_ (.int k) (.int k') M Q:=h
theorem e_ix (h1:seqD M d=some xs) (h2:L2.atI xs k=some d') (h:Q d' M):rIx_ d (.int k) M Q:=by
 unfold rIx_;simp only [h1,h2];exact h
theorem e_eqi (h:Q (.bl (decide (k=k'))) M):rEq_ (.int k) (.int k') M Q:=h
theorem e_nei (h:Q (.bl (!decide (k=k'))) M):rNe_ (.int k) (.int k') M Q:=h
theorem e_len (h1:seqD M d=some xs) (h:Q (.int xs.length) M):rLen_ [d] M Q:=by
 unfold rLen_;simp only [h1];exact h
theorem e_sub (h:ta E rho M fun o M1=>tb E rho M1 fun j M2=>hSubC o j d E rho M2 N):hSub ta tb d E rho M N:=h
theorem e_subc {j:Nat} (h1:M[i]?=some (some (.lst xs))) (h2:ixN xs.length k=some j) (h:∀ M',M'=M.set i (some (.lst (xs.set j d)))->M'[i]?=some (some (.lst (xs.set j d)))->N rho M'):hSubC (.mt i) (.int k) d E rho M N:=by
 show (match memL M i with
  | some xs=>(match ixN xs.length k with
   | some j=>N rho (M.set i (some (.lst (xs.set j d))))
   | none=>False)
  | none=>False)
 unfold memL
 rw [h1]
 simp only [h2]
 exact h _ rfl (by rw [List.getElem?_set_self (List.getElem?_eq_some_iff.mp h1).1])
theorem memL_at (h:M[i]?=some (some (.lst xs))):memL M i=some xs:=by unfold memL;rw [h]
theorem seq_at (h:M[i]?=some (some (.lst xs))):seqD M (.mt i)=some xs:=memL_at h
end
theorem Cut.new {Q:VD} {M:Mem} {o:MO} (ok:okM M.length M) (h:o.hb (M.length+1)=true) (q:Q (.mt M.length) (M ++ [some o])):Cut M.length Q (.mt M.length) (M ++ [some o]) :=
 ⟨M.length+1,Nat.le_succ _,decide_eq_true (Nat.lt_succ_self _),ok.app h,by rw [List.take_of_length_le (by simp)];exact q⟩
end DL
namespace DL
theorem nz {j:Int} (h:j≠0):j≠0:=h
end DL
namespace DL
theorem e_cut {t u:TSD} {E:XD} {DD:DEnds} {rho:Rho} {M:Mem} (I:Rho->Mem->Prop) (h2:∀ rho M,I rho M->u E DD rho M) (h1:∀ N:Rho->Mem->Prop,(∀ rho M,I rho M->N rho M)->t E { DD with nx:=N } rho M):dSeq t u E DD rho M:=h1 _ h2
end DL
namespace DL
theorem RgTo.same {M:Mem} {i:Nat} {o:Option MO} (e:M[i]?=some o):M=M.set i o:=by
 apply List.ext_getElem?
 intro j
 by_cases h:i=j
 ·subst h
  rw [List.getElem?_set_self (List.getElem?_eq_some_iff.mp e).1,e]
 ·rw [List.getElem?_set_ne h]
end DL
namespace DL
theorem cdx_d {j:Int} (h:(0 < j/\j < 1000000000000)):CDivX j:=cdx_small h.1 (Int.lt_trans h.2 (by decide +kernel))
end DL
namespace DL
open PySem PySem.Spec PyProof.Rows L2 Mt
theorem at_pos {α:Type} {xs:List α} {p:Int} (h0:0<=p) (h1:p < xs.length):L2.atI xs p=xs[p.toNat]?:=by
 unfold L2.atI L2.ixN
 rw [if_pos h0,if_pos h1]
 rfl
theorem at_ex {α:Type} {xs:List α} {p:Int} (h0:0<=p) (h1:p < xs.length):∃ x,L2.atI xs p=some x/\x∈xs:=by
 rw [at_pos h0 h1]
 have h:p.toNat < xs.length:=by omega
 exact ⟨xs[p.toNat],List.getElem?_eq_getElem h,List.getElem_mem h⟩
section
variable {E:XD} {DD:DEnds} {rho:Rho} {M:Mem} {Q:VD} {ta tb tc:TED} {t u:TSD} {c c':TTD} {aa:TAD} {rD rD':RD2} {R:Bool->Mem->Prop} {N:Rho->Mem->Prop} {L:List D->Mem->Prop} {d d':D} {i n:Nat} {k k':Int} {xs ys:List D} {r:RDC} {b b':Bool}
theorem e_is (h:Q (.bl (isNon d)) M):rIs_ d .non M Q:=h
theorem e_isn (h:Q (.bl (!isNon d)) M):rIsNot_ d .non M Q:=h
theorem e_eqb (h:Q (.bl (decide (b=b'))) M):rEq_ (.bl b) (.bl b') M Q:=h
theorem e_neb (h:Q (.bl (!decide (b=b'))) M):rNe_ (.bl b) (.bl b') M Q:=h
theorem e_rg1 {I:List D->Mem->Prop} (h:aa E rho M fun ds M1=>match ds with
 | [.int j]=>(-(2 ^ 62)<=j/\j < 2 ^ 62)/\I (rangeD 0 j.toNat) M1
 | _=>False):iRange1 aa E rho M I:=h
end
mutual
def dp:D->Nat
 | .tup xs=>dps xs+1
 | .lst xs=>dps xs+1
 | .rol xs=>dps xs+1
 | _=>0
def dps:List D->Nat
 | []=>0
 | x :: xs=>max (dp x) (dps xs)
end
mutual
def pu:D->Bool
 | .non=>true
 | .bl _=>true
 | .int _=>true
 | .str _=>true
 | .tup xs=>decide (xs.length<=sizeLine) && pus xs
 | .lst xs=>decide (xs.length<=sizeLine) && pus xs
 | .rol xs=>decide (xs.length<=sizeLine) && pus xs
 | _=>false
def pus:List D->Bool
 | []=>true
 | x :: xs=>pu x && pus xs
end
def isLst:D->Bool
 | .lst _=>true
 | .rol _=>true
 | _=>false
def isTup:D->Bool
 | .tup _=>true
 | _=>false
def isBl:D->Bool
 | .bl _=>true
 | _=>false
def isInt:D->Bool
 | .int _=>true
 | .bl _=>true
 | _=>false
def isStr:D->Bool
 | .str _=>true
 | _=>false
theorem isi_of {u:String} {b:Bool} {d:D} {M:Mem} {Q:VD} (t:String) (h1:tyN M d=some t) (h2:clTab.contains u=true) (h3:isTab t u=b) (h:Q (.bl b) M):rIsi_ [d,.ty u] M Q:=by
 unfold rIsi_;simp only [h1];exact ⟨h2,by rw [h3];exact h⟩
section
variable {d:D} {M:Mem} {Q:VD} (p:pu d=true)
include p
theorem isi_l (h:Q (.bl (isLst d)) M):rIsi_ [d,.ty "list"] M Q:=by
 cases d with
 | mt i=>cases p
 | obj _ _ _=>cases p
 | exc _ _ _=>cases p
 | dk _ _=>cases p
 | dt _ _=>cases p
 | ref _=>cases p
 | lam _ _=>cases p
 | ty _=>cases p
 | _=>first | exact isi_of (b:=false) _ rfl (by decide +kernel) (by decide +kernel) h | exact isi_of (b:=true) _ rfl (by decide +kernel) (by decide +kernel) h
theorem isi_t (h:Q (.bl (isTup d)) M):rIsi_ [d,.ty "tuple"] M Q:=by
 cases d with
 | mt i=>cases p
 | obj _ _ _=>cases p
 | exc _ _ _=>cases p
 | dk _ _=>cases p
 | dt _ _=>cases p
 | ref _=>cases p
 | lam _ _=>cases p
 | ty _=>cases p
 | _=>first | exact isi_of (b:=false) _ rfl (by decide +kernel) (by decide +kernel) h | exact isi_of (b:=true) _ rfl (by decide +kernel) (by decide +kernel) h
theorem isi_b (h:Q (.bl (isBl d)) M):rIsi_ [d,.ty "bool"] M Q:=by
 cases d with
 | mt i=>cases p
 | obj _ _ _=>cases p
 | exc _ _ _=>cases p
 | dk _ _=>cases p
 | dt _ _=>cases p
 | ref _=>cases p
 | lam _ _=>cases p
 | ty _=>cases p
 | _=>first | exact isi_of (b:=false) _ rfl (by decide +kernel) (by decide +kernel) h | exact isi_of (b:=true) _ rfl (by decide +kernel) (by decide +kernel) h
theorem isi_i (h:Q (.bl (isInt d)) M):rIsi_ [d,.ty "int"] M Q:=by
 cases d with
 | mt i=>cases p
 | obj _ _ _=>cases p
 | exc _ _ _=>cases p
 | dk _ _=>cases p
 | dt _ _=>cases p
 | ref _=>cases p
 | lam _ _=>cases p
 | ty _=>cases p
 | _=>first | exact isi_of (b:=false) _ rfl (by decide +kernel) (by decide +kernel) h | exact isi_of (b:=true) _ rfl (by decide +kernel) (by decide +kernel) h
theorem isi_s (h:Q (.bl (isStr d)) M):rIsi_ [d,.ty "str"] M Q:=by
 cases d with
 | mt i=>cases p
 | obj _ _ _=>cases p
 | exc _ _ _=>cases p
 | dk _ _=>cases p
 | dt _ _=>cases p
 | ref _=>cases p
 | lam _ _=>cases p
 | ty _=>cases p
 | _=>first | exact isi_of (b:=false) _ rfl (by decide +kernel) (by decide +kernel) h | exact isi_of (b:=true) _ rfl (by decide +kernel) (by decide +kernel) h
theorem isi_lt (h:Q (.bl (isLst d || isTup d)) M):rIsi_ [d,.tup [.ty "list",.ty "tuple"]] M Q:=by
 have key:∀ (t:String) (b:Bool),tyN M d=some t->(["list","tuple"].any (isTab t))=b->Q (.bl b) M->rIsi_ [d,.tup [.ty "list",.ty "tuple"]] M Q:=by
  intro t b h1 h3 h
  show (match tyN M d,tyNames [.ty "list",.ty "tuple"] with
   | some t,some us=>us.all clTab.contains=true/\Q (.bl (us.any (isTab t))) M
   | _,_=>False)
  rw [h1]
  exact ⟨by decide +kernel,by rw [h3];exact h⟩
 cases d with
 | mt i=>cases p
 | obj _ _ _=>cases p
 | exc _ _ _=>cases p
 | dk _ _=>cases p
 | dt _ _=>cases p
 | ref _=>cases p
 | lam _ _=>cases p
 | ty _=>cases p
 | _=>first | exact key _ false rfl (by decide +kernel) h | exact key _ true rfl (by decide +kernel) h
end
theorem bls_map:∀ bs:List Bool,bls (bs.map D.bl)=some bs
 | []=>rfl
 | b :: r=>by show (bls (r.map D.bl)).map (b :: ·)=_;rw [bls_map r];rfl
theorem e_all {bs:List Bool} {M:Mem} {Q:VD} (h:Q (.bl (bs.all _root_.id)) M):rAll_ [.lst (bs.map D.bl)] M Q:=by
 show (match bls (bs.map D.bl) with
   | some bs=>Q (.bl (bs.all _root_.id)) M
   | none=>False)
 rw [bls_map];exact h
theorem e_any {bs:List Bool} {M:Mem} {Q:VD} (h:Q (.bl (bs.any _root_.id)) M):rAny_ [.lst (bs.map D.bl)] M Q:=by
 show (match bls (bs.map D.bl) with
   | some bs=>Q (.bl (bs.any _root_.id)) M
   | none=>False)
 rw [bls_map];exact h
theorem range_drop {n j:Nat} (h:j < n):(rangeD 0 n).drop j = .int (j:Int) :: (rangeD 0 n).drop (j+1):=by
 have hl:j < (rangeD 0 n).length:=by simp [rangeD];exact h
 rw [List.drop_eq_getElem_cons hl]
 congr 1
 simp [rangeD]
theorem for_range {g:TGD} {tb:TSD} {E:XD} {DD:DEnds} {n:Nat} {rho:Rho} {M:Mem} (Pv:Nat->Rho->Mem->Prop) (h0:Pv 0 rho M)
  (hs:∀ j rho M (N:Rho->Mem->Prop),j < n->Pv j rho M->(∀ rho' M',Pv (j+1) rho' M'->N rho' M')->g (.int (j:Int)) E rho M fun rho' M'=>tb E { DD with nx:=N,ct:=N,bk:=DD.nx } rho' M')
  (hd:∀ rho M,Pv n rho M->DD.nx rho M):forU g tb (rangeD 0 n) E DD rho M:=by
 refine for_inv (fun ds rho M=>∃ j,j<=n/\ds=(rangeD 0 n).drop j/\Pv j rho M) ?_ ?_ _ _ _ ⟨0,Nat.zero_le _,rfl,h0⟩
 ·rintro d r rho M N ⟨j,hj,e,p⟩ hN
  have hj':j < n:=by
   rcases Nat.lt_or_ge j n with h | h
   ·exact h
   ·have:(rangeD 0 n).drop j=[]:=List.drop_of_length_le (by simp [rangeD];exact h)
    rw [this] at e;cases e
  rw [range_drop hj'] at e
  cases e
  exact hs j rho M N hj' p fun rho' M' q=>hN _ _ ⟨j+1,hj',rfl,q⟩
 ·rintro rho M ⟨j,hj,e,p⟩
  have:j=n:=by
   rcases Nat.lt_or_ge j n with h | h
   ·rw [range_drop h] at e;cases e
   ·omega
  subst this
  exact hd _ _ p
theorem at_nat {α:Type} {xs:List α} {j:Nat} (h:j < xs.length):L2.atI xs (j:Int)=some xs[j]:=by
 rw [at_pos (by omega) (by omega)]
 simp [h]
theorem hbs_mem {n:Nat}:∀ {xs:List D} {d:D},D.hbs n xs=true->d∈xs->d.hb n=true
 | [],_,_,h=>by cases h
 | x :: xs,d,e,h=>by
  have e:(D.hb n x && D.hbs n xs)=true:=e
  rw [Bool.and_eq_true] at e
  cases h with
  | head=>exact e.1
  | tail _ h=>exact hbs_mem e.2 h
theorem seq_hb {n:Nat} {x:D} {xs:List D} (h:∀ M,seqD M x=some xs) (hx:x.hb n=true):∀ d∈xs,d.hb n=true:=fun d hd=>by
 cases x with
 | mt i=>have:=h [];cases this
 | tup ys=>cases h [];exact hbs_mem (xs:=xs) hx hd
 | lst ys=>cases h [];exact hbs_mem (xs:=xs) hx hd
 | rol ys=>cases h [];exact hbs_mem (xs:=xs) hx hd
 | _=>cases h []
def gapS (g:Int):Int:=if g=0 then 0 else if 0 < g then 1 else -1
theorem e_sz {xs:List D} {p:Prop} (h:Nat.ble xs.length sizeLine=true) (q:p):xs.length<=sizeLine/\p:=⟨Nat.le_of_ble_eq_true h,q⟩
end DL
namespace DL
theorem e_ift {A B:Prop} (h:A):if true=true then A else B:=h
theorem e_iff {A B:Prop} (h:B):if false=true then A else B:=h
end DL
namespace DL
open PySem PySem.Spec PyProof.Rows L2 Mt
theorem e_int1 {A B:Prop} (h:B):if (!true)=true then A else B:=h
theorem e_int2 {A B:Prop} (h:A):if (!false)=true then A else B:=h
theorem e_ib {k:Bool} {M:Mem} {Q:VD} (h:Q (.int (if k then 1 else 0)) M):rInt_ [.bl k] M Q:=h
theorem e_ii {k:Int} {M:Mem} {Q:VD} (h:Q (.int k) M):rInt_ [.int k] M Q:=h
def PkD (x:D) (xs:List D):Prop:=(∀ M,seqD M x=some xs)\/∃ z:Str,x = .str z/\z.length<=sizeLine/\xs=signsD z
theorem signs_len (z:Str):(signsD z).length=z.length:=by simp [signsD];rfl
theorem pk_len {x:D} {xs:List D} {M:Mem} {Q:VD} (h:PkD x xs) (q:Q (.int xs.length) M):rLen_ [x] M Q:=by
 rcases h with h | ⟨z,rfl,hz,rfl⟩
 ·exact e_len (h M) q
 ·rw [signs_len] at q
  exact ⟨hz,q⟩
theorem pk_ix {x d:D} {xs:List D} {M:Mem} {Q:VD} {k:Int} (h:PkD x xs) (e:L2.atI xs k=some d) (q:Q d M):rIx_ x (.int k) M Q:=by
 rcases h with h | ⟨z,rfl,hz,rfl⟩
 ·exact e_ix (h M) e q
 ·refine ⟨hz,?_⟩
  unfold signsD L2.atI at e
  rw [List.length_map] at e
  cases q2:L2.ixN z.cps.toList.length k with
  | none=>rw [q2] at e;cases e
  | some j =>
   rw [q2] at e
   have e:(z.cps.toList.map fun c=>D.str ⟨#[c]⟩)[j]?=some d:=e
   rw [List.getElem?_map] at e
   cases q3:z.cps.toList[j]? with
   | none=>rw [q3] at e;cases e
   | some c =>
    rw [q3] at e
    cases e
    have:L2.atI z.cps.toList k=some c:=by unfold L2.atI;rw [q2];exact q3
    rw [this]
    exact q
theorem pk_hb {n:Nat} {x:D} {xs:List D} (h:PkD x xs) (hx:x.hb n=true):∀ d∈xs,d.hb n=true:=by
 rcases h with h | ⟨z,rfl,hz,rfl⟩
 ·exact seq_hb h hx
 ·intro d hd
  obtain ⟨c,_,rfl⟩:=List.mem_map.mp hd
  rfl
section
variable {E:XD} {DD:DEnds} {rho:Rho} {M:Mem} {Q:VD} {ta tb tc to:TED} {aa:TAD} {r r':RD2} {tl th:TOD} {O:Option Int->Mem->Prop}
theorem e_chain (h:ta E rho M fun x M1=>tb E rho M1 fun y M2=>r x y M2 fun z M3=>match z with
 | .bl k=>if k=true then tc E rho M3 fun w M4=>r' y w M4 Q else Q (.bl false) M3
 | _=>False):dChain r r' ta tb tc E rho M Q:=h
theorem e_in {c:Nat} {z:Str} (h:Q (.bl (decide (c∈z.cps.toList))) M):rIn_ (.str ⟨#[c]⟩) (.str z) M Q:=h
theorem e_lenS {z:Str} (h0:z.length<=sizeLine) (h:Q (.int z.length) M):rLen_ [.str z] M Q:=⟨h0,h⟩
end
theorem lc_map {α:Type} {g:TGD} {te:TED} {vs:List Nat} {rho:Rho} {Q:VD} {M:Mem} (e f:α->D) (cs:List α) (hl:cs.length<=sizeLine)
  (h:∀ c∈cs,∀ N:VD,N (f c) M->g (e c) noE (wipeD rho vs) M fun rho' M1=>te noE rho' M1 N) (hq:Q (.lst (cs.map f)) M):lcU g dYes te vs (cs.map e) [] rho M Q:=by
 have key:∀ (r a:List α),cs=a ++ r->lcU g dYes te vs (r.map e) (a.map f) rho M Q:=by
  intro r
  induction r with
  | nil=>intro a ha;rw [List.append_nil] at ha;subst ha;exact hq
  | cons c r ih =>
   intro a ha
   refine h c (by rw [ha];simp) (fun y M3=>(a.map f).length < sizeLine/\lcU g dYes te vs (r.map e) (a.map f ++ [y]) rho M3 Q) ⟨?_,?_⟩
   ·rw [ha] at hl;simp at hl ⊢;omega
   ·have:=ih (a ++ [c]) (by rw [ha];simp)
    simpa using this
 exact key cs [] rfl
theorem e_anyM {α:Type} {f:α->Bool} {cs:List α} {M:Mem} {Q:VD} (h:Q (.bl ((cs.map f).any _root_.id)) M):rAny_ [.lst (cs.map fun c=>D.bl (f c))] M Q:=by
 have:=e_any (bs:=cs.map f) h
 rwa [List.map_map] at this
theorem e_sls {z:Str} {lo hi:Option Int} {M:Mem} {Q:VD} (h0:z.length<=sizeLine) (h:Q (.str (cutS z lo hi)) M):rSl_ (.str z) lo hi M Q:=⟨h0,h⟩
theorem e_tyS {z:Str} {M:Mem} {p:Prop} (h:p):tyB "str" M (.str z)=true/\p:=⟨by show ("str" == "str")=true;decide +kernel,h⟩
def drawSp:DSp:=fun ds M Q E=>∃ (i:Nat) (m:Int),ds=[.mt i,.int m]/\RgAt M i/\0 < m/\m < 2 ^ 8000/\∀ (k:Int) (M':Mem),RgTo M i M'->0<=k->k < m->Q (.int k) M'
def pickSp:DSp:=fun ds M Q E=>∃ (i:Nat) (x:D) (xs:List D),ds=[.mt i,x]/\RgAt M i/\PkD x xs/\xs≠[]/\xs.length<=sizeLine/\∀ (d:D) (M':Mem),RgTo M i M'->d∈xs->Q d M'
end DL
namespace DL
theorem fmod_abs {a b:Int} (h:b≠0):(a.fmod b).natAbs < b.natAbs:=by
 rcases Int.lt_or_gt_of_ne h with h | h
 ·have e:=Int.neg_fmod_neg (-a) (-b)
  rw [Int.neg_neg,Int.neg_neg] at e
  have h1:=Int.fmod_nonneg_of_pos (-a) (b:=-b) (by omega)
  have h2:=Int.fmod_lt_of_pos (-a) (b:=-b) (by omega)
  rw [e];omega
 ·have h1:=Int.fmod_nonneg_of_pos a h
  have h2:=Int.fmod_lt_of_pos a h
  omega
theorem fmod_gcd (a b:Int):Int.gcd b (a.fmod b)=Int.gcd a b:=by
 rw [Int.fmod_def,Int.gcd_sub_mul_left_right,Int.gcd_comm]
end DL
namespace DL
open PySem PySem.Spec PyProof.Rows L2 Mt
def lawSp:DSp:=fun ds M Q E=>∃ ns:List Int,ns.length<=63/\ds=[.rol (ns.map D.int)]/\Q (.bl true) M
theorem rps_ints {K:PySem.W.Frag} {al:Al} {M:Mem} {H:Hp}:∀ ns:List Int,Rps K al M H (ns.map D.int) (ns.map V.int)
 | []=>rfl
 | n :: r=>⟨_,_,rfl,rfl,rps_ints r⟩
theorem cx_false {P:Program} {w:World} (H:Hp) (s:Shared) (e:Value) (s':Shared) (h:L2.CX P w [] H s (fun _ _ _=>False) e s'):False:=by
 obtain ⟨_,_,_,_,_,_,_,_,_,_,_,_,z⟩:=h
 exact z
end DL
namespace DL
open PySem PySem.Spec PyProof.Rows L2
theorem exs_ok {P:Program} {w:World} {H:Hp} {h:Heap} {a:Addr} {cls:Value} {d:Option Addr} {oe:Obj} {vs:Array Value} (e:h.get? a=some oe) (z:Zc cls d oe) (hd:oe.data = .fields vs):ObjOk P w H h a (exs a cls d) :=
 ⟨⟨oe,vs,e,z,hd⟩,⟨oe,e⟩,fun _ _ ⟨o,v,q,r⟩ k=>⟨o,v,k o q,r⟩⟩
theorem exs_at {P:Program} {w:World} {H:Hp} {h:Heap} {a:Addr} {cls:Value} {d:Option Addr} (hok:HOk P w H h) (e:H a=some (exs a cls d)):∃ (oe:Obj) (vs:Array Value),h.get? a=some oe/\Zc cls d oe/\oe.data = .fields vs:=(hok a _ e).1
section
variable {X:Cx} {pins:List (Addr×Obj)} {σ:L2.St} {H:Hp} {s:Shared} {a:Addr} {oe:Obj} {vs:Array Value} {cls:Value} {d:Option Addr}
theorem inv_track (I:Inv X pins σ H s) (ha:s.heap.get? a=some oe) (hz:Zc cls d oe) (hd:oe.data = .fields vs) (na:H a=none) (nL:a≠X.env.locals) (n0:X.s_0.heap.get? a=none) (npin:∀ p∈X.pn ++ pins,p.1≠a):Inv X pins σ (upd H a (exs a cls d)) s:=by
 have ne:∀ {b:Addr} {u:HO},H b=some u->b≠a:=fun {b u} e z=>by rw [z,na] at e;cases e
 refine ⟨I.ok,I.os,I.bare,⟨I.base.keep,I.base.slot,fun b o e n hx=>?_,I.base.there,fun b xs e=>?_,fun b o u e=>?_,fun b ps e=>?_⟩,I.loc,I.cell,?_,fun x c e=>?_,fun p hp=>?_,?_,I.len⟩
 ·rw [upd_ne (fun z=>by rw [z,n0] at e;cases e)];exact I.base.free b o e n hx
 ·have q:=I.base.tups b xs e;rw [upd_ne (ne q)];exact q
 ·have q:=I.base.frzs b o u e;rw [upd_ne (ne q)];exact q
 ·obtain ⟨m,q⟩:=I.base.tbls b ps e;exact ⟨m,by rw [upd_ne (ne q)];exact q⟩
 ·rw [upd_ne (Ne.symm nL)];exact I.free
 ·rw [upd_ne (fun z=>?_)]
  ·exact I.freeC x c e
  ·obtain ⟨v,o,ho,hc⟩:=I.cell x c e
   rw [z,ha] at ho;cases ho;rw [hd] at hc;cases hc
 ·obtain ⟨h1,h2,h3⟩:=I.pin p hp
  exact ⟨h1,by rw [upd_ne (npin p hp)];exact h2,h3⟩
 ·exact I.hok.laidN (fun _ _ e=>e) na (exs_ok ha hz hd)
theorem inv_suite0 (I:Inv X pins σ H s) (a:Addr):Inv (X.suite a (X.pn ++ pins)) [] σ H s :=
 ⟨I.ok.suite _ _,I.os,I.bare,I.base,I.loc,I.cell,I.free,I.freeC,fun p hp=>I.pin p (by rw [List.append_nil] at hp;exact hp),I.hok,I.len⟩
theorem inv_unsuite0 {pn':List (Addr×Obj)} (I:Inv (X.suite a (X.pn ++ pins)) pn' σ H s) (ok:X.Ok):Inv X pins σ H s :=
 ⟨ok,I.os,I.bare,I.base,I.loc,I.cell,I.free,I.freeC,fun p hp=>I.pin p (List.mem_append_left _ hp),I.hok,I.len⟩
theorem flying_push {B h:Heap} {l:List Env} {Z:Obj->Prop} {h':Heap} (fl:HandSPX.FlyingZ B l a Z h) (k:∀ b o,h.get? b=some o->h'.get? b=some o):HandSPX.FlyingZ B l a Z h':=by
 obtain ⟨k1,k2,k3,oe,vs,T,oT,ts',he,hz,hd,h1,h2,h3,hT,hr⟩:=fl
 exact ⟨fun b o q=>k b o (k1 b o q),k2,k3.of_keeps fun b o q _=>⟨o,k b o q,rfl⟩,oe,vs,T,oT,ts',k _ _ he,hz,hd,h1,h2,h3,k _ _ hT,hr⟩
end
def wAsT (K:PySem.W.Frag) (n:Nat) (cs:List Value) (i:Nat) (ts:TS) (Wout:WX) (D:Ends):WX:=fun cls d σ H =>
 ∃ b,PySem.W.exmAny K cls cs=some b/\(b=true->σ.length=n->∀ a,H a=none->ts { nx:=fun σ' H'=>D.nx (σ'.set i none) H',rt:=D.rt,bk:=fun σ' H'=>D.bk (σ'.set i none) H',ct:=fun σ' H'=>D.ct (σ'.set i none) H' } (σ.set i (some (.ref a))) (upd H a (exs a cls d))) /\
  (b=false->Wout cls d σ H)
section
variable {X:Cx} {x1 x2 x3 n:Str} {c1 c2 c3:Value} {i:Nat} {body suite:List Stmt} {b₀:Stmt} {p1 p2 p3 tp pos pos':Pos} {kk:Nat} {tb:WX->TS} {ts:TS} {Wout:WX}
theorem name_ok {X:Cx} {pins:List (Addr×Obj)} {σ:L2.St} {H:Hp} {s:Shared} {x:Str} {c:Value} {np:Pos} {Q:Value->Shared->Prop} {E:Value->Shared->Prop} (I:Inv X pins σ H s) (hc:Names X x c) (q:Q c s):wpAny (model X.prog X.w) X.A (eval (.Name x np) X.env) Q E s:=by
 obtain ⟨hg,hdbg,hm | ⟨hm,hv,hnn⟩⟩:=hc
 ·exact ld_glob I hg hm q hdbg
 ·exact ld_blt I hg hm hv q hnn hdbg
theorem ps_try_asT (hex:X.ex=[]) (hs:X.stack=X.env :: X.outer) (hf:X.env.frame=some X.env.locals) (hN:X.N.Nodup) (hi:X.N[i]?=some n) (hln:X.env.kindOf n=some .local) (hc1:Names X x1 c1) (hc2:Names X x2 c2) (hc3:Names X x3 c3) (tk:Takes X Wout)
  (hb:∀ (W:WX) (pn:List (Addr×Obj)) (xe:Value->Shared->Prop),Takes (X.tr pn xe) W->PassesOwn (model X.prog X.w) X.A X.env xe->PSs (X.tr pn xe) body (tb W))
  (hsu:∀ (a:Addr) (pn:List (Addr×Obj)),PSs (X.suite a pn) (b₀ :: suite) ts) :
  PS X (.Try body [.ExceptHandler (some (.Tuple [.Name x1 p1,.Name x2 p2,.Name x3 p3] kk tp)) (some n) (b₀ :: suite) pos'] [] [] pos) (fun D σ H=>tb (wAsT X.K X.N.length [c1,c2,c3] i ts Wout D) D σ H):=by
 refine ⟨fun pins s σ H D I h=>?_⟩
 have ok:=I.ok
 have hfr:X.A.frames=some (X.env :: X.outer):=by rw [ok.frames,hs]
 have hloc:Loc X.env.scope n:=.inl hln
 refine wpAny_Try_except ?_
 refine wpAny_mono ((hb (wAsT X.K X.N.length [c1,c2,c3] i ts Wout D) (X.pn ++ pins) _ (fun u s' xx=>?_) PassesOwn.looking).run [] s σ H D (I.toTry _) h) (fun f s1 hsp=>?_) (fun e s1 he=>he)
 ·obtain ⟨a,B,sI,pins',σ',H',cls,d,rfl,J',nb,up,sky,na,os,ag,b,hb1,hyes,hno⟩:=xx
  have J:Inv X pins σ' H' sI:=J'.ofTry ok
  have sky':Sky B (X.env :: X.outer) a (Zc cls d) X.env.locals s'.heap:=by rw [<- hs];exact sky
  show wpAny (model X.prog X.w) X.A (noteFrame (.ref a) X.env) _ _ _
  refine Sky.land Zc.steady hfr hf sky' fun h3 fl3 up3=>?_
  have J3:Inv X pins σ' H' { s' with heap:=h3 }:=J.landed nb fl3.1 (up.trans up3) os ag
  obtain ⟨oe3,vs3,he3,hz3,hd3⟩:=fl3.there
  have nfr:a ∉ frs (X.env :: X.outer):=fun hm=>by
   obtain ⟨_,o',e',hnf⟩:=fl3.2.2.1.mem hm
   rw [he3] at e';cases e'
   exact hnf _ hd3
  have nL:a≠X.env.locals:=fun z=>nfr (List.mem_filterMap.mpr ⟨X.env,List.mem_cons_self,by rw [hf,z]⟩)
  have n0:X.s_0.heap.get? a=none:=by
   cases e:X.s_0.heap.get? a with
   | none=>rfl
   | some o =>
    obtain ⟨o',e'⟩:=J.base.there a o e (by rw [hex];exact fun z=>nomatch z)
    have:=nb a o' e' (by rw [hs];exact nfr)
    rw [fl3.2.1] at this;cases this
  have npin:∀ p∈X.pn ++ pins,p.1≠a:=fun p hp z=>by
   obtain ⟨e,_,l,f,_⟩:=J.pin p hp
   have:=nb p.1 p.2 e (by
    rw [hs]
    intro hm
    obtain ⟨en,he,q⟩:=List.mem_filterMap.mp hm
    rcases List.mem_cons.mp he with rfl | he
    ·rw [hf] at q;exact l (Option.some.inj q).symm
    ·exact f (List.mem_filterMap.mpr ⟨en,he,q⟩))
   rw [z,fl3.2.1] at this;cases this
  refine wpAny_handleBy_cons (codeAny_handlers_test ?_) (by intro q;cases q)
  have LT:PySem.W.Looks (model X.prog X.w) h3 (typeOf (.ref a)) cls:=fun A Q E s k q=>wpAny_typeOf_ref (k _ _ he3) (by rw [hz3.1];exact q)
  have S3:=inv_suite0 J3 a
  refine wpAny_Tuple ?_
  refine wpAny_items_cons (name_ok (X:=X.suite a (X.pn ++ pins)) S3 hc1 ?_)
  refine wpAny_items_cons (name_ok (X:=X.suite a (X.pn ++ pins)) S3 hc2 ?_)
  refine wpAny_items_cons (name_ok (X:=X.suite a (X.pn ++ pins)) S3 hc3 ?_)
  refine wpAny_items_nil ⟨by size_fits,?_⟩
  have kp:∀ q o,h3.get? q=some o->(h3.push { cls:=.type "tuple",data:=.seq [c1,c2,c3].toArray }).get? q=some o:=fun _ _ z=>Heap.get?_push_of_some _ z
  have LM:=PySem.W.exm_tup3 (M:=model X.prog X.w) (J3.kIn.keeps kp) (LT.keeps kp) (Heap.get?_push_size h3 rfl) hb1
  have fl3:=flying_push fl3 kp
  have up3:=up3.trans (Heap.UpToSlots.of_keeps kp)
  refine LM.here ?_
  generalize h3.push { cls:=.type "tuple",data:=.seq [c1,c2,c3].toArray }=h3 at fl3 up3 ⊢
  cases b with
  | true =>
   refine codeAny_handlers_suite_as ?_
   refine HandSPX.lands_againZ fl3 fun h4 fl4 up4=>?_
   have J4:Inv X pins σ' H' { s' with heap:=h4 }:=J.landed nb fl4.1 ((up.trans up3).trans up4) os ag
   obtain ⟨oe4,vs4,he4,hz4,hd4⟩:=fl4.there
   have S4:=inv_suite0 (inv_track J4 he4 hz4 hd4 na nL n0 npin) a
   refine store_ok (X:=X.suite a (X.pn ++ pins)) (v:=.ref a) S4 hN hi hloc rfl (fun s5 S5=>?_) (.inr hln)
   refine wpAny_mono ((hsu a (X.pn ++ pins)).run [] s5 _ _ _ S5 (hyes rfl J.len a na)) (fun f s6 hsp=>?_) (fun _ _ z=>False.elim z)
   have end_:∀ {σ6:L2.St} {H6:Hp} {Q:Shared->Prop},Inv (X.suite a (X.pn ++ pins)) [] σ6 H6 s6->(∀ s7,Inv X pins (σ6.set i none) H6 s7->Q s7) ->
     wpAny (model X.prog X.w) X.A (do bindName X.env n .none;unbindBehindTheSuite X.env n pos') (fun _ s7=>Q s7) X.xe s6:=fun {σ6 H6 Q} S6 hq=>gone_ok (inv_unsuite0 S6 ok) hN hi hln hq
   cases f with
   | next =>
    obtain ⟨σ6,H6,S6,q6⟩:=hsp
    exact end_ S6 fun s7 J7=>⟨_,_,J7,q6⟩
   | brk =>
    obtain ⟨σ6,H6,S6,q6⟩:=hsp
    exact end_ S6 fun s7 J7=>⟨_,_,J7,q6⟩
   | cont =>
    obtain ⟨σ6,H6,S6,q6⟩:=hsp
    exact end_ S6 fun s7 J7=>⟨_,_,J7,q6⟩
   | ret u =>
    obtain ⟨v6,σ6,H6,S6,r6,q6⟩:=hsp
    exact end_ S6 fun s7 J7=>⟨_,_,_,J7,r6,q6⟩
  | false =>
   show wpAny _ X.A (handleBy (.ref a) X.env []) _ _ _
   refine wpAny_handleBy_nil ?_
   obtain ⟨k1,k2,k3,oe,vs,T,oT,ts',he,hz,hd,h1,hr⟩:=_root_.id fl3
   unfold PySem.passOn
   refine wpAny_bind (wpAny_field he hd h1 ?_)
   rw [if_neg (show ¬ ((Value.ref T == Value.none)=true) from by simp)]
   have fin:wpAny (model X.prog X.w) X.A (setFlight (.ref a) X.env.frame) (fun _ s4=>wpAny (model X.prog X.w) X.A (throw (.ref a):Sem Flow) (SP X pins D) X.xe s4) X.xe { s' with heap:=h3 }:=by
    rw [hf]
    exact HandSPX.setFlight_upZ fl3 fun h4 hh4 up4=>wpAny_throw (tk _ _ ⟨a,B,sI,pins,σ',H',cls,d,rfl,J,nb,(up.trans up3).trans up4,.inr (.inr (by rw [hs];exact hh4)),na,os,ag,hno rfl⟩)
   first
    | exact wpAny_bind fin
    | exact wpAny_bind (wpAny_pure (wpAny_bind fin))
 ·cases f with
  | next =>
   obtain ⟨σ',H',J',q⟩:=hsp
   exact wpAny_execs_nil ⟨σ',H',J'.ofTry ok,q⟩
  | brk =>
   obtain ⟨σ',H',J',q⟩:=hsp
   exact ⟨σ',H',J'.ofTry ok,q⟩
  | cont =>
   obtain ⟨σ',H',J',q⟩:=hsp
   exact ⟨σ',H',J'.ofTry ok,q⟩
  | ret u =>
   obtain ⟨v,σ',H',J',r,q⟩:=hsp
   exact ⟨v,σ',H',J'.ofTry ok,r,q⟩
end
def tXs (K:PySem.W.Frag) (f:Str) (te:TE):TE:=fun σ H Q=>te σ H fun x H1=>∃ (a C dd:Addr) (fs:List (Str×V)) (v:V),x = .ref a/\H1 a=some (exs a (.ref C) (some dd))/\XfC K C/\PySem.W.findIn K (.ref C) f=some none/\H1 dd=some (.xd fs)/\fs.lookup f=some v/\Q v H1
theorem pe_xs {X:Cx} {e:Expr} {te:TE} {pos:Pos} {n:Str} (he:PE X e te) (hb:attributeBase e n X.env (eval e X.env)=eval e X.env:=by rfl):PE X (.Attribute e n pos) (tXs X.K n te):=by
 refine ⟨fun pins s σ H Q I h=>?_⟩
 refine attr_of hb (thn (he.run pins s σ H _ I h) fun u s1 hh=>?_)
 obtain ⟨x,H1,I1,rx,a,C,dd,fs,v,ex,e1,T,hno,ea,l,q⟩:=hh
 subst ex
 obtain rfl:u=Value.ref a:=rx
 obtain ⟨oe,vs,ha,hz,hd⟩:=exs_at I1.hok e1
 have hx:ObjOk X.prog X.w H1 s1.heap dd (.xd fs):=I1.hok dd _ ea
 obtain ⟨mA,hns,hr⟩:=hx
 obtain ⟨od,ho,hl⟩:=lookIn_ns hns
 obtain ⟨u,hu,ru⟩:=RelO.some_of (v:=v) (o:=mA n) (by rw [<- l];exact hr n)
 have J:PySem.W.InstAt s1.heap a oe C (some od):=⟨ha,hz.1,by unfold PySem.W.notCls;rw [hd] <;> rfl,by rw [hz.2];exact ho⟩
 exact HandSPX.exc_get I1.kIn J T.ga T.gg T.exC (PySem.W.findObj_own T.hdC hno rfl (by rw [hl,hu])) (handed_of ru) ⟨v,H1,I1.tok _,ru,q⟩
abbrev RoomH:=L2H.RoomH
theorem roomH_units {k:Nat} {A:Around} (r:RoomH k A):A.units+64 < cLine:=by have:=r.un;omega
structure FnC (P:Program) (w:World) (K:PySem.W.Frag) (mg:Str->Option Value) (base:Heap) (CX:CXT) (k:Nat) (f:Addr) (fd:FuncData) (ps:List Str) (sp:Sp):Prop where
 len:∀ vs H Q E,sp vs H Q E->vs.length=ps.length
 run:∀ (A:Around) (outer:List Env) (s:Shared) (H:Hp) (args:Args) (us:List Value) (vs:List V) (Q:VK) (E:XK),RoomH k A->Env0 P w K mg base A outer s H->BindsTo s fd args (ps.zip us)->Vals vs us->sp vs H Q E ->
  codeAny (model P w) A (.call (.ref f) args) (CR CX outer P w H s Q E) s
def cxC (CX:CXT) (P:Program) (w:World) (K:PySem.W.Frag) (mg:Str->Option Value) (base:Heap) (N:List Str) (qual:Str) (scope:Scope) (f:Addr) (cd:Value) (A:Around) (outer:List Env) (s:Shared) (H:Hp) (E:XK):Cx :=
 { cxOf CX P w K mg base N qual scope f cd A outer s H E with calm:=false }
theorem inv_startC {CX:CXT} {P:Program} {w:World} {K:PySem.W.Frag} {mg:Str->Option Value} {base:Heap} {N ps:List Str} {qual:Str} {scope:Scope} {f:Addr} {cd:Value} {A:Around} {outer:List Env} {s s1:Shared} {H:Hp} {E:XK} {us:List Value} {vs:List V}
  (S:FnScope N ps scope) (e0:Env0 P w K mg base A outer s H) (hl:vs.length=ps.length) (r:Vals vs us)
  (x:InCallC s s.heap.objs.size (bindL (envOfC qual scope s.heap.objs.size f cd).kindOf (ps.zip us) fun _=>none) (cellsFrom (s.heap.objs.size+1) scope.names []) (bindC (envOfC qual scope s.heap.objs.size f cd).kindOf (ps.zip us) fun _=>none) s1) :
  Inv (cxC CX P w K mg base N qual scope f cd A outer s H E) [] (L2.start N vs) H s1:=by
 have e1:Env0 P w K mg base ({ A with handled:=none }) outer s H:=⟨e0.frames,e0.mod,e0.bs,e0.bsz,e0.funs,e0.frf,e0.hok,e0.bare⟩
 have I:=inv_start (CX:=CX) (E:=E) S (A:={ A with handled:=none }) rfl e1 hl r x
 have o:=I.ok
 exact ⟨⟨o.mod,o.kind,o.glob,o.blt,o.above,o.inj,o.has,o.cab,(fun z=>Bool.noConfusion (show false=true from z)),Around.frames_deeper e0.frames,o.stk,o.exf,o.bs,o.bsz,o.noex,o.exfs,o.funs,o.frf⟩,I.os,I.bare,I.base,I.loc,I.cell,I.free,I.freeC,I.pin,I.hok,I.len⟩
section
variable {P:Program} {w:World} {K:PySem.W.Frag} {mg:Str->Option Value} {base:Heap} {x qual:Str} {params:Arguments} {body:List Stmt} {scope:Scope} {dvs:List V} {kws:List (Str×V)} {f:Addr} {fd:FuncData}
theorem fn_C {CX:CXT} {N ps:List Str} {k:Nat} {sp:Sp} (F:FunD K x qual params body scope dvs kws f fd) (S:FnScope N ps scope) (len:∀ vs H Q E,sp vs H Q E->vs.length=ps.length)
  (hbody:∀ (cdv:Value) (A:Around) (outer:List Env) (s:Shared) (H:Hp) (vs:List V) (Q:VK) (E:XK),RoomH k (A.deeper (envOfC qual scope s.heap.objs.size f cdv))->sp vs H Q E ->
   ∃ t,PSs (cxC CX P w K mg base N qual scope f cdv A outer s H E) body t/\t { nx:=fun _ H'=>Q .non H',rt:=Q } (L2.start N vs) H):FnC P w K mg base CX (k+1) f fd ps sp:=by
 obtain ⟨oc,od,dV,kV,doc,pm,an,cdv,ct,osl,rfl,lk,hcd,_,_⟩:=F.ex
 refine ⟨len,fun A outer s H args us vs Q E hr e0 hb r hsp=>?_⟩
 have hl:=len _ _ _ _ hsp
 have KX:K.In s.heap:=e0.mod.kin.keeps fun b o e=>(e0.bs b o e).1
 have lim:s.heap.NoLimit:=e0.mod.nolimit.keeps fun b o e=>(e0.bs b o e).1
 have hkind:∀ y∈ps.zip us,scope.names.lookup y.1=some .local\/(scope.names.lookup y.1=some .cell/\((cellsFrom (s.heap.objs.size+1) scope.names []).lookup y.1).isSome=true):=fun ⟨n,v⟩ hy=>by
  rcases S.par n (List.of_mem_zip hy).1 with q | q
  ·exact .inl q
  ·exact .inr ⟨q,PySem.W.cellsFrom_some _ _ _ (.inl q)⟩
 refine codeAny_call_function hr.depth (KX _ _ lk) rfl S.co S.gen rfl (PySem.W.codeRec_of KX hcd) (hb _ _ _ _ ?_)
 refine wpAny_newFunctionEnv_cells S.kind hkind fun env he s1 x=>?_
 subst he
 refine ⟨lim.keeps x.toInCall.keep,codeAny_func ?_⟩
 obtain ⟨t,ht,hq⟩:=hbody cdv A outer s H vs Q E (hr.deeper _) hsp
 have I:=inv_startC (CX:=CX) (E:=E) (P:=P) (w:=w) (K:=K) (mg:=mg) (base:=base) (A:=A) S e0 hl r x
 refine wpAny_mono (ht.run [] s1 (L2.start N vs) H _ I hq) (fun fl s' hs=>?_) fun e s' hs=>hs
 cases fl with
 | ret u =>
  obtain ⟨v,σ',H',J,rv,q⟩:=hs
  exact ⟨v,H',J.os,J.bare,J.base,J.hok,rv,q⟩
 | next =>
  obtain ⟨σ',H',J,q⟩:=hs
  exact ⟨V.non,H',J.os,J.bare,J.base,J.hok,rfl,q⟩
 | brk =>
  obtain ⟨_,_,_,q⟩:=hs
  exact False.elim q
 | cont =>
  obtain ⟨_,_,_,q⟩:=hs
  exact False.elim q
end
section
variable {X:Cx} {CX:CXT} {k:Nat} {f:Addr} {fd:FuncData} {ps:List Str} {sp:Sp} {E:XK} {x:Str} {p pos:Pos} {e:Expr} {es:List Expr} {t:TA}
theorem pe_callC (F:FnC X.prog X.w X.K X.mg X.base CX k f fd ps sp) (hr:RoomH k X.A) (hg:Gl X x) (hm:X.mg x=some (.ref f)) (hk:PySem.W.keepIn X.K (.ref f)=true) (hb:Binds X.K fd ps []) (hx:Passes CX X E)
  (ha:PA X (e :: es) t) (hdb:(x == ("__debug__":Str))=false:=by decide) (he:starEach (e :: es) X.env=(false,eval e X.env) :: starEach es X.env:=by rfl) (hpl:(backTo pos (starEach es X.env)).any (·.1)=false:=by rfl) :
  PE X (.Call (.Name x p) (e :: es) [] pos) (tCall sp [] E t):=by
 refine ⟨fun pins s σ H Q I h=>?_⟩
 refine wpAny_Call_Name_kw (ld_glob I hg hm ?_ hdb)
 refine PySem.W.callWith_K (h₀:=X.base) I.ok.mod.kin hk (thn (ha.run pos pins s σ H _ I h) fun us s1 ⟨vs,H1,I1,r,q⟩=>⟨I1.kIn,?_⟩) he hpl
 have q:sp (vs ++ []) H1 Q E:=q
 rw [List.append_nil] at q
 have hl:us.length=ps.length:=by rw [<- r.length];exact F.len _ _ _ _ q
 have b:=hb s1 us I1.kIn (by rw [List.append_nil];exact hl)
 rw [List.append_nil] at b
 refine wpAny_call (codeAny_mono (F.run X.A X.stack s1 H1 ⟨us,[]⟩ us vs Q E hr I1.env0 b r q) fun r s' hq=>?_)
 cases r with
 | error e=>exact hx pins σ H1 s1 e s' I1 hq
 | ok fl =>
  cases fl with
  | ret u=>exact I1.after hq
  | next=>exact False.elim hq
  | brk=>exact False.elim hq
  | cont=>exact False.elim hq
end
theorem oexB_ok {K:PySem.W.Frag} {C:Addr} (h:oexB K C=true):OexC K C:=by
 unfold oexB at h
 simp only [Bool.and_eq_true] at h
 obtain ⟨h0,h1,h2,h3,h4⟩:=h
 refine ⟨?_,of_decide_eq_true h1,of_decide_eq_true h2,of_decide_eq_true h3,h4⟩
 split at h0
 ·rename_i dd cd sl ho
  split at h0
  ·rename_i C' bm k0 k1 k2 k3 n k5 hm hs
   simp only [Bool.and_eq_true,beq_iff_eq,Bool.not_eq_true'] at h0
   obtain ⟨rfl,rfl,hdel,hdi,ht⟩:=h0
   obtain ⟨nm,bs,mro,ns,qn,hd,sn,sub,ab,col,del⟩:=cd
   dsimp only at hm hdel hdi
   subst hm hdel hdi
   have hsl:sl=#[k0,k1,k2,k3,some (.builtin "ValueError.__new__"),k5]:=by
    obtain ⟨l⟩:=sl
    simp only at hs
    rw [hs]
   subst hsl
   exact ⟨nm,qn,ns,bs,bm,sn,sub,ab,col,dd,k0,k1,k2,k3,k5,ho,ht⟩
  ·cases h0
 ·cases h0
def FSrc.d (ds:List D):FSrc->D
 | .k z=>.str z
 | .p i=>ds.getD i .non
def FL.d (fl:FL) (ds:List D):List (Str×D):=fl.map fun q=>(q.1,q.2.d ds)
theorem getD_rp {K:PySem.W.Frag} {al:Al} {M:Mem} {H:Hp}:∀ {ds:List D} {ws:List V} (i:Nat),Rps K al M H ds ws->Rp K al M H (ds.getD i .non) (ws.getD i .non)
 | [],_,_,h=>by cases (show _=[] from h);rfl
 | d :: ds,_,0,h=>by obtain ⟨x,r,rfl,q,t⟩:=h;exact q
 | d :: ds,_,i+1,h=>by obtain ⟨x,r,rfl,q,t⟩:=h;exact getD_rp (ds:=ds) (ws:=r) i t
theorem fl_rpk {K:PySem.W.Frag} {al:Al} {M:Mem} {H:Hp} {ds:List D} {ws:List V} (h:Rps K al M H ds ws):∀ fl:FL,Rpk K al M H (fl.d ds) (fl.v ws)
 | []=>Rpk.nil
 | (f,.k z) :: r=>Rpk.cons rfl (fl_rpk h r)
 | (f,.p i) :: r=>Rpk.cons (getD_rp i h) (fl_rpk h r)
def xH (H:Hp) (a C dx:Addr) (fs:List (Str×V)):Hp:=upd (upd H dx (exd dx fs)) a (exo a C (some dx))
def spX (C:Addr) (fl:FL) (n:Nat):Sp:=fun vs H Q E=>∃ a ws,vs = .ref a :: ws/\ws.length=n/\H a=some (exo a C none)/\∀ dx,H dx=none->dx≠a->Q .non (xH H a C dx (fl.v ws))
def EvT (σ:L2.St) (te:TE) (y:V):Prop:=∀ (H:Hp) (Q:VK),Q y H->te σ H Q
theorem ev_c {σ:L2.St} {v:V}:EvT σ (tC v) v:=fun _ _ h=>h
theorem ev_var {σ:L2.St} {i:Nat} {v:V} (h:σ[i]?=some (some v)):EvT σ (tVar i) v:=fun _ _ q=>⟨v,h,q⟩
section
variable {K:PySem.W.Frag} {C a dx:Addr} {f:Str} {to te:TE} {D:Ends} {σ:L2.St} {H:Hp} {y:V} {fs:List (Str×V)}
theorem init_first (T:OexC K C) (hf:PySem.W.findIn K (.ref C) f=some none) (h0:H a=some (exo a C none)) (ev:EvT σ te y) (es:EvT σ to (.ref a)) (k:∀ dx,H dx=none->dx≠a->D.nx σ (xH H a C dx [(f,y)])):tOst K f to te D σ H :=
 ev _ _ (es _ _ ⟨a,C,rfl,T,hf,.inl ⟨h0,k⟩⟩)
theorem init_next (T:OexC K C) (hf:PySem.W.findIn K (.ref C) f=some none) (hne:dx≠a) (hl:fs.length<=900) (ev:EvT σ te y) (es:EvT σ to (.ref a)) (k:D.nx σ (xH H a C dx ((f,y) :: fs))):tOst K f to te D σ (xH H a C dx fs) :=
 ev _ _ (es _ _ ⟨a,C,rfl,T,hf,.inr ⟨dx,fs,upd_same,by unfold xH;rw [upd_ne hne,upd_same],hl,by
  have e:upd (xH H a C dx fs) dx (exd dx ((f,y) :: fs))=xH H a C dx ((f,y) :: fs):=by
   funext b
   unfold xH
   by_cases h1:b=dx
   ·subst h1;rw [upd_same,upd_ne hne,upd_same]
   ·rw [upd_ne h1]
    by_cases h2:b=a
    ·subst h2;rw [upd_same,upd_same]
    ·rw [upd_ne h2,upd_ne h1,upd_ne h2,upd_ne h1]
  rw [e];exact k⟩⟩)
end
section
variable {X:Cx} {p pos:Pos}
theorem pmk_oex0 {CX:CXT} {x:Str} {C fI:Addr} {k:Nat} {fd:FuncData} {ps:List Str} {sp:Sp} (T:OexC X.K C) (iC:PySem.W.findIn X.K (.ref C) "__init__"=some (some (.ref fI))) (tI:PySem.W.typeIn X.K (.ref fI)=some (.type "function"))
  (F1:FnOk X.prog X.w X.K X.mg X.base CX k fI fd ps sp) (hr:Room (k+1) X.A) (hb:Binds X.K fd ps []) (hx:Passes CX X (fun _ _ _=>False)) (hg:Gl X x) (hm:X.mg x=some (.ref C))
  (hdb:(x == ("__debug__":Str))=false:=by decide):PMk X (.Call (.Name x p) [] [] pos) (tMkO C sp [] tNil):=by
 intro pins s σ H Q I h
 obtain ⟨nm,q,N,bs,bm,sn,sub,ab,col,dd,k0,k1,k2,k3,k5,hC,hbm⟩:=T.cls
 refine wpAny_Call_Name_kw (ld_glob I hg hm ?_ hdb)
 refine PySem.W.callWith_K0 I.kIn T.kC ?_
 obtain ⟨hz,q1⟩:=h
 obtain ⟨hp,g,dr,tk,os⟩:=s
 have hsz:hp.objs.size<=hp.objs.size+1:=Nat.le_succ _
 have hn:H (hp.objs.size+1)=none:=I.hok.fresh hsz
 have hq:=q1 (hp.objs.size+1) hn
 have kk:∀ b o,hp.get? b=some o->((hp.push (PySem.W.kdv_tup [])).push (PySem.HandSPX.excO C hp.objs.size)).get? b=some o:=fun b o e=>Heap.get?_push_of_some _ (Heap.get?_push_of_some _ e)
 have hget:((hp.push (PySem.W.kdv_tup [])).push (PySem.HandSPX.excO C hp.objs.size)).get? (hp.objs.size+1)=some (PySem.HandSPX.excO C hp.objs.size):=by heap_get
 have I2:Inv X pins σ (upd H (hp.objs.size+1) (exo (hp.objs.size+1) C none)) ⟨(hp.push (PySem.W.kdv_tup [])).push (PySem.HandSPX.excO C hp.objs.size),g,dr,tk,os⟩ :=
  I.laid (t':=tk) (a:=hp.objs.size+1) (o:=exo (hp.objs.size+1) C none) (h':=(hp.push (PySem.W.kdv_tup [])).push (PySem.HandSPX.excO C hp.objs.size)) kk hsz (exo_ok hget)
 have r2:Vals [V.ref (hp.objs.size+1)] [Value.ref (hp.objs.size+1)]:=.cons rfl .nil
 have hl:[Value.ref (hp.objs.size+1)].length=ps.length:=by
  have e:=F1.len _ _ _ _ hq
  exact e
 refine wpAny_call (PySem.HandSPX.call_own F.excBase_ValueError (fun Y=>PySem.HandSPX.refsVE_contains Y bm hbm) (I.kIn _ _ hC) (PySem.W.looks_findIn I.kIn iC) (fun self=>PySem.W.bind_fn I.kIn self tI) (show ([]:List Value).length<=sizeLine by decide)
  (codeAny_mono (F1.run _ X.stack _ _ ⟨[Value.ref (hp.objs.size+1)],[]⟩ [Value.ref (hp.objs.size+1)] _ _ (fun _ _ _=>False) (hr.make C [] []) (I2.env0.make C [] []) (by have:=hb _ [Value.ref (hp.objs.size+1)] I2.kIn hl;exact this) r2 hq) fun r s' hq'=>?_))
 cases r with
 | error er=>exact hx pins σ _ _ er s' I2 hq'
 | ok fl =>
  cases fl with
  | ret u =>
   obtain ⟨v,H2,os2,bare2,un2,hok2,rv,ev,d,fs,ea,ed,hd1,q2⟩:=hq'
   subst ev
   obtain ⟨h2,g2,d2,t2,os'⟩:=s'
   exact ⟨rv,mk_end (raises_own T.exC T.tyC) I hsz kk un2 hok2 os2 bare2 ea ed hd1 q2⟩
  | next=>exact False.elim hq'
  | brk=>exact False.elim hq'
  | cont=>exact False.elim hq'
end
structure XCal (P:Program) (w:World) (K:PySem.W.Frag) (mg:Str->Option Value) (base:Heap) (x:Str) (fl:FL) (n k:Nat) where
 T:OexC K (He.ga K x)
 fI:Addr
 fdI:FuncData
 psI:List Str
 iC:PySem.W.findIn K (.ref (He.ga K x)) "__init__"=some (some (.ref fI))
 tI:PySem.W.typeIn K (.ref fI)=some (.type "function")
 fn:FnOk P w K mg base (L2.CX P w) k fI fdI psI (spX (He.ga K x) fl n)
 bd:Binds K fdI psI []
 mgx:mg x=some (.ref (He.ga K x))
abbrev dRaise (C:Addr) (fl:FL) (n:Nat) (t:TAD):TSD:=fun E DD rho M=>t E rho M fun ds M1=>ds.length=n/\n<=1000/\E ⟨C,fl.d ds⟩ M1
section
variable {X:Cx} {Tb:List (Addr×Str)} {EV:XK} {x:Str} {fl:FL} {n k:Nat} {t:TAD} {e:Expr} {es:List Expr} {p pos pos':Pos}
theorem raise_lift {C:Addr} {σ:L2.St} {H:Hp} {DV:Ends} (h:∃ al rho M E DD,At X.K Tb EV al σ H rho M E/\dRaise C fl n t E DD rho M/\PostE X.K Tb al M H DD DV):tMkO C (spX C fl n) [] (liftA X.K Tb EV t) σ H (fun cls d H'=>EV cls d H'):=by
 obtain ⟨al,rho,M,E,DD,a,t,p⟩:=h
 refine seqA a t fun al1 ds M1 vs H1 s1 a1 r1 q1=>⟨by rw [<- r1.length,q1.1];exact q1.2.1,fun b hb=>?_⟩
 rw [List.append_nil]
 refine ⟨b,vs,rfl,by rw [<- r1.length];exact q1.1,upd_same,fun dx hdx hne=>⟨rfl,dx,fl.v vs,upd_same,by unfold xH;rw [upd_ne hne,upd_same],?_,?_⟩⟩
 ·rw [upd_ne hne] at hdx;exact hdx
 ·have hd1:H1 dx=none:=by rw [upd_ne hne] at hdx;exact hdx
  have e:upd (L2.del (xH (upd H1 b (exo b C none)) b C dx (fl.v vs)) b) dx (.xd (fl.v vs))=upd H1 dx (.xd (fl.v vs)):=by
   funext c
   by_cases h1:c=dx
   ·subst h1;rw [upd_same,upd_same]
   ·rw [upd_ne h1,upd_ne h1]
    by_cases h2:c=b
    ·subst h2;rw [del_same,hb]
    ·rw [del_ne h2]
     unfold xH
     rw [upd_ne h2,upd_ne h1,upd_ne h2]
  rw [e]
  exact a1.ex al1 ⟨C,fl.d ds⟩ M1 (.ref C) (some dx) _ (stp_new a1.wf hd1 _) (wf_new a1.wf hd1 _) ⟨rfl,dx,fl.v vs,rfl,upd_same,fl_rpk (r1.mono (stp_new a1.wf hd1 _)) fl⟩ q1.2.2
theorem dp_raise {K:PySem.W.Frag} (c:XCal X.prog X.w K X.mg X.base x fl n k) (hr:Room (k+1) X.A) (hc:X.calm=true) (tk:Takes X (fun cls d _ H=>EV cls d H)) (hx:Passes (L2.CX X.prog X.w) X (fun _ _ _=>False)) (hg:Gl X x) (ha:PDA X Tb EV (e :: es) t) (hK:X.K=K:=by rfl)
  (hdb:(x == ("__debug__":Str))=false:=by decide) (he:starEach (e :: es) X.env=(false,eval e X.env) :: starEach es X.env:=by rfl) (hpl:(backTo pos (starEach es X.env)).any (·.1)=false:=by rfl) :
  PDS X Tb EV (.Raise (some (.Call (.Name x p) (e :: es) [] pos)) none pos') (dRaise (He.ga K x) fl n t):=by
 subst hK
 exact ps_imp (ps_raise hc tk (pmk_oex c.T c.iC c.tI c.fn hr c.bd .nil hx hg c.mgx ha hdb he hpl)) fun DV σ H h=>raise_lift h
theorem dp_raise0 {K:PySem.W.Frag} (c:XCal X.prog X.w K X.mg X.base x fl n k) (hr:Room (k+1) X.A) (hc:X.calm=true) (tk:Takes X (fun cls d _ H=>EV cls d H)) (hx:Passes (L2.CX X.prog X.w) X (fun _ _ _=>False)) (hg:Gl X x) (hK:X.K=K:=by rfl)
  (hdb:(x == ("__debug__":Str))=false:=by decide) :
  PDS X Tb EV (.Raise (some (.Call (.Name x p) [] [] pos)) none pos') (dRaise (He.ga K x) fl n dNil):=by
 subst hK
 exact ps_imp (ps_raise hc tk (pmk_oex0 c.T c.iC c.tI c.fn hr c.bd hx hg c.mgx hdb)) fun DV σ H h=>by
  obtain ⟨al,rho,M,E,DD,a,t,p⟩:=h
  exact raise_lift (t:=dNil) (X:=X) (Tb:=Tb) ⟨al,rho,M,E,DD,a,t,p⟩ |> fun z=>by
   obtain ⟨al',rho',M',E',Q',a',t',p'⟩:=z
   exact p' al' [] M' [] H (Stp.refl ..) a'.wf rfl t'
end
def dXf (K:PySem.W.Frag) (f:Str) (t:TED):TED:=fun E rho M Q=>t E rho M fun x M1=>match x with
 | .exc C ns xs=>XfC K C/\PySem.W.findIn K (.ref C) f=some none/\(match (ns.zip xs).lookup f with
  | some d=>Q d M1
  | none=>False)
 | _=>False
theorem rps_lookup {K:PySem.W.Frag} {al:Al} {M:Mem} {H:Hp} {f:Str}:∀ {ns:List Str} {ds:List D} {vs:List V} {d:D},Rps K al M H ds vs->(ns.zip ds).lookup f=some d->∃ v,(ns.zip vs).lookup f=some v/\Rp K al M H d v
 | [],_,_,_,_,e=>by simp at e
 | n :: ns,[],_,_,_,e=>by simp at e
 | n :: ns,d' :: ds,_,d,r,e=>by
  obtain ⟨x,ys,rfl,rx,ry⟩:=r
  rw [List.zip_cons_cons,List.lookup_cons] at e ⊢
  split at e
  ·cases e;exact ⟨x,rfl,rx⟩
  ·exact rps_lookup ry e
theorem dv_xf {X:Cx} (K:PySem.W.Frag) {Tb:List (Addr×Str)} {EV:XK} {e:Expr} {te:TED} {pos:Pos} {f:Str} (he:PD X Tb EV e te) (hK:X.K=K:=by rfl) (hb:attributeBase e f X.env (eval e X.env)=eval e X.env:=by rfl):PD X Tb EV (.Attribute e f pos) (dXf K f te):=pe_imp (pe_xs he hb) fun σ H QV h=>by
 subst hK
 obtain ⟨al,rho,M,E,Q,a,t,p⟩:=h
 refine seq1 a t fun al1 x M1 vx H1 s1 a1 r1 q1=>?_
 cases x with
 | exc C ns xs =>
  obtain ⟨b,dx,vs,rfl,h1,f1,h2,f2,hl,r⟩:=r1
  obtain ⟨T,hn,q⟩:=q1
  split at q
  ·rename_i d e
   obtain ⟨v,ev,rv⟩:=rps_lookup r e
   exact ⟨b,C,dx,ns.zip vs,v,rfl,h1,T,hn,h2,ev,p _ _ _ _ _ s1 a1.wf rv q⟩
  ·exact q.elim
 | _=>exact (show False from q1).elim
structure FnDC (P:Program) (w:World) (K:PySem.W.Frag) (mg:Str->Option Value) (base:Heap) (Tb:List (Addr×Str)) (k:Nat) (f:Addr) (fd:FuncData) (ps:List Str) (dsp:DSp):Prop where
 ok:FnC P w K mg base (L2.CX P w) k f fd ps (liftSp K Tb dsp)
theorem fnDC_of {P:Program} {w:World} {K:PySem.W.Frag} {mg:Str->Option Value} {base:Heap} {Tb:List (Addr×Str)} {x qual:Str} {params:Arguments} {body:List Stmt} {scope:Scope} {dvs:List V} {kws:List (Str×V)} {f:Addr} {fd:FuncData} {N ps:List Str} {k:Nat} {dsp:DSp} (tb:TSD) (F:FunD K x qual params body scope dvs kws f fd) (S:FnScope N ps scope)
  (len:∀ ds M Q E,dsp ds M Q E->ds.length=ps.length)
  (hbody:∀ (cdv:Value) (A:Around) (outer:List Env) (s:Shared) (H:Hp) (EV:XK),RoomH k (A.deeper (envOfC qual scope s.heap.objs.size f cdv))->PDSs (cxC (L2.CX P w) P w K mg base N qual scope f cdv A outer s H EV) Tb EV body tb)
  (hq:∀ ds M Q E,okM M.length M->D.hbs M.length ds=true->dsp ds M Q E->tb (CutX M.length E) { nx:=fun _ M'=>Cut M.length Q .non M',rt:=Cut M.length Q } (startD N ds) M):FnDC P w K mg base Tb (k+1) f fd ps dsp:=by
 refine ⟨fn_C F S (fun vs H Q E h=>?_) fun cdv A outer s H vs QV EV hr h=>?_⟩
 ·obtain ⟨al,M,ds,Q,E,wf,r,q,_⟩:=h
  rw [<- r.length];exact len _ _ _ _ q
 ·obtain ⟨al,M,ds,Q,E,wf,r,q,p,px⟩:=h
  have pv:PostV K Tb al M H (Cut M.length Q) QV:=fun al' d M' v H' s' w' r' q' =>
   let ⟨m,hm,q1,q2,q3⟩:=q';p _ _ _ _ _ (stp_cut wf hm s') (wf_cut w' q2) (r'.cutH q1) q3
  refine ⟨_,hbody cdv A outer s H EV hr,al,startD N ds,M,CutX M.length E,_,⟨wf,start_ok r,fun al' y M' cls dct H' s' w' r' q'=>?_⟩,hq ds M Q E wf.okM (by rw [<- wf.len];exact r.hb) q,?_⟩
  ·obtain ⟨e1,dx,ys,e2,h1,h2⟩:=r'
   exact px _ y _ cls dct _ (stp_cut wf (Nat.le_refl _) s') (wf_cut w' q'.2.1) ⟨e1,dx,ys,e2,h1,h2.cutH q'.1⟩ q'.2.2
  ·refine ⟨fun al' rho' M' σ' H' s' w' _ q'=>?_,pv,fun _ _ _ _ _ _ _ _ q'=>q'.elim,fun _ _ _ _ _ _ _ _ q'=>q'.elim⟩
   exact pv al' .non M' .non H' s' w' rfl q'
theorem dv_callC {X:Cx} {Tb:List (Addr×Str)} {EV:XK} {k:Nat} {f:Addr} {fd:FuncData} {ps:List Str} {dsp:DSp} {x:Str} {p pos:Pos} {e:Expr} {es:List Expr} {t:TAD} (F:FnDC X.prog X.w X.K X.mg X.base Tb k f fd ps dsp) (hr:RoomH k X.A) (hg:Gl X x) (hm:X.mg x=some (.ref f)) (hk:PySem.W.keepIn X.K (.ref f)=true) (hb:Binds X.K fd ps []) (hx:Passes (L2.CX X.prog X.w) X EV)
  (ha:PDA X Tb EV (e :: es) t) (hdb:(x == ("__debug__":Str))=false:=by decide) (he:starEach (e :: es) X.env=(false,eval e X.env) :: starEach es X.env:=by rfl) (hpl:(backTo pos (starEach es X.env)).any (·.1)=false:=by rfl) :
  PD X Tb EV (.Call (.Name x p) (e :: es) [] pos) (dCall dsp t):=pe_imp (pe_callC F.ok hr hg hm hk hb hx ha hdb he hpl) fun _ _ _ h=>call_lift h
end DL
namespace DL
open PySem PySem.Spec PyProof.Rows L2 LamX
def Exn.d (x:Exn):D:=.exc x.C (x.fs.map (·.1)) (x.fs.map (·.2))
theorem zip_unzip {α β:Type}:∀ l:List (α×β),(l.map (·.1)).zip (l.map (·.2))=l
 | []=>rfl
 | (a,b) :: r=>by rw [List.map_cons,List.map_cons,List.zip_cons_cons,zip_unzip r]
def toldX (K:PySem.W.Frag) (cs:List Value) (dspF:DSp) (Q:VD):XD:=fun x M=>PySem.W.exmAny K (.ref x.C) cs=some true/\XfC K x.C/\PySem.W.findIn K (.ref x.C) "code"=some none /\
 ∃ z:Str,x.fs.lookup ("code":Str)=some (.str z)/\dspF [x.d] M (fun d M'=>rAdd_ (.tup [.str "no",.str z]) d M' Q) fun _ _=>False
abbrev toldD (K:PySem.W.Frag) (cs:List Value) (dspF:DSp) (tl:XD->Mem->VD->Prop) (M:Mem) (Q:VD):Prop:=tl (toldX K cs dspF Q) M fun d M'=>Q (.tup [.str "told",d]) M'
def TTd (K:PySem.W.Frag) (Tb:List (Addr×Str)) (TT:(XD->Mem->VD->Prop)->Mem->VD->Prop):(XK->Hp->VK->Prop)->Hp->VK->Prop:=fun tl H Q =>
 ∃ al M QD tlD,Wf K Tb al H M/\PostV K Tb al M H QD Q/\(∀ E EV Q' QV',PostX K Tb al M H E EV->PostV K Tb al M H Q' QV'->tlD E M Q'->tl EV H QV')/\TT tlD M QD
theorem rp_exn {K:PySem.W.Frag} {Tb:List (Addr×Str)} {al:Al} {M:Mem} {H:Hp} {x:Exn} {cls:Value} {d:Option Addr} {a:Addr} (w:Wf K Tb al H M) (r:RpX K al M H x cls d) (ha:H a=none) :
  Rp K al M (upd H a (exs a cls d)) x.d (.ref a):=by
 obtain ⟨rfl,dx,ys,rfl,h1,h2⟩:=r
 have hne:dx≠a:=ne_of_none h1 ha
 have fz:Fz al M dx:=by
  refine ⟨fun hm=>?_,fun i mo e1 e2=>?_⟩
  ·obtain ⟨xs,e,z⟩:=w.hth dx hm
   rw [h1] at e;exact z.xd _ (Option.some.inj e).symm
  ·have q:=w.rep i dx mo e1 e2
   cases mo with
   | lst xs=>obtain ⟨_,e,_⟩:=q;rw [h1] at e;cases e
   | dK kvs=>obtain ⟨_,e,_⟩:=q;rw [h1] at e;cases e
   | dT ks ds=>obtain ⟨_,e,_⟩:=q;rw [h1] at e;cases e
   | ins C fs=>obtain ⟨_,_,e,_⟩:=q;rw [h1] at e;cases e
 have hk:x.fs.map (·.1)=ys.map (·.1):=h2.1
 refine ⟨a,dx,ys.map (·.2),rfl,upd_same,w.fresh ha,?_,fz,?_,h2.2.mono (stp_new w ha _)⟩
 ·rw [upd_ne hne,hk,zip_unzip];exact h1
 ·have:=congrArg List.length hk;simpa using this
section
variable {X:Cx} {Tb:List (Addr×Str)}
theorem told_gives (K:PySem.W.Frag) (hK:X.K=K) {x:Str} {sg:Scope} {g fF:Addr} {fdF:FuncData} {psF:List Str} {cdg:Value} {q:Str} {dspF:DSp} {kF:Nat} {c1 c2 c3:Addr} {j1 j2 k1 k2 k3:Nat} {p1 p2 p3 p4 p5 p6 p7 p8 p9 q1 q2 q3 q4 q5 q6 q7 q8 q9 tp1 tp2:Pos}
  (nE:sg.names.lookup ("_law_e":Str)=some .local) (nA:Vis sg "_law_ask") (n1:sg.names.lookup ("RoundError":Str)=some .globalImplicit) (n2:sg.names.lookup ("Missing":Str)=some .globalImplicit) (n3:sg.names.lookup ("NothingLeft":Str)=some .globalImplicit) (nF:sg.names.lookup ("_law_fields":Str)=some .globalImplicit)
  (m1:X.mg "RoundError"=some (.ref c1)) (m2:X.mg "Missing"=some (.ref c2)) (m3:X.mg "NothingLeft"=some (.ref c3)) (mF:X.mg "_law_fields"=some (.ref fF))
  (F:FnDC X.prog X.w X.K X.mg X.base Tb kF fF fdF psF dspF) (kpF:PySem.W.keepIn X.K (.ref fF)=true) (bF:Binds X.K fdF psF []) (hr:Room (kF+1) X.A) :
  GivesTo X ["_law_ask","_law_e"] x sg g cdg [.Try [.Return (some (.Tuple [.Constant (.str "told") j1 p1,.Call (.Name "_law_ask" p2) [] [] p3] k1 p4)) p5]
   [.ExceptHandler (some (.Tuple [.Name "RoundError" p6,.Name "Missing" p7,.Name "NothingLeft" p8] k2 p9)) (some "_law_e")
    [.Return (some (.BinOp (.Tuple [.Constant (.str "no") j2 q1,.Attribute (.Name "_law_e" q2) "code" q3] k3 q4) .Add (.Call (.Name "_law_fields" q5) [.Name "_law_e" q6] [] q7) q8)) q9] tp1] [] [] tp2] "_law_ask" q (TTd X.K Tb (toldD K [.ref c1,.ref c2,.ref c3] dspF)):=by
 subst hK
 intro f c' s H Q tl act hc h
 obtain ⟨al,M,QD,tlD,wf,pv,rel,h⟩:=h
 let X1:Cx:=(cxOf C8.CX0 X.prog X.w X.K X.mg X.base ["_law_ask","_law_e"] x sg g cdg X.A X.stack s H C8.E0).nox
 let tsD:TSD:=dRet (dOp rAdd_ (dTup (dCons (dC (.str "no")) (dCons (dXf X.K "code" (dVar 1)) dNil))) (dCall dspF (dCons (dVar 1) dNil)))
 have hsu:∀ (a:Addr) (pn:List (Addr×Obj)),PDSs (X1.suite a pn) Tb (fun _ _ _=>False) [.Return (some (.BinOp (.Tuple [.Constant (.str "no") j2 q1,.Attribute (.Name "_law_e" q2) "code" q3] k3 q4) .Add (.Call (.Name "_law_fields" q5) [.Name "_law_e" q6] [] q7) q8)) q9] tsD:=fun a pn =>
  ds_one (dp_ret (dv_add (dv_tup (da_cons dv_str (da_cons (dv_xf X.K (dv_var 1 rfl (.inl nE))) da_nil))) (dv_callC F ⟨(hr.deeper (envOfC x sg s.heap.objs.size g cdg)).dp,(hr.deeper (envOfC x sg s.heap.objs.size g cdg)).un⟩ nF mF kpF bF (fun _ _ _ _ _ _ _ z=>by obtain ⟨_,_,_,_,_,_,_,_,_,_,_,_,z⟩:=z;exact z) (da_cons (dv_var 1 rfl (.inl nE)) da_nil))))
 let ts:TS:=fun DV σ H=>∃ al rho M E DD,At X.K Tb (fun _ _ _=>False) al σ H rho M E/\tsD E DD rho M/\PostE X.K Tb al M H DD DV
 let Dq:Ends:={ nx:=fun _ H'=>Q .non H',rt:=Q }
 refine ⟨_,pss_one (ps_try_asT (X:=X1) (i:=1) (c1:=.ref c1) (c2:=.ref c2) (c3:=.ref c3) (ts:=ts) (Wout:=fun _ _ _ _=>False)
   (tb:=fun W D σ H=>∃ Ech:XK,(∀ cls d σ' H',Ech cls d H'->W cls d σ' H')/\σ[0]?=some (some (.ref f))/\H c'=some (CodeO c' q)/\tl Ech H fun v H1=>[V.str "told",v].length<=sizeLine/\∀ p,H1 p=none->D.rt (.ref p) (upd H1 p (.tup [.str "told",v])))
   rfl rfl rfl (show (["_law_ask","_law_e"]:List Str).Nodup by decide) rfl nE ⟨n1,by decide,.inl m1⟩ ⟨n2,by decide,.inl m2⟩ ⟨n3,by decide,.inl m3⟩ LamX.takes0 (fun W pn xe tk _=>?_) hsu),?_⟩
 ·refine ⟨fun pins s' σ H' D I h'=>?_⟩
  obtain ⟨Ech,hW,h1,h2,h3⟩:=h'
  have hp:=act W pn xe Ech p2 p3 tk hW
  have hq:=pss_one (ps_ret (pos:=p5) (pe_tup (x1:=k1) (pos:=p4) (pa_cons (pe_str (x:="told") (j:=j1) (pos:=p1)) (pa_cons hp pa_nil))))
  exact hq.run pins s' σ H' D I ⟨h1,h2,h3⟩
 ·refine ⟨fun cls d H'=>∀ σ':L2.St,wAsT X.K 2 [.ref c1,.ref c2,.ref c3] 1 ts (fun _ _ _ _=>False) Dq cls d σ' H',fun cls d σ' H' z=>z σ',rfl,hc,?_⟩
  refine rel _ _ _ _ ?_ ?_ h
  ·intro al1 x M1 cls d H1 s1 w1 r1 q1 σ'
   obtain ⟨e1,T,hn,z,e2,hF⟩:=q1
   refine ⟨true,by rw [r1.1];exact e1,fun _ hl a ha=>?_,fun z=>by cases z⟩
   have rx:=rp_exn w1 r1 ha
   have sx:Stp al1 M1 H1 al1 M1 (upd H1 a (exs a cls d)):=stp_new w1 ha _
   refine ⟨al1,[none,some x.d],M1,fun _ _=>False,{ nx:=fun _ _=>False,rt:=QD },⟨wf_new w1 ha _,⟨by simpa using hl.symm,fun i dd e=>?_⟩,fun _ _ _ _ _ _ _ _ _ z=>z⟩,?_,⟨fun _ _ _ _ _ _ _ _ z=>z.elim,?_,fun _ _ _ _ _ _ _ _ z=>z.elim,fun _ _ _ _ _ _ _ _ z=>z.elim⟩⟩
   ·match i,e with
    | 0,e=>cases e
    | 1,e =>
     cases e
     exact ⟨.ref a,by rw [List.getElem?_set_self (by omega)],rx⟩
    | i+2,e=>simp at e
   ·refine ⟨T,hn,?_⟩
    have e3:((x.fs.map (·.1)).zip (x.fs.map (·.2))).lookup ("code":Str)=some (.str z):=by rw [zip_unzip];exact e2
    rw [e3]
    exact ⟨by show 2<=sizeLine;decide,hF⟩
   ·intro al' d' M' v H' s' w' r' q'
    exact pv _ _ _ _ _ ((s1.trans sx).trans s') w' r' q'
  ·intro al1 d M1 v H1 s1 w1 r1 q1
   refine ⟨by show 2<=sizeLine;decide,fun p hp=>?_⟩
   exact pv _ _ _ _ _ (s1.trans (stp_new w1 hp _)) (wf_new w1 hp _) (rp_tup (ds:=[.str "told",d]) w1 hp ⟨_,_,rfl,rfl,_,_,rfl,r1,rfl⟩) q1
abbrev dLam (TT:(XD->Mem->VD->Prop)->Mem->VD->Prop) (tb:TED):TED:=fun E rho M Q=>TT (fun E' M' Q'=>tb E' rho M' Q') M Q
theorem stp_ext {K:PySem.W.Frag} {al:Al} {M:Mem} {H H1:Hp} (w:Wf K Tb al H M) (e:LamX.ExtN H H1):Stp al M H al M H1 :=
 ⟨fun _ _ h=>h,fun a o h n f=>⟨e a o h n,f⟩,rfl,fun a ha=>by obtain ⟨xs,h,z⟩:=w.hth a ha;rw [h];exact e a _ h z.tbl⟩
theorem wf_ext {K:PySem.W.Frag} {al:Al} {M:Mem} {H H1:Hp} (w:Wf K Tb al H M) (e:LamX.ExtN H H1) (t:LamX.Tabs Tb H1):Wf K Tb al H1 M :=
 ⟨w.len,w.nd,fun i a mo h1 h2=>(w.rep i a mo h1 h2).mono (stp_ext w e) fun o ho=>by
   obtain ⟨o',e1,e2⟩:=w.there i a h1
   rw [ho] at e1;cases e1
   exact e a o ho e2,
  fun i a h1=>let ⟨o,e1,e2⟩:=w.there i a h1;⟨o,e a o e1 e2,e2⟩,t,fun a ha=>let ⟨xs,h,z⟩:=w.hth a ha;⟨xs,e a _ h z.tbl,z⟩,w.hdis⟩
theorem dv_lam {EV:XK} {TT:(XD->Mem->VD->Prop)->Mem->VD->Prop} {x a:Str} {g c P:Addr} {k:Nat} {pg:Arguments} {bg:List Stmt} {sg:Scope} {dvs:List V} {kws:List (Str×V)} {fdg:FuncData} {Ng:List Str}
  {params:Arguments} {body:Expr} {scope:Scope} {tb:TED} {p lpos pos:Pos} (Fg:FunD X.K x x pg bg sg dvs kws g fdg) (hg:Gl X x) (hm:X.mg x=some (.ref g)) (hb:L2.Binds X.K fdg [a] []) (Sg:FnScope Ng [a] sg) (hNg:Ng[0]?=some a) (hva:Vis sg a)
  (hG:∀ cdv,GivesTo X Ng x sg g cdv bg a (X.env.qual ++ "<lambda>") (TTd X.K Tb TT))
  (TB:LamX.TabB X.base X.mg c P) (hcode:X.env.code = .ref c) (hmT:(P,X.env.qual ++ "<lambda>")∈Tb) (hu:∀ p∈Tb,p.1=P->p.2=X.env.qual ++ "<lambda>") (hr:Room (k+2) X.A) (L:LamX.LamS X.env.scope scope) (hdef:defaultsOf params X.env=([],[]))
  (hbind:∀ (q:Str) (cl:List (Str×Addr)) (pm cv ctv:Value),bindArgs (PySem.W.kla_fn "<lambda>" q params body scope cl pm cv ctv) ⟨[],[]⟩=pure [])
  (hbody:∀ (A:Around) (outer:List Env) (s:Shared) (H:Hp) (E:XK) (f c':Addr),Room k (A.deeper (LamX.lamEnv X scope s.heap.objs.size f c'))->Passes (L2.CX X.prog X.w) (LamX.lamCx X A outer s H E scope f c') E->PD (LamX.lamCx X A outer s H E scope f c') Tb E body tb)
  (hdb:(x == ("__debug__":Str))=false:=by decide) (hd:(a == ("__debug__":Str))=false:=by decide) (hcd:(a == ("__classdict__":Str))=false:=by decide) :
  PD X Tb EV (.Call (.Name x p) [.Lambda params body scope lpos] [] pos) (dLam TT tb):=by
 obtain ⟨oc,od,dV,kV,doc,pm,an,cdv,ct,osl,rfl,lk,hcg,_,_⟩:=Fg.ex
 refine pe_imp (LamX.pe_lamcall (T:=Tb) (TT:=TTd X.K Tb TT) (t:=fun E=>lift X.K Tb E tb) hg hm Fg.kp lk hcg hb Sg hNg hva (hG cdv) TB hcode hmT hu hr L hdef hbind (fun A outer s H E f c' r=>hbody A outer s H E f c' r (passes_call (takes_of rfl rfl rfl rfl) fun _ _ _ _ h=>h)) hdb hd hcd) fun σ H QV h=>?_
 obtain ⟨al,rho,M,E,Q,a,t,p⟩:=h
 refine ⟨a.wf.tb,fun H1 e1 t1=>?_⟩
 have s1:=stp_ext a.wf e1
 have w1:=wf_ext a.wf e1 t1
 exact ⟨al,M,Q,_,w1,p.mono s1,fun E' EV' Q' QV' px pv h=>⟨al,rho,M,E',Q',⟨w1,a.sl.mono s1,px⟩,h,pv⟩,t⟩
theorem tkF {P:Program} {w:World} {K:PySem.W.Frag} {mg:Str->Option Value} {base:Heap} {N:List Str} {qual:Str} {scope:Scope} {f:Addr} {cdv:Value} {A:Around} {outer:List Env} {s:Shared} {H:Hp} {EV:XK} :
  Takes (cxOf (L2.CX P w) P w K mg base N qual scope f cdv A outer s H EV) (fun cls d _ H=>EV cls d H):=takes_of rfl rfl rfl rfl
theorem hxN {P:Program} {w:World} {K:PySem.W.Frag} {mg:Str->Option Value} {base:Heap} {N:List Str} {qual:Str} {scope:Scope} {f:Addr} {cdv:Value} {A:Around} {outer:List Env} {s:Shared} {H:Hp} {EV:XK} :
  Passes (L2.CX P w) (cxOf (L2.CX P w) P w K mg base N qual scope f cdv A outer s H EV) (fun _ _ _=>False):=passes_call tkF fun _ _ _ _ h=>h.elim
end
end DL
namespace DL
open PySem PySem.Spec PyProof.Rows L2
theorem fnD_ofL {P:Program} {w:World} {K:PySem.W.Frag} {mg:Str->Option Value} {base:Heap} {Tb:List (Addr×Str)} {x qual:Str} {params:Arguments} {body:List Stmt} {scope:Scope} {dvs:List V} {kws:List (Str×V)} {f:Addr} {fd:FuncData} {N ps:List Str} {k:Nat} {dsp:DSp} (tb:TSD) (F:FunD K x qual params body scope dvs kws f fd) (S:FnScope N ps scope)
  (len:∀ ds M Q E,dsp ds M Q E->ds.length=ps.length)
  (hbody:∀ (cdv:Value) (A:Around) (outer:List Env) (s:Shared) (H:Hp) (EV:XK),fd.code=cdv->Room k (A.deeper (envOfC qual scope s.heap.objs.size f cdv))->PDSs (cxOf (L2.CX P w) P w K mg base N qual scope f cdv A outer s H EV) Tb EV body tb)
  (hq:∀ ds M Q E,okM M.length M->D.hbs M.length ds=true->dsp ds M Q E->tb (CutX M.length E) { nx:=fun _ M'=>Cut M.length Q .non M',rt:=Cut M.length Q } (startD N ds) M):FnD P w K mg base Tb (k+1) f fd ps dsp:=by
 obtain ⟨oc,od,dV,kV,doc,pm,an,cdv,ct,osl,rfl,lk,hcd,_,_⟩:=F.ex
 refine ⟨fn_of lk hcd S (fun vs H Q E h=>?_) fun A outer s H vs QV EV hr h=>?_⟩
 ·obtain ⟨al,M,ds,Q,E,wf,r,q,_⟩:=h
  rw [<- r.length];exact len _ _ _ _ q
 ·obtain ⟨al,M,ds,Q,E,wf,r,q,p,px⟩:=h
  have pv:PostV K Tb al M H (Cut M.length Q) QV:=fun al' d M' v H' s' w' r' q' =>
   let ⟨m,hm,q1,q2,q3⟩:=q';p _ _ _ _ _ (stp_cut wf hm s') (wf_cut w' q2) (r'.cutH q1) q3
  refine ⟨_,hbody cdv A outer s H EV rfl hr,al,startD N ds,M,CutX M.length E,_,⟨wf,start_ok r,fun al' y M' cls dct H' s' w' r' q'=>?_⟩,hq ds M Q E wf.okM (by rw [<- wf.len];exact r.hb) q,?_⟩
  ·obtain ⟨e1,dx,ys,e2,h1,h2⟩:=r'
   exact px _ y _ cls dct _ (stp_cut wf (Nat.le_refl _) s') (wf_cut w' q'.2.1) ⟨e1,dx,ys,e2,h1,h2.cutH q'.1⟩ q'.2.2
  ·refine ⟨fun al' rho' M' σ' H' s' w' _ q'=>?_,pv,fun _ _ _ _ _ _ _ _ q'=>q'.elim,fun _ _ _ _ _ _ _ _ q'=>q'.elim⟩
   exact pv al' .non M' .non H' s' w' rfl q'
structure LamD (base:Heap) (mg:Str->Option Value) (Tb:List (Addr×Str)) (fd:FuncData) (qual:Str) (sc:Scope) where
 c:Addr
 P:Addr
 hco:fd.code = .ref c
 TB:LamX.TabB base mg c P
 hmT:(P,(envOfC qual sc 0 0 .none).qual ++ "<lambda>")∈Tb
 hu:∀ p∈Tb,p.1=P->p.2=(envOfC qual sc 0 0 .none).qual ++ "<lambda>"
structure ToldB (P:Program) (w:World) (K:PySem.W.Frag) (mg:Str->Option Value) (base:Heap) (Tb:List (Addr×Str)) (st:Stmt) (kF:Nat) (dspF:DSp) where
 g:Addr
 fd:FuncData
 F:FunD K "_law_told" "_law_told" (defArgs st) (defBody st) (defScope st) [] [] g fd
 mgx:mg "_law_told"=some (.ref g)
 m1:mg "RoundError"=some (.ref (He.ga K "RoundError"))
 m2:mg "Missing"=some (.ref (He.ga K "Missing"))
 m3:mg "NothingLeft"=some (.ref (He.ga K "NothingLeft"))
 fF:Addr
 fdF:FuncData
 psF:List Str
 FF:FnDC P w K mg base Tb kF fF fdF psF dspF
 kpF:PySem.W.keepIn K (.ref fF)=true
 bF:Binds K fdF psF []
 mF:mg "_law_fields"=some (.ref fF)
def xfields (z:Str):List Str:=if L2.inV (.str z) [.str "TooMany",.str "TooLong",.str "Full",.str "InvalidLimit"]=true then ["limit"] else if L2.inV (.str z) [.str "Cycle",.str "UnknownName"]=true then ["name"]
 else if decide (z="Unfit")=true then ["name","cause"] else if decide (z="Stopped")=true then ["index","cause"] else if decide (z="InUse")=true then ["by"] else if decide (z="ParseError")=true then ["line"] else if decide (z="UnknownClaim")=true then ["number"] else []
def fieldsSp (K:PySem.W.Frag):DSp:=fun ds M Q E=>∃ (C:Addr) (ns:List Str) (xs:List D) (z:Str) (ys:List D),ds=[.exc C ns xs]/\XfC K C/\(∀ f∈("code":Str) :: xfields z,PySem.W.findIn K (.ref C) f=some none)/\(ns.zip xs).lookup ("code":Str)=some (.str z)/\(xfields z).map (fun f=>(ns.zip xs).lookup f)=ys.map some/\Q (.tup ys) M
theorem e_xf0 {K:PySem.W.Frag} {f:Str} {C:Addr} {ns:List Str} {xs:List D} {d:D} {E:XD} {r:Rho} {M:Mem} {Q:VD} (T:XfC K C) (hn:PySem.W.findIn K (.ref C) f=some none) (hl:(ns.zip xs).lookup f=some d) (h:Q d M):dXf K f (dVar 0) E (some (.exc C ns xs) :: r) M Q:=by
 refine ⟨T,hn,?_⟩
 rw [hl];exact h
theorem map1 {α β:Type} {f:α->Option β} {a:α} {ys:List β} (h:[a].map f=ys.map some):∃ y,f a=some y/\ys=[y]:=by
 match ys,h with
 | [],h=>simp at h
 | [y],h=>exact ⟨y,(List.cons.inj h).1,rfl⟩
 | _ :: _ :: _,h=>simp at h
theorem map2 {α β:Type} {f:α->Option β} {a b:α} {ys:List β} (h:[a,b].map f=ys.map some):∃ y z,f a=some y/\f b=some z/\ys=[y,z]:=by
 match ys,h with
 | [],h=>simp at h
 | [_],h=>simp at h
 | _ :: _ :: _ :: _,h=>simp at h
 | [y,z],h=>exact ⟨y,z,(List.cons.inj h).1,(List.cons.inj (List.cons.inj h).2).1,rfl⟩
theorem map0 {α β:Type} {f:α->Option β} {ys:List β} (h:([]:List α).map f=ys.map some):ys=[]:=by
 match ys,h with
 | [],_=>rfl
 | _ :: _,h=>simp at h
end DL
namespace DL
theorem zip_hb {n:Nat} {f:PySem.Str}:∀ {ns:List PySem.Str} {xs:List D} {d:D},D.hbs n xs=true->(ns.zip xs).lookup f=some d->d.hb n=true
 | [],_,_,_,e=>by simp at e
 | _ :: _,[],_,_,e=>by simp at e
 | m :: ns,x :: xs,d,h,e=>by
  have h:(D.hb n x && D.hbs n xs)=true:=h
  rw [Bool.and_eq_true] at h
  rw [List.zip_cons_cons,List.lookup_cons] at e
  split at e
  ·cases e;exact h.1
  ·exact zip_hb h.2 e
end DL
namespace DL
open PySem PySem.Spec PyProof.Rows L2
structure XFa (K:PySem.W.Frag) (x:Str) (fs:List Str):Prop where
 exm:PySem.W.exmAny K (.ref (He.ga K x)) [.ref (He.ga K "RoundError"),.ref (He.ga K "Missing"),.ref (He.ga K "NothingLeft")]=some true
 xf:XfC K (He.ga K x)
 no:∀ f∈("code":Str) :: fs,PySem.W.findIn K (.ref (He.ga K x)) f=some none
theorem toldX_0 {K:PySem.W.Frag} {x z:Str} {Q:VD} {M:Mem} (Z:XFa K x []) (hz:xfields z=[]) (h:Q (.tup [.str "no",.str z]) M) :
  toldX K [.ref (He.ga K "RoundError"),.ref (He.ga K "Missing"),.ref (He.ga K "NothingLeft")] (fieldsSp K) Q ⟨He.ga K x,[("code",.str z)]⟩ M :=
 ⟨Z.exm,Z.xf,Z.no _ List.mem_cons_self,z,rfl,_,_,_,z,[],rfl,Z.xf,by rw [hz];exact Z.no,rfl,by rw [hz];rfl,by show 2<=sizeLine/\_;exact ⟨by decide,h⟩⟩
section
variable {E:XD} {rho:Rho} {M:Mem} {N:Rho->Mem->Prop} {xs:List D} {d:D} {n:Nat} {t:TGsD} {g:TGD}
theorem e_ht (h0:xs.length=n) (h:t xs E rho M N):hTup n t (.tup xs) E rho M N:=⟨h0,h⟩
end
theorem law_startT {K:PySem.W.Frag} {dsp:DSp} (hl:∀ ds Q E,lawSp ds [] Q E->dsp ds [] Q E) {Tb:List (Addr×Str)} {H:Hp} {a:Addr} {ns:List Int} (l:ns.length<=63) (h:SqL K H a (ns.map V.int)) (ht:LamX.Tabs Tb H) :
  liftSp K Tb dsp [.ref a] H (fun v _=>v = .bl true) fun _ _ _=>False:=by
 refine ⟨⟨[],[]⟩,[],[.rol (ns.map D.int)],fun d _=>d = .bl true,fun _ _=>False,⟨rfl,List.nodup_nil,(fun i a mo e=>by simp at e),(fun i a e=>by simp at e),ht,(fun a h=>by cases h),(fun i a mo e=>by simp at e)⟩,⟨_,_,rfl,⟨a,ns.map V.int,rfl,?_,rps_ints ns⟩,rfl⟩,hl _ _ _ ⟨ns,l,rfl,rfl⟩,?_,?_⟩
 ·rcases h with h | h
  ·exact .inl ⟨h,⟨(fun h=>by cases h),(fun i mo e=>by simp at e)⟩⟩
  ·exact .inr (.inr h)
 ·intro al' d M' v H' s w r q
  subst q
  exact r
 ·intro al' y M' cls dct H' s w r q
  exact q
theorem bool_at {l:List Bool} (h:l.all _root_.id=true) (i:Nat) {b:Bool} (e:l[i]?=some b:=by rfl):b=true:=List.all_eq_true.mp h b (List.mem_of_getElem? e)
section
variable {K:PySem.W.Frag} {h:Heap} {mg:Str->Option Value}
theorem cc_tup (X:K.In h) (G:h.Ns mainGlobals mg) {x:Str} {vs:List He.Dv} {ds:List D} (c:(He.Fa.glo x).ok K=true) (t:He.tupB K x vs=true) (hr:∀ al M H,Rps K al M H ds (vs.map (He.Dv.v K))):CcD K mg x (.tup ds) :=
 ⟨.ref (He.ga K x),.ref (He.ga K x),He.glo_ok X G c,rfl,fun al M H=>⟨_,_,rfl,.inr (He.tupB_ok t noH),hr al M H⟩⟩
theorem xfaB_ok {x:Str} {fs:List Str} (h:xfaB K x fs=true):XFa K x fs:=by
 unfold xfaB at h
 simp only [Bool.and_eq_true] at h
 exact ⟨of_decide_eq_true h.1,xfB_ok h.2.1,fun f hf=>of_decide_eq_true (List.all_eq_true.mp h.2.2 f hf)⟩
theorem xcB_ok {x:Str} {fs:List Str} (h:xcB K x fs=true):OexC K (He.ga K x)/\PySem.W.typeIn K (.ref (He.ma K (He.ga K x) "__init__"))=some (.type "function")/\PySem.W.findIn K (.ref (He.ga K x)) "__init__"=some (some (.ref (He.ma K (He.ga K x) "__init__")))/\∀ f∈fs,PySem.W.findIn K (.ref (He.ga K x)) f=some none:=by
 unfold xcB at h
 simp only [Bool.and_eq_true] at h
 exact ⟨oexB_ok h.1,of_decide_eq_true h.2.1,of_decide_eq_true h.2.2.1,fun f hf=>of_decide_eq_true (List.all_eq_true.mp h.2.2.2 f hf)⟩
theorem lam_code {x qual:Str} {params:Arguments} {body:List Stmt} {scope:Scope} {dvs:List V} {kws:List (Str×V)} {fd:FuncData} {p:He.Defn} (F:FunD K x qual params body scope dvs kws (He.fAd K p) fd):fd.code = .ref (He.codeOf K p):=by
 obtain ⟨oc,od,dV,kV,doc,pm,an,cdv,ct,osl,rfl,lk,hcd,_,_⟩:=F.ex
 obtain ⟨c,rfl⟩:=He.codeIn_ref hcd
 rw [He.codeOf_eq lk rfl]
end
end DL
namespace DL
open PySem PySem.Spec PyProof.Rows L2 Mt
mutual
theorem pz_ok:∀ {d:D},pz d=true->∃ p,toPy d=some p/\p.canLay0=true/\p.depth=dp d
 | .non,_=>⟨_,rfl,rfl,rfl⟩
 | .bl _,_=>⟨_,rfl,rfl,rfl⟩
 | .int _,_=>⟨_,rfl,rfl,rfl⟩
 | .str x,h=>⟨_,rfl,h,rfl⟩
 | .tup xs,h=>by
  obtain ⟨ps,e,h1,h2⟩:=pzs_ok (ds:=xs) h
  exact ⟨.tuple ps,by show (toPys xs).map _=_;rw [e];rfl,h1,by show PyData.depthAll ps+1=dps xs+1;rw [h2]⟩
 | .lst xs,h=>by
  obtain ⟨ps,e,h1,h2⟩:=pzs_ok (ds:=xs) h
  exact ⟨.list ps,by show (toPys xs).map _=_;rw [e];rfl,h1,by show PyData.depthAll ps+1=dps xs+1;rw [h2]⟩
 | .rol xs,h=>by
  obtain ⟨ps,e,h1,h2⟩:=pzs_ok (ds:=xs) h
  exact ⟨.list ps,by show (toPys xs).map _=_;rw [e];rfl,h1,by show PyData.depthAll ps+1=dps xs+1;rw [h2]⟩
 | .ty _,h=>by cases h
 | .obj _ _ _,h=>by cases h
 | .exc _ _ _,h=>by cases h
 | .dk _ _,h=>by cases h
 | .dt _ _,h=>by cases h
 | .ref _,h=>by cases h
 | .lam _ _,h=>by cases h
 | .mt _,h=>by cases h
theorem pzs_ok:∀ {ds:List D},pzs ds=true->∃ ps,toPys ds=some ps/\PyData.canLayAll0 ps=true/\PyData.depthAll ps=dps ds
 | [],_=>⟨[],rfl,rfl,rfl⟩
 | d :: ds,h=>by
  have h:(pz d && pzs ds)=true:=h
  rw [Bool.and_eq_true] at h
  obtain ⟨p,e1,a1,b1⟩:=pz_ok h.1
  obtain ⟨ps,e2,a2,b2⟩:=pzs_ok h.2
  refine ⟨p :: ps,by unfold toPys;rw [e1,e2],?_,?_⟩
  ·show (p.canLay0 && PyData.canLayAll0 ps)=true
   rw [a1,a2];rfl
  ·show max p.depth (PyData.depthAll ps)=max (dp d) (dps ds)
   rw [b1,b2]
end
def pyEq (x y:D):Bool:=match toPy x,toPy y with
 | some p,some q=>PyData.eqv p q
 | _,_=>false
def pyEqs (xs ys:List D):Bool:=match toPys xs,toPys ys with
 | some p,some q=>PyData.eqvAll p q
 | _,_=>false
theorem scal_eq {x y:D} {b:Bool} (h:scalD x y=some b):b=pyEq x y:=by
 cases x <;> cases y <;> first | (cases (show (none:Option Bool)=some b from h)) | skip
 all_goals
  have e':=Option.some.inj h
  subst e'
  first | rfl | (unfold pyEq toPy;simp [PyData.eqv];done) | skip
 all_goals
  show decide _=(_ == _)
  rw [Bool.eq_iff_iff];simp
theorem toPyM_pz {M:Mem} {d:D} (h:pz d=true):toPyM M d=toPy d:=by
 cases d with
 | mt i=>cases h
 | _=>rfl
theorem shaped_of {p:PyData} {d:D} (h1:p.canLay0=true) (h2:p.depth=dp d) (h3:dp d<=64):SeqAt.shaped p=true:=by
 unfold SeqAt.shaped
 rw [h1,decide_eq_true (by omega)];rfl
theorem e_eqP {x y:D} {M:Mem} {Q:VD} (hx:pz x=true) (hy:pz y=true) (dx:dp x<=64) (dy:dp y<=64) (h:Q (.bl (pyEq x y)) M):rEq_ x y M Q:=by
 unfold rEq_
 split
 ·rename_i b e
  rw [scal_eq e];exact h
 ·obtain ⟨p,e1,a1,b1⟩:=pz_ok hx
  obtain ⟨q,e2,a2,b2⟩:=pz_ok hy
  rw [toPyM_pz hx,toPyM_pz hy,e1,e2]
  refine ⟨shaped_of a1 b1 dx,shaped_of a2 b2 dy,?_⟩
  unfold pyEq at h
  rw [e1,e2] at h
  exact h
theorem e_neP {x y:D} {M:Mem} {Q:VD} (hx:pz x=true) (hy:pz y=true) (dx:dp x<=64) (dy:dp y<=64) (h:Q (.bl (!pyEq x y)) M):rNe_ x y M Q:=by
 unfold rNe_
 split
 ·rename_i b e
  rw [scal_eq e];exact h
 ·obtain ⟨p,e1,a1,b1⟩:=pz_ok hx
  obtain ⟨q,e2,a2,b2⟩:=pz_ok hy
  rw [toPyM_pz hx,toPyM_pz hy,e1,e2]
  refine ⟨shaped_of a1 b1 dx,shaped_of a2 b2 dy,?_⟩
  unfold pyEq at h
  rw [e1,e2] at h
  exact h
theorem pyEq_refl {d:D} (h:pz d=true):pyEq d d=true:=by
 obtain ⟨p,e1,a1,b1⟩:=pz_ok h
 unfold pyEq
 rw [e1]
 exact SeqAt.eqv_refl p a1
theorem pyEq_tup {xs ys:List D} (hx:pzs xs=true) (hy:pzs ys=true):pyEq (.tup xs) (.tup ys)=pyEqs xs ys:=by
 obtain ⟨p,e1,a1,b1⟩:=pzs_ok hx
 obtain ⟨q,e2,a2,b2⟩:=pzs_ok hy
 have f1:toPy (.tup xs)=some (.tuple p):=by show (toPys xs).map _=_;rw [e1];rfl
 have f2:toPy (.tup ys)=some (.tuple q):=by show (toPys ys).map _=_;rw [e2];rfl
 unfold pyEq pyEqs
 rw [f1,f2,e1,e2]
 rfl
theorem pyEq_lst {xs ys:List D} (hx:pzs xs=true) (hy:pzs ys=true):pyEq (.lst xs) (.lst ys)=pyEqs xs ys:=by
 obtain ⟨p,e1,a1,b1⟩:=pzs_ok hx
 obtain ⟨q,e2,a2,b2⟩:=pzs_ok hy
 have f1:toPy (.lst xs)=some (.list p):=by show (toPys xs).map _=_;rw [e1];rfl
 have f2:toPy (.lst ys)=some (.list q):=by show (toPys ys).map _=_;rw [e2];rfl
 unfold pyEq pyEqs
 rw [f1,f2,e1,e2]
 rfl
theorem pyEqs_cons {x y:D} {xs ys:List D} (h1:pz x=true) (h2:pz y=true) (hx:pzs xs=true) (hy:pzs ys=true):pyEqs (x :: xs) (y :: ys)=(pyEq x y && pyEqs xs ys):=by
 obtain ⟨p,e1,_,_⟩:=pz_ok h1
 obtain ⟨q,e2,_,_⟩:=pz_ok h2
 obtain ⟨ps,e3,_,_⟩:=pzs_ok hx
 obtain ⟨qs,e4,_,_⟩:=pzs_ok hy
 have f1:toPys (x :: xs)=some (p :: ps):=by unfold toPys;rw [e1,e3]
 have f2:toPys (y :: ys)=some (q :: qs):=by unfold toPys;rw [e2,e4]
 unfold pyEqs pyEq
 rw [f1,f2,e1,e2,e3,e4]
 rfl
theorem pyEq_qD (p q:Rat):pyEq (qD p) (qD q)=decide (p=q):=by
 show ((p.num == q.num) && (((p.den:Int) == (q.den:Int)) && true))=decide (p=q)
 rw [Bool.eq_iff_iff]
 simp only [Bool.and_eq_true,beq_iff_eq,decide_eq_true_eq,and_true]
 exact ⟨fun h=>Rat.ext h.1 (by omega),fun h=>by rw [h];exact ⟨rfl,rfl⟩⟩
theorem e_eqq {p q:Rat} {M:Mem} {Q:VD} (h:Q (.bl (decide (p=q))) M):rEq_ (qD p) (qD q) M Q:=e_eqP rfl rfl (by show 1<=64;decide) (by show 1<=64;decide) (by rw [pyEq_qD];exact h)
theorem e_neq {p q:Rat} {M:Mem} {Q:VD} (h:Q (.bl (!decide (p=q))) M):rNe_ (qD p) (qD q) M Q:=e_neP rfl rfl (by show 1<=64;decide) (by show 1<=64;decide) (by rw [pyEq_qD];exact h)
end DL
namespace DL
open PySem PySem.Spec PyProof.Rows L2
abbrev TAK:=L2.St->Hp->(List V->List V->Hp->Prop)->Prop
structure PAK (X:Cx) (pos:Pos) (args:List Expr) (kws:List Keyword) (ks:List Str) (t:TAK):Prop where
 ev:∀ (pins:List (Addr×Obj)) (s:Shared) (σ:L2.St) (H:Hp) (f:Value) (Q:Args->Shared->Prop),Inv X pins σ H s->t σ H (fun vs zs H2=>∀ us ws s2,Inv X pins σ H2 s2->Vals vs us->Vals zs ws->Q ⟨us,ks.zip ws⟩ s2) ->
  wpAny (model X.prog X.w) X.A (evalArgs f true (backTo pos (starEach args X.env)) (backToKw pos (keywordEach kws X.env))) Q X.xe s
 pl:((backTo pos (starEach args X.env)).any (·.1) || (backToKw pos (keywordEach kws X.env)).any (·.1.isNone))=false
def tAK (t tk:TA):TAK:=fun σ H Q=>t σ H fun vs H1=>tk σ H1 fun zs H2=>Q vs zs H2
section
variable {X:Cx} {pos:Pos} {e:Expr} {es:List Expr} {kws:List Keyword} {ks:List Str} {t tk:TA}
theorem pak (ha:PA X (e :: es) t) (hkw:PK X kws tk) (hall:(backToKw pos (keywordEach kws X.env)).all (·.1.isSome)=true:=by rfl) (hks:(backToKw pos (keywordEach kws X.env)).filterMap (·.1)=ks:=by rfl)
  (he:starEach (e :: es) X.env=(false,eval e X.env) :: starEach es X.env:=by rfl) (hpl:((backTo pos (starEach (e :: es) X.env)).any (·.1) || (backToKw pos (keywordEach kws X.env)).any (·.1.isNone))=false:=by rfl) :
  PAK X pos (e :: es) kws ks (tAK t tk):=by
 refine ⟨fun pins s σ H f Q I h=>?_,hpl⟩
 refine evalArgs_kw2 hall (thn (ha.run pos pins s σ H _ I h) fun us s1 ⟨vs,H1,I1,r,q⟩=>?_) he
 refine thn (hkw.run pos pins s1 σ H1 _ I1 q) fun ws s2 ⟨zs,H2,I2,rz,q2⟩=>?_
 rw [hks]
 exact q2 us ws s2 I2 r rz
theorem pak0 (hkw:PK X kws tk) (hall:(backToKw pos (keywordEach kws X.env)).all (·.1.isSome)=true:=by rfl) (hks:(backToKw pos (keywordEach kws X.env)).filterMap (·.1)=ks:=by rfl)
  (hpl:((backTo pos (starEach [] X.env)).any (·.1) || (backToKw pos (keywordEach kws X.env)).any (·.1.isNone))=false:=by rfl) :
  PAK X pos [] kws ks (tAK tNil tk):=by
 refine ⟨fun pins s σ H f Q I h=>?_,hpl⟩
 refine evalArgs_kw2_nil hall (thn (hkw.run pos pins s σ H _ I h) fun ws s2 ⟨zs,H2,I2,rz,q2⟩=>?_)
 rw [hks]
 exact q2 [] ws s2 I2 .nil rz
variable {args:List Expr} {ta:TAK}
theorem pak_call {P:Heap->Prop} {f:Value} {first:List Value} (ha:PAK X pos args kws ks ta) {pins:List (Addr×Obj)} {s:Shared} {σ:L2.St} {H:Hp} {Q:Value->Shared->Prop} (I:Inv X pins σ H s)
  (hk:∀ h,P h->∃ k,(k=Keeper.frame\/k=Keeper.machine\/k=Keeper.boundFrame)/\PySem.W.Looks (model X.prog X.w) h (keeperOf f) k)
  (h:ta σ H fun vs zs H2=>∀ us ws s2,Inv X pins σ H2 s2->Vals vs us->Vals zs ws->P s2.heap/\wpAny (model X.prog X.w) X.A (call f (first ++ us) (ks.zip ws)) Q X.xe s2) :
  wpAny (model X.prog X.w) X.A (callWith pos f first (backTo pos (starEach args X.env)) (backToKw pos (keywordEach kws X.env))) Q X.xe s :=
 PySem.W.callWith_of ha.pl hk (ha.ev pins s σ H f _ I h)
end
abbrev TAKD:=XD->Rho->Mem->(List D->List D->Mem->Prop)->Prop
abbrev dAK (t tk:TAD):TAKD:=fun E rho M Q=>t E rho M fun ds M1=>tk E rho M1 fun es M2=>Q ds es M2
def AKV (K:PySem.W.Frag) (Tb:List (Addr×Str)) (EV:XK) (t:TAKD) (tv:TAK):Prop:=∀ al σ H rho M E (Q:List D->List D->Mem->Prop) (QV:List V->List V->Hp->Prop),At K Tb EV al σ H rho M E->t E rho M Q ->
 (∀ al' ds es M' vs zs H',Stp al M H al' M' H'->Wf K Tb al' H' M'->Rps K al' M' H' ds vs->Rps K al' M' H' es zs->Q ds es M'->QV vs zs H')->tv σ H QV
structure PAKD (X:Cx) (Tb:List (Addr×Str)) (EV:XK) (pos:Pos) (args:List Expr) (kws:List Keyword) (ks:List Str) (t:TAKD):Prop where
 ex:∃ tv,PAK X pos args kws ks tv/\AKV X.K Tb EV t tv
section
variable {X:Cx} {Tb:List (Addr×Str)} {EV:XK} {pos:Pos} {e:Expr} {es:List Expr} {kws:List Keyword} {ks:List Str} {t tk:TAD}
theorem dak (ha:PDA X Tb EV (e :: es) t) (hkw:PDK X Tb EV kws tk) (hall:(backToKw pos (keywordEach kws X.env)).all (·.1.isSome)=true:=by rfl) (hks:(backToKw pos (keywordEach kws X.env)).filterMap (·.1)=ks:=by rfl)
  (he:starEach (e :: es) X.env=(false,eval e X.env) :: starEach es X.env:=by rfl) (hpl:((backTo pos (starEach (e :: es) X.env)).any (·.1) || (backToKw pos (keywordEach kws X.env)).any (·.1.isNone))=false:=by rfl) :
  PAKD X Tb EV pos (e :: es) kws ks (dAK t tk):=⟨_,pak ha hkw hall hks he hpl,fun al σ H rho M E Q QV a h p=>by
 refine seqA a h fun al1 ds M1 vs H1 s1 a1 r1 q1=>seqA a1 q1 fun al2 es M2 zs H2 s2 a2 r2 q2=>?_
 exact p _ _ _ _ _ _ _ (s1.trans s2) a2.wf (r1.mono s2) r2 q2⟩
theorem dak0 (hkw:PDK X Tb EV kws tk) (hall:(backToKw pos (keywordEach kws X.env)).all (·.1.isSome)=true:=by rfl) (hks:(backToKw pos (keywordEach kws X.env)).filterMap (·.1)=ks:=by rfl)
  (hpl:((backTo pos (starEach [] X.env)).any (·.1) || (backToKw pos (keywordEach kws X.env)).any (·.1.isNone))=false:=by rfl) :
  PAKD X Tb EV pos [] kws ks (dAK dNil tk):=⟨_,pak0 hkw hall hks hpl,fun al σ H rho M E Q QV a h p=>by
 refine seqA a h fun al2 es M2 zs H2 s2 a2 r2 q2=>?_
 exact p _ [] _ _ _ _ _ s2 a2.wf Rps.nil r2 q2⟩
end
theorem lookup_none {κ:Type} [BEq κ] [LawfulBEq κ] {α β:Type} {f:κ}:∀ {fs:List (κ×α)} {gs:List (κ×β)},fs.map (·.1)=gs.map (·.1)->fs.lookup f=none->gs.lookup f=none
 | [],[],_,_=>rfl
 | [],_ :: _,h,_=>by simp at h
 | _ :: _,[],h,_=>by simp at h
 | (a,x) :: fs,(b,y) :: gs,h,e=>by
  simp at h
  obtain ⟨rfl,h⟩:=h
  rw [List.lookup_cons] at e ⊢
  split at e
  ·cases e
  ·exact lookup_none h e
theorem zip_fst {α β:Type}:∀ {ns:List α} {xs:List β},ns.length=xs.length->(ns.zip xs).map (·.1)=ns
 | [],[],_=>rfl
 | [],_ :: _,h=>by simp at h
 | _ :: _,[],h=>by simp at h
 | n :: ns,x :: xs,h=>by
  rw [List.zip_cons_cons,List.map_cons,zip_fst (by simpa using h)]
theorem zip_snd {α β:Type}:∀ {ns:List α} {xs:List β},ns.length=xs.length->(ns.zip xs).map (·.2)=xs
 | [],[],_=>rfl
 | [],_ :: _,h=>by simp at h
 | _ :: _,[],h=>by simp at h
 | n :: ns,x :: xs,h=>by
  rw [List.zip_cons_cons,List.map_cons,zip_snd (by simpa using h)]
theorem rpk_lookup {K:PySem.W.Frag} {al:Al} {M:Mem} {H:Hp} {f:Str}:∀ {ds:List (Str×D)} {ys:List (Str×V)} {d:D},Rpk K al M H ds ys->ds.lookup f=some d->∃ v,ys.lookup f=some v/\Rp K al M H d v
 | [],_,_,_,e=>by simp at e
 | (n,x) :: ds,_,d,r,e=>by
  obtain ⟨v,ys,rfl,rv,rr⟩:=r.cases
  rw [List.lookup_cons] at e ⊢
  split at e
  ·cases e;exact ⟨v,rfl,rv⟩
  ·exact rpk_lookup rr e
theorem insOf_ok {K:PySem.W.Frag} {Tb:List (Addr×Str)} {al:Al} {M:Mem} {H:Hp} (w:Wf K Tb al H M) {d:D} {v:V} {C:Addr} {fs:List (Str×D)} (e:insOf M d=some (C,fs)) (r:Rp K al M H d v) :
  ∃ a dx ys,v = .ref a/\H a=some (.ins C dx ys)/\Rpk K al M H fs ys:=by
 cases d with
 | obj C' ns xs =>
  obtain ⟨a,dx,ys,rfl,h1,f,l,rr⟩:=r
  cases e
  have l2:ns.length=xs.length:=by rw [l,rr.length]
  exact ⟨a,dx,_,rfl,h1,by rw [zip_fst l2,zip_fst l],by rw [zip_snd l2,zip_snd l];exact rr⟩
 | mt i =>
  obtain ⟨a,ea,rfl⟩:=r
  have e:(match M[i]? with
   | some (some (.ins C fs))=>some (C,fs)
   | _=>none)=some (C,fs):=e
  split at e
  ·rename_i C' fs' em
   cases e
   obtain ⟨dx,ys,h1,h2⟩:=w.rep i a _ ea em
   exact ⟨a,dx,ys,rfl,h1,h2⟩
  ·cases e
 | _=>cases e
def fldD (C:Addr) (f:Str) (x:D) (M1:Mem) (Q:VD):Prop:=match insOf M1 x with
 | some (C',fs)=>C'=C/\(match fs.lookup f with
  | some d=>Q d M1
  | none=>False)
 | none=>False
abbrev dFld (C:Addr) (f:Str) (t:TED):TED:=fun E rho M Q=>t E rho M fun x M1=>fldD C f x M1 Q
section
variable {X:Cx} {Tb:List (Addr×Str)} {EV:XK} {e o value:Expr} {te to tv:TED} {pos pos':Pos} {f:Str} {C:Addr}
theorem dv_fld (c:Cls X.K C) (n:NoAttr X.K C f) (he:PD X Tb EV e te) (hb:attributeBase e f X.env (eval e X.env)=eval e X.env:=by rfl):PD X Tb EV (.Attribute e f pos) (dFld C f te):=pe_imp (pe_fld he hb) fun σ H QV h=>by
 obtain ⟨al,rho,M,E,Q,a,t,p⟩:=h
 refine seq1 a t fun al1 x M1 vx H1 s1 a1 r1 q1=>?_
 unfold fldD at q1
 split at q1
 ·rename_i C' fs e1
  obtain ⟨rfl,q1⟩:=q1
  split at q1
  ·rename_i d e2
   obtain ⟨b,dx,ys,rfl,h1,h2⟩:=insOf_ok a1.wf e1 r1
   obtain ⟨v,e3,rv⟩:=rpk_lookup h2 e2
   exact ⟨b,C',dx,ys,v,rfl,h1,c,n,e3,p _ _ _ _ _ s1 a1.wf rv q1⟩
  ·exact q1.elim
 ·exact q1.elim
def conD (C:Addr) (f:Str) (d:D) (x:D) (M1:Mem) (Q:VD):Prop:=match insOf M1 x with
 | some (C',fs)=>C'=C/\fs.lookup f=none/\Q d M1
 | none=>False
abbrev dCon (C:Addr) (f:Str) (d:D) (t:TED):TED:=fun E rho M Q=>t E rho M fun x M1=>conD C f d x M1 Q
def ConD (K:PySem.W.Frag) (C:Addr) (f:Str) (d:D):Prop:=∃ v u,Con K C f v u/\∀ al M H,Rp K al M H d v
theorem dv_con {d:D} (c:Cls X.K C) (k:ConD X.K C f d) (he:PD X Tb EV e te) (hb:attributeBase e f X.env (eval e X.env)=eval e X.env:=by rfl):PD X Tb EV (.Attribute e f pos) (dCon C f d te):=by
 obtain ⟨v,u,k,rd⟩:=k
 refine pe_imp (pe_con he hb) fun σ H QV h=>?_
 obtain ⟨al,rho,M,E,Q,a,t,p⟩:=h
 refine seq1 a t fun al1 x M1 vx H1 s1 a1 r1 q1=>?_
 unfold conD at q1
 split at q1
 ·rename_i C' fs e1
  obtain ⟨rfl,h0,q1⟩:=q1
  obtain ⟨b,dx,ys,rfl,h1,h2⟩:=insOf_ok a1.wf e1 r1
  exact ⟨b,C',dx,ys,v,u,rfl,h1,c,k,lookup_none h2.1 h0,p _ _ _ _ _ s1 a1.wf (rd _ _ _) q1⟩
 ·exact q1.elim
def clsD (C:Addr) (x:D) (P:Prop):Prop:=match x with
 | .ref C'=>C'=C/\P
 | _=>False
def putD (f:Str) (d:D):List (Str×D)->List (Str×D)
 | []=>[(f,d)]
 | (g,x) :: r=>if g=f then (g,d) :: r else (g,x) :: putD f d r
theorem rpk_put {K:PySem.W.Frag} {al:Al} {M:Mem} {H:Hp} {f:Str} {d:D} {v:V} (rv:Rp K al M H d v):∀ {fs:List (Str×D)} {ys:List (Str×V)},Rpk K al M H fs ys->Rpk K al M H (putD f d fs) (putF f v ys)
 | [],ys,r=>by
  have:ys=[]:=by have:=r.1;simpa using this.symm
  subst this
  exact Rpk.cons rv Rpk.nil
 | (g,x) :: fs,ys,r=>by
  obtain ⟨y,r',rfl,ry,rr⟩:=r.cases
  unfold putD putF
  by_cases h:g=f
  ·rw [if_pos h,if_pos h];exact Rpk.cons rv rr
  ·rw [if_neg h,if_neg h];exact Rpk.cons ry (rpk_put rv rr)
def putX (C:Addr) (f:Str) (y x:D) (M2:Mem) (N:Mem->Prop):Prop:=match x with
 | .mt i=>(match M2[i]? with
  | some (some (.ins C' fs))=>C'=C/\fs.length < 1000/\N (M2.set i (some (.ins C' (putD f y fs))))
  | _=>False)
 | _=>False
abbrev dPut (C:Addr) (f:Str) (tv to:TED):TSD:=fun E DD rho M=>tv E rho M fun y M1=>to E rho M1 fun x M2=>putX C f y x M2 (DD.nx rho)
theorem rpk_len {κ:Type} {K:PySem.W.Frag} {al:Al} {M:Mem} {H:Hp} {ds:List (κ×D)} {ys:List (κ×V)} (r:Rpk K al M H ds ys):ds.length=ys.length:=by
 have:=congrArg List.length r.1
 simpa using this
theorem ins_not_code {C dx c:Addr} {fs:List (Str×V)} {q:Str}:HO.ins C dx fs≠LamX.CodeO c q:=fun z=>by
 unfold LamX.CodeO at z
 cases z
theorem set_ins {K:PySem.W.Frag} {al:Al} {M:Mem} {H:Hp} (w:Wf K Tb al H M) {i:Nat} {a dx:Addr} {fs fs':List (Str×D)} {ys ys':List (Str×V)} (hi:al.a[i]?=some a) (hm:M[i]?=some (some (.ins C fs))) (hH:H a=some (.ins C dx ys)) (r:Rpk K al M H fs' ys') :
  Stp al M H al (M.set i (some (.ins C fs'))) (upd H a (.ins C dx ys'))/\Wf K Tb al (upd H a (.ins C dx ys')) (M.set i (some (.ins C fs'))):=by
 have s:=stp_set (mo':=.ins C fs') w hi hm (.ins C dx ys')
 refine ⟨s,wf_set w hi hm (fun _ z=>by cases z) ⟨dx,ys',upd_same,r.mono s⟩ fun c q z=>?_⟩
 rw [hH] at z
 exact ins_not_code (Option.some.inj z)
theorem dp_put (c:Cls X.K C) (n:NoAttr X.K C f) (ho:PD X Tb EV o to) (hv:PD X Tb EV value tv) (hs:swapsWith value (some (.Attribute o f pos')) pos.line X.env=pure false:=by rfl):PDS X Tb EV (.Assign [.Attribute o f pos'] value pos) (dPut C f tv to):=ps_imp (ps_fld ho hv hs) fun DV σ H h=>by
 obtain ⟨al,rho,M,E,DD,a,t,p⟩:=h
 refine seq1 a t fun al1 y M1 vy H1 s1 a1 r1 q1=>seq1 a1 q1 fun al2 x M2 vx H2 s2 a2 r2 q2=>?_
 unfold putX at q2
 split at q2
 ·rename_i i
  split at q2
  ·rename_i C' fs em
   obtain ⟨rfl,hl,q2⟩:=q2
   obtain ⟨b,eb,rfl⟩:=r2
   obtain ⟨dx,ys,h1,h2⟩:=a2.wf.rep i b _ eb em
   obtain ⟨g1,g2⟩:=set_ins a2.wf eb em h1 (rpk_put (f:=f) (r1.mono s2) h2)
   refine ⟨b,C',dx,ys,rfl,h1,c,n,by rw [<- rpk_len h2];exact hl,?_⟩
   exact p.nx _ _ _ _ _ ((s1.trans s2).trans g1) g2 (a2.sl.mono g1) q2
  ·exact q2.elim
 ·exact q2.elim
end
def isI (C:Addr) (m:Str) (M:Mem) (x:D):Prop:=match insOf M x with
 | some (C',fs)=>C'=C/\fs.lookup m=none
 | none=>False
theorem isI_ok {K:PySem.W.Frag} {Tb:List (Addr×Str)} {al:Al} {M:Mem} {H:Hp} {C:Addr} {m:Str} (w:Wf K Tb al H M) {d:D} {v:V} (e:isI C m M d) (r:Rp K al M H d v):∃ a dx ys,v = .ref a/\H a=some (.ins C dx ys)/\ys.lookup m=none:=by
 unfold isI at e
 split at e
 ·rename_i C' fs e1
  obtain ⟨rfl,h0⟩:=e
  obtain ⟨a,dx,ys,rfl,h1,h2⟩:=insOf_ok w e1 r
  exact ⟨a,dx,ys,rfl,h1,lookup_none h2.1 h0⟩
 ·exact e.elim
def dArg (n k:Nat) (is:List Nat) (dds:List D) (dsp:DSp) (pre:List D) (Q:VD) (E:XD) (ds es:List D) (M:Mem):Prop:=ds.length=n/\es.length=k/\dsp (pick is (pre ++ ds ++ dds ++ es)) M Q E
abbrev dMeth (C:Addr) (m:Str) (n k:Nat) (is:List Nat) (dds:List D) (dsp:DSp) (to:TED) (t:TAKD):TED:=fun E rho M Q=>to E rho M fun x M1=>isI C m M1 x/\t E rho M1 fun ds es M2=>dArg n k is dds dsp [x] Q E ds es M2
section
variable {X:Cx} {Tb:List (Addr×Str)} {EV:XK} {k n:Nat} {g C:Addr} {fd:FuncData} {ps ks:List Str} {dsp:DSp} {m x:Str} {apos pos p:Pos} {o:Expr} {args:List Expr} {kws:List Keyword} {to:TED} {t:TAKD} {is:List Nat} {dvs:List V} {dds:List D} {pl:Sem Bool}
theorem dv_meth (ho:PD X Tb EV o to) (c:Cls X.K C) (hm:Meth X.K C m g) (F:FnD X.prog X.w X.K X.mg X.base Tb k g fd ps dsp) (hr:Room k X.A) (hb:KBp X.K fd ps (n+1) ks is dvs) (hc:CsD X.K dds dvs) (hx:Passes (L2.CX X.prog X.w) X EV) (ha:PAKD X Tb EV pos args kws ks t)
  (ht:eval (.Call (.Attribute o m apos) args kws pos) X.env=(do
   let ov <- eval o X.env
   standAt apos.atName
   let (f,first) <- holding [ov] (getMethod ov m pl)
   callWith pos f first (backTo pos (starEach args X.env)) (backToKw pos (keywordEach kws X.env))):=by rfl) :
  PD X Tb EV (.Call (.Attribute o m apos) args kws pos) (dMeth C m n ks.length is dds dsp to t):=by
 obtain ⟨tv,pa,av⟩:=ha.ex
 obtain ⟨gg,kb⟩:=hb.kbn
 refine ⟨fun pins s σ H QV I h=>?_⟩
 obtain ⟨al,rho,M,E,Q,a,t0,p⟩:=h
 refine PySem.W.methodCall_KW (pl:=pl) (thn (ho.run pins s σ H (fun v H1=>∃ b dx ys,v = .ref b/\H1 b=some (.ins C dx ys)/\ys.lookup m=none/\tv σ H1 fun vs zs H2=>∀ us ws s2,Inv X pins σ H2 s2->Vals vs us->Vals zs ws->X.K.In s2.heap/\wpAny (model X.prog X.w) X.A (call (.ref g) ([.ref b] ++ us) (ks.zip ws)) (EP X pins σ QV) X.xe s2) I
  (seq1 a t0 fun al1 x M1 vx H1 s1 a1 r1 q1=>?_)) fun u s1 ⟨v,H1,I1,rv,b,dx,ys,ev,hb1,hl,q⟩=>?_) ht
 ·obtain ⟨b,dx,ys,rfl,h1,h2⟩:=isI_ok a1.wf q1.1 r1
  refine ⟨b,dx,ys,rfl,h1,h2,av _ _ _ _ _ _ _ _ a1 q1.2 fun al2 ds es M2 vs zs H2 s2 w2 rd re q2 us ws s3 I3 rv rz=>⟨I3.kIn,?_⟩⟩
  exact run_fnN (us:=.ref b :: us) (vs:=.ref b :: vs) F.ok hr kb hx I3 (.cons rfl rv) rz (by rw [List.length_cons,<- rd.length,q2.1]) (by rw [<- re.length];exact q2.2.1) ⟨al2,M2,_,Q,E,w2,pick_rps (((show Rps X.K al2 M2 H2 [x] [.ref b] from ⟨_,_,rfl,r1.mono s2,rfl⟩).append rd |>.append (hc _ _ _)).append re) is,q2.2.2,p.mono (s1.trans s2),a1.ex.mono s2⟩
 ·subst ev
  obtain rfl:u=Value.ref b:=rv
  exact getmeth_ok I1 hb1 c hm hl (pak_call (P:=X.K.In) pa I1 (PySem.W.keeps_K hm.kp) q)
end
def mkQ (C:Addr) (M1:Mem) (Q:VD):VD:=fun d M2=>d = .non/\∃ fs,M2[M1.length]?=some (some (.ins C fs))/\okM M1.length M2/\D.hbs M1.length (fs.map (·.2))=true/\Q (.obj C (fs.map (·.1)) (fs.map (·.2))) (M2.take M1.length)
def mkM (M1:Mem) (Q:VD):VD:=fun d M2=>d = .non/\Q (.mt M1.length) M2
abbrev dMk (fz:Bool) (C:Addr) (n k:Nat) (is:List Nat) (dds:List D) (dsp:DSp) (tf:TED) (t:TAKD):TED:=fun E rho M Q=>tf E rho M fun y M0=>clsD C y (t E rho M0 fun ds es M1=>dArg n k is dds dsp [.mt M1.length] (if fz=true then mkQ C M1 Q else mkM M1 Q) (CutX M1.length E) ds es (M1 ++ [some (.ins C [])]))
section
variable {X:Cx} {Tb:List (Addr×Str)} {EV:XK} {k n:Nat} {g C:Addr} {fd:FuncData} {ps ks:List Str} {dsp:DSp} {m x:Str} {apos pos p:Pos} {args:List Expr} {kws:List Keyword} {tf:TED} {t:TAKD} {is:List Nat} {dvs:List V} {dds:List D} {fz:Bool}
theorem post_mk {K:PySem.W.Frag} {al:Al} {M:Mem} {H:Hp} {x dx:Addr} {Q:VD} {QV:VK} (w:Wf K Tb al H M) (hx:H x=none) (hdx:H dx=none) (hne:dx≠x) (p:PostV K Tb al M H Q QV) :
  PostV K Tb (al.push x) (M ++ [some (.ins C [])]) (upd (upd H dx (.own x)) x (.ins C dx [])) (if fz=true then mkQ C M Q else mkM M Q) (fun v H2=>v = .non/\QV (.ref x) H2):=by
 have sA:Stp al M H al M (upd H dx (.own x)):=stp_new w hdx _
 have wA:=wf_new w hdx (.own x)
 have hx':upd H dx (.own x) x=none:=by rw [upd_ne (Ne.symm hne)];exact hx
 have sB:=stp_mut wA hx' (.ins C dx []) (.ins C [])
 have wB:Wf K Tb (al.push x) (upd (upd H dx (.own x)) x (.ins C dx [])) (M ++ [some (.ins C [])]):=wf_mut wA hx' (mo:=.ins C []) (fun _ z=>by cases z) ⟨dx,[],upd_same,Rpk.nil⟩
 intro al' d M' v H' s' w' r' q'
 have hxa:al'.a[M.length]?=some x:=s'.pre _ _ (al_last w)
 cases fz with
 | true =>
  rw [if_pos rfl] at q'
  obtain ⟨rfl,fs,em,ok,hb,q⟩:=q'
  refine ⟨r',?_⟩
  obtain ⟨dx',ys,h1,h2⟩:=w'.rep _ _ _ hxa em
  refine p (al'.cut M.length) _ _ (.ref x) H' (stp_cut w (Nat.le_refl _) ((sA.trans sB).trans s')) (wf_cut w' ok) ?_ q
  have h3:Rpk K (al'.cut M.length) (M'.take M.length) H' fs ys:=h2.cutH hb
  refine ⟨x,dx',ys.map (·.2),rfl,?_,⟨w'.hdis _ _ _ hxa em,fun j mo e1 e2=>?_⟩,?_,h3.2⟩
  ·rw [h2.1,zip_unzip];exact h1
  ·obtain ⟨hj,e1⟩:=cut_lt e1
   exact absurd ((List.getElem?_inj (List.getElem?_eq_some_iff.mp hxa).1 w'.nd).mp (hxa.trans e1.symm)) (by omega)
  ·have:=rpk_len h2;simpa using this
 | false =>
  rw [if_neg Bool.false_ne_true] at q'
  obtain ⟨rfl,q⟩:=q'
  exact ⟨r',p al' (.mt M.length) _ (.ref x) H' ((sA.trans sB).trans s') w' ⟨x,hxa,rfl⟩ q⟩
theorem postx_mk {K:PySem.W.Frag} {al:Al} {M:Mem} {H:Hp} {x dx:Addr} {E:XD} {EV':XK} (w:Wf K Tb al H M) (hx:H x=none) (hdx:H dx=none) (hne:dx≠x) (p:PostX K Tb al M H E EV') :
  PostX K Tb (al.push x) (M ++ [some (.ins C [])]) (upd (upd H dx (.own x)) x (.ins C dx [])) (CutX M.length E) EV':=by
 have sA:Stp al M H al M (upd H dx (.own x)):=stp_new w hdx _
 have wA:=wf_new w hdx (.own x)
 have hx':upd H dx (.own x) x=none:=by rw [upd_ne (Ne.symm hne)];exact hx
 have sB:=stp_mut wA hx' (.ins C dx []) (.ins C [])
 intro al' y M' cls dct H' s' w' r' q'
 obtain ⟨e1,dx,ys,e2,h1,h2⟩:=r'
 exact p _ y _ cls dct _ (stp_cut w (Nat.le_refl _) ((sA.trans sB).trans s')) (wf_cut w' q'.2.1) ⟨e1,dx,ys,e2,h1,h2.cutH q'.1⟩ q'.2.2
theorem dv_make (fz:Bool) (hf:PD X Tb EV (.Name x p) tf) (Mk:Mk X.K C g) (F:FnD X.prog X.w X.K X.mg X.base Tb k g fd ps dsp) (hr:Room (k+1) X.A) (hb:KBp X.K fd ps (n+1) ks is dvs) (hc:CsD X.K dds dvs) (hx:Passes (L2.CX X.prog X.w) X EV) (ha:PAKD X Tb EV pos args kws ks t) :
  PD X Tb EV (.Call (.Name x p) args kws pos) (dMk fz C n ks.length is dds dsp tf t):=by
 obtain ⟨tv,pa,av⟩:=ha.ex
 obtain ⟨gg,kb⟩:=hb.kbn
 refine ⟨fun pins s σ H QV I h=>?_⟩
 obtain ⟨al,rho,M,E,Q,a,t0,p⟩:=h
 refine wpAny_Call_Name_kw (thn (hf.run pins s σ H (fun v H1=>v = .ref C/\tv σ H1 fun vs zs H2=>∀ us ws s2,Inv X pins σ H2 s2->Vals vs us->Vals zs ws->X.K.In s2.heap/\wpAny (model X.prog X.w) X.A (call (.ref C) ([] ++ us) (ks.zip ws)) (EP X pins σ QV) X.xe s2) I
  (seq1 a t0 fun al1 y M1 vy H1 s1 a1 r1 q1=>?_)) fun u s1 ⟨v,H1,I1,rv,ev,q⟩=>?_)
 ·cases y with
  | ref C' =>
   obtain ⟨rfl,q1⟩:=q1
   cases (show vy = .ref C' from r1)
   refine ⟨rfl,av _ _ _ _ _ _ _ _ a1 q1 fun al2 ds es M2 vs zs H2 s2 w2 rd re q2 us ws s3 I3 rv rz=>⟨I3.kIn,?_⟩⟩
   refine run_makeN Mk F.ok hr kb hx I3 rv rz (by rw [<- rd.length,q2.1]) (by rw [<- re.length];exact q2.2.1) fun y dy hy hdy hne=>?_
   have sA:Stp al2 M2 H2 al2 M2 (upd H2 dy (.own y)):=stp_new w2 hdy _
   have wA:=wf_new w2 hdy (.own y)
   have hy':upd H2 dy (.own y) y=none:=by rw [upd_ne (Ne.symm hne)];exact hy
   have sB:=stp_mut wA hy' (.ins C' dy []) (.ins C' [])
   have wB:Wf X.K Tb (al2.push y) (upd (upd H2 dy (.own y)) y (.ins C' dy [])) (M2 ++ [some (.ins C' [])]):=wf_mut wA hy' (mo:=.ins C' []) (fun _ z=>by cases z) ⟨dy,[],upd_same,Rpk.nil⟩
   have sAB:=sA.trans sB
   have self:Rps X.K (al2.push y) (M2 ++ [some (.ins C' [])]) (upd (upd H2 dy (.own y)) y (.ins C' dy [])) [.mt M2.length] [.ref y]:=⟨_,_,rfl,⟨y,al_last w2,rfl⟩,rfl⟩
   exact ⟨al2.push y,M2 ++ [some (.ins C' [])],_,if fz=true then mkQ C' M2 Q else mkM M2 Q,CutX M2.length E,wB,pick_rps ((self.append (rd.mono sAB) |>.append (hc _ _ _)).append (re.mono sAB)) is,q2.2.2,post_mk w2 hy hdy hne (p.mono (s1.trans s2)),postx_mk w2 hy hdy hne (a1.ex.mono s2)⟩
  | _=>exact (show False from q1).elim
 ·subst ev
  obtain rfl:u=Value.ref C:=rv
  exact pak_call (P:=X.K.In) pa I1 (PySem.W.keeps_K Mk.kp) q
def isC (C:Addr) (M1:Mem) (x:D):Prop:=match insOf M1 x with
 | some (C',_)=>C'=C
 | none=>False
end
structure ClO (K:PySem.W.Frag) (C:Addr):Prop where
 cls:Cls K C
 ha:PySem.W.findIn K (.ref C) "__class__"=some (some (.builtin "object.__class__"))
 hn:PySem.W.specialIn K (.builtin "object.__class__") "__get__"=some (some (.builtin "getset_descriptor.__get__"))
 tk:PySem.W.takesIn K (.builtin "object.__class__")=some true
 hm:PySem.W.mroIn K C (.type "object")=some true
 ic:(PySem.W.clsIn K C).isSome=true
 ty:PySem.W.typeIn K (.ref C)=some (.type "type")
 ga:PySem.W.specialIn K (.ref C) "__getattribute__"=some (some (.builtin "type.__getattribute__"))
 rd:PySem.W.readsIn K C (.type "type")=true
theorem cloB_ok {K:PySem.W.Frag} {C:Addr} (h:cloB K C=true):ClO K C:=by
 unfold cloB at h
 simp only [Bool.and_eq_true,decide_eq_true_eq] at h
 obtain ⟨h1,h2,h3,h4,h5,h6,h7,h8,h9,h10,h11,h12⟩:=h
 exact ⟨⟨h1,h2,h3,h4⟩,h5,h6,h7,h8,h9,h10,h11,h12⟩
def kindD (C:Addr) (M:Mem) (d:D):Option Bool:=match insOf M d with
 | some (C',_)=>if C'=C then some true else none
 | none=>(tyN M d).map fun _=>false
structure MCal (P:Program) (w:World) (K:PySem.W.Frag) (mg:Str->Option Value) (base:Heap) (Tb:List (Addr×Str)) (C:Addr) (x qual:Str) (st:Stmt) (dvs:List V) (kws:List (Str×V)) (k:Nat) (ps:List Str) (dsp:DSp) where
 f:Addr
 fd:FuncData
 F:FunD K x qual (defArgs st) (defBody st) (defScope st) dvs kws f fd
 fn:FnD P w K mg base Tb k f fd ps dsp
 me:Meth K C x f
structure OCl (K:PySem.W.Frag) (x:Str) (fs:List Str):Prop where
 clo:ClO K (He.ga K x)
 no:∀ f∈fs,NoAttr K (He.ga K x) f
 mkr:Mk K (He.ga K x) (He.ma K (He.ga K x) "__init__")
 ne:PySem.W.findIn K (.ref (He.ga K x)) "__ne__"=some (some (.builtin "object.__ne__"))
def blQ (g:Bool->Bool) (Q:VD):VD:=fun d M'=>match d with
 | .bl b=>Q (.bl (g b)) M'
 | _=>False
def rEqO (C:Addr) (dsp:DSp):RD2:=fun x y M Q=>match insOf M x with
 | some (C',_)=>C'=C/\(kindD C M y).isSome=true/\dsp [x,y] M (blQ (fun b=>b) Q) (fun _ _=>False)
 | none=>rEq_ x y M Q
def rNeO (C:Addr) (dsp:DSp):RD2:=fun x y M Q=>match insOf M x with
 | some (C',_)=>C'=C/\(kindD C M y).isSome=true/\dsp [x,y] M (blQ (!·) Q) fun _ _=>False
 | none=>rNe_ x y M Q
section
variable {X:Cx} {Tb:List (Addr×Str)} {C:Addr} {dsp:DSp}
variable {EV:XK} {a b:Expr} {ta tb:TED} {pos:Pos} {x qual:Str} {st:Stmt} {dvs:List V} {kws:List (Str×V)} {k:Nat} {ps:List Str}
def rInO1 (C:Addr) (dsp:DSp):RD2:=fun x y M Q=>match insOf M y with
 | some (C',_)=>C'=C/\dsp [y,x] M (blQ (fun b=>b) Q) fun _ _=>False
 | none=>False
def rLenO (C:Addr) (dsp:DSp):RDC:=fun ds M Q=>match ds with
 | [x]=>(match insOf M x with
  | some (C',_)=>C'=C/\dsp [x] M (fun d M'=>match d with
   | .int n=>0<=n/\n < 2 ^ 63/\Q (.int n) M'
   | _=>False) fun _ _=>False
  | none=>rLen_ [x] M Q)
 | _=>False
end
end DL
namespace He
open PySem PySem.Spec PyProof.Rows L2
theorem DefE.funD {K:PySem.W.Frag} {d:DefE} (e:fnE K (d.at_ K)=d.val) (c:d.ok K=true):∃ fd,FunD K d.name d.qual d.params d.body d.scope (d.dvs K) (d.kws K) (d.at_ K) fd:=by
 obtain ⟨kp,c2⟩:=ba c
 unfold fnE at e
 cases q:K.lookup (d.at_ K) with
 | none=>rw [q] at c2;cases c2
 | some o =>
  obtain ⟨oc,od,dt,osl⟩:=o
  rw [q] at c2 e
  cases dt with
  | func fd =>
   obtain ⟨n1,n2,n3,n4,n5,n6,n7,n8,n9,n10,n11,n12,n13,n14,n15⟩:=fd
   have e2:(some (n1,n2,n3,n4,n5,n6,n7,n15):FnW)=some (d.name,d.qual,d.params,.stmts d.body,d.scope,mainGlobals,[],builtinsNs):=e
   simp only [Option.some.injEq,Prod.mk.injEq] at e2
   obtain ⟨a1,a2,a3,a4,a5,a6,a7,a8⟩:=e2
   subst a1 a2 a3 a4 a5 a6 a7 a8
   obtain ⟨k1,k2⟩:=ba (show (PySem.W.codeIn K n13 d.qual && (dflB K n8 (d.dvs K) && kwdB K n9 (d.kws K)))=true from c2)
   obtain ⟨k3,k4⟩:=ba k2
   exact ⟨_,⟨oc,od,n8,n9,n10,n11,n12,n13,n14,osl,rfl,q,k1,dflB_ok k3,kwdB_ok k4⟩,kp⟩
  | _=>cases c2
section
variable {fa:List Fa} {fn:List DefE} {tf:List Defn} {ex:PySem.W.Frag->Bool} {h:Heap} {K:PySem.W.Frag}
theorem SaysY.bools (c:SaysY fa fn tf ex h K):(fa.all fun f=>f.ok K)=true/\fn.all (fun d=>d.ok K)=true/\ex K=true:=by
 have e:((fa.all fun f=>f.ok K) && (fn.all (fun d=>d.ok K) && ex K))=true:=congrArg (fun z:AlY=>z.1) c.t
 obtain ⟨h1,h2⟩:=ba e
 exact ⟨h1,(ba h2).1,(ba h2).2⟩
theorem SaysY.more (c:SaysY fa fn tf ex h K):ex K=true:=c.bools.2.2
theorem SaysY.fact (c:SaysY fa fn tf ex h K) (i:Nat) {f:Fa} (e:fa[i]?=some f:=by rfl):f.ok K=true:=List.all_eq_true.mp c.bools.1 f (List.mem_of_getElem? e)
theorem SaysY.def_ (c:SaysY fa fn tf ex h K) (i:Nat) {d:DefE} (e:fn[i]?=some d:=by rfl):∃ fd,FunD K d.name d.qual d.params d.body d.scope (d.dvs K) (d.kws K) (d.at_ K) fd:=by
 have q:fn.map (fun d=>fnE K (d.at_ K))=fn.map DefE.val:=congrArg (fun z:AlY=>z.2) c.t
 have q2:(fn.map fun d=>fnE K (d.at_ K))[i]?=(fn.map DefE.val)[i]?:=by rw [q]
 rw [List.getElem?_map,List.getElem?_map,e] at q2
 exact DefE.funD (Option.some.inj q2) (List.all_eq_true.mp c.bools.2.1 d (List.mem_of_getElem? e))
end
end He
namespace DL
open PySem PySem.Spec PyProof.Rows L2
theorem oclB_ok {K:PySem.W.Frag} {x:Str} {fs:List Str} (h:oclB K x fs=true):OCl K x fs:=by
 unfold oclB at h
 simp only [Bool.and_eq_true] at h
 exact ⟨cloB_ok h.1,fun f hf=>of_decide_eq_true (p:=PySem.W.findIn K (.ref (He.ga K x)) f=some none) (List.all_eq_true.mp h.2.2.2 f hf),He.mkr_ok h.2.1,of_decide_eq_true h.2.2.1⟩
theorem lam_codeE {K:PySem.W.Frag} {x qual:Str} {params:Arguments} {body:List Stmt} {scope:Scope} {dvs:List V} {kws:List (Str×V)} {fd:FuncData} {f:Addr} {p:He.Defn} (e:f=He.fAd K p) (F:FunD K x qual params body scope dvs kws f fd):fd.code = .ref (He.codeOf K p):=by
 subst e
 exact lam_code F
theorem conB_ok {K:PySem.W.Frag} {x f:Str} {v:He.Dv} {d:D} (h:He.conB K x f v=true) (r:∀ al M H,Rp K al M H d (v.v K)) (hc:PySem.W.copiedNames.contains f=false:=by decide):ConD K (He.ga K x) f d:=by
 obtain ⟨u,c⟩:=He.conB_ok h hc
 exact ⟨_,u,c,r⟩
def dFmt (t:TED):TED:=fun E rho M Q=>t E rho M fun x M1=>match x with
 | .str y=>y.length<=sizeLine/\Q (.str y) M1
 | .int i=>i.natAbs.log2 < 1920/\Q (.str (toString i)) M1
 | _=>False
def dJs:List TED->Str->XD->Rho->Mem->VD->Prop
 | [],acc,_,_,M,Q=>Q (.str acc) M
 | t :: ts,acc,E,rho,M,Q=>t E rho M fun x M1=>match x with
  | .str y=>(acc ++ y).length<=sizeLine/\dJs ts (acc ++ y) E rho M1 Q
  | _=>False
def jsD (ts:List TED) (acc:Str) (E:XD) (rho:Rho) (Q:VD) (x:D) (M1:Mem):Prop:=match x with
 | .str y=>(acc ++ y).length<=sizeLine/\dJs ts (acc ++ y) E rho M1 Q
 | _=>False
def dJoin (ts:List TED):TED:=fun E rho M Q=>dJs ts Str.empty E rho M Q
theorem mk_of {P:Program} {w:World} {K:PySem.W.Frag} {mg:Str->Option Value} {base:Heap} {Tb:List (Addr×Str)} {x qual:Str} {fs:List Str} {st:Stmt} {dvs:List V} {kws:List (Str×V)} {k:Nat} {ps:List Str} {dsp:DSp} (O:OCl K x fs) (m:MCal P w K mg base Tb (He.ga K x) "__init__" qual st dvs kws k ps dsp):Mk K (He.ga K x) m.f :=
 ⟨O.mkr.makes,m.me.at_,m.me.fn,O.mkr.kp⟩
theorem cc_cls {K:PySem.W.Frag} {h:Heap} {mg:Str->Option Value} (X:K.In h) (G:h.Ns mainGlobals mg) {x:Str} (c:(He.Fa.glo x).ok K=true):CcD K mg x (.ref (He.ga K x)):=⟨.ref (He.ga K x),.ref (He.ga K x),He.glo_ok X G c,rfl,fun _ _ _=>rfl⟩
def RcD (K:PySem.W.Frag) (x:Str) (d:D):Prop:=∀ al M H,Rp K al M H d (.ref (He.ga K x))
theorem rc_tup {K:PySem.W.Frag} {x:Str} {vs:List He.Dv} {ds:List D} (t:He.tupB K x vs=true) (hr:∀ al M H,Rps K al M H ds (vs.map (He.Dv.v K))):RcD K x (.tup ds):=fun al M H=>⟨_,_,rfl,.inr (He.tupB_ok t noH),hr al M H⟩
end DL
namespace DL
open PySem PySem.Spec PyProof.Rows L2 Mt
section
variable {E:XD} {DD:DEnds} {rho:Rho} {M:Mem} {Q:VD} {ta tb to tf:TED} {aa ak:TAD} {t:TAKD} {dsp:DSp} {C:Addr} {f m:Str} {d x y:D} {ns:List Str} {xs ds es dds pre:List D} {n k i:Nat} {is:List Nat} {N:Mem->Prop} {P:Prop} {fz:Bool} {R:List D->List D->Mem->Prop}
theorem e_fldo (e:(ns.zip xs).lookup f=some d) (h:Q d M):fldD C f (.obj C ns xs) M Q:=by
 unfold fldD
 simp only [insOf,e]
 first | exact ⟨rfl,h⟩ | exact ⟨trivial,h⟩
theorem e_fldm {fs:List (Str×D)} (em:M[i]?=some (some (.ins C fs))) (e:fs.lookup f=some d) (h:Q d M):fldD C f (.mt i) M Q:=by
 unfold fldD
 simp only [insOf,em,e]
 first | exact ⟨rfl,h⟩ | exact ⟨trivial,h⟩
theorem e_cono (e:(ns.zip xs).lookup f=none) (h:Q d M):conD C f d (.obj C ns xs) M Q:=by
 unfold conD
 simp only [insOf,e]
 first | exact ⟨rfl,trivial,h⟩ | exact ⟨trivial,trivial,h⟩ | exact ⟨rfl,rfl,h⟩
theorem e_conm {fs:List (Str×D)} (em:M[i]?=some (some (.ins C fs))) (e:fs.lookup f=none) (h:Q d M):conD C f d (.mt i) M Q:=by
 unfold conD
 simp only [insOf,em,e]
 first | exact ⟨rfl,trivial,h⟩ | exact ⟨trivial,trivial,h⟩ | exact ⟨rfl,rfl,h⟩
theorem e_cls (h:P):clsD C (.ref C) P:=⟨rfl,h⟩
theorem e_putx {fs:List (Str×D)} (em:M[i]?=some (some (.ins C fs))) (hl:Nat.ble (fs.length+1) 1000=true) (h:∀ M',M'=M.set i (some (.ins C (putD f y fs)))->M'[i]?=some (some (.ins C (putD f y fs)))->N M'):putX C f y (.mt i) M N:=by
 unfold putX
 simp only [em]
 refine ⟨by first | rfl | trivial,Nat.le_of_ble_eq_true hl,h _ rfl (by rw [List.getElem?_set_self (List.getElem?_eq_some_iff.mp em).1])⟩
theorem e_isi (e:(ns.zip xs).lookup m=none) (h:P):isI C m M (.obj C ns xs)/\P:=⟨⟨rfl,e⟩,h⟩
theorem e_isim {fs:List (Str×D)} (em:M[i]?=some (some (.ins C fs))) (e:fs.lookup m=none) (h:P):isI C m M (.mt i)/\P:=⟨by unfold isI;simp only [insOf,em];first | exact ⟨rfl,e⟩ | exact ⟨trivial,e⟩,h⟩
theorem e_arg (h1:ds.length=n) (h2:es.length=k) (h:dsp (pick is (pre ++ ds ++ dds ++ es)) M Q E):dArg n k is dds dsp pre Q E ds es M:=⟨h1,h2,h⟩
theorem e_isc (h:P):isC C M (.obj C ns xs)/\P:=⟨rfl,h⟩
theorem e_fmt (h:ta E rho M fun x M1=>match x with
 | .str y=>y.length<=sizeLine/\Q (.str y) M1
 | .int i=>i.natAbs.log2 < 1920/\Q (.str (toString i)) M1
 | _=>False):dFmt ta E rho M Q:=h
theorem e_eqO (e:insOf M x=none) (h:rEq_ x y M Q):rEqO C dsp x y M Q:=by unfold rEqO;rw [e];exact h
theorem e_neO (e:insOf M x=none) (h:rNe_ x y M Q):rNeO C dsp x y M Q:=by unfold rNeO;rw [e];exact h
theorem e_eqOo (e:(kindD C M y).isSome=true) (h:dsp [.obj C ns xs,y] M (blQ (fun b=>b) Q) fun _ _=>False):rEqO C dsp (.obj C ns xs) y M Q:=⟨rfl,e,h⟩
theorem e_neOo (e:(kindD C M y).isSome=true) (h:dsp [.obj C ns xs,y] M (blQ (!·) Q) fun _ _=>False):rNeO C dsp (.obj C ns xs) y M Q:=⟨rfl,e,h⟩
theorem e_inO (h:dsp [.obj C ns xs,x] M (blQ (fun b=>b) Q) fun _ _=>False):rInO1 C dsp x (.obj C ns xs) M Q:=⟨rfl,h⟩
theorem e_blq {g:Bool->Bool} {b:Bool} (h:Q (.bl (g b)) M):blQ g Q (.bl b) M:=h
theorem kind_obj:kindD C M (.obj C ns xs)=some true:=by
 unfold kindD insOf
 simp
end
theorem mkq_set {C:Addr} {M:Mem} {fs:List (Str×D)} {Q:VD} (ok:okM M.length M) (hb:D.hbs M.length (fs.map (·.2))=true) (h:Q (.obj C (fs.map (·.1)) (fs.map (·.2))) M):mkQ C M Q .non ((M ++ [some (MO.ins C [])]:Mem).set M.length (some (MO.ins C fs))):=by
 refine ⟨rfl,fs,by rw [List.getElem?_set_self (by simp)],?_,hb,?_⟩
 ·intro i mo hi e
  rw [List.getElem?_set_ne (by omega),List.getElem?_append_left hi] at e
  exact ok i mo hi e
 ·rw [List.take_set_of_le (Nat.le_refl _),List.take_left']
  ·exact h
  ·rfl
theorem cutx_app {E:XD} {x:Exn} {M L:Mem} (ok:okM M.length M) (hb:D.hbs M.length (x.fs.map (·.2))=true) (h:E x M):CutX M.length E x (M ++ L) :=
 ⟨hb,fun i mo hi e=>ok i mo hi (by rw [List.getElem?_append_left hi] at e;exact e),by rw [List.take_left'];exact h;rfl⟩
def cmpR (a b:Rat):Int:=if a=b then 0 else if b < a then 1 else -1
theorem gap_cmp (a b:Rat):gapS (a.num * b.den - b.num * a.den)=cmpR a b:=by
 have h1:a.num * b.den - b.num * a.den=0 ↔ a=b:=by
  rw [Rat.eq_iff_mul_eq_mul];omega
 have h2:0 < a.num * b.den - b.num * a.den ↔ b < a:=by
  rw [Rat.lt_iff];omega
 unfold gapS cmpR
 by_cases h:a=b
 ·rw [if_pos h,if_pos (h1.mpr h)]
 ·rw [if_neg h,if_neg (fun z=>h (h1.mp z))]
  by_cases q:b < a
  ·rw [if_pos q,if_pos (h2.mpr q)]
  ·rw [if_neg q,if_neg (fun z=>q (h2.mp z))]
theorem rat_tri (a b:Rat):a < b\/a=b\/b < a:=by
 rcases Rat.le_total (a:=a) (b:=b) with h | h
 ·rcases Rat.le_iff_lt_or_eq.mp h with h | h
  ·exact .inl h
  ·exact .inr (.inl h)
 ·rcases Rat.le_iff_lt_or_eq.mp h with h | h
  ·exact .inr (.inr h)
  ·exact .inr (.inl h.symm)
theorem rat_asym {a b:Rat} (h:a < b):¬ b < a:=by grind
theorem cmp_gt {a b:Rat}:0 < cmpR a b ↔ b < a:=by
 unfold cmpR
 split
 ·rename_i h;subst h;simp [Rat.lt_irrefl]
 ·split <;> simp_all
theorem cmp_lt {a b:Rat}:cmpR a b < 0 ↔ a < b:=by
 unfold cmpR
 split
 ·rename_i h;subst h;simp [Rat.lt_irrefl]
 ·split
  ·rename_i h1 h2
   simp [rat_asym h2]
  ·rename_i h1 h2
   simp
   rcases rat_tri a b with h | h | h
   ·exact h
   ·exact absurd h h1
   ·exact absurd h h2
theorem cmp_ge {a b:Rat}:0<=cmpR a b ↔ ¬ a < b:=by rw [<- cmp_lt];omega
theorem cmp_le {a b:Rat}:cmpR a b<=0 ↔ ¬ b < a:=by rw [<- cmp_gt];omega
def rIsB_:RD2:=fun x y M Q=>match x,y with
 | .bl a,.bl b=>Q (.bl (decide (a=b))) M
 | _,_=>False
def rIsNotB_:RD2:=fun x y M Q=>match x,y with
 | .bl a,.bl b=>Q (.bl (!decide (a=b))) M
 | _,_=>False
theorem e_isB {a b:Bool} {M:Mem} {Q:VD} (h:Q (.bl (decide (a=b))) M):rIsB_ (.bl a) (.bl b) M Q:=h
theorem e_isnotB {a b:Bool} {M:Mem} {Q:VD} (h:Q (.bl (!decide (a=b))) M):rIsNotB_ (.bl a) (.bl b) M Q:=h
theorem Rg1.to {M M' M'':Mem} (g:Rg1 M M') (t:RgTo M' M.length M''):Rg1 M M'':=by
 obtain ⟨r,ok,rfl⟩:=g
 exact t.last
theorem Rg1.cut {M M':Mem} {Q:VD} {d:D} (g:Rg1 M M') (h:d.hb M.length=true) (ok:okM M.length M) (q:Q d M):Cut M.length Q d M':=by
 obtain ⟨r,_,rfl⟩:=g
 exact Cut.app h ok q
theorem mem_last {M:Mem} {o:Option MO}:(M ++ [o])[M.length]?=some o:=List.getElem?_concat_length ..
theorem e_js0 {acc:Str} {E:XD} {rho:Rho} {M:Mem} {Q:VD} (h:Q (.str acc) M):dJs [] acc E rho M Q:=h
theorem e_js1 {t:TED} {ts:List TED} {acc:Str} {E:XD} {rho:Rho} {M:Mem} {Q:VD} (h:t E rho M fun x M1=>jsD ts acc E rho Q x M1):dJs (t :: ts) acc E rho M Q:=h
theorem e_join0 {ts:List TED} {E:XD} {rho:Rho} {M:Mem} {Q:VD} (h:dJs ts Str.empty E rho M Q):dJoin ts E rho M Q:=h
theorem e_eqs {a b:Str} {M:Mem} {Q:VD} (h:Q (.bl (decide (a=b))) M):rEq_ (.str a) (.str b) M Q:=h
theorem e_nes {a b:Str} {M:Mem} {Q:VD} (h:Q (.bl (!decide (a=b))) M):rNe_ (.str a) (.str b) M Q:=h
end DL
namespace DL
open PySem PySem.Spec PyProof.Rows L2
def isRf:D->Bool
 | .obj _ _ _=>true
 | .mt _=>true
 | _=>false
abbrev dCallO (C:Addr) (dsp:DSp) (tf:TED) (t:TAD):TED:=fun E rho M Q=>tf E rho M fun y M1=>isRf y=true/\t E rho M1 fun ds M2=>isC C M2 y/\dsp (y :: ds) M2 Q E
theorem fnIn_of {K:PySem.W.Frag} {x qual:Str} {params:Arguments} {body:List Stmt} {scope:Scope} {dvs:List V} {kws:List (Str×V)} {f:Addr} {fd:FuncData} (F:FunD K x qual params body scope dvs kws f fd):PySem.W.fnIn K f=true:=by
 obtain ⟨oc,od,dV,kV,doc,pm,an,cdv,ct,osl,rfl,lk,hcd,_,_⟩:=F.ex
 unfold PySem.W.fnIn
 rw [lk]
section
variable {X:Cx} {Tb:List (Addr×Str)} {EV:XK} {k:Nat} {g C:Addr} {fd:FuncData} {ps:List Str} {dsp:DSp} {pos:Pos} {fe e:Expr} {es:List Expr} {tf:TED} {t:TAD}
theorem dv_callO (hf:PD X Tb EV fe tf) (hm:Meth X.K C "__call__" g) (hfi:PySem.W.fnIn X.K g=true) (F:FnD X.prog X.w X.K X.mg X.base Tb k g fd ps dsp) (hr:Room k X.A) (hb:Binds X.K fd ps []) (hx:Passes (L2.CX X.prog X.w) X EV) (ha:PDA X Tb EV (e :: es) t)
  (ht:eval (.Call fe (e :: es) [] pos) X.env=(do callWith pos (<- eval fe X.env) [] (backTo pos (starEach (e :: es) X.env)) (backToKw pos (keywordEach [] X.env))):=by rfl)
  (he:starEach (e :: es) X.env=(false,eval e X.env) :: starEach es X.env:=by rfl) (hpl:(backTo pos (starEach es X.env)).any (·.1)=false:=by rfl):PD X Tb EV (.Call fe (e :: es) [] pos) (dCallO C dsp tf t):=by
 refine ⟨fun pins s σ H QV I h=>?_⟩
 obtain ⟨al,rho,M,E,Q,a,t0,p⟩:=h
 refine Call_ (thn (hf.run pins s σ H (fun v H1=>∃ b,v = .ref b/\liftA X.K Tb EV t σ H1 fun vs H2=>(∃ dx fs,H2 b=some (.ins C dx fs))/\liftSp X.K Tb dsp (.ref b :: vs) H2 QV EV) I
  (seq1 a t0 fun al1 x M1 vx H1 s1 a1 r1 q1=>?_)) fun u s1 ⟨v,H1,I1,rv,b,ev,q⟩=>?_) ht
 ·have key:∃ b,vx = .ref b:=by
   cases x with
   | obj _ _ _=>obtain ⟨b,_,_,rfl,_⟩:=r1;exact ⟨b,rfl⟩
   | mt _=>obtain ⟨b,_,rfl⟩:=r1;exact ⟨b,rfl⟩
   | _=>cases q1.1
  obtain ⟨b,rfl⟩:=key
  refine ⟨b,rfl,seqA a1 q1.2 fun al2 ds M2 vs H2 s2 a2 r2 q2=>?_⟩
  obtain ⟨h0,q2⟩:=q2
  unfold isC at h0
  split at h0
  ·rename_i C' fs e1
   subst h0
   obtain ⟨b',dx,ys,e2,h1,_⟩:=insOf_ok a2.wf e1 (r1.mono s2)
   cases e2
   exact ⟨⟨dx,ys,h1⟩,al2,M2,x :: ds,Q,E,a2.wf,⟨_,_,rfl,r1.mono s2,r2⟩,q2,p.mono (s1.trans s2),a2.ex⟩
  ·exact h0.elim
 ·subst ev
  obtain rfl:u=Value.ref b:=rv
  refine StX.callO_with (thn (ha.run pos pins s1 σ H1 _ I1 q) fun us s2 ⟨vs,H2,I2,r,⟨dx,fs,hi⟩,q2⟩=>?_) he hpl
  obtain ⟨mA,O,_⟩:=ins_get I2.hok hi
  obtain ⟨od,J,_⟩:=O.look
  refine ⟨⟨C,_,_,J,rfl⟩,?_⟩
  refine wpAny_call (PySem.W.kco_code I2.kIn J rfl hm.at_ hm.fn hfi ?_)
  have r2:Vals (V.ref b :: vs) (Value.ref b :: us):=.cons rfl r
  have hl:(Value.ref b :: us ++ []).length=ps.length:=by rw [List.append_nil,<- r2.length];exact F.ok.len _ _ _ _ q2
  refine codeAny_mono (F.ok.run X.A X.stack s2 H2 ⟨Value.ref b :: us,[]⟩ (Value.ref b :: us) _ QV EV hr I2.env0 (by have:=hb s2 (Value.ref b :: us) I2.kIn hl;rw [List.append_nil] at this;exact this) r2 q2) fun r s' hq=>?_
  cases r with
  | error e=>exact hx pins σ H2 s2 e s' I2 hq
  | ok fl =>
   cases fl with
   | ret u=>exact I2.after hq
   | next=>exact False.elim hq
   | brk=>exact False.elim hq
   | cont=>exact False.elim hq
end
theorem e_isrf {C:Addr} {ns:List Str} {xs:List D} {P:Prop} (h:P):isRf (.obj C ns xs)=true/\P:=⟨rfl,h⟩
def fzD (x:D) (M:Mem) (Q:VD):Prop:=match x with
 | .mt i=>(match memL M i with
  | some xs=>Q (.lst xs) (M.set i none)
  | none=>Q (.mt i) M)
 | x=>Q x M
abbrev dFz (t:TED):TED:=fun E rho M Q=>t E rho M fun x M1=>fzD x M1 Q
theorem dv_fz {X:Cx} {Tb:List (Addr×Str)} {EV:XK} {e:Expr} {t:TED} (h:PD X Tb EV e t):PD X Tb EV e (dFz t):=pe_imp h fun σ H QV q=>by
 obtain ⟨al,rho,M,E,Q,a,t,p⟩:=q
 refine seq1 a t fun al1 x M1 vx H1 s1 a1 r1 q1=>?_
 unfold fzD at q1
 split at q1
 ·rename_i i
  split at q1
  ·rename_i xs e1
   obtain ⟨b,ys,rfl,hb,hm,hH,r⟩:=memL_ok a1.wf e1 r1
   have s2:Stp al1 M1 H1 al1 (M1.set i none) H1:=stp_fz
   exact p _ (.lst xs) _ _ _ (s1.trans s2) (wf_fz a1.wf i) ⟨b,ys,rfl,hH,fz_at a1.wf hb hm,r.mono s2⟩ q1
  ·exact p _ _ _ _ _ s1 a1.wf r1 q1
 ·exact p _ _ _ _ _ s1 a1.wf r1 q1
theorem e_fzm {i:Nat} {xs:List D} {M:Mem} {Q:VD} (em:M[i]?=some (some (.lst xs))) (h:Q (.lst xs) (M.set i none)):fzD (.mt i) M Q:=by
 unfold fzD
 simp only [memL,em]
 exact h
theorem e_fzl {xs:List D} {M:Mem} {Q:VD} (h:Q (.lst xs) M):fzD (.lst xs) M Q:=h
section
variable {C:Addr} {f m:Str} {x d:D} {fs:List (Str×D)} {M:Mem} {Q:VD} {P:Prop}
theorem e_fldx (h:insOf M x=some (C,fs)) (e:fs.lookup f=some d) (q:Q d M):fldD C f x M Q:=by
 unfold fldD
 simp only [h,e]
 first | exact ⟨rfl,q⟩ | exact ⟨trivial,q⟩
theorem e_isix (h:insOf M x=some (C,fs)) (e:fs.lookup m=none) (q:P):isI C m M x/\P:=by
 refine ⟨?_,q⟩
 unfold isI
 simp only [h]
 first | exact ⟨rfl,e⟩ | exact ⟨trivial,e⟩
theorem e_conx (h:insOf M x=some (C,fs)) (e:fs.lookup f=none) (q:Q d M):conD C f d x M Q:=by
 unfold conD
 simp only [h,e]
 first | exact ⟨rfl,trivial,q⟩ | exact ⟨trivial,trivial,q⟩ | exact ⟨rfl,rfl,q⟩
end
theorem RgL.to {M L M' M'':Mem} (g:RgL M L M') (t:RgTo M' M.length M''):RgL M L M'':=by
 obtain ⟨r,ok,rfl⟩:=g
 obtain ⟨q,ok2,rfl⟩:=t
 exact ⟨q,ok2,by rw [List.set_append_right _ _ (Nat.le_refl _)];simp⟩
theorem RgL.cut {M L M':Mem} {Q:VD} {d:D} (g:RgL M L M') (h:d.hb M.length=true) (ok:okM M.length M) (q:Q d M):Cut M.length Q d M':=by
 obtain ⟨r,_,rfl⟩:=g
 exact Cut.app h ok q
end DL
namespace DL
open PySem PySem.Spec PyProof.Rows L2 Mt
section
variable {E:XD} {rho:Rho} {M:Mem} {Q:VD} {N:Rho->Mem->Prop} {t:TGsD} {q:Rat} {xs:List D} {lo hi:Option Int} {i:Int}
theorem e_htq (h:t [.int q.num,.int q.den] E rho M N):hTup 2 t (qD q) E rho M N:=⟨rfl,h⟩
theorem e_abs (h:Q (.int i.natAbs) M):rAbs_ [.int i] M Q:=h
theorem e_tpl (h:Q (.tup xs) M):rTuple_ [.lst xs] M Q:=h
theorem e_tpt (h:Q (.tup xs) M):rTuple_ [.tup xs] M Q:=h
theorem e_lsl (h:Q (.lst xs) M):rList_ [.lst xs] M Q:=h
theorem e_lst' (h:Q (.lst xs) M):rList_ [.tup xs] M Q:=h
theorem e_slnil (h:Q (.lst []) M):rSl_ (.lst []) lo hi M Q:=by
 have e:cutL ([]:List D) lo hi=[]:=by simp [cutL]
 show Q (.lst (cutL [] lo hi)) M
 rw [e];exact h
end
theorem bz_lt {i:Int} {k:Nat} (h:bz i<=k):i.natAbs < 2 ^ k:=Nat.lt_of_lt_of_le (bs_lt _) (Nat.pow_le_pow_right (by decide) h)
theorem big_no {q:Rat} (h:qs q<=199):bigQ q=false:=by
 have h1:=bz_lt (Nat.le_trans (qs_num q) h)
 have h2:q.den < 2 ^ 199:=bz_lt (i:=(q.den:Int)) (Nat.le_trans (qs_den' q) h)
 have h3:(2:Nat) ^ 199 < 10 ^ 60:=by decide +kernel
 have h4:((10:Int) ^ 60)=((10 ^ 60:Nat):Int):=by rw [Int.natCast_pow];rfl
 unfold bigQ
 rw [h4,decide_eq_false (by omega),decide_eq_false (by omega)]
 rfl
theorem insOf_mt {M:Mem} {i:Nat} {C:Addr} {fs:List (Str×D)} (h:M[i]?=some (some (.ins C fs))):insOf M (.mt i)=some (C,fs):=by
 show (match M[i]? with
  | some (some (.ins C fs))=>some (C,fs)
  | _=>none)=_
 rw [h]
theorem Rps.rep {K:PySem.W.Frag} {al:Al} {M:Mem} {H:Hp} {ds:List D} {xs:List V} (r:Rps K al M H ds xs):∀ n:Nat,Rps K al M H (List.replicate n ds).flatten (List.replicate n xs).flatten
 | 0=>rfl
 | n+1=>by
  rw [List.replicate_succ,List.replicate_succ,List.flatten_cons,List.flatten_cons]
  exact r.append (Rps.rep r n)
theorem e_addl {xs ys:List D} {M:Mem} {Q:VD} (h0:xs.length+ys.length<=sizeLine) (h:Q (.lst (xs ++ ys)) M):rAdd_ (.lst xs) (.lst ys) M Q:=⟨h0,h⟩
theorem e_tyL {i:Nat} {xs:List D} {M:Mem} {P:Prop} (e:M[i]?=some (some (.lst xs))) (h:P):tyB "list" M (.mt i)=true/\P:=⟨by
 show (tyM M[i]? == some "list")=true
 rw [e];exact beq_self_eq_true _,h⟩
theorem okM.setn {n i:Nat} {M:Mem} (ok:okM n M):okM n (M.set i none):=fun j m hj e=>by
 by_cases hij:i=j
 ·subst hij
  rw [List.getElem?_set] at e
  simp at e
 ·rw [List.getElem?_set_ne hij] at e
  exact ok j m hj e
theorem okM.rg {M M':Mem} {i:Nat} (ok:okM M.length M) (t:RgTo M i M'):okM M'.length M':=by rw [t.len];exact t.okM ok
theorem okM.setn' {M:Mem} {i:Nat} (ok:okM M.length M):okM (M.set i none).length (M.set i none):=by
 rw [List.length_set];exact ok.setn
end DL
namespace ZN
open PySem PySem.Spec PyProof.Rows L2
open PySem.Sem (wp)
def Sb.Base (h:Heap) (xs:Array Value):Sb->Prop
 | ⟨true,_,l⟩=>h.IsTuple l xs
 | ⟨false,_,l⟩=>h.IsList l xs
theorem Sb.At.to {h h':Heap} {k:Nat} {b:Sb} (x:b.At h k) (e:∀ o,h.get? b.it=some o->h'.get? b.it=some o):b.At h' k:=by
 obtain ⟨tp,it,l⟩:=b
 cases tp
 ·exact Heap.IsListIter.at x e
 ·exact Heap.IsTupleIter.at x e
theorem Sb.Base.to {h h':Heap} {xs:Array Value} {b:Sb} (x:b.Base h xs) (e:∀ o,h.get? b.l=some o->h'.get? b.l=some o):b.Base h' xs:=by
 obtain ⟨tp,it,l⟩:=b
 cases tp
 ·exact Heap.IsList.at x e
 ·exact Heap.IsTuple.at x e
abbrev IsT (h:Heap) (T:Addr) (vs:List Value):Prop:=h.get? T=some { cls:=.type "tuple",data:=.seq ⟨vs⟩ }
section
variable {prog:Program} {w:World} {A:Around} {E:Value->Shared->Prop} {s:Shared}
theorem nx_item {b:Sb} {k:Nat} {xs:Array Value} {x:Value} {Q:Value->Shared->Prop} (hit:b.At s.heap k) (hl:b.Base s.heap xs) (hx:xs[k]?=some x)
  (hQ:∀ h',b.At h' (k+1)->Heap.SameBut b.it s.heap h'->Q x { s with heap:=h' }):wpAny (model prog w) A (Builtin.SmallTypes.nextOf (.ref b.it)) Q E s:=by
 obtain ⟨tp,it,l⟩:=b
 cases tp
 ·exact wpAny_nextOf_list_item hit hl hx hQ
 ·exact RZ.nextOf_tuple_item hit hl hx hQ
theorem nx_end {b:Sb} {k:Nat} {xs:Array Value} {Q:Value->Shared->Prop} (hh:A.handled=none) (hit:b.At s.heap k) (hl:b.Base s.heap xs) (hx:xs[k]?=none)
  (hE:∀ h' e,Heap.ExtBut b.it s.heap h'->(∃ o,h'.get? e=some o/\o.cls = .type "StopIteration")->E (.ref e) { s with heap:=h' }):wpAny (model prog w) A (Builtin.SmallTypes.nextOf (.ref b.it)) Q E s:=by
 obtain ⟨tp,it,l⟩:=b
 cases tp
 ·exact wpAny_nextOf_list_end hh hit hl hx hE
 ·exact RZ.nextOf_tuple_end hh hit hl hx hE
theorem Apart.tail {z TI TO:Addr} {p:Sb×Array Value} {bs:List (Sb×Array Value)} (D:Apart z TI TO (p :: bs)):Apart z TI TO bs where
 TIz:=D.TIz
 TOz:=D.TOz
 TITO:=D.TITO
 nd:=(List.nodup_cons.mp D.nd).2
 itz:=fun p h=>D.itz p (List.mem_cons_of_mem _ h)
 itTI:=fun p h=>D.itTI p (List.mem_cons_of_mem _ h)
 itTO:=fun p h=>D.itTO p (List.mem_cons_of_mem _ h)
 lz:=fun p h=>D.lz p (List.mem_cons_of_mem _ h)
 lTO:=fun p h=>D.lTO p (List.mem_cons_of_mem _ h)
 lit:=fun p h q g=>D.lit p (List.mem_cons_of_mem _ h) q (List.mem_cons_of_mem _ g)
def StepI {σ:Type} (prog:Program) (w:World) (A:Around) (E:Value->Shared->Prop) (F:Value×Nat->σ->Sem (ForInStep σ)) (c:σ) (TO:Addr) (k:Nat):Prop :=
 ∀ (b:Sb) (n:Nat) (s:Shared) (vs:List Value) (xs:Array Value) (x:Value) (Q:ForInStep σ->Shared->Prop),vs.length<=sizeLine->b.it≠TO->b.At s.heap k->b.Base s.heap xs->xs[k]?=some x->IsT s.heap TO vs ->
  (∀ h',IsT h' TO (vs.set n x)->b.At h' (k+1)->h'.objs.size=s.heap.objs.size->(∀ c o,c≠TO->c≠b.it->s.heap.get? c=some o->h'.get? c=some o)->Q (.yield c) { s with heap:=h' }) ->
  wpAny (model prog w) A (F (.ref b.it,n) c) Q E s
theorem loopI {σ:Type} {F:Value×Nat->σ->Sem (ForInStep σ)} {c:σ} {z TI TO:Addr} {k:Nat} (step:StepI prog w A E F c TO k) :
  ∀ (bs:List (Sb×Array Value)) (us pre olds:List Value) (s:Shared) (Q:σ->Shared->Prop),Apart z TI TO bs->(∀ p∈bs,p.1.At s.heap k/\p.1.Base s.heap p.2)->Hds k bs us ->
   olds.length=us.length->(pre ++ olds).length<=sizeLine->IsT s.heap TO (pre ++ olds) ->
   (∀ h',IsT h' TO (pre ++ us)->(∀ p∈bs,p.1.At h' (k+1))->h'.objs.size=s.heap.objs.size->(∀ c o,c≠TO->(∀ p∈bs,c≠p.1.it)->s.heap.get? c=some o->h'.get? c=some o)->Q c { s with heap:=h' }) ->
   wpAny (model prog w) A (forIn ((bs.map fun p=>Value.ref p.1.it).zipIdx pre.length) c F) Q E s
 | [],us,pre,olds,s,Q,D,hb,hu,ho,hz,hT,hQ=>by
  cases hu
  cases olds with
  | cons _ _=>cases ho
  | nil =>
   simp only [List.map_nil,List.zipIdx_nil,List.forIn_nil]
   exact wpAny_pure (hQ s.heap hT (fun p h=>nomatch h) rfl fun _ _ _ _ e=>e)
 | p :: bs,us,pre,olds,s,Q,D,hb,hu,ho,hz,hT,hQ=>by
  cases hu with
  | @cons _ u _ us hx hu =>
   cases olds with
   | nil=>cases ho
   | cons o olds =>
    simp only [List.map_cons,List.zipIdx_cons,List.forIn_cons]
    obtain ⟨ha,hbs⟩:=hb p (List.mem_cons_self ..)
    refine wpAny_bind (step p.1 _ s _ _ _ _ hz (D.itTO p (List.mem_cons_self ..)) ha hbs hx hT fun h1 t1 a1 z1 k1=>?_)
    have e1:(pre ++ o :: olds).set pre.length u=(pre ++ [u]) ++ olds:=by simp
    rw [e1] at t1
    have:=loopI step bs us (pre ++ [u]) olds { s with heap:=h1 } Q D.tail (fun q hq=>⟨(hb q (List.mem_cons_of_mem _ hq)).1.to fun o e=>k1 _ o (D.itTO q (List.mem_cons_of_mem _ hq)) (D.head q hq) e,
     (hb q (List.mem_cons_of_mem _ hq)).2.to fun o e=>k1 _ o (D.lTO q (List.mem_cons_of_mem _ hq)) (D.lit q (List.mem_cons_of_mem _ hq) p (List.mem_cons_self ..)) e⟩) hu (by simpa using ho) (by simpa using hz) t1 fun h2 t2 a2 z2 k2 =>
      hQ h2 (by simpa using t2) (fun q hq=>by
       rcases List.mem_cons.mp hq with rfl | hq
       ·exact a1.to fun o e=>k2 _ o (D.itTO q (List.mem_cons_self ..)) (fun r hr e=>D.head r hr e.symm) e
       ·exact a2 q hq) (z2.trans z1) fun c o c1 c2 e=>k2 c o c1 (fun r hr=>c2 r (List.mem_cons_of_mem _ hr)) (k1 c o c1 (c2 p (List.mem_cons_self ..)) e)
    simpa using this
def StepE {σ:Type} (prog:Program) (w:World) (A:Around) (E:Value->Shared->Prop) (F:Value×Nat->σ->Sem (ForInStep σ)) (c:σ) (z TI TO:Addr) (k:Nat):Prop :=
 ∀ (b:Sb) (n:Nat) (s:Shared) (xs:Array Value) (Q:ForInStep σ->Shared->Prop),b.it≠z->b.At s.heap k->b.Base s.heap xs->xs[k]?=none->IsZip s.heap z TI TO .ellipsis ->
  (∀ h' e,(∀ c o,c≠z->c≠b.it->s.heap.get? c=some o->h'.get? c=some o)->(∃ o,h'.get? e=some o/\o.cls = .type "StopIteration")->E (.ref e) { s with heap:=h' }) ->
  wpAny (model prog w) A (F (.ref b.it,n) c) Q E s
theorem loopE {σ:Type} {F:Value×Nat->σ->Sem (ForInStep σ)} {c:σ} {z TI TO:Addr} {k:Nat} (step:StepI prog w A E F c TO k) (stop:StepE prog w A E F c z TI TO k) :
  ∀ (bs:List (Sb×Array Value)) (vs:List Value) (n:Nat) (s:Shared) (Q:σ->Shared->Prop),Apart z TI TO bs->(∀ p∈bs,p.1.At s.heap k/\p.1.Base s.heap p.2)->(∃ p∈bs,p.2[k]?=none) ->
   vs.length<=sizeLine->IsT s.heap TO vs->IsZip s.heap z TI TO .ellipsis ->
   (∀ h' e,(∀ c o,c≠z->c≠TO->(∀ p∈bs,c≠p.1.it)->s.heap.get? c=some o->h'.get? c=some o)->(∃ o,h'.get? e=some o/\o.cls = .type "StopIteration")->E (.ref e) { s with heap:=h' }) ->
   wpAny (model prog w) A (forIn ((bs.map fun p=>Value.ref p.1.it).zipIdx n) c F) Q E s
 | [],vs,n,s,Q,D,hb,⟨p,hp,_⟩,hl,hT,hz,hE=>nomatch hp
 | p :: bs,vs,n,s,Q,D,hb,hu,hl,hT,hz,hE=>by
  simp only [List.map_cons,List.zipIdx_cons,List.forIn_cons]
  obtain ⟨ha,hbs⟩:=hb p (List.mem_cons_self ..)
  cases hx:p.2[k]? with
  | none=>exact wpAny_bind (stop p.1 _ s _ _ (D.itz p (List.mem_cons_self ..)) ha hbs hx hz fun h1 e k1 he=>hE h1 e (fun c o c1 _ c3 x=>k1 c o c1 (c3 p (List.mem_cons_self ..)) x) he)
  | some u =>
   refine wpAny_bind (step p.1 _ s _ _ _ _ hl (D.itTO p (List.mem_cons_self ..)) ha hbs hx hT fun h1 t1 a1 z1 k1=>?_)
   refine loopE step stop bs _ _ { s with heap:=h1 } Q D.tail (fun q hq=>⟨(hb q (List.mem_cons_of_mem _ hq)).1.to fun o e=>k1 _ o (D.itTO q (List.mem_cons_of_mem _ hq)) (D.head q hq) e,
     (hb q (List.mem_cons_of_mem _ hq)).2.to fun o e=>k1 _ o (D.lTO q (List.mem_cons_of_mem _ hq)) (D.lit q (List.mem_cons_of_mem _ hq) p (List.mem_cons_self ..)) e⟩) ?_ (by simpa using hl) t1 (k1 _ _ D.TOz.symm (D.itz p (List.mem_cons_self ..)).symm hz) fun h2 e k2 he =>
      hE h2 e (fun c o c1 c2 c3 x=>k2 c o c1 c2 (fun r hr=>c3 r (List.mem_cons_of_mem _ hr)) (k1 c o c2 (c3 p (List.mem_cons_self ..)) x)) he
   obtain ⟨q,hq,hn⟩:=hu
   rcases List.mem_cons.mp hq with rfl | hq
   ·rw [hx] at hn;cases hn
   ·exact ⟨q,hq,hn⟩
theorem next_item {z TI TO:Addr} {p:Sb×Array Value} {bs:List (Sb×Array Value)} {k:Nat} {us olds:List Value} {Q:Value->Shared->Prop} (D:Apart z TI TO (p :: bs))
  (hz:IsZip s.heap z TI TO .none) (hTI:IsT s.heap TI ((p :: bs).map fun p=>Value.ref p.1.it)) (hTO:IsT s.heap TO olds) (hol:olds.length=us.length)
  (hb:∀ q∈p :: bs,q.1.At s.heap k/\q.1.Base s.heap q.2) (hu:Hds k (p :: bs) us) (hlen:us.length<=sizeLine)
  (hQ:∀ h',IsZip h' z TI TO (rawInt s.heap.objs.size)->IsT h' TO us->(∀ q∈p :: bs,q.1.At h' (k+1))->IsT h' s.heap.objs.size us->h'.objs.size=s.heap.objs.size+1 ->
   (∀ c o,c≠z->c≠TO->(∀ q∈p :: bs,c≠q.1.it)->s.heap.get? c=some o->h'.get? c=some o)->Q (.ref s.heap.objs.size) { s with heap:=h' }) :
  wpAny (model prog w) A (Builtin.«zip.__next__» ⟨[.ref z],[]⟩) (fun fin s'=>∃ v,fin = .done (.ret v)/\Q v s') E s:=by
 show wpAny _ _ (field (.ref z) 2 >>= _) _ _ _
 refine wpAny_bind (wpAny_field hz rfl (x:=.bool false) rfl ?_)
 show wpAny _ _ (field (.ref z) 3 >>= _) _ _ _
 refine wpAny_bind (wpAny_field hz rfl (x:=.ref TI) rfl ?_)
 refine wpAny_bind (wpAny_seqItems hTI rfl ?_)
 show wpAny _ _ (Builtin.SmallTypes.ownedTupleIsFree (.ref z) >>= _) _ _ _
 refine wpAny_bind ?_
 unfold Builtin.SmallTypes.ownedTupleIsFree
 refine wpAny_bind (wpAny_field hz rfl (x:=.none) rfl (wpAny_pure ?_))
 simp only [if_true]
 refine wpAny_bind (wpAny_rule ?_)
 refine wpAny_bind (wpAny_field hz rfl (x:=.ref TO) rfl ?_)
 refine wpAny_bind (wpAny_setField_rec hz (by simp) fun h₁ hz₁ hs₁=>?_)
 replace hz₁:IsZip h₁ z TI TO .ellipsis:=hz₁
 refine wpAny_bind ?_
 refine loopI (z:=z) (TI:=TI) (TO:=TO) (k:=k) ?_ (p :: bs) us [] olds { s with heap:=h₁ } _ D (fun q hq=>⟨(hb q hq).1.to fun o e=>hs₁.extBut _ _ (D.itz q hq) e,(hb q hq).2.to fun o e=>hs₁.extBut _ _ (D.lz q hq) e⟩) hu hol (by rw [List.nil_append,hol];exact hlen) (hs₁.extBut _ _ D.TOz hTO) fun h₅ hTO₅ ha₅ hz5 hk₅=>?_
 ·intro b n s vs xs x Q hvl hbT ha hbs hx hT hQ
  refine wpAny_bind (wpAny_onRaise ?_)
  show wpAny _ _ (Builtin.SmallTypes.nextOf (.ref b.it) >>= _) _ _ _
  refine wpAny_bind (nx_item ha hbs hx fun h₂ h1₂ hs₂=>wpAny_pure ?_)
  have hTO₂:IsT h₂ TO vs:=hs₂.extBut _ _ hbT.symm hT
  refine wpAny_bind (wpAny_seqItems hTO₂ rfl ?_)
  refine wpAny_bind (wpAny_updateSeq hTO₂ rfl (hz:=hvl) (_hz':=by rw [Array.size_setIfInBounds];exact Nat.le_succ_of_le hvl) ?_)
  refine wpAny_bind (wpAny_letGo (wpAny_pure ?_))
  have hs₃:=Heap.SameBut.update h₂ TO (Obj.mapSeq fun y=>y.setIfInBounds n x)
  refine hQ _ ?_ (h1₂.to fun o e=>hs₃.extBut _ _ hbT e) (hs₃.1.trans hs₂.1) fun c o c1 c2 e=>hs₃.extBut _ _ c1 (hs₂.extBut _ _ c2 e)
  rw [IsT,Heap.get?_update_self _ hTO₂ rfl]
  simp [Obj.mapSeq]
 ·refine wpAny_bind (wpAny_seqItems (show IsT h₅ TO us from hTO₅) rfl ?_)
  refine wpAny_bind (wpAny_newTuple ?_)
  have hsz:h₅.objs.size=s.heap.objs.size:=hz5.trans hs₁.1
  have hz₅:IsZip h₅ z TI TO .ellipsis:=hk₅ _ _ D.TOz.symm (fun q hq=>(D.itz q hq).symm) hz₁
  have hzlt:z < h₅.objs.size:=Heap.lt_size hz₅
  show wpAny _ _ (Builtin.SmallTypes.ownedTupleHandOut (.ref z) (.ref h₅.objs.size) >>= _) _ _ _
  refine wpAny_bind ?_
  unfold Builtin.SmallTypes.ownedTupleHandOut
  have hz₆:IsZip (h₅.push { cls:=.type "tuple",data:=.seq ⟨us⟩ }) z TI TO .ellipsis:=Heap.get?_push_of_some _ hz₅
  refine wpAny_bind (wpAny_setField_rec hz₆ (by simp) fun h₇ hz₇ hs₇=>?_)
  replace hz₇:IsZip h₇ z TI TO (rawInt h₅.objs.size):=hz₇
  refine wpAny_setField_rec hz₇ (by simp) fun h₈ hz₈ hs₈=>?_
  replace hz₈:IsZip h₈ z TI TO (rawInt h₅.objs.size):=hz₈
  have up:∀ c o,c≠z->h₅.get? c=some o->h₈.get? c=some o:=fun c o c1 e=>hs₈.extBut _ _ c1 (hs₇.extBut _ _ c1 (Heap.get?_push_of_some _ e))
  have hT₈:IsT h₈ h₅.objs.size us:=hs₈.extBut _ _ (Nat.ne_of_gt hzlt) (hs₇.extBut _ _ (Nat.ne_of_gt hzlt) (Heap.get?_push_size _ rfl))
  have hz8:h₈.objs.size=h₅.objs.size+1:=by rw [hs₈.1,hs₇.1,Heap.size_push]
  rw [hsz] at hz₈ hT₈ hz8
  refine wpAny_pure ⟨_,rfl,?_⟩
  show Q (.ref h₅.objs.size) _
  rw [hsz]
  exact hQ h₈ hz₈ (up _ _ D.TOz hTO₅) (fun q hq=>(ha₅ q hq).to fun o e=>up _ o (D.itz q hq) e) hT₈ hz8 fun c o c1 c2 c3 e=>up c o c1 (hk₅ c o c2 c3 (hs₁.extBut _ _ c1 e))
theorem next_end {z TI TO:Addr} {p:Sb×Array Value} {bs:List (Sb×Array Value)} {k:Nat} {olds:List Value} {Q:Fin->Shared->Prop} (hh:A.handled=none) (D:Apart z TI TO (p :: bs))
  (hz:IsZip s.heap z TI TO .none) (hTI:IsT s.heap TI ((p :: bs).map fun p=>Value.ref p.1.it)) (hTO:IsT s.heap TO olds) (hol:olds.length<=sizeLine)
  (hb:∀ q∈p :: bs,q.1.At s.heap k/\q.1.Base s.heap q.2) (hu:∃ q∈p :: bs,q.2[k]?=none)
  (hE:∀ h' e,(∀ c o,c≠z->c≠TO->(∀ q∈p :: bs,c≠q.1.it)->s.heap.get? c=some o->h'.get? c=some o)->(∃ o,h'.get? e=some o/\o.cls = .type "StopIteration")->E (.ref e) { s with heap:=h' }) :
  wpAny (model prog w) A (Builtin.«zip.__next__» ⟨[.ref z],[]⟩) Q E s:=by
 show wpAny _ _ (field (.ref z) 2 >>= _) _ _ _
 refine wpAny_bind (wpAny_field hz rfl (x:=.bool false) rfl ?_)
 show wpAny _ _ (field (.ref z) 3 >>= _) _ _ _
 refine wpAny_bind (wpAny_field hz rfl (x:=.ref TI) rfl ?_)
 refine wpAny_bind (wpAny_seqItems hTI rfl ?_)
 show wpAny _ _ (Builtin.SmallTypes.ownedTupleIsFree (.ref z) >>= _) _ _ _
 refine wpAny_bind ?_
 unfold Builtin.SmallTypes.ownedTupleIsFree
 refine wpAny_bind (wpAny_field hz rfl (x:=.none) rfl (wpAny_pure ?_))
 simp only [if_true]
 refine wpAny_bind (wpAny_rule ?_)
 refine wpAny_bind (wpAny_field hz rfl (x:=.ref TO) rfl ?_)
 refine wpAny_bind (wpAny_setField_rec hz (by simp) fun h₁ hz₁ hs₁=>?_)
 replace hz₁:IsZip h₁ z TI TO .ellipsis:=hz₁
 refine wpAny_bind ?_
 refine loopE (z:=z) (TI:=TI) (TO:=TO) (k:=k) ?_ ?_ (p :: bs) olds 0 { s with heap:=h₁ } _ D (fun q hq=>⟨(hb q hq).1.to fun o e=>hs₁.extBut _ _ (D.itz q hq) e,(hb q hq).2.to fun o e=>hs₁.extBut _ _ (D.lz q hq) e⟩) hu hol (hs₁.extBut _ _ D.TOz hTO) hz₁
  fun h' e k' he=>hE h' e (fun c o c1 c2 c3 x=>k' c o c1 c2 c3 (hs₁.extBut _ _ c1 x)) he
 ·intro b n s vs xs x Q hvl hbT ha hbs hx hT hQ
  refine wpAny_bind (wpAny_onRaise ?_)
  show wpAny _ _ (Builtin.SmallTypes.nextOf (.ref b.it) >>= _) _ _ _
  refine wpAny_bind (nx_item ha hbs hx fun h₂ h1₂ hs₂=>wpAny_pure ?_)
  have hTO₂:IsT h₂ TO vs:=hs₂.extBut _ _ hbT.symm hT
  refine wpAny_bind (wpAny_seqItems hTO₂ rfl ?_)
  refine wpAny_bind (wpAny_updateSeq hTO₂ rfl (hz:=hvl) (_hz':=by rw [Array.size_setIfInBounds];exact Nat.le_succ_of_le hvl) ?_)
  refine wpAny_bind (wpAny_letGo (wpAny_pure ?_))
  have hs₃:=Heap.SameBut.update h₂ TO (Obj.mapSeq fun y=>y.setIfInBounds n x)
  refine hQ _ ?_ (h1₂.to fun o e=>hs₃.extBut _ _ hbT e) (hs₃.1.trans hs₂.1) fun c o c1 c2 e=>hs₃.extBut _ _ c1 (hs₂.extBut _ _ c2 e)
  rw [IsT,Heap.get?_update_self _ hTO₂ rfl]
  simp [Obj.mapSeq]
 ·intro b n s xs Q hbz ha hbs hx hz hE
  refine wpAny_bind (wpAny_onRaise ?_)
  show wpAny _ _ (Builtin.SmallTypes.nextOf (.ref b.it) >>= _) _ _ _
  refine wpAny_bind (nx_end hh ha hbs hx fun h₂ e hs₂ he=>?_)
  obtain ⟨oe,hoe,hce⟩:=he
  have hz₂:IsZip h₂ z TI TO .ellipsis:=hs₂ _ _ hbz.symm hz
  have hez:e≠z:=fun x=>by subst x;rw [hz₂] at hoe;cases hoe;simp at hce
  refine wpAny_setField_rec hz₂ (by simp) fun h₃ _ hs₃=>hE h₃ e (fun c o c1 c2 x=>hs₃.extBut _ _ c1 (hs₂ _ _ c2 x)) ⟨oe,hs₃.extBut _ _ hez hoe,hce⟩
theorem pyNext_item {z TI TO:Addr} {p:Sb×Array Value} {bs:List (Sb×Array Value)} {k:Nat} {us olds:List Value} {Q:Option Value->Shared->Prop} (D:Apart z TI TO (p :: bs))
  (hz:IsZip s.heap z TI TO .none) (hTI:IsT s.heap TI ((p :: bs).map fun p=>Value.ref p.1.it)) (hTO:IsT s.heap TO olds) (hol:olds.length=us.length)
  (hb:∀ q∈p :: bs,q.1.At s.heap k/\q.1.Base s.heap q.2) (hu:Hds k (p :: bs) us) (hlen:us.length<=sizeLine)
  (hQ:∀ h',IsZip h' z TI TO (rawInt s.heap.objs.size)->IsT h' TO us->(∀ q∈p :: bs,q.1.At h' (k+1))->IsT h' s.heap.objs.size us->h'.objs.size=s.heap.objs.size+1 ->
   (∀ c o,c≠z->c≠TO->(∀ q∈p :: bs,c≠q.1.it)->s.heap.get? c=some o->h'.get? c=some o)->Q (some (.ref s.heap.objs.size)) { s with heap:=h' }) :
  wpAny (model prog w) A (pyNext (.ref z)) Q E s:=by
 have hT:s.TypeIs (.ref z) "zip":=⟨_,hz,rfl⟩
 unfold pyNext
 exact wpAny_bind (wpAny_attempt (wpAny_callSpecial?_slot (name:=Str.ofString "__next__") hT F.slot_zip_next
  (wpAny_call_entry F.slot_zip_next hT F.entry_zip_next
   (next_item D hz hTI hTO hol hb hu hlen fun h' a1 a2 a3 a4 a5 a6=>wpAny_pure (hQ h' a1 a2 a3 a4 a5 a6)) (F.args_zip_next_1 _))))
theorem pyNext_end {z TI TO:Addr} {p:Sb×Array Value} {bs:List (Sb×Array Value)} {k:Nat} {olds:List Value} {Q:Option Value->Shared->Prop} (hh:A.handled=none) (D:Apart z TI TO (p :: bs))
  (hz:IsZip s.heap z TI TO .none) (hTI:IsT s.heap TI ((p :: bs).map fun p=>Value.ref p.1.it)) (hTO:IsT s.heap TO olds) (hol:olds.length<=sizeLine)
  (hb:∀ q∈p :: bs,q.1.At s.heap k/\q.1.Base s.heap q.2) (hu:∃ q∈p :: bs,q.2[k]?=none)
  (hQ:∀ h',(∀ c o,c≠z->c≠TO->(∀ q∈p :: bs,c≠q.1.it)->s.heap.get? c=some o->h'.get? c=some o)->Q none { s with heap:=h' }):wpAny (model prog w) A (pyNext (.ref z)) Q E s:=by
 have hT:s.TypeIs (.ref z) "zip":=⟨_,hz,rfl⟩
 unfold pyNext
 refine wpAny_bind (wpAny_attempt (wpAny_callSpecial?_slot (name:=Str.ofString "__next__") hT F.slot_zip_next
  (wpAny_call_entry F.slot_zip_next hT F.entry_zip_next (next_end hh D hz hTI hTO hol hb hu fun h' e hk he=>?_) (F.args_zip_next_1 _))))
 obtain ⟨o,ho,hc⟩:=he
 refine wpAny_bind (wpAny_isInstance (T:="StopIteration") (b:=true) ⟨o,ho,hc⟩ isSubtype_stop ?_)
 exact wpAny_pure (hQ _ hk)
end
end ZN
namespace ZN
open PySem PySem.Spec PyProof.Rows L2
def ItzN (K:PySem.W.Frag) (ts:List (Bool×Addr)):It :=
 ⟨fun i H=>∃ rows us,Sqs K H ts rows/\Col i rows us,
  fun i H v H'=>∃ T us,v = .ref T/\H T=none/\H'=upd H T (.tup us)/\∀ rows,Sqs K H ts rows->Col i rows us,
  fun i H=>∃ rows,Sqs K H ts rows/\∃ r∈rows,r.length<=i⟩
section
variable {X:Cx} {pins:List (Addr×Obj)} {σ:L2.St} {H:Hp} {s:Shared}
theorem sq_base (I:Inv X pins σ H s) {b:Sb} {xs:List V} (h:SqX X.K H xs (b.tp,b.l)):∃ its:List Value,Vals xs its/\b.Base s.heap its.toArray:=by
 obtain ⟨tp,it,l⟩:=b
 cases tp
 ·obtain ⟨its,r,p,_⟩:=I.list h
  exact ⟨its,r,p.isList⟩
 ·obtain ⟨its,r,p,_⟩:=I.tuple h
  exact ⟨its,r,p⟩
theorem sq_inj (I:Inv X pins σ H s) {t:Bool×Addr} {xs ys:List V} (h:SqX X.K H xs t) (h':SqX X.K H ys t):xs=ys:=by
 obtain ⟨tp,l⟩:=t
 cases tp
 ·exact I.list_inj h h'
 ·exact I.tuple_inj h h'
theorem sqs_inj (I:Inv X pins σ H s):∀ {ts:List (Bool×Addr)} {r r':List (List V)},Sqs X.K H ts r->Sqs X.K H ts r'->r=r'
 | [],_,_,.nil,.nil=>rfl
 | _ :: _,_,_,.cons h q,.cons h' q'=>by rw [sq_inj I h h',sqs_inj I q q']
theorem bases (I:Inv X pins σ H s):∀ (bs:List Sb) (rows:List (List V)),Sqs X.K H (bs.map key) rows ->
  ∃ ps:List (Sb×Array Value),ps.map (·.1)=bs/\(∀ p∈ps,p.1.Base s.heap p.2)/\(∀ i us,Col i rows us->∃ vs,Hds i ps vs/\Vals us vs)/\(∀ i,(∃ r∈rows,r.length<=i)->∃ p∈ps,p.2[i]?=none)
 | [],_,.nil=>by
  refine ⟨[],rfl,?_,?_,?_⟩
  ·intro p h;cases h
  ·intro i us h;cases h;exact ⟨[],.nil,.nil⟩
  ·rintro i ⟨r,h,_⟩;cases h
 | b :: bs,_,.cons h q=>by
  obtain ⟨ps,e,h1,h2,h3⟩:=bases I bs _ q
  obtain ⟨its,r,hb⟩:=sq_base I (b:=b) h
  refine ⟨(b,its.toArray) :: ps,by simp [e],?_,?_,?_⟩
  ·intro p hp
   rcases List.mem_cons.mp hp with rfl | hp
   ·exact hb
   ·exact h1 p hp
  ·intro i us hc
   cases hc with
   | cons hx hc =>
    obtain ⟨vs,g1,g2⟩:=h2 i _ hc
    obtain ⟨u,hu,ru⟩:=r.get hx
    exact ⟨u :: vs,.cons (by simpa using hu) g1,.cons ru g2⟩
  ·rintro i ⟨r',hr,hl⟩
   rcases List.mem_cons.mp hr with rfl | hr
   ·refine ⟨_,List.mem_cons_self ..,?_⟩
    have:=r.length
    simp;omega
   ·obtain ⟨p,hp,hn⟩:=h3 i ⟨r',hr,hl⟩
    exact ⟨p,List.mem_cons_of_mem _ hp,hn⟩
end
abbrev ApartS (z TI TO:Addr) (bs:List Sb):Prop:=Apart z TI TO (bs.map fun b=>(b,#[]))
theorem apart_of {z TI TO:Addr} {bs:List Sb} {ps:List (Sb×Array Value)} (D:ApartS z TI TO bs) (e:ps.map (·.1)=bs):Apart z TI TO ps:=by
 subst e
 have m:∀ p∈ps,(p.1,(#[]:Array Value))∈(ps.map (·.1)).map fun b=>(b,(#[]:Array Value)):=fun p hp=>by
  simp only [List.map_map,List.mem_map]
  exact ⟨p,hp,rfl⟩
 refine ⟨D.TIz,D.TOz,D.TITO,?_,fun p h=>D.itz (p.1,#[]) (m p h),fun p h=>D.itTI (p.1,#[]) (m p h),fun p h=>D.itTO (p.1,#[]) (m p h),fun p h=>D.lz (p.1,#[]) (m p h),fun p h=>D.lTO (p.1,#[]) (m p h),fun p h q g=>D.lit (p.1,#[]) (m p h) (q.1,#[]) (m q g)⟩
 have:=D.nd
 simp only [List.map_map] at this
 exact this
abbrev tnN (z TI TO:Addr) (bs:List Sb) (i:Nat) (h:Heap):Prop:=IsZip h z TI TO .none/\IsT h TI (bs.map fun b=>Value.ref b.it)/\(∃ olds,olds.length=bs.length/\IsT h TO olds)/\∀ b∈bs,b.At h i
theorem turn_zipN {P:Program} {w:World} {K:PySem.W.Frag} {elts:List Expr} {kk:Nat} {tpos:Pos} {z TI TO:Addr} {b0:Sb} {bs:List Sb} (D:ApartS z TI TO (b0 :: bs)) (hsz:(b0 :: bs).length<=sizeLine) :
  Turn P w K (.Tuple elts kk tpos) (ItzN K ((b0 :: bs).map key)) (z :: TI :: TO :: (b0 :: bs).map (·.it)) z (tnN z TI TO (b0 :: bs)) where
 mem:=by simp
 obj:=fun i h st c hc=>by
  obtain ⟨hz,hTI,⟨olds,_,hTO⟩,ha⟩:=st
  rcases List.mem_cons.mp hc with rfl | hc
  ·exact ⟨_,hz,fun v q=>nomatch q⟩
  rcases List.mem_cons.mp hc with rfl | hc
  ·exact ⟨_,hTI,fun v q=>nomatch q⟩
  rcases List.mem_cons.mp hc with rfl | hc
  ·exact ⟨_,hTO,fun v q=>nomatch q⟩
  obtain ⟨b,hb,rfl⟩:=List.mem_map.mp hc
  exact (ha b hb).obj
 keep:=fun i h h' st k=>by
  obtain ⟨hz,hTI,⟨olds,ho,hTO⟩,ha⟩:=st
  exact ⟨k z (by simp) _ hz,k TI (by simp) _ hTI,⟨olds,ho,k TO (by simp) _ hTO⟩,fun b hb=>(ha b hb).to fun o e=>k b.it (List.mem_cons_of_mem _ (List.mem_cons_of_mem _ (List.mem_cons_of_mem _ (List.mem_map_of_mem hb)))) o e⟩
 item:=by
  intro X hP hw hK hc i pins s σ H E I hf st hg
  subst hP hw hK
  obtain ⟨hz,hTI,⟨olds,ho,hTO⟩,ha⟩:=st
  obtain ⟨rows,us,hq,hcol⟩:=hg
  obtain ⟨ps,e,hb,hi,_⟩:=bases I (b0 :: bs) rows hq
  obtain ⟨vs,hv,rv⟩:=hi i us hcol
  have DD:=apart_of D e
  have ul:us.length=(b0 :: bs).length:=by rw [hcol.len,hq.len,List.length_map]
  have vl:vs.length=us.length:=rv.length.symm
  have hzl:z < s.heap.objs.size:=Heap.lt_size hz
  cases ps with
  | nil=>cases e
  | cons p ps =>
   have hTI':IsT s.heap TI ((p :: ps).map fun p=>Value.ref p.1.it):=by
    rw [show ((p :: ps).map fun p=>Value.ref p.1.it)=(b0 :: bs).map fun b=>Value.ref b.it from by rw [<- e,List.map_map];rfl]
    exact hTI
   have mem:∀ q∈p :: ps,q.1∈b0 :: bs:=fun q hq=>by rw [<- e];exact List.mem_map_of_mem hq
   have mem':∀ b∈b0 :: bs,∃ q∈p :: ps,q.1=b:=fun b hb=>by rw [<- e] at hb;obtain ⟨q,h1,h2⟩:=List.mem_map.mp hb;exact ⟨q,h1,h2⟩
   refine pyNext_item DD hz hTI' hTO (by omega) (fun q hq=>⟨ha q.1 (mem q hq),hb q hq⟩) hv (by omega) fun h' z' TO' a' hT hsz hk=>?_
   refine ⟨_,rfl,wpAny_letOwnedTupleGo_zip (s:={ s with heap:=h' }) z' fun h'' z'' sb=>?_⟩
   have hT2:h''.get? s.heap.objs.size=some { cls:=.type "tuple",data:=.seq ⟨vs⟩ }:=(sb.2 _ (Nat.ne_of_gt hzl)).trans hT
   have new:ObjOk X.prog X.w (upd H s.heap.objs.size (.tup us)) h'' s.heap.objs.size (.tup us) :=
    ⟨by omega,vs,rv,⟨_,hT2,rfl,_,rfl⟩⟩
   have I1:Inv X pins σ (upd H s.heap.objs.size (.tup us)) { s with heap:=h'' } :=
    I.turnedNew (t':=s.toks) (ch:=z :: TI :: TO :: (b0 :: bs).map (·.it)) (fun c o hb q=>(sb.2 c (fun q'=>hb (by simp [q']))).trans (hk c o (fun q'=>hb (by simp [q'])) (fun q'=>hb (by simp [q'])) (fun r hr q'=>hb (by rw [q'];exact List.mem_cons_of_mem _ (List.mem_cons_of_mem _ (List.mem_cons_of_mem _ (List.mem_map_of_mem (mem r hr)))))) q)) hf (Nat.le_refl _) new
   refine ⟨.ref s.heap.objs.size,_,I1,rfl,⟨_,us,rfl,I.hok.fresh (Nat.le_refl _),rfl,fun rows' hr=>by rw [sqs_inj I hr hq];exact hcol⟩,⟨z'',?_,⟨vs,by omega,?_⟩,?_⟩,fun c hcm=>?_⟩
   ·exact (sb.2 _ D.TIz).trans (hk _ _ D.TIz D.TITO (fun r hr=>(DD.itTI r hr).symm) hTI)
   ·exact (sb.2 _ D.TOz).trans TO'
   ·intro b hb
    obtain ⟨q,hq,rfl⟩:=mem' b hb
    exact (a' q hq).to fun o e=>(sb.2 _ (DD.itz q hq)).trans e
   ·have hlt:c < s.heap.objs.size:=by
     rcases List.mem_cons.mp hcm with rfl | hcm
     ·exact hzl
     rcases List.mem_cons.mp hcm with rfl | hcm
     ·exact Heap.lt_size hTI
     rcases List.mem_cons.mp hcm with rfl | hcm
     ·exact Heap.lt_size hTO
     obtain ⟨b,hb,rfl⟩:=List.mem_map.mp hcm
     obtain ⟨o,e,_⟩:=(ha b hb).obj
     exact Heap.lt_size e
    rw [upd_ne (Nat.ne_of_lt hlt)]
    exact (hf c hcm).1
 done:=by
  intro X hP hw hK hc i pins s σ H E I hf st hg
  subst hP hw hK
  obtain ⟨hz,hTI,⟨olds,ho,hTO⟩,ha⟩:=st
  obtain ⟨rows,hq,hend⟩:=hg
  obtain ⟨ps,e,hb,_,hi⟩:=bases I (b0 :: bs) rows hq
  have DD:=apart_of D e
  cases ps with
  | nil=>cases e
  | cons p ps =>
   have hTI':IsT s.heap TI ((p :: ps).map fun p=>Value.ref p.1.it):=by
    rw [show ((p :: ps).map fun p=>Value.ref p.1.it)=(b0 :: bs).map fun b=>Value.ref b.it from by rw [<- e,List.map_map];rfl]
    exact hTI
   have mem:∀ q∈p :: ps,q.1∈b0 :: bs:=fun q hq=>by rw [<- e];exact List.mem_map_of_mem hq
   exact pyNext_end (I.ok.hd hc) DD hz hTI' hTO (by omega) (fun q hq=>⟨ha q.1 (mem q hq),hb q hq⟩) (hi i hend) fun h' hk=>⟨rfl,I.turnedL (t':=s.toks) (ch:=z :: TI :: TO :: (b0 :: bs).map (·.it)) (fun c o hb q =>
    hk c o (fun q'=>hb (by simp [q'])) (fun q'=>hb (by simp [q'])) (fun r hr q'=>hb (by rw [q'];exact List.mem_cons_of_mem _ (List.mem_cons_of_mem _ (List.mem_cons_of_mem _ (List.mem_map_of_mem (mem r hr)))))) q) hf⟩
 self:=fun A i s Q E st h=>wpAny_pyIter_zip st.1 h
theorem at_itO {h:Heap} {t:Bool×Addr} {a:Addr} (e:h.get? a=some (itO t)):Sb.At h 0 ⟨t.1,a,t.2⟩:=by
 obtain ⟨tp,l⟩:=t
 cases tp
 ·exact ⟨_,e,rfl,rfl⟩
 ·exact ⟨_,e,rfl,rfl⟩
section
variable {prog:Program} {w:World} {A:Around} {E:Value->Shared->Prop} {s:Shared}
theorem pyIter_k {t:Bool×Addr} {xs:Array Value} {Q:Value->Shared->Prop} (hb:BaseK s.heap xs t) (hQ:Q (.ref s.heap.objs.size) { s with heap:=s.heap.push (itO t) }):wpAny (model prog w) A (pyIter (.ref t.2)) Q E s:=by
 obtain ⟨tp,l⟩:=t
 cases tp
 ·exact wpAny_pyIter_list hb hQ
 ·exact wpAny_pyIter_tuple hb hQ
end
abbrev z5 (h:Heap) (t1 t2:Bool×Addr):Heap:=(z4 h t1 t2).push { cls:=.type "zip",data:=.fields #[.none,.bool false,.bool false,.ref (z2 h t1 t2).objs.size,.ref (z3 h t1 t2).objs.size] }
theorem meets2 (t1 t2:Bool×Addr) (xs ys:Array Value) :
  Meets (Builtin.«zip.__new__» ⟨[.type "zip",.ref t1.2,.ref t2.2],[]⟩) (fun _ R s=>BaseK s.heap xs t1/\BaseK s.heap ys t2 /\
   R (.ok (.ret (.ref (z4 s.heap t1 t2).objs.size))) { s with heap:=z5 s.heap t1 t2 }) :=
 .of_wp fun prog w A R s h=>by
  obtain ⟨hp,g,d,tk,os⟩:=s;obtain ⟨hl1,hl2,h⟩:=h
  have hsub:=sub_zip
  have hL1:BaseK (Shared.heap ⟨hp,g,d,tk,os⟩) xs t1:=hl1
  have hL2:BaseK (Shared.heap ⟨hp.push (itO t1),g,d,tk,os⟩) ys t2:=BaseK.push hl2 _
  wp_walk using pyIter_k hL1,pyIter_k hL2
  exact ⟨_,rfl,h⟩
abbrev y4 (h:Heap) (t1 t2 t3:Bool×Addr):Heap:=(y3 h t1 t2 t3).push { cls:=.type "tuple",data:=.seq #[.ref h.objs.size,.ref (h.push (itO t1)).objs.size,.ref (z2 h t1 t2).objs.size] }
abbrev y5 (h:Heap) (t1 t2 t3:Bool×Addr):Heap:=(y4 h t1 t2 t3).push { cls:=.type "tuple",data:=.seq #[.none,.none,.none] }
abbrev y6 (h:Heap) (t1 t2 t3:Bool×Addr):Heap:=(y5 h t1 t2 t3).push { cls:=.type "zip",data:=.fields #[.none,.bool false,.bool false,.ref (y3 h t1 t2 t3).objs.size,.ref (y4 h t1 t2 t3).objs.size] }
theorem meets3 (t1 t2 t3:Bool×Addr) (xs ys zs:Array Value) :
  Meets (Builtin.«zip.__new__» ⟨[.type "zip",.ref t1.2,.ref t2.2,.ref t3.2],[]⟩) (fun _ R s=>BaseK s.heap xs t1/\BaseK s.heap ys t2/\BaseK s.heap zs t3 /\
   R (.ok (.ret (.ref (y5 s.heap t1 t2 t3).objs.size))) { s with heap:=y6 s.heap t1 t2 t3 }) :=
 .of_wp fun prog w A R s h=>by
  obtain ⟨hp,g,d,tk,os⟩:=s;obtain ⟨hl1,hl2,hl3,h⟩:=h
  have hsub:=sub_zip
  have hL1:BaseK (Shared.heap ⟨hp,g,d,tk,os⟩) xs t1:=hl1
  have hL2:BaseK (Shared.heap ⟨hp.push (itO t1),g,d,tk,os⟩) ys t2:=BaseK.push hl2 _
  have hL3:BaseK (Shared.heap ⟨z2 hp t1 t2,g,d,tk,os⟩) zs t3:=BaseK.push (BaseK.push hl3 _) _
  wp_walk using pyIter_k hL1,pyIter_k hL2,pyIter_k hL3
  exact ⟨_,rfl,h⟩
theorem args4 (a b c d:Value):argsOk "object.__init__" ⟨[a,b,c,d],[]⟩:=by
 unfold argsOk;rw [signature?_of (id:="object.__init__") (n:=['_','_','t','i','n','i','_','_']) (o:=['t','c','e','j','b','o']) (by kernel_rfl) F.owner_object];kernel_rfl
theorem typeCall3 (a b c:Value):checkTypeCall "zip" ⟨[a,b,c],[]⟩=pure ():=by kernel_rfl
theorem newCall3 (a b c:Value):checkBuiltinCall "zip.__new__" ⟨[.type "zip",a,b,c],[]⟩=pure ():=by kernel_rfl
section
variable {prog:Program} {w:World} {A:Around} {E:Value->Shared->Prop} {s:Shared}
theorem call2 {t1 t2:Bool×Addr} {xs ys:Array Value} {Q:Value->Shared->Prop} (h1:BaseK s.heap xs t1) (h2:BaseK s.heap ys t2)
  (h:∀ h',tnN (s.heap.objs.size+4) (s.heap.objs.size+2) (s.heap.objs.size+3) [⟨t1.1,s.heap.objs.size,t1.2⟩,⟨t2.1,s.heap.objs.size+1,t2.2⟩] 0 h'->(∀ c o,s.heap.get? c=some o->h'.get? c=some o)->Q (.ref (s.heap.objs.size+4)) { s with heap:=h' }) :
  wpAny (model prog w) A (call (.type "zip") [.ref t1.2,.ref t2.2]) Q E s:=by
 refine callType_new F.called_zip (by decide) (F.typeCall_zip_2 _ _) (F.newCall_zip_2 _ _) (fun obj=>F.args_object_init_3 obj _ _) F.entry_zip_new (meets2 t1 t2 xs ys) ⟨h1,h2,?_⟩
 have e1:(s.heap.push (itO t1)).objs.size=s.heap.objs.size+1:=Heap.size_push ..
 have e2:(z2 s.heap t1 t2).objs.size=s.heap.objs.size+2:=by rw [Heap.size_push,e1]
 have e3:(z3 s.heap t1 t2).objs.size=s.heap.objs.size+3:=by rw [Heap.size_push,e2]
 have e4:(z4 s.heap t1 t2).objs.size=s.heap.objs.size+4:=by rw [Heap.size_push,e3]
 have g5:(z5 s.heap t1 t2).get? (z4 s.heap t1 t2).objs.size=some _:=Heap.get?_push_size _ rfl
 have g4:(z5 s.heap t1 t2).get? (z3 s.heap t1 t2).objs.size=some _:=Heap.get?_push_of_some _ (Heap.get?_push_size _ rfl)
 have g3:(z5 s.heap t1 t2).get? (z2 s.heap t1 t2).objs.size=some _:=Heap.get?_push_of_some _ (Heap.get?_push_of_some _ (Heap.get?_push_size _ rfl))
 have g2:(z5 s.heap t1 t2).get? (s.heap.push (itO t1)).objs.size=some (itO t2):=Heap.get?_push_of_some _ (Heap.get?_push_of_some _ (Heap.get?_push_of_some _ (Heap.get?_push_size _ (by unfold itO;split <;> rfl))))
 have g1:(z5 s.heap t1 t2).get? s.heap.objs.size=some (itO t1):=Heap.get?_push_of_some _ (Heap.get?_push_of_some _ (Heap.get?_push_of_some _ (Heap.get?_push_of_some _ (Heap.get?_push_size _ (by unfold itO;split <;> rfl)))))
 show _/\_
 rw [e2,e3,e4] at g5
 rw [e1,e2] at g3
 rw [e3] at g4
 rw [e1] at g2
 rw [e4]
 refine ⟨⟨_,g5,rfl⟩,h _ ⟨g5,g3,⟨[.none,.none],rfl,g4⟩,fun b hb=>?_⟩ fun c o x =>
  Heap.get?_push_of_some _ (Heap.get?_push_of_some _ (Heap.get?_push_of_some _ (Heap.get?_push_of_some _ (Heap.get?_push_of_some _ x))))⟩
 simp only [List.mem_cons,List.not_mem_nil,or_false] at hb
 rcases hb with rfl | rfl
 ·exact at_itO g1
 ·exact at_itO g2
theorem call3 {t1 t2 t3:Bool×Addr} {xs ys zs:Array Value} {Q:Value->Shared->Prop} (h1:BaseK s.heap xs t1) (h2:BaseK s.heap ys t2) (h3:BaseK s.heap zs t3)
  (h:∀ h',tnN (s.heap.objs.size+5) (s.heap.objs.size+3) (s.heap.objs.size+4) [⟨t1.1,s.heap.objs.size,t1.2⟩,⟨t2.1,s.heap.objs.size+1,t2.2⟩,⟨t3.1,s.heap.objs.size+2,t3.2⟩] 0 h'->(∀ c o,s.heap.get? c=some o->h'.get? c=some o)->Q (.ref (s.heap.objs.size+5)) { s with heap:=h' }) :
  wpAny (model prog w) A (call (.type "zip") [.ref t1.2,.ref t2.2,.ref t3.2]) Q E s:=by
 refine callType_new F.called_zip (by decide) (typeCall3 _ _ _) (newCall3 _ _ _) (fun obj=>args4 obj _ _ _) F.entry_zip_new (meets3 t1 t2 t3 xs ys zs) ⟨h1,h2,h3,?_⟩
 have e1:(s.heap.push (itO t1)).objs.size=s.heap.objs.size+1:=Heap.size_push ..
 have e2:(z2 s.heap t1 t2).objs.size=s.heap.objs.size+2:=by rw [Heap.size_push,e1]
 have e3:(y3 s.heap t1 t2 t3).objs.size=s.heap.objs.size+3:=by rw [Heap.size_push,e2]
 have e4:(y4 s.heap t1 t2 t3).objs.size=s.heap.objs.size+4:=by rw [Heap.size_push,e3]
 have e5:(y5 s.heap t1 t2 t3).objs.size=s.heap.objs.size+5:=by rw [Heap.size_push,e4]
 have g6:(y6 s.heap t1 t2 t3).get? (y5 s.heap t1 t2 t3).objs.size=some _:=Heap.get?_push_size _ rfl
 have g5:(y6 s.heap t1 t2 t3).get? (y4 s.heap t1 t2 t3).objs.size=some _:=Heap.get?_push_of_some _ (Heap.get?_push_size _ rfl)
 have g4:(y6 s.heap t1 t2 t3).get? (y3 s.heap t1 t2 t3).objs.size=some _:=Heap.get?_push_of_some _ (Heap.get?_push_of_some _ (Heap.get?_push_size _ rfl))
 have g3:(y6 s.heap t1 t2 t3).get? (z2 s.heap t1 t2).objs.size=some (itO t3):=Heap.get?_push_of_some _ (Heap.get?_push_of_some _ (Heap.get?_push_of_some _ (Heap.get?_push_size _ (by unfold itO;split <;> rfl))))
 have g2:(y6 s.heap t1 t2 t3).get? (s.heap.push (itO t1)).objs.size=some (itO t2):=Heap.get?_push_of_some _ (Heap.get?_push_of_some _ (Heap.get?_push_of_some _ (Heap.get?_push_of_some _ (Heap.get?_push_size _ (by unfold itO;split <;> rfl)))))
 have g1:(y6 s.heap t1 t2 t3).get? s.heap.objs.size=some (itO t1):=Heap.get?_push_of_some _ (Heap.get?_push_of_some _ (Heap.get?_push_of_some _ (Heap.get?_push_of_some _ (Heap.get?_push_of_some _ (Heap.get?_push_size _ (by unfold itO;split <;> rfl))))))
 show _/\_
 rw [e3,e4,e5] at g6
 rw [e1,e2,e3] at g4
 rw [e4] at g5
 rw [e2] at g3
 rw [e1] at g2
 rw [e5]
 refine ⟨⟨_,g6,rfl⟩,h _ ⟨g6,g4,⟨[.none,.none,.none],rfl,g5⟩,fun b hb=>?_⟩ fun c o x =>
  Heap.get?_push_of_some _ (Heap.get?_push_of_some _ (Heap.get?_push_of_some _ (Heap.get?_push_of_some _ (Heap.get?_push_of_some _ (Heap.get?_push_of_some _ x)))))⟩
 simp only [List.mem_cons,List.not_mem_nil,or_false] at hb
 rcases hb with rfl | rfl | rfl
 ·exact at_itO g1
 ·exact at_itO g2
 ·exact at_itO g3
end
theorem sqk_base {X:Cx} {pins:List (Addr×Obj)} {σ:L2.St} {H:Hp} {s:Shared} (I:Inv X pins σ H s) {t:Bool×Addr} {xs:List V} (h:SqX X.K H xs t):∃ ys:Array Value,BaseK s.heap ys t:=by
 obtain ⟨tp,l⟩:=t
 cases tp
 ·obtain ⟨its,r,p,_⟩:=I.list h
  exact ⟨its.toArray,p.isList⟩
 ·obtain ⟨its,r,p,_⟩:=I.tuple h
  exact ⟨its.toArray,p⟩
theorem nad {x y:Nat} (h:x≠y):(x:Addr)≠(y:Addr):=h
theorem apart2 (I l1 l2:Nat) (a b:Bool) (h1:l1 < I) (h2:l2 < I):ApartS (I+4) (I+2) (I+3) [⟨a,I,l1⟩,⟨b,I+1,l2⟩]:=by
 have nd:([I,I+1]:List Nat).Nodup:=by simp
 refine ⟨nad (by omega),nad (by omega),nad (by omega),nd,?_,?_,?_,?_,?_,?_⟩
 all_goals
  intro p hp
  simp only [List.map_cons,List.map_nil,List.mem_cons,List.not_mem_nil,or_false] at hp
 ·rcases hp with rfl | rfl <;> (refine nad ?_;dsimp only;omega)
 ·rcases hp with rfl | rfl <;> (refine nad ?_;dsimp only;omega)
 ·rcases hp with rfl | rfl <;> (refine nad ?_;dsimp only;omega)
 ·rcases hp with rfl | rfl <;> (refine nad ?_;dsimp only;omega)
 ·rcases hp with rfl | rfl <;> (refine nad ?_;dsimp only;omega)
 ·intro q hq
  simp only [List.map_cons,List.map_nil,List.mem_cons,List.not_mem_nil,or_false] at hq
  rcases hp with rfl | rfl <;> rcases hq with rfl | rfl <;> (refine nad ?_;dsimp only;omega)
theorem apart3 (I l1 l2 l3:Nat) (a b c:Bool) (h1:l1 < I) (h2:l2 < I) (h3:l3 < I):ApartS (I+5) (I+3) (I+4) [⟨a,I,l1⟩,⟨b,I+1,l2⟩,⟨c,I+2,l3⟩]:=by
 have nd:([I,I+1,I+2]:List Nat).Nodup:=by simp
 refine ⟨nad (by omega),nad (by omega),nad (by omega),nd,?_,?_,?_,?_,?_,?_⟩
 all_goals
  intro p hp
  simp only [List.map_cons,List.map_nil,List.mem_cons,List.not_mem_nil,or_false] at hp
 ·rcases hp with rfl | rfl | rfl <;> (refine nad ?_;dsimp only;omega)
 ·rcases hp with rfl | rfl | rfl <;> (refine nad ?_;dsimp only;omega)
 ·rcases hp with rfl | rfl | rfl <;> (refine nad ?_;dsimp only;omega)
 ·rcases hp with rfl | rfl | rfl <;> (refine nad ?_;dsimp only;omega)
 ·rcases hp with rfl | rfl | rfl <;> (refine nad ?_;dsimp only;omega)
 ·intro q hq
  simp only [List.map_cons,List.map_nil,List.mem_cons,List.not_mem_nil,or_false] at hq
  rcases hp with rfl | rfl | rfl <;> rcases hq with rfl | rfl | rfl <;> (refine nad ?_;dsimp only;omega)
theorem fp2 {I c:Nat} (h:c∈[I+4,I+2,I+3,I,I+1]):I<=c:=by
 simp only [List.mem_cons,List.not_mem_nil,or_false] at h;omega
theorem fp3 {I c:Nat} (h:c∈[I+5,I+3,I+4,I,I+1,I+2]):I<=c:=by
 simp only [List.mem_cons,List.not_mem_nil,or_false] at h;omega
def iZipN (K:PySem.W.Frag) (n:Nat) (ta:TA):TI:=fun σ H R=>ta σ H fun vs H1=>∃ ts rows,ts.length=n/\vs=ts.map (fun t=>V.ref t.2)/\Sqs K H1 ts rows/\R (ItzN K ts) H1
section
variable {X:Cx} {e e2 e3:Expr} {ta:TA} {p pos tpos:Pos} {elts:List Expr} {kk:Nat}
theorem pi_zipN2 (hg:Gl X "zip") (hm:X.mg "zip"=none) (ha:PA X [e,e2] ta)
  (hs:starEach [e,e2] X.env=(false,eval e X.env) :: starEach [e2] X.env:=by rfl) (hpl:(backTo pos (starEach [e2] X.env)).any (·.1)=false:=by rfl) :
  PI X (.Tuple elts kk tpos) (.Call (.Name "zip" p) [e,e2] [] pos) (iZipN X.K 2 ta):=by
 refine ⟨fun pins s σ H R I h=>?_⟩
 refine Call_ (ld_blt I hg hm PyProof.Rows.boot_zip (PyProof.Rows.callWith_type1 (thn (ha.run pos pins s σ H _ I h) fun us s1 ⟨vs,H1,I1,r1,q1⟩=>?_) hs hpl))
 obtain ⟨ts,rows,tl,ex,hq,q⟩:=q1
 match ts,tl with
 | [t1,t2],_ =>
  subst ex
  cases r1 with
  | cons r rr =>
   cases rr with
   | cons r' rr =>
    cases rr
    cases r
    cases r'
    cases hq with
    | cons q1 hq =>
     cases hq with
     | cons q2 hq =>
      cases hq
      obtain ⟨xs,b1⟩:=sqk_base I1 q1
      obtain ⟨ys,b2⟩:=sqk_base I1 q2
      have la:=b1.lt
      have lb:=b2.lt
      refine call2 b1 b2 fun h' tn hk=>wpAny_pyIter_zip tn.1 ?_
      have I2:Inv X pins σ H1 { s1 with heap:=h' }:=I1.kept (t':=s1.toks) hk
      refine ⟨s1.heap.objs.size+4,_,_,_,H1,rfl,I2,turn_zipN (b0:=⟨t1.1,s1.heap.objs.size,t1.2⟩) (bs:=[⟨t2.1,s1.heap.objs.size+1,t2.2⟩]) (apart2 _ _ _ _ _ la lb) (Nat.le_of_ble_eq_true rfl),tn,fun c hcm=>?_,q⟩
      ·have hle:s1.heap.objs.size<=c:=fp2 hcm
       exact I1.fpOk hle (I1.hok.fresh hle)
theorem pi_zipN3 (hg:Gl X "zip") (hm:X.mg "zip"=none) (ha:PA X [e,e2,e3] ta)
  (hs:starEach [e,e2,e3] X.env=(false,eval e X.env) :: starEach [e2,e3] X.env:=by rfl) (hpl:(backTo pos (starEach [e2,e3] X.env)).any (·.1)=false:=by rfl) :
  PI X (.Tuple elts kk tpos) (.Call (.Name "zip" p) [e,e2,e3] [] pos) (iZipN X.K 3 ta):=by
 refine ⟨fun pins s σ H R I h=>?_⟩
 refine Call_ (ld_blt I hg hm PyProof.Rows.boot_zip (PyProof.Rows.callWith_type1 (thn (ha.run pos pins s σ H _ I h) fun us s1 ⟨vs,H1,I1,r1,q1⟩=>?_) hs hpl))
 obtain ⟨ts,rows,tl,ex,hq,q⟩:=q1
 match ts,tl with
 | [t1,t2,t3],_ =>
  subst ex
  cases r1 with
  | cons r rr =>
   cases rr with
   | cons r' rr =>
    cases rr with
    | cons r'' rr =>
     cases rr
     cases r
     cases r'
     cases r''
     cases hq with
     | cons q1 hq =>
      cases hq with
      | cons q2 hq =>
       cases hq with
       | cons q3 hq =>
        cases hq
        obtain ⟨xs,b1⟩:=sqk_base I1 q1
        obtain ⟨ys,b2⟩:=sqk_base I1 q2
        obtain ⟨zs,b3⟩:=sqk_base I1 q3
        have la:=b1.lt
        have lb:=b2.lt
        have lc:=b3.lt
        refine call3 b1 b2 b3 fun h' tn hk=>wpAny_pyIter_zip tn.1 ?_
        have I2:Inv X pins σ H1 { s1 with heap:=h' }:=I1.kept (t':=s1.toks) hk
        refine ⟨s1.heap.objs.size+5,_,_,_,H1,rfl,I2,turn_zipN (b0:=⟨t1.1,s1.heap.objs.size,t1.2⟩) (bs:=[⟨t2.1,s1.heap.objs.size+1,t2.2⟩,⟨t3.1,s1.heap.objs.size+2,t3.2⟩]) (apart3 _ _ _ _ _ _ _ la lb lc) (Nat.le_of_ble_eq_true rfl),tn,fun c hcm=>?_,q⟩
        ·have hle:s1.heap.objs.size<=c:=fp3 hcm
         exact I1.fpOk hle (I1.hok.fresh hle)
end
end ZN
namespace DL
open PySem PySem.Spec PyProof.Rows L2 ZN
def SqXz (K:PySem.W.Frag) (al:Al) (M:Mem) (H:Hp) (xs:List V):Bool×Addr->Prop
 | (true,a)=>SqTz K al M H a xs
 | (false,a)=>SqLz K al M H a xs
section
variable {K:PySem.W.Frag} {Tb:List (Addr×Str)} {al al':Al} {M M':Mem} {H H':Hp}
theorem SqXz.sq {xs:List V} {t:Bool×Addr} (h:SqXz K al M H xs t):SqX K H xs t:=by
 obtain ⟨tp,a⟩:=t
 cases tp
 ·exact SqLz.sq h
 ·exact SqTz.sq h
theorem SqXz.monow {xs:List V} {t:Bool×Addr} (s:Stw al M H al' M' H') (h:SqXz K al M H xs t):SqXz K al' M' H' xs t:=by
 obtain ⟨tp,a⟩:=t
 cases tp
 ·exact SqLz.monow s h
 ·exact SqTz.monow s h
theorem asS_ok {d:D} {xs:List D} {v:V} (e:asS d=some xs) (r:Rp K al M H d v):∃ t ys,v = .ref t.2/\SqXz K al M H ys t/\Rps K al M H xs ys:=by
 cases d with
 | tup ds=>cases e;obtain ⟨a,ys,rfl,h,q⟩:=r;exact ⟨(true,a),ys,rfl,h,q⟩
 | lst ds=>cases e;obtain ⟨a,ys,rfl,h,f,q⟩:=r;exact ⟨(false,a),ys,rfl,.inl ⟨.inl h,f⟩,q⟩
 | rol ds=>cases e;obtain ⟨a,ys,rfl,h,q⟩:=r;exact ⟨(false,a),ys,rfl,h,q⟩
 | _=>cases e
def zip2D (xs ys:List D):List D:=List.zipWith (fun a b=>D.tup [a,b]) xs ys
def zip3D (xs ys zs:List D):List D:=List.zipWith (fun a (p:D×D)=>D.tup [a,p.1,p.2]) xs (List.zip ys zs)
theorem zip2_at {xs ys:List D} {i:Nat} {d:D} (e:(zip2D xs ys)[i]?=some d):∃ a b,xs[i]?=some a/\ys[i]?=some b/\d = .tup [a,b]:=by
 unfold zip2D at e
 rw [List.getElem?_zipWith] at e
 split at e
 ·rename_i a b h1 h2
  cases e
  exact ⟨a,b,h1,h2,rfl⟩
 ·cases e
theorem zip3_at {xs ys zs:List D} {i:Nat} {d:D} (e:(zip3D xs ys zs)[i]?=some d):∃ a b c,xs[i]?=some a/\ys[i]?=some b/\zs[i]?=some c/\d = .tup [a,b,c]:=by
 unfold zip3D at e
 rw [List.getElem?_zipWith] at e
 split at e
 ·rename_i a p h1 h2
  cases e
  obtain ⟨h3,h4⟩:=List.getElem?_zip_eq_some.mp h2
  exact ⟨a,p.1,p.2,h1,h3,h4,rfl⟩
 ·cases e
theorem it_zip2 {t1 t2:Bool×Addr} {xs ys:List D} {vs ws:List V} (h1:SqXz K al M H vs t1) (h2:SqXz K al M H ws t2) (r1:Rps K al M H xs vs) (r2:Rps K al M H ys ws):ItOk K Tb al M H (ItzN K [t1,t2]) (zip2D xs ys) where
 stop:=fun al1 M1 H1 s w=>⟨[vs,ws],.cons (h1.monow s).sq (.cons (h2.monow s).sq .nil),by
  have l:(zip2D xs ys).length=min xs.length ys.length:=by simp [zip2D]
  have:=r1.length
  have:=r2.length
  rcases Nat.le_total xs.length ys.length with q | q
  ·exact ⟨vs,by simp,by omega⟩
  ·exact ⟨ws,by simp,by omega⟩⟩
 go:=fun al1 M1 H1 s w i d e=>by
  obtain ⟨a,b,e1,e2,rfl⟩:=zip2_at e
  obtain ⟨v,g1,_⟩:=r1.get e1
  obtain ⟨u,g2,_⟩:=r2.get e2
  exact ⟨[vs,ws],[v,u],.cons (h1.monow s).sq (.cons (h2.monow s).sq .nil),.cons g1 (.cons g2 .nil)⟩
 yld:=fun al1 M1 H1 s w i d x H2 e y=>by
  obtain ⟨a,b,e1,e2,rfl⟩:=zip2_at e
  obtain ⟨v,g1,q1⟩:=r1.get e1
  obtain ⟨u,g2,q2⟩:=r2.get e2
  obtain ⟨T,us,rfl,hT,rfl,hc⟩:=y
  replace hc:=hc [vs,ws] (.cons (h1.monow s).sq (.cons (h2.monow s).sq .nil))
  cases hc with
  | cons k1 hc =>
   cases hc with
   | cons k2 hc =>
    cases hc
    cases k1.symm.trans g1
    cases k2.symm.trans g2
    exact ⟨stp_new w hT _,wf_new w hT _,rp_tup w hT ⟨_,_,rfl,q1.monow s,_,_,rfl,q2.monow s,rfl⟩⟩
theorem it_zip3 {t1 t2 t3:Bool×Addr} {xs ys zs:List D} {vs ws os:List V} (h1:SqXz K al M H vs t1) (h2:SqXz K al M H ws t2) (h3:SqXz K al M H os t3) (r1:Rps K al M H xs vs) (r2:Rps K al M H ys ws) (r3:Rps K al M H zs os):ItOk K Tb al M H (ItzN K [t1,t2,t3]) (zip3D xs ys zs) where
 stop:=fun al1 M1 H1 s w=>⟨[vs,ws,os],.cons (h1.monow s).sq (.cons (h2.monow s).sq (.cons (h3.monow s).sq .nil)),by
  have l:(zip3D xs ys zs).length=min xs.length (min ys.length zs.length):=by simp [zip3D]
  have:=r1.length
  have:=r2.length
  have:=r3.length
  by_cases q1:vs.length<=(zip3D xs ys zs).length
  ·exact ⟨vs,by simp,q1⟩
  ·by_cases q2:ws.length<=(zip3D xs ys zs).length
   ·exact ⟨ws,by simp,q2⟩
   ·exact ⟨os,by simp,by omega⟩⟩
 go:=fun al1 M1 H1 s w i d e=>by
  obtain ⟨a,b,c,e1,e2,e3,rfl⟩:=zip3_at e
  obtain ⟨v,g1,_⟩:=r1.get e1
  obtain ⟨u,g2,_⟩:=r2.get e2
  obtain ⟨o,g3,_⟩:=r3.get e3
  exact ⟨[vs,ws,os],[v,u,o],.cons (h1.monow s).sq (.cons (h2.monow s).sq (.cons (h3.monow s).sq .nil)),.cons g1 (.cons g2 (.cons g3 .nil))⟩
 yld:=fun al1 M1 H1 s w i d x H2 e y=>by
  obtain ⟨a,b,c,e1,e2,e3,rfl⟩:=zip3_at e
  obtain ⟨v,g1,q1⟩:=r1.get e1
  obtain ⟨u,g2,q2⟩:=r2.get e2
  obtain ⟨o,g3,q3⟩:=r3.get e3
  obtain ⟨T,us,rfl,hT,rfl,hc⟩:=y
  replace hc:=hc [vs,ws,os] (.cons (h1.monow s).sq (.cons (h2.monow s).sq (.cons (h3.monow s).sq .nil)))
  cases hc with
  | cons k1 hc =>
   cases hc with
   | cons k2 hc =>
    cases hc with
    | cons k3 hc =>
     cases hc
     cases k1.symm.trans g1
     cases k2.symm.trans g2
     cases k3.symm.trans g3
     exact ⟨stp_new w hT _,wf_new w hT _,rp_tup w hT ⟨_,_,rfl,q1.monow s,_,_,rfl,q2.monow s,_,_,rfl,q3.monow s,rfl⟩⟩
end
def iZip2 (t:TAD):TID:=fun E rho M Q=>t E rho M fun ds M1=>match ds with
 | [x,y]=>∃ xs ys,asS x=some xs/\asS y=some ys/\Q (zip2D xs ys) M1
 | _=>False
def iZip3 (t:TAD):TID:=fun E rho M Q=>t E rho M fun ds M1=>match ds with
 | [x,y,z]=>∃ xs ys zs,asS x=some xs/\asS y=some ys/\asS z=some zs/\Q (zip3D xs ys zs) M1
 | _=>False
section
variable {X:Cx} {Tb:List (Addr×Str)} {EV:XK} {a b c:Expr} {ta:TAD} {p pos tpos:Pos} {elts:List Expr} {kk:Nat}
theorem di_zip2 (hg:Gl X "zip") (hm:X.mg "zip"=none) (ha:PDA X Tb EV [a,b] ta)
  (hs:starEach [a,b] X.env=(false,eval a X.env) :: starEach [b] X.env:=by rfl) (hpl:(backTo pos (starEach [b] X.env)).any (·.1)=false:=by rfl) :
  PDI X Tb EV (.Tuple elts kk tpos) (.Call (.Name "zip" p) [a,b] [] pos) (iZip2 ta) :=
 pi_imp (pi_zipN2 hg hm ha hs hpl) fun σ H R h=>by
  obtain ⟨al,rho,M,E,Q,a,t,p⟩:=h
  refine seqA a t fun al1 ds M1 vs H1 s1 a1 r1 q1=>?_
  split at q1
  ·obtain ⟨xs,ys,e1,e2,q⟩:=q1
   obtain ⟨v,v',rfl,r,r'⟩:=r1.two
   obtain ⟨t1,us,rfl,h1,k1⟩:=asS_ok e1 r
   obtain ⟨t2,ws,rfl,h2,k2⟩:=asS_ok e2 r'
   exact ⟨[t1,t2],[us,ws],rfl,rfl,.cons h1.sq (.cons h2.sq .nil),p _ _ _ _ _ s1 a1.wf (it_zip2 h1 h2 k1 k2) q⟩
  ·exact q1.elim
theorem di_zip3 (hg:Gl X "zip") (hm:X.mg "zip"=none) (ha:PDA X Tb EV [a,b,c] ta)
  (hs:starEach [a,b,c] X.env=(false,eval a X.env) :: starEach [b,c] X.env:=by rfl) (hpl:(backTo pos (starEach [b,c] X.env)).any (·.1)=false:=by rfl) :
  PDI X Tb EV (.Tuple elts kk tpos) (.Call (.Name "zip" p) [a,b,c] [] pos) (iZip3 ta) :=
 pi_imp (pi_zipN3 hg hm ha hs hpl) fun σ H R h=>by
  obtain ⟨al,rho,M,E,Q,a,t,p⟩:=h
  refine seqA a t fun al1 ds M1 vs H1 s1 a1 r1 q1=>?_
  split at q1
  ·obtain ⟨xs,ys,zs,e1,e2,e3,q⟩:=q1
   obtain ⟨v,w0,rfl,r,rr⟩:=r1
   obtain ⟨v',v'',rfl,r',r''⟩:=Rps.two rr
   obtain ⟨t1,us,rfl,h1,k1⟩:=asS_ok e1 r
   obtain ⟨t2,ws,rfl,h2,k2⟩:=asS_ok e2 r'
   obtain ⟨t3,os,rfl,h3,k3⟩:=asS_ok e3 r''
   exact ⟨[t1,t2,t3],[us,ws,os],rfl,rfl,.cons h1.sq (.cons h2.sq (.cons h3.sq .nil)),p _ _ _ _ _ s1 a1.wf (it_zip3 h1 h2 h3 k1 k2 k3) q⟩
  ·exact q1.elim
theorem e_zip2 {E:XD} {rho:Rho} {M:Mem} {I:List D->Mem->Prop} (h:ta E rho M fun ds M1=>match ds with
 | [x,y]=>∃ xs ys,asS x=some xs/\asS y=some ys/\I (zip2D xs ys) M1
 | _=>False):iZip2 ta E rho M I:=h
theorem e_zip3 {E:XD} {rho:Rho} {M:Mem} {I:List D->Mem->Prop} (h:ta E rho M fun ds M1=>match ds with
 | [x,y,z]=>∃ xs ys zs,asS x=some xs/\asS y=some ys/\asS z=some zs/\I (zip3D xs ys zs) M1
 | _=>False):iZip3 ta E rho M I:=h
end
end DL
namespace DL
section
variable {p r:Rat} {pts:List Pt} {o:Rat}
theorem kept_mem {q:Pt} (h:q∈keptP p r pts):q∈pts:=by
 rw [keptP_eq] at h
 obtain ⟨i,hi,rfl⟩:=List.mem_map.mp h
 have hi':i < pts.length:=List.mem_range.mp (List.mem_filter.mp hi).1
 rw [rowAt_nat i hi']
 exact List.getElem_mem hi'
end
end DL
namespace DL
theorem Sub.isT_eq {S S':Int->Pt} {f:Int->Int} (s:Sub S S' f) (h:Trk S) (j:Int):isT S' j=isT S (f j):=by
 have h1:=s.sl h (j - 1) (f j - 1) (by have:=s.up (j - 1);rw [show j - 1+1=j from by omega] at this;omega) (by rw [show j - 1+1=j from by omega];omega)
 rw [show j - 1+1=j from by omega,show f j - 1+1=f j from by omega] at h1
 have h2:=s.sl h j (f j) (by omega) (s.up j)
 unfold isT isTrue3
 simp only []
 rw [h1,h2,s.eq j]
section
variable {p r:Rat} {row:List Pt}
theorem lrep_all {n k:Nat} (hn:row≠[]) (h0:0 < n) (hk:row.length=n * k) (h:lrepA p r row n) (j:Int):rowAt p r row (j+n)=(rowAt p r row j).mv 1 (p / (k:Rat)) (r / (k:Rat)):=by
 have hl:=List.length_pos_iff.mpr hn
 have hk0:0 < k:=by
  rcases Nat.eq_zero_or_pos k with e | e
  ·subst e;omega
  ·exact e
 have ek:row.length / n=k:=by rw [hk,Nat.mul_div_cancel_left _ h0]
 unfold lrepA at h
 rw [ek] at h
 have kr:(k:Rat)≠0:=by
  have:(0:Rat) < k:=by exact_mod_cast hk0
  grind
 have up:∀ (i m:Nat),i < n->m < k->rowAt p r row ((i+m * n:Nat):Int)=(rowAt p r row i).mv m (p / (k:Rat)) (r / (k:Rat)):=by
  intro i m hi
  induction m with
  | zero=>intro _;rw [Nat.zero_mul,Nat.add_zero];exact (Pt.mv_0 ..).symm
  | succ m ih =>
   intro hm
   have hlt:i+m * n+n < row.length:=by
    rw [hk,Nat.mul_comm n k]
    have:(m+1+1) * n<=k * n:=Nat.mul_le_mul_right n (by omega)
    rw [Nat.add_mul,Nat.add_mul] at this
    omega
   have:=h (i+m * n) hlt
   rw [show ((i+(m+1) * n:Nat):Int)=((i+m * n:Nat):Int)+n from by rw [Nat.add_mul];omega,this,ih (by omega),Pt.mv_mv,Rat.natCast_add]
   rfl
 obtain ⟨j',t,hj,rfl⟩:=rowAt_split hn j
 rw [show (j':Int)+t * row.length+n=(j':Int)+n+t * row.length from by omega,rowAt_add hn,rowAt_add hn]
 suffices hs:rowAt p r row ((j':Int)+n)=(rowAt p r row j').mv 1 (p / (k:Rat)) (r / (k:Rat)) by
  rw [hs]
  unfold Pt.mv
  simp only [Pt.mk.injEq]
  refine ⟨?_,?_,?_,?_⟩ <;> grind
 by_cases hlt:j'+n < row.length
 ·exact h j' hlt
 ·-- the last part: one period behind the first one
  have e1:j'=(j' - (k - 1) * n)+(k - 1) * n/\j' - (k - 1) * n < n:=by
   have:(k - 1) * n+n=row.length:=by
    rw [hk,Nat.mul_comm n k]
    conv=>rhs;rw [show k=k - 1+1 from by omega,Nat.add_mul,Nat.one_mul]
   omega
  generalize j' - (k - 1) * n=i at e1
  obtain ⟨e1,hi⟩:=e1
  have h1:=up i (k - 1) hi (by omega)
  rw [<- e1] at h1
  have h2:=rowAt_add (p:=p) (r:=r) hn i 1
  rw [show (i:Int)+1 * row.length=(j':Int)+n from by
   have:(k - 1) * n+n=row.length:=by
    rw [hk,Nat.mul_comm n k]
    conv=>rhs;rw [show k=k - 1+1 from by omega,Nat.add_mul,Nat.one_mul]
   omega] at h2
  rw [h2,h1,Pt.mv_mv]
  have ek1:((k - 1:Nat):Rat)+1=k:=by
   have:k=(k - 1)+1:=by omega
   conv=>rhs;rw [this,Rat.natCast_add]
   rfl
  rw [ek1]
  have z1:(k:Rat) * (p / k)=p:=by rw [Rat.mul_comm];exact Rat.div_mul_cancel kr
  have z2:(k:Rat) * (r / k)=r:=by rw [Rat.mul_comm];exact Rat.div_mul_cancel kr
  have o:(((1:Int)):Rat)=1:=rfl
  unfold Pt.mv
  simp only [Pt.mk.injEq,z1,z2,o,Rat.one_mul]
theorem rep_of {n k:Nat} (hn:row≠[]) (h0:0 < n) (hk:row.length=n * k) (h:∀ j:Int,rowAt p r row (j+n)=(rowAt p r row j).mv 1 (p / (k:Rat)) (r / (k:Rat))):repB p r row n=true:=by
 have hl:=List.length_pos_iff.mpr hn
 have hk0:0 < k:=by
  rcases Nat.eq_zero_or_pos k with e | e
  ·subst e;omega
  ·exact e
 have hle:n<=row.length:=by rw [hk];exact Nat.le_mul_of_pos_right n hk0
 have ek:row.length / n=k:=by rw [hk,Nat.mul_div_cancel_left _ h0]
 unfold repB
 rw [ek,List.all_eq_true]
 intro x hx
 obtain ⟨j,hj⟩:=List.mem_iff_getElem?.mp hx
 obtain ⟨h1,h2⟩:=List.getElem?_zip_eq_some.mp hj
 have hjl:j < row.length:=(List.getElem?_eq_some_iff.mp h1).1
 rw [laterP_get hn h0 hle j hjl,h j,rowAt_nat j hjl] at h2
 rw [List.getElem?_eq_getElem hjl] at h1
 simp only [Option.some.injEq] at h1 h2
 rw [<- h1,<- h2]
 exact decide_eq_true rfl
end
theorem norm_nf {p r:Rat} {pts:List Pt} {o:Rat} (ok:okPts p r pts):(norm p r pts o).Nf:=by
 unfold norm
 split
 ·exact ⟨fun z=>absurd rfl z,fun n _ h=>absurd h (by show ¬ n < 0;omega)⟩
 ·rename_i h
  have hn:pts≠[]:=fun z=>h (by rw [z];rfl)
  have hI:trueI p r pts≠[]:=fun z=>h (by rw [keptP_eq,z];rfl)
  have s:=sub_true hn hI
  rw [<- keptP_eq] at s
  have kok:=kept_ok ok h
  obtain ⟨n,n0,h1,h2,k0⟩:=eqParts_spec (p:=p) (r:=r) (row:=keptP p r pts)
  obtain ⟨h3,h4⟩:=h1 h
  have least:∀ m,0 < m->m < n->(keptP p r pts).length % m=0->repB p r (keptP p r pts) m=true->False:=fun m m0 mn md hr=>by
   have hg:goodN p r (keptP p r pts) (m - 1)=true:=by
    unfold goodN
    rw [show 1+(m - 1)=m from by omega,decide_eq_true md,hr];rfl
   have hle:n<=(keptP p r pts).length:=by rw [h3];exact Nat.le_mul_of_pos_right n k0
   unfold eqParts at h3
   cases hf:(List.range ((keptP p r pts).length - 1)).find? (goodN p r (keptP p r pts)) with
   | none =>
    have:=List.find?_eq_none.mp hf (m - 1) (List.mem_range.mpr (by omega))
    rw [hg] at this
    exact this rfl
   | some i =>
    rw [hf] at h3
    have hi1:=List.mem_range.mp (List.mem_of_find?_eq_some hf)
    have hi:i<=m - 1:=by
     obtain ⟨hgi,as,bs,e1,e2⟩:=List.find?_eq_some_iff_append.mp hf
     by_cases z:i<=m - 1
     ·exact z
     ·exfalso
      have hm:m - 1∈as ++ i :: bs:=by rw [<- e1];exact List.mem_range.mpr (by omega)
      rcases List.mem_append.mp hm with hm | hm
      ·have:=e2 _ hm
       rw [hg] at this
       exact absurd this (by decide)
      ·have pw:(as ++ i :: bs).Pairwise (· < ·):=by rw [<- e1];exact List.pairwise_lt_range
       rw [List.pairwise_append] at pw
       rcases List.mem_cons.mp hm with hm | hm
       ·omega
       ·have:=(List.pairwise_cons.mp pw.2.1).1 _ hm
        omega
    have h5:(1+i) ∣ (keptP p r pts).length:=by
     have hgi:=List.find?_some hf
     unfold goodN at hgi
     simp only [Bool.and_eq_true,decide_eq_true_eq] at hgi
     exact Nat.dvd_of_mod_eq_zero hgi.1
    obtain ⟨q,hq⟩:=h5
    have h6:(keptP p r pts).length / (1+i)=q:=by rw [hq,Nat.mul_div_cancel_left _ (by omega)]
    simp only [] at h3
    rw [h6] at h3
    have hl:=List.length_pos_iff.mpr h
    have q0:0 < q:=by
     rcases Nat.eq_zero_or_pos q with e | e
     ·subst e;omega
     ·exact e
    have:n=1+i:=Nat.eq_of_mul_eq_mul_right q0 (by rw [<- h3];exact hq)
    omega
  rw [h2 h]
  generalize hkk:eqParts p r (keptP p r pts)=k at *
  have e:rowAt (p / k) (r / k) ((keptP p r pts).take n)=rowAt p r (keptP p r pts):=funext (part_eq h n0 h3 h4)
  have tl:((keptP p r pts).take n).length=n:=by
   rw [List.length_take]
   have:n<=(keptP p r pts).length:=by rw [h3];exact Nat.le_mul_of_pos_right n k0
   omega
  have tne:(keptP p r pts).take n≠[]:=fun z=>by rw [z] at tl;simp at tl;omega
  refine ⟨fun _ j=>?_,fun m m0 mn md hr=>?_⟩
  ·show isT (rowAt (p / k) (r / k) ((keptP p r pts).take n)) j=true
   rw [e,s.isT_eq (ok.trk hn)]
   have hm:=List.length_pos_iff.mpr hI
   obtain ⟨i,t,hi,rfl⟩:=isplit hm j
   rw [subF_at i t hi,isT_per hn]
   exact (List.mem_filter.mp (List.getElem_mem hi)).2
  ·have mn:m < ((keptP p r pts).take n).length:=mn
   have md:((keptP p r pts).take n).length % m=0:=md
   rw [tl] at mn md
   obtain ⟨q,hq⟩:=Nat.dvd_of_mod_eq_zero md
   have hr:lrepA (p / k) (r / k) ((keptP p r pts).take n) m:=hr
   have ha:=lrep_all tne m0 (by rw [tl];exact hq) hr
   rw [e] at ha
   have hkl:(keptP p r pts).length=m * (q * k):=by rw [h3,hq,Nat.mul_assoc]
   refine least m m0 mn (by rw [hkl];exact Nat.mul_mod_right ..) (rep_of h m0 hkl fun j=>?_)
   rw [ha j]
   have d1:∀ x:Rat,x / k / q=x / ((q * k:Nat):Rat):=fun x=>by
    rw [Rat.natCast_mul,Rat.div_def,Rat.div_def,Rat.div_def,Rat.inv_mul_rev,Rat.mul_assoc]
   rw [d1,d1]
end DL
namespace DL
open PySem PySem.Spec PyProof.Rows L2 Mt
theorem e_slt {xs ys:List D} {lo hi:Option Int} {M:Mem} {Q:VD} (e:cutL xs lo hi=ys) (h:Q (.tup ys) M):rSl_ (.tup xs) lo hi M Q:=by subst e;exact h
theorem e_sll {xs ys:List D} {lo hi:Option Int} {M:Mem} {Q:VD} (e:cutL xs lo hi=ys) (h:Q (.lst ys) M):rSl_ (.lst xs) lo hi M Q:=by subst e;exact h
theorem e_addt {xs ys:List D} {M:Mem} {Q:VD} (h0:xs.length+ys.length<=sizeLine) (h:Q (.tup (xs ++ ys)) M):rAdd_ (.tup xs) (.tup ys) M Q:=⟨h0,h⟩
theorem for_list {α:Type} {g:TGD} {tb:TSD} {E:XD} {DD:DEnds} {rho:Rho} {M:Mem} (e:α->D) (cs:List α) (Pv:List α->Rho->Mem->Prop) (h0:Pv cs rho M)
  (hs:∀ c r rho M (N:Rho->Mem->Prop),Pv (c :: r) rho M->(∀ rho' M',Pv r rho' M'->N rho' M')->g (e c) E rho M fun rho' M'=>tb E { DD with nx:=N,ct:=N,bk:=DD.nx } rho' M')
  (hd:∀ rho M,Pv [] rho M->DD.nx rho M):forU g tb (cs.map e) E DD rho M:=by
 refine for_inv (fun ds rho M=>∃ r:List α,ds=r.map e/\Pv r rho M) ?_ ?_ _ _ _ ⟨cs,rfl,h0⟩
 ·rintro d r rho M N ⟨l,h,p⟩ hN
  cases l with
  | nil=>cases h
  | cons c l =>
   cases h
   exact hs c l rho M N p fun rho' M' h'=>hN rho' M' ⟨l,rfl,h'⟩
 ·rintro rho M ⟨l,h,p⟩
  cases l with
  | nil=>exact hd rho M p
  | cons c l=>cases h
theorem zip2_map {α:Type} (e:α->D) (xs ys:List α):zip2D (xs.map e) (ys.map e)=(xs.zip ys).map fun x=>.tup [e x.1,e x.2]:=by
 unfold zip2D
 rw [List.zipWith_map,List.zip,List.map_zipWith]
theorem cut_from {α:Type} {xs:List α} (n:Nat):cutL xs (some (n:Int)) none=xs.drop n:=by
 unfold cutL
 rw [HT.sIx_nat,HT.sIx_none]
 rcases Nat.le_total n xs.length with h | h
 ·rw [Nat.min_eq_left h,List.take_of_length_le (by simp)]
 ·rw [Nat.min_eq_right h,List.drop_of_length_le (Nat.le_refl _),List.drop_of_length_le h,List.take_nil]
theorem cut_to {α:Type} {xs:List α} (n:Nat):cutL xs none (some (n:Int))=xs.take n:=by
 unfold cutL
 rw [HT.sIx_nat,HT.sIx_none,List.drop_zero,Nat.sub_zero,List.take_eq_take_iff]
 omega
theorem cut_tl {α:Type} {x:α} {xs:List α}:cutL (x :: xs) (some 1) none=xs:=cut_from 1
theorem asS_seq {P:D} {xs:List D} {M:Mem} (h:asS P=some xs):seqD M P=some xs:=by
 cases P <;> first | cases h;done | exact h
theorem e_forS {P:D} {xs:List D} {g:TGD} {tb:TSD} {E:XD} {DD:DEnds} {rho:Rho} {M:Mem} (h:asS P=some xs) (q:forU g tb xs E DD rho M):(match (generalizing:=false) P with
 | .lst xs=>forU g tb xs E DD rho M
 | .rol xs=>forU g tb xs E DD rho M
 | .tup xs=>forU g tb xs E DD rho M
 | .str z=>forU g tb (signsD z) E DD rho M
 | _=>False):=by
 cases P <;> first | (cases h;done) | (cases h;exact q)
theorem e_slS {P:D} {xs:List D} {lo hi:Option Int} {M:Mem} {Q:VD} (h:asS P=some xs) (q:∀ y,asS y=some (cutL xs lo hi)->Q y M):rSl_ P lo hi M Q:=by
 cases P <;> first | (cases h;done) | skip
 ·cases h;exact q _ rfl
 ·cases h;exact q _ rfl
 ·cases h;exact q _ rfl
theorem e_listS {P:D} {xs:List D} {M:Mem} {Q:VD} (h:asS P=some xs) (q:Q (.lst xs) M):rList_ [P] M Q:=by
 cases P <;> first | (cases h;done) | skip
 ·cases h;exact q
 ·cases h;exact q
 ·cases h;exact q
theorem e_htpt {E:XD} {rho:Rho} {M:Mem} {N:Rho->Mem->Prop} {t:TGsD} {q:Pt} (h:t [qD q.a,qD q.l,qD q.v,qD q.r] E rho M N):hTup 4 t (ptD q) E rho M N:=⟨rfl,h⟩
theorem e_ixpt {M:Mem} {Q:VD} {q:Pt} {k:Int} {d:D} (e:L2.atI [qD q.a,qD q.l,qD q.v,qD q.r] k=some d) (h:Q d M):rIx_ (ptD q) (.int k) M Q:=e_ix rfl e h
theorem at_0 {α:Type} {x:α} {xs:List α}:L2.atI (x :: xs) 0=some x:=at_nat (xs:=x :: xs) (j:=0) (by simp)
theorem lc_filt {α:Type} {g:TGD} {tt:TTD} {te:TED} {vs:List Nat} {rho:Rho} {Q:VD} {M:Mem} (e f:α->D) (cd:α->Bool) (cs:List α) (hl:cs.length<=sizeLine)
  (h:∀ c∈cs,∀ (Y:VD) (W:Mem->Prop),(cd c=true->Y (f c) M)->(cd c=false->W M)->g (e c) noE (wipeD rho vs) M fun rho' M1=>tt noE rho' M1 fun b M2=>if b=true then te noE rho' M2 Y else W M2)
  (hq:Q (.lst ((cs.filter cd).map f)) M):lcU g tt te vs (cs.map e) [] rho M Q:=by
 refine lc_inv (fun ds acc M'=>M'=M/\∃ a r:List α,cs=a ++ r/\ds=r.map e/\acc=(a.filter cd).map f) ?_ ?_ _ _ _ ⟨rfl,[],cs,rfl,rfl,rfl⟩
 ·rintro d ds acc M' N ⟨rfl,a,r,hc,hd,rfl⟩ hN
  cases r with
  | nil=>cases hd
  | cons c r =>
   cases hd
   refine h c (by rw [hc];simp) _ _ (fun z=>⟨?_,hN _ _ ⟨rfl,a ++ [c],r,by rw [hc];simp,rfl,?_⟩⟩) (fun z=>hN _ _ ⟨rfl,a ++ [c],r,by rw [hc];simp,rfl,?_⟩)
   ·have h1:(a.filter cd).length<=a.length:=List.length_filter_le ..
    have h2:=congrArg List.length hc
    simp only [List.length_append,List.length_cons] at h2
    rw [List.length_map];omega
   ·simp [List.filter_append,z]
   ·simp [List.filter_append,z]
 ·rintro acc M' ⟨rfl,a,r,hc,hd,rfl⟩
  cases r with
  | nil=>rw [List.append_nil] at hc;subst hc;exact hq
  | cons c r=>cases hd
theorem zip3_map {α:Type} (e:α->D) (xs ys zs:List α):zip3D (xs.map e) (ys.map e) (zs.map e)=(xs.zip (ys.zip zs)).map fun x=>.tup [e x.1,e x.2.1,e x.2.2]:=by
 unfold zip3D
 rw [List.zip_map,List.zipWith_map]
 generalize ys.zip zs=ws
 rw [List.zip,List.map_zipWith]
 rfl
theorem at_last {α:Type} {xs:List α} (h:xs≠[]):L2.atI xs (-1)=some (xs.getLast h):=by
 have hl:0 < xs.length:=List.length_pos_iff.mpr h
 unfold L2.atI L2.ixN
 rw [if_neg (by omega),if_pos (by omega)]
 show xs[((-1:Int)+xs.length).toNat]?=_
 rw [show ((-1:Int)+xs.length).toNat=xs.length - 1 from by omega,List.getLast_eq_getElem,List.getElem?_eq_getElem]
theorem mem_zip3 {α:Type} {xs ys zs:List α} {t:α×α×α} (h:t∈xs.zip (ys.zip zs)):(t.1,t.2.1)∈xs.zip ys/\t.2∈ys.zip zs:=by
 refine ⟨?_,(List.of_mem_zip (show (t.1,t.2)∈_ from h)).2⟩
 obtain ⟨i,hi⟩:=List.mem_iff_getElem?.mp h
 obtain ⟨h1,h2⟩:=List.getElem?_zip_eq_some.mp hi
 obtain ⟨h3,h4⟩:=List.getElem?_zip_eq_some.mp h2
 exact List.mem_iff_getElem?.mpr ⟨i,List.getElem?_zip_eq_some.mpr ⟨h1,h3⟩⟩
theorem ring_lt {p r:Rat} {q:Pt} {qs:List Pt} (ok:okPts p r (q :: qs)) {t:Pt×Pt×Pt} (h:t∈(ringP p r q qs).zip (((ringP p r q qs).drop 1).zip ((ringP p r q qs).drop 2))):t.1.a < t.2.1.a/\t.2.1.a < t.2.2.a:=by
 have e1:(ringP p r q qs).drop 1=(q :: qs) ++ [q.mv 1 p r]:=rfl
 have e2:(ringP p r q qs).drop 2=qs ++ [q.mv 1 p r]:=rfl
 obtain ⟨h1,h2⟩:=mem_zip3 h
 have up:∀ x∈((q :: qs) ++ [q.mv 1 p r]).zip (qs ++ [q.mv 1 p r]),x.1.a < x.2.a:=fun x hx=>by
  have e3:((q :: qs) ++ [q.mv 1 p r]).zip (qs ++ [q.mv 1 p r])=(q :: qs).zip (nextPts p r (q :: qs)):=by
   show _=(q :: qs).zip (qs ++ [q.mv 1 p r])
   have hl:(q :: qs).length=(qs ++ [q.mv 1 p r]).length:=by simp
   conv=>lhs;rw [<- List.append_nil (qs ++ [q.mv 1 p r])]
   rw [List.zip_append hl]
   simp
  rw [e3] at hx
  exact (ok.pr x hx).lt
 rw [e1,e2] at h2
 refine ⟨?_,up _ h2⟩
 rw [e1] at h1
 have e4:(ringP p r q qs).zip ((q :: qs) ++ [q.mv 1 p r])=(((q :: qs).getLast (by simp)).mv (-1) p r,q) :: ((q :: qs) ++ [q.mv 1 p r]).zip (qs ++ [q.mv 1 p r]):=rfl
 rw [e4] at h1
 rcases List.mem_cons.mp h1 with h1 | h1
 ·have a1:t.1=((q :: qs).getLast (by simp)).mv (-1) p r:=congrArg Prod.fst h1
  have a2:t.2.1=q:=congrArg Prod.snd h1
  rw [a1,a2]
  have b1:=(ok.pt _ (List.getLast_mem (by simp:q :: qs≠[]))).hi
  have b2:=(ok.pt q (List.mem_cons_self ..)).lo
  show ((q :: qs).getLast (by simp)).a+(-1) * p < q.a
  generalize ((q :: qs).getLast (by simp)).a=z at b1
  grind
 ·exact up _ h1
theorem ring_sz {p r:Rat} {q:Pt} {l:List Pt} {B:Nat} (hs:∀ x∈q :: l,x.sz B) (hp:qs p<=B) (hr:qs r<=B):∀ x∈ringP p r q l,x.sz (2 * B+4):=by
 intro x hx
 rcases List.mem_append.mp hx with hx | hx
 ·rcases List.mem_cons.mp hx with rfl | hx
  ·exact Pt.sz.mv (t:=-1) (n:=1) (hs _ (List.getLast_mem _)) (by decide) hp hr (by omega)
  ·exact (hs x hx).mono (by omega)
 ·have:x=q.mv 1 p r:=by simpa using hx
  subst this
  exact Pt.sz.mv (t:=1) (n:=1) (hs q (List.mem_cons_self ..)) (by decide) hp hr (by omega)
theorem hbs_map {α:Type} {n:Nat} {e:α->D} (h:∀ a,(e a).hb n=true):∀ l:List α,D.hbs n (l.map e)=true
 | []=>rfl
 | a :: l=>by
  show ((e a).hb n && D.hbs n (l.map e))=true
  rw [h a,hbs_map h l];rfl
theorem hb_pts {n:Nat} {l:List Pt}:(D.lst (l.map ptD)).hb n=true:=hbs_map (fun _=>rfl) l
theorem pyEq_pt (x y:Pt):pyEq (ptD x) (ptD y)=decide (x=y):=by
 unfold ptD
 rw [pyEq_tup rfl rfl,pyEqs_cons rfl rfl rfl rfl,pyEqs_cons rfl rfl rfl rfl,pyEqs_cons rfl rfl rfl rfl,pyEqs_cons rfl rfl rfl rfl,pyEq_qD,pyEq_qD,pyEq_qD,pyEq_qD,show pyEqs [] []=true from rfl]
 obtain ⟨a,b,c,d⟩:=x
 obtain ⟨a',b',c',d'⟩:=y
 rw [Bool.eq_iff_iff]
 simp
theorem e_eqpt {x y:Pt} {M:Mem} {Q:VD} (h:Q (.bl (decide (x=y))) M):rEq_ (ptD x) (ptD y) M Q:=by
 refine e_eqP rfl rfl (Nat.le_of_ble_eq_true rfl) (Nat.le_of_ble_eq_true rfl) ?_
 rw [pyEq_pt];exact h
theorem find_at {α:Type} {f:α->Bool} {a b:List α} {x:α} (h:∀ y∈a,f y=false) (hx:f x=true):(a ++ x :: b).find? f=some x:=by
 rw [List.find?_append,List.find?_eq_none.mpr (fun y hy=>by rw [h y hy];decide)]
 simp [hx]
theorem find_no {α:Type} {f:α->Bool} {a:List α} (h:∀ y∈a,f y=false):a.find? f=none:=List.find?_eq_none.mpr (fun y hy=>by rw [h y hy];decide)
theorem fdiv_floor (a:Rat):a.num.fdiv a.den=a.floor:=by
 rw [Int.fdiv_eq_ediv_of_nonneg _ (Int.natCast_nonneg _),Rat.floor_def]
abbrev cvN:List Str:=["period","rise","row","slope","base","form","offset"]
def formD (c:Crv):D:=.tup [qD c.p,qD c.r,.tup (c.row.map ptD),qD (if c.row=[] then c.b else 0)]
noncomputable def crvD (K:PySem.W.Frag) (c:Crv):D:=.obj (He.ga K "Curve") cvN [qD c.p,qD c.r,.tup (c.row.map ptD),qD c.s,qD c.b,formD c,qD (c.arn 0).v]
theorem crvX {K:PySem.W.Frag} {M:Mem} {c:Crv}:CrvX K M (crvD K c) c (cvN.zip [qD c.p,qD c.r,.tup (c.row.map ptD),qD c.s,qD c.b,formD c,qD (c.arn 0).v]):=⟨rfl,rfl,rfl,rfl,rfl,rfl,rfl,rfl,rfl,rfl,rfl⟩
theorem pzs_map {α:Type} {e:α->D} (h:∀ a,pz (e a)=true):∀ l:List α,pzs (l.map e)=true
 | []=>rfl
 | a :: l=>by show (pz (e a) && pzs (l.map e))=true;rw [h,pzs_map h l];rfl
theorem dps_map {α:Type} {e:α->D} {n:Nat} (h:∀ a,dp (e a)<=n):∀ l:List α,dps (l.map e)<=n
 | []=>Nat.zero_le _
 | a :: l=>by
  show max (dp (e a)) (dps (l.map e))<=n
  have:=h a
  have:=dps_map h l
  omega
theorem pyEqs_nil_cons {y:D} {ys:List D} (h1:pz y=true) (h2:pzs ys=true):pyEqs [] (y :: ys)=false/\pyEqs (y :: ys) []=false:=by
 obtain ⟨q,e2,_,_⟩:=pz_ok h1
 obtain ⟨qs,e4,_,_⟩:=pzs_ok h2
 have f2:toPys (y :: ys)=some (q :: qs):=by unfold toPys;rw [e2,e4]
 unfold pyEqs
 rw [f2]
 exact ⟨rfl,rfl⟩
theorem pyEqs_map {α:Type} [DecidableEq α] {e:α->D} (hz:∀ a,pz (e a)=true) (he:∀ a b,pyEq (e a) (e b)=decide (a=b)):∀ l l':List α,pyEqs (l.map e) (l'.map e)=decide (l=l')
 | [],[]=>rfl
 | [],b :: l'=>by
  show pyEqs [] (e b :: l'.map e)=_
  rw [(pyEqs_nil_cons (hz b) (pzs_map hz l')).1];rfl
 | a :: l,[]=>by
  show pyEqs (e a :: l.map e) []=_
  rw [(pyEqs_nil_cons (hz a) (pzs_map hz l)).2];rfl
 | a :: l,b :: l'=>by
  show pyEqs (e a :: l.map e) (e b :: l'.map e)=_
  rw [pyEqs_cons (hz a) (hz b) (pzs_map hz l) (pzs_map hz l'),he,pyEqs_map hz he l l',Bool.eq_iff_iff]
  simp
theorem pz_pt (q:Pt):pz (ptD q)=true:=rfl
theorem dp_pt (q:Pt):dp (ptD q)=2:=rfl
theorem pz_row (l:List Pt):pz (.tup (l.map ptD))=true:=pzs_map pz_pt l
theorem dp_row (l:List Pt):dp (.tup (l.map ptD))<=3:=Nat.succ_le_succ (dps_map (fun q=>Nat.le_of_eq (dp_pt q)) l)
theorem pz_rowL (l:List Pt):pz (.lst (l.map ptD))=true:=pzs_map pz_pt l
theorem dp_rowL (l:List Pt):dp (.lst (l.map ptD))<=3:=Nat.succ_le_succ (dps_map (fun q=>Nat.le_of_eq (dp_pt q)) l)
theorem pyEq_row (l l':List Pt):pyEq (.tup (l.map ptD)) (.tup (l'.map ptD))=decide (l=l'):=by
 rw [pyEq_tup (pzs_map pz_pt l) (pzs_map pz_pt l'),pyEqs_map pz_pt pyEq_pt]
theorem pyEq_rowL (l l':List Pt):pyEq (.lst (l.map ptD)) (.lst (l'.map ptD))=decide (l=l'):=by
 rw [pyEq_lst (pzs_map pz_pt l) (pzs_map pz_pt l'),pyEqs_map pz_pt pyEq_pt]
theorem e_eqr0 {l:List Pt} {M:Mem} {Q:VD} (h:Q (.bl (decide (l=[]))) M):rEq_ (.tup (l.map ptD)) (.tup []) M Q:=by
 refine e_eqP (pz_row l) rfl (Nat.le_trans (dp_row l) (by decide)) (Nat.le_of_ble_eq_true rfl) ?_
 rw [show pyEq (.tup (l.map ptD)) (.tup [])=decide (l=[]) from pyEq_row l []]
 exact h
theorem e_eqL0 {l:List Pt} {M:Mem} {Q:VD} (h:Q (.bl (decide (l=[]))) M):rEq_ (.lst (l.map ptD)) (.lst []) M Q:=by
 refine e_eqP (pz_rowL l) rfl (Nat.le_trans (dp_rowL l) (by decide)) (Nat.le_of_ble_eq_true rfl) ?_
 rw [show pyEq (.lst (l.map ptD)) (.lst [])=decide (l=[]) from pyEq_rowL l []]
 exact h
theorem e_neL0 {l:List Pt} {M:Mem} {Q:VD} (h:Q (.bl (!decide (l=[]))) M):rNe_ (.lst (l.map ptD)) (.lst []) M Q:=by
 refine e_neP (pz_rowL l) rfl (Nat.le_trans (dp_rowL l) (by decide)) (Nat.le_of_ble_eq_true rfl) ?_
 rw [show pyEq (.lst (l.map ptD)) (.lst [])=decide (l=[]) from pyEq_rowL l []]
 exact h
theorem hb_row {n:Nat} {l:List Pt}:(D.tup (l.map ptD)).hb n=true:=hbs_map (fun _=>rfl) l
theorem hb_form {n:Nat} {c:Crv}:(formD c).hb n=true:=by
 show ((qD c.p).hb n && ((qD c.r).hb n && ((D.tup (c.row.map ptD)).hb n && ((qD (if c.row=[] then c.b else 0)).hb n && true))))=true
 rw [hb_row];rfl
theorem hbs_crv {n:Nat} {c:Crv}:D.hbs n [qD c.p,qD c.r,.tup (c.row.map ptD),qD c.s,qD c.b,formD c,qD (c.arn 0).v]=true:=by
 show ((qD c.p).hb n && ((qD c.r).hb n && ((D.tup (c.row.map ptD)).hb n && ((qD c.s).hb n && ((qD c.b).hb n && ((formD c).hb n && ((qD (c.arn 0).v).hb n && true)))))))=true
 rw [hb_row,hb_form];rfl
theorem hb_crv {K:PySem.W.Frag} {n:Nat} {c:Crv}:(crvD K c).hb n=true:=hbs_crv
noncomputable abbrev cvX (c:Crv):List D:=[qD c.p,qD c.r,.tup (c.row.map ptD),qD c.s,qD c.b,formD c,qD (c.arn 0).v]
section
variable {K:PySem.W.Frag} {M:Mem} {Q:VD} {c:Crv} {f m:Str} {d:D} {P:Prop} {k:Int} {a:Arn} {E:XD} {rho:Rho} {N:Rho->Mem->Prop} {t:TGsD}
theorem e_fldC (e:(cvN.zip (cvX c)).lookup f=some d) (h:Q d M):fldD (He.ga K "Curve") f (crvD K c) M Q:=e_fldo e h
theorem e_isiK (e:(cvN.zip (cvX c)).lookup m=none) (h:P):isI (He.ga K "Curve") m M (crvD K c)/\P:=e_isi e h
theorem e_conC (e:(cvN.zip (cvX c)).lookup f=none) (h:Q d M):conD (He.ga K "Curve") f d (crvD K c) M Q:=e_cono e h
def arnD (a:Arn):D:=.tup [qD a.l,qD a.v,qD a.r,qD a.sb,qD a.sa]
theorem e_ixar (e:L2.atI [qD a.l,qD a.v,qD a.r,qD a.sb,qD a.sa] k=some d) (h:Q d M):rIx_ (arnD a) (.int k) M Q:=e_ix rfl e h
theorem e_htar (h:t [qD a.l,qD a.v,qD a.r,qD a.sb,qD a.sa] E rho M N):hTup 5 t (arnD a) E rho M N:=⟨rfl,h⟩
end
theorem mem_at {M:Mem} {o:Option MO}:(M ++ [o])[M.length]?=some o:=List.getElem?_concat_length ..
theorem mem_put {M:Mem} {o o':Option MO}:(M ++ [o]).set M.length o'=M ++ [o']:=by simp
end DL
namespace PySem.AutoSeq1
theorem list_extend_tupG (l:Addr) (items:Array Value) (n:Nat) (b:Addr) (o:Obj) (items2:Array Value) (n2:Nat) (hc:o.cls = .type "tuple") (hd:o.data = .seq items2 n2) (hs0:¬(!items.isEmpty && Builtin.List.listTooLong (items.size+items2.size))=true) (hs1:items.size<=sizeLine) (hs2:items.size+items2.size<=sizeLine+1) :
  Meets (Builtin.«list.extend» ⟨[.ref l,.ref b],[]⟩) (fun _ R s=>s.heap.get? l=some { cls:=.type "list",dict:=none,data:=.seq items n,slots:=#[] }/\s.heap.get? b=some o/\R (.ok (.ret Value.none)) { s with heap:=s.heap.update l (Obj.mapSeq fun x=>x ++ items2),toks:=s.toks }) :=
 .of_wp fun prog w A R s h=>by
  obtain ⟨cls,dict,data,slots⟩:=o
  simp only at hc hd
  subst hc hd
  obtain ⟨hp,g,d,tk,os⟩:=s;obtain ⟨hl,hb,h⟩:=h;have f1:=idx_int;have f2:=sub_tuple_tuple;have f3:=sub_list_list;have f4:=sub_tuple_list;have f5:=sub_list_tuple;
  have hz':(items ++ items2).size<=sizeLine+1:=by rw [Array.size_append];exact hs2
  wp_walk using (wpAny_updateSeq hl rfl (hz:=hs1) (_hz':=hz')),wpAny_loadPart' hl,wpAny_loadPart' hb;exact ⟨_,rfl,h⟩
end PySem.AutoSeq1
namespace DL
open PySem PySem.Spec PyProof.Rows L2 Mt
section
variable {X:Cx} {Tb:List (Addr×Str)}
def rExtendT:V->List V->Hp->VK->Prop:=fun x vs H Q=>∃ l b xs zs,x = .ref l/\vs=[.ref b]/\H l=some (.lst xs)/\SqT X.K H b zs/\xs.length+zs.length<=sizeLine/\Q .non (upd H l (.lst (xs ++ zs)))
theorem mt_extendT:MtM X "list.extend" (rExtendT (X:=X)):=by
 intro pins s σ H x vs v us Q I rx rv h
 obtain ⟨l,b,xs,zs,rfl,rfl,hH,hB,hz,q⟩:=h
 cases rx
 obtain ⟨u,rfl,ru⟩:=rv.one
 cases ru
 obtain ⟨z,its,n,r,hl,e⟩:=I.lstM hH
 obtain ⟨its2,r2,pl,hz2⟩:=I.tuple hB
 have hl2:=r2.length
 obtain ⟨o,ho,hc,n2,hd⟩:=pl
 have hsz:its.toArray.size+its2.toArray.size<=sizeLine:=by rw [List.size_toArray,List.size_toArray];omega
 have hlong:¬ (!its.toArray.isEmpty && Builtin.List.listTooLong (its.toArray.size+its2.toArray.size))=true:=by
  rw [notLongL hsz,Bool.and_false]
  exact Bool.false_ne_true
 refine call_meets F.slot_list_extend ⟨_,e,rfl⟩ F.entry_list_extend (F.args_list_extend_2 _ _)
  (AutoSeq1.list_extend_tupG l its.toArray n b o its2.toArray n2 hc hd hlong (by rw [List.size_toArray];omega) (by omega)) ⟨e,ho,?_⟩
 refine ⟨.non,_,I.lset (its':=its ++ its2) hH e (by simp) (r.append r2) ?_,rfl,q⟩
 rw [List.length_append]
 omega
def rExtend2:V->List V->Hp->VK->Prop:=fun x vs H Q=>rExtend x vs H Q\/rExtendT (X:=X) x vs H Q
theorem mt_extend2:MtM X "list.extend" (rExtend2 (X:=X)):=by
 intro pins s σ H x vs v us Q I rx rv h
 rcases h with h | h
 ·exact mt_extend pins s σ H x vs v us Q I rx rv h
 ·exact mt_extendT pins s σ H x vs v us Q I rx rv h
def asE (M:Mem):D->Option (List D)
 | .tup xs=>some xs
 | .lst xs=>some xs
 | .mt i=>memL M i
 | _=>none
def rExtD:RDM:=fun x ds M Q=>match x,ds with
 | .mt i,[y]=>(match memL M i,asE M y with
  | some xs,some ys=>xs.length+ys.length<=sizeLine/\Q .non (M.set i (some (.lst (xs ++ ys))))
  | _,_=>False)
 | _,_=>False
theorem ref_extD:RefM X.K Tb (rExtend2 (X:=X)) rExtD:=by
 intro al M H x xs d ds Q QV w rx rs h p
 unfold rExtD at h
 split at h
 ·rename_i i y
  obtain ⟨v,rfl,rv⟩:=rs.one
  split at h
  ·rename_i zs ys e1 e2
   obtain ⟨b,us,rfl,hb,hm,hH,ru⟩:=memL_ok w e1 rx
   by_cases ht:∃ ts,y = .tup ts
   ·obtain ⟨ts,rfl⟩:=ht
    cases e2
    obtain ⟨c,ws,rfl,hc,rw'⟩:=rv
    obtain ⟨g1,g2⟩:=set_lst w hb hm hH (ru.append rw')
    exact .inr ⟨b,c,us,ws,rfl,rfl,hH,hc.sq,by rw [<- ru.length,<- rw'.length];exact h.1,p _ .non _ _ _ g1 g2 rfl h.2⟩
   ·have e3:asL M y=some ys:=by
     cases y <;> first | exact e2 | (cases e2;done) | skip
     exact absurd ⟨_,rfl⟩ ht
    obtain ⟨c,ws,rfl,hc,rw'⟩:=asL_ok w e3 rv
    obtain ⟨g1,g2⟩:=set_lst w hb hm hH (ru.append rw')
    exact .inl ⟨b,c,us,ws,rfl,rfl,hH,hc,by rw [<- ru.length,<- rw'.length];exact h.1,p _ .non _ _ _ g1 g2 rfl h.2⟩
  ·exact h.elim
 ·exact h.elim
end
theorem e_ext {i:Nat} {xs ys:List D} {y:D} {M:Mem} {Q:VD} (e:M[i]?=some (some (.lst xs))) (h2:asE M y=some ys) (hl:xs.length+ys.length<=sizeLine) (h:Q .non (M.set i (some (.lst (xs ++ ys))))):rExtD (.mt i) [y] M Q:=by
 unfold rExtD
 simp only [memL,e,h2]
 exact ⟨hl,h⟩
theorem take_lst {α:Type} {f:α->D} {xs:List α} {n:Nat} {M:Mem} {Q:VD} (h:Q (.lst ((xs.take n).map f)) M):rSl_ (.lst (xs.map f)) none (some (n:Int)) M Q:=by
 refine e_sll (ys:=(xs.take n).map f) ?_ h
 rw [List.map_take]
 exact cut_to n
theorem norm_str {p r o:Rat} {pts:List Pt} (h:keptP p r pts=[]):norm p r pts o=⟨1,r / p,[],r / p,baseP p r o pts⟩:=by
 unfold norm;rw [if_pos h]
theorem norm_not {p r o:Rat} {pts:List Pt} (h:keptP p r pts≠[]):norm p r pts o=⟨p / (eqParts p r (keptP p r pts):Nat),r / (eqParts p r (keptP p r pts):Nat),(keptP p r pts).take ((keptP p r pts).length / eqParts p r (keptP p r pts)),r / p,o⟩:=by
 unfold norm;rw [if_neg h]
theorem kept_len {p r:Rat} {pts:List Pt}:(keptP p r pts).length<=pts.length:=by
 rw [keptP_eq,List.length_map]
 exact Nat.le_trans (List.length_filter_le ..) (by simp)
theorem eqParts_le {p r:Rat} {row:List Pt} (h:row≠[]):eqParts p r row<=row.length:=by
 obtain ⟨n,n0,h1,_,_⟩:=eqParts_spec (p:=p) (r:=r) (row:=row)
 rw [(h1 h).1]
 exact Nat.le_mul_of_pos_left _ n0
theorem qs_nat {n k:Nat} (h:n < 2 ^ k) (h1:1<=k):qs (n:Rat)<=k:=by
 have h2:=qs_int (n:Int)
 have h3:bz (n:Int)<=k:=bs_le h
 rw [Rat.intCast_natCast] at h2
 omega
theorem row_take_ne {p r:Rat} {row:List Pt} (h:row≠[]):row.take (row.length / eqParts p r row)≠[]:=by
 obtain ⟨n,n0,h1,h2,_⟩:=eqParts_spec (p:=p) (r:=r) (row:=row)
 rw [h2 h]
 intro z
 have:=congrArg List.length z
 have:=List.length_pos_iff.mpr h
 rw [List.length_take,List.length_nil] at *
 omega
theorem Crv.short {c:Crv} (h:∀ q∈c.nums,qs q<=199):c.long=false:=by
 unfold Crv.long
 rw [List.any_eq_false]
 intro q hq
 rw [big_no (h q hq)]
 decide
mutual
theorem Rp.more {K:PySem.W.Frag} {al:Al} {M M':Mem} {H:Hp} (m:More al M M' H):∀ {d:D} {v:V},d.nl=true->Rp K al M H d v->Rp K al M' H d v
 | .non,_,_,h=>h
 | .bl _,_,_,h=>h
 | .int _,_,_,h=>h
 | .str _,_,_,h=>h
 | .ty _,_,_,h=>h
 | .tup ds,_,l,h=>by
  obtain ⟨a,xs,e,q,r⟩:=h
  refine ⟨a,xs,e,?_,Rps.more m l r⟩
  rcases q with ⟨q,f⟩ | q
  ·exact .inl ⟨q,m.fz q (fun _ z=>by cases z) f⟩
  ·exact .inr q
 | .lst ds,_,l,h=>by cases l
 | .rol ds,_,l,h=>by cases l
 | .obj C ns ds,_,l,h=>by
  obtain ⟨a,dx,xs,e,q,f,g,r⟩:=h
  exact ⟨a,dx,xs,e,q,m.fz q (fun _ z=>by cases z) f,g,Rps.more m l r⟩
 | .dk C ds,_,l,h=>by
  obtain ⟨a,dx,xs,e,q,f,g,r⟩:=h
  exact ⟨a,dx,xs,e,q,m.fz q (fun _ z=>by cases z) f,g,Rps.more m l r⟩
 | .dt C ds,_,l,h=>by
  obtain ⟨a,dx,xs,e,q,f,g,r⟩:=h
  exact ⟨a,dx,xs,e,q,m.fz q (fun _ z=>by cases z) f,g,Rps.more m l r⟩
 | .exc C ns ds,_,l,h=>by
  obtain ⟨a,dx,xs,e,q,f,q2,f2,g,r⟩:=h
  exact ⟨a,dx,xs,e,q,m.fz q (fun _ z=>by unfold exs at z;cases z) f,q2,m.fz q2 (fun _ z=>by cases z) f2,g,Rps.more m l r⟩
 | .lam _ _,_,_,h=>⟨h.1,fun x hx=>⟨(h.2 x hx).1,m.fz (h.2 x hx).1 (fun _ z=>by cases z) (h.2 x hx).2⟩⟩
 | .ref _,_,_,h=>h
 | .mt i,_,_,h=>h
theorem Rps.more {K:PySem.W.Frag} {al:Al} {M M':Mem} {H:Hp} (m:More al M M' H):∀ {ds:List D} {xs:List V},D.nls ds=true->Rps K al M H ds xs->Rps K al M' H ds xs
 | [],_,_,h=>h
 | d :: ds,_,l,h=>by
  obtain ⟨x,r,e,q,t⟩:=h
  have l:(d.nl && D.nls ds)=true:=l
  rw [Bool.and_eq_true] at l
  exact ⟨x,r,e,Rp.more m l.1 q,Rps.more m l.2 t⟩
end
def lendD (M:Mem) (n:Nat):D->D
 | .mt i=>if i < n then (match M[i]? with
  | some (some (.lst xs))=>.lst xs
  | _=>.mt i) else .mt i
 | d=>d
def lendSp (dsp:DSp):DSp:=fun ds M Q E=>dsp ds M Q E\/∃ n,n<=M.length/\(∀ (j:Nat) (mo:MO),j < n->M[j]?=some (some mo)->mo.isL=true) /\
 dsp (ds.map (lendD M n)) (dead n M) (fun d M'=>d.nl=true/\LendOk n M M'/\Q d (back n M M')) (fun x M'=>D.nls (x.fs.map (·.2))=true/\LendOk n M M'/\E x (back n M M'))
section
variable {K:PySem.W.Frag} {Tb:List (Addr×Str)} {al:Al} {M:Mem} {H:Hp} {n:Nat}
theorem dead_len (h:n<=M.length):(dead n M).length=M.length:=by
 unfold dead
 rw [List.length_append,List.length_map,List.length_take,List.length_drop]
 omega
theorem dead_ge (h:n<=M.length) {j:Nat} (hj:n<=j):(dead n M)[j]?=M[j]?:=by
 unfold dead
 rw [List.getElem?_append_right (by rw [List.length_map,List.length_take];omega),List.length_map,List.length_take,List.getElem?_drop]
 congr 1
 omega
theorem fz_dead (h:n<=M.length) {b:Addr} (f:Fz al M b):Fz al (dead n M) b :=
 ⟨f.1,fun j mo e1 e2=>by
  by_cases hj:j < n
  ·rw [dead_lt h hj] at e2;cases e2
  ·rw [dead_ge h (by omega)] at e2;exact f.2 j mo e1 e2⟩
theorem stp_dead (h:n<=M.length):Stp al M H al (dead n M) H:=⟨fun _ _ e=>e,fun b o e _ f=>⟨e,fz_dead h f⟩,rfl,fun _ _=>rfl⟩
theorem wf_dead (w:Wf K Tb al H M) (h:n<=M.length):Wf K Tb al H (dead n M) :=
 ⟨by rw [dead_len h];exact w.len,w.nd,fun j b mo e1 e2=>by
   by_cases hj:j < n
   ·rw [dead_lt h hj] at e2;cases e2
   ·rw [dead_ge h (by omega)] at e2
    have r:=w.rep j b mo e1 e2
    have s:Stp al M H al (dead n M) H:=stp_dead h
    cases mo with
    | lst ds=>obtain ⟨zs,h1,h2⟩:=r;exact ⟨zs,h1,h2.mono s⟩
    | dK kvs=>obtain ⟨zs,h1,h2⟩:=r;exact ⟨zs,h1,h2.mono s⟩
    | dT ks ds=>obtain ⟨zs,h1,h2⟩:=r;exact ⟨zs,h1,h2.mono s⟩
    | ins C fs=>obtain ⟨dx,zs,h1,h2⟩:=r;exact ⟨dx,zs,h1,h2.mono s⟩,
  w.there,w.tb,w.hth,fun j b mo e1 e2=>by
   by_cases hj:j < n
   ·rw [dead_lt h hj] at e2;cases e2
   ·rw [dead_ge h (by omega)] at e2;exact w.hdis j b mo e1 e2⟩
theorem fz_rest (w:Wf K Tb al H M) (h:n<=M.length) {i:Nat} {a:Addr} {mo:MO} (hi:i < n) (e:al.a[i]?=some a) (hm:M[i]?=some (some mo)):Fz al (dead n M) a :=
 ⟨w.hdis i a mo e hm,fun j mo' e1 e2=>by
  have hij:i=j:=by
   have h1:=List.getElem?_eq_some_iff.mp e
   have h2:=List.getElem?_eq_some_iff.mp e1
   exact (List.getElem_inj w.nd).mp (h1.2.trans h2.2.symm)
  subst hij
  rw [dead_lt h hi] at e2;cases e2⟩
theorem lend_rp (w:Wf K Tb al H M) (h:n<=M.length) {d:D} {v:V} (r:Rp K al M H d v):Rp K al (dead n M) H (lendD M n d) v:=by
 have s:Stp al M H al (dead n M) H:=stp_dead h
 cases d with
 | mt i =>
  show Rp K al (dead n M) H (if i < n then (match M[i]? with
   | some (some (.lst xs))=>.lst xs
   | _=>.mt i) else .mt i) v
  by_cases hi:i < n
  ·rw [if_pos hi]
   split
   ·rename_i xs e
    obtain ⟨a,ea,rfl⟩:=r
    obtain ⟨zs,h1,h2⟩:=w.rep i a _ ea e
    exact ⟨a,zs,rfl,h1,fz_rest w h hi ea e,h2.mono s⟩
   ·exact r.mono s
  ·rw [if_neg hi];exact r.mono s
 | _=>exact r.mono s
theorem lend_rps (w:Wf K Tb al H M) (h:n<=M.length):∀ {ds:List D} {vs:List V},Rps K al M H ds vs->Rps K al (dead n M) H (ds.map (lendD M n)) vs
 | [],_,r=>r
 | d :: ds,_,r=>by
  obtain ⟨x,t,e,q,u⟩:=r
  exact ⟨x,t,e,lend_rp w h q,lend_rps w h u⟩
theorem back_lt {M':Mem} {j:Nat} (h:n<=M.length) (hj:j < n):(back n M M')[j]?=M[j]?:=by
 unfold back
 rw [List.getElem?_append_left (by rw [List.length_take];omega),List.getElem?_take_of_lt hj]
theorem back_ge {M':Mem} {j:Nat} (h:n<=M.length) (hj:n<=j):(back n M M')[j]?=M'[j]?:=by
 unfold back
 rw [List.getElem?_append_right (by rw [List.length_take];omega),List.length_take,List.getElem?_drop]
 congr 1
 omega
theorem lend_back {al':Al} {M':Mem} {H':Hp} (w:Wf K Tb al H M) (h:n<=M.length) (hL:∀ (j:Nat) (mo:MO),j < n->M[j]?=some (some mo)->mo.isL=true) (s:Stp al (dead n M) H al' M' H') (w':Wf K Tb al' H' M') (k:LendOk n M M') :
  Stp al M H al' (back n M M') H'/\Wf K Tb al' H' (back n M M')/\More al' M' (back n M M') H':=by
 have old:∀ {i a mo},i < n->al.a[i]?=some a->M[i]?=some (some mo)->∃ xs,H a=some (.lst xs)/\H' a=some (.lst xs)/\al'.a[i]?=some a:=fun {i a mo} hi e hm=>by
  have q:=hL i mo hi hm
  cases mo with
  | lst ds =>
   obtain ⟨xs,h1,h2⟩:=w.rep i a _ e hm
   exact ⟨xs,h1,(s.fz a _ h1 (fun _ z=>by cases z) (fz_rest w h hi e hm)).1,s.pre i a e⟩
  | dK _=>cases q
  | dT _ _=>cases q
  | ins _ _=>cases q
 have alla:∀ {i b},i < n->al'.a[i]?=some b->al.a[i]?=some b:=fun {i b} hi e=>by
  have hl:=w.len
  have h1:al.a[i]?=some (al.a[i]'(by omega)):=List.getElem?_eq_getElem (by omega)
  have:=s.pre i _ h1
  rw [this] at e
  rw [h1];exact e
 have more:More al' M' (back n M M') H':=⟨fun j b mo e1 e2=>by
  by_cases hj:j < n
  ·rw [back_lt h hj] at e2
   obtain ⟨xs,_,q,_⟩:=old hj (alla hj e1) e2
   exact .inr ⟨xs,q⟩
  ·rw [back_ge h (by omega)] at e2
   exact .inl e2⟩
 have st:Stp al M H al' (back n M M') H':=⟨s.pre,fun b o e nt f=>by
  obtain ⟨q1,q2⟩:=s.fz b o e nt (fz_dead h f)
  refine ⟨q1,q2.1,fun j mo e1 e2=>?_⟩
  by_cases hj:j < n
  ·rw [back_lt h hj] at e2
   exact f.2 j mo (alla hj e1) e2
  ·rw [back_ge h (by omega)] at e2
   exact q2.2 j mo e1 e2,s.hh,s.hid⟩
 refine ⟨st,⟨?_,w'.nd,fun j b mo e1 e2=>?_,w'.there,w'.tb,w'.hth,fun j b mo e1 e2=>?_⟩,more⟩
 ·rw [w'.len]
  unfold back
  rw [List.length_append,List.length_take,List.length_drop]
  have:=k.len
  omega
 ·by_cases hj:j < n
  ·rw [back_lt h hj] at e2
   obtain ⟨xs,q1,q2,_⟩:=old hj (alla hj e1) e2
   have r:=w.rep j b mo (alla hj e1) e2
   have q:=hL j mo hj e2
   cases mo with
   | lst ds =>
    obtain ⟨ys,h1,h2⟩:=r
    rw [q1] at h1
    cases h1
    exact ⟨xs,q2,h2.mono st⟩
   | dK _=>cases q
   | dT _ _=>cases q
   | ins _ _=>cases q
  ·rw [back_ge h (by omega)] at e2
   have r:=w'.rep j b mo e1 e2
   have q:=k.tl j mo (by omega) e2
   cases mo with
   | lst ds=>obtain ⟨zs,h1,h2⟩:=r;exact ⟨zs,h1,Rps.more more q h2⟩
   | dK kvs=>obtain ⟨zs,h1,h2⟩:=r;exact ⟨zs,h1,h2.1,Rps.more more q h2.2⟩
   | dT ks ds=>obtain ⟨zs,h1,h2⟩:=r;exact ⟨zs,h1,h2.1,Rps.more more q h2.2⟩
   | ins C fs=>obtain ⟨dx,zs,h1,h2⟩:=r;exact ⟨dx,zs,h1,h2.1,Rps.more more q h2.2⟩
 ·by_cases hj:j < n
  ·rw [back_lt h hj] at e2
   intro hm
   rw [s.hh] at hm
   exact w.hdis j b mo (alla hj e1) e2 hm
  ·rw [back_ge h (by omega)] at e2
   exact w'.hdis j b mo e1 e2
theorem liftSp_lend {dsp:DSp} {vs:List V} {QV:VK} {EV:XK} (q:liftSp K Tb (lendSp dsp) vs H QV EV):liftSp K Tb dsp vs H QV EV:=by
 obtain ⟨al,M,ds,Q,E,w,r,hd,pv,px⟩:=q
 rcases hd with hd | ⟨n,hn,hL,hd⟩
 ·exact ⟨al,M,ds,Q,E,w,r,hd,pv,px⟩
 ·refine ⟨al,dead n M,ds.map (lendD M n),_,_,wf_dead w hn,lend_rps w hn r,hd,?_,?_⟩
  ·rintro al' d M' v H' s w' r' ⟨q1,q2,q3⟩
   obtain ⟨s2,w2,m2⟩:=lend_back w hn hL s w' q2
   exact pv al' d _ v H' s2 w2 (Rp.more m2 q1 r') q3
  ·rintro al' x M' cls dct H' s w' ⟨e,dx,ys,e2,h1,h2⟩ ⟨q1,q2,q3⟩
   obtain ⟨s2,w2,m2⟩:=lend_back w hn hL s w' q2
   exact px al' x _ cls dct H' s2 w2 ⟨e,dx,ys,e2,h1,h2.1,Rps.more m2 q1 h2.2⟩ q3
end
theorem FnD.lend {P:Program} {w:World} {K:PySem.W.Frag} {mg:Str->Option Value} {base:Heap} {Tb:List (Addr×Str)} {k:Nat} {f:Addr} {fd:FuncData} {ps:List Str} {dsp:DSp} (F:FnD P w K mg base Tb k f fd ps dsp):FnD P w K mg base Tb k f fd ps (lendSp dsp) :=
 ⟨F.ok.imp fun _ _ _ _ q=>liftSp_lend q⟩
def dDn:TED:=fun _ _ M Q=>Q (.mt M.length) (M ++ [some (.dK [])])
section
variable {X:Cx} {Tb:List (Addr×Str)}
theorem Rps.rev {K:PySem.W.Frag} {al:Al} {M:Mem} {H:Hp}:∀ {ds:List D} {xs:List V},Rps K al M H ds xs->Rps K al M H ds.reverse xs.reverse
 | [],_,h=>by cases (show _=[] from h);rfl
 | d :: ds,_,h=>by
  obtain ⟨x,r,q,t,u⟩:=h
  subst q
  rw [List.reverse_cons,List.reverse_cons]
  exact (Rps.rev u).append ⟨x,[],rfl,t,rfl⟩
end
theorem e_dn {E:XD} {rho:Rho} {M:Mem} {Q:VD} (h:Q (.mt M.length) (M ++ [some (.dK [])])):dDn E rho M Q:=h
theorem e_lenOn {C:Addr} {dsp:DSp} {x:D} {M:Mem} {Q:VD} (e:insOf M x=none) (h:rLen_ [x] M Q):rLenO C dsp [x] M Q:=by
 unfold rLenO
 simp only [e]
 exact h
section
variable {M M' M'' L:Mem} {i j:Nat} {o:Option MO}
theorem RgX.of (t:RgTo M i M'):RgX M i [] M':=⟨M',t,by simp⟩
theorem RgX.to (a:RgAt M i) (g:RgX M i L M') (t:RgTo M' i M''):RgX M i L M'':=by
 obtain ⟨M2,t2,rfl⟩:=g
 obtain ⟨r,ok,rfl⟩:=t
 have hl:i < M2.length:=by rw [t2.len];exact a.lt
 refine ⟨M2.set i (some r.mo),t2.trans ⟨r,ok,rfl⟩,?_⟩
 rw [List.set_append_left _ _ hl]
theorem RgX.get (g:RgX M i L M') (j:Nat):M'[M.length+j]?=L[j]?:=by
 obtain ⟨M2,t,rfl⟩:=g
 rw [List.getElem?_append_right (by rw [t.len];omega),t.len]
 congr 1
 omega
theorem RgX.cut {Q:VD} {d:D} (g:RgX M i L M') (h:d.hb M.length=true) (ok:okM M.length M) (q:∀ M2,RgTo M i M2->Q d M2):Cut M.length Q d M':=by
 obtain ⟨M2,t,rfl⟩:=g
 refine ⟨M.length,Nat.le_refl _,h,fun j mo hj e=>?_,?_⟩
 ·rw [List.getElem?_append_left (by rw [t.len];exact hj)] at e
  exact t.okM ok j mo hj e
 ·rw [List.take_left' t.len]
  exact q M2 t
end
def lawSp0:DSp:=fun ds M Q E=>M=[]/\lawSp ds M Q E
theorem nls_map {α:Type} {e:α->D} (h:∀ a,(e a).nl=true):∀ l:List α,D.nls (l.map e)=true
 | []=>rfl
 | a :: l=>by show ((e a).nl && D.nls (l.map e))=true;rw [h,nls_map h l];rfl
theorem nl_row (l:List Pt):(D.tup (l.map ptD)).nl=true:=nls_map (fun _=>rfl) l
theorem nls_crv (c:Crv):D.nls (cvX c)=true:=by
 have h:=nl_row c.row
 have hf:(formD c).nl=true:=by
  show ((qD c.p).nl && ((qD c.r).nl && ((D.tup (c.row.map ptD)).nl && ((qD (if c.row=[] then c.b else 0)).nl && true))))=true
  rw [h];rfl
 show ((qD c.p).nl && ((qD c.r).nl && ((D.tup (c.row.map ptD)).nl && ((qD c.s).nl && ((qD c.b).nl && ((formD c).nl && ((qD (c.arn 0).v).nl && true)))))))=true
 rw [h,hf];rfl
theorem RgL.allL {L M':Mem} (g:RgL [] L M') (h:AllL L):AllL M':=by
 obtain ⟨r,_,rfl⟩:=g
 exact AllL.cons (xs:=r.items) h
theorem dead_ins {M:Mem} {o:Option MO}:dead M.length (M ++ [o])=M.map (fun _=>none) ++ [o]:=by
 unfold dead
 rw [List.take_left' rfl,List.drop_left' rfl]
theorem back_ins {M M2:Mem} {o o':Option MO} (h:M2.length=M.length):back M.length (M ++ [o]) (M2 ++ [o'])=M ++ [o']:=by
 unfold back
 rw [List.take_left' rfl,<- h,List.drop_left' rfl]
theorem lend_ins {M:Mem} {o:Option MO} {mo:MO} (h:mo.nl=true):LendOk M.length (M ++ [o]) (M.map (fun _=>none) ++ [some mo]):=by
 refine ⟨by simp,?_,fun j mo' hj e=>?_⟩
 ·rw [dead_ins,List.take_left' (by simp),List.take_left' (by simp)]
 ·rw [List.getElem?_append_right (by simpa using hj)] at e
  have:j - (M.map fun _=>(none:Option MO)).length=0\/0 < j - (M.map fun _=>(none:Option MO)).length:=by omega
  rcases this with z | z
  ·rw [z] at e;simp at e;rw [<- e];exact h
  ·rw [List.getElem?_eq_none (by simp;simp at z;omega)] at e;cases e
end DL
namespace LamE
open PySem PySem.Spec PySem.Calls PyProof.Rows L2 LamX
structure ScL (N:List Str) (sc scope:Scope):Prop where
 kind:scope.kind = .function
 co:scope.isCoroutine=false
 gen:scope.isGenerator=false
 cel:∀ y∈scope.names,y.2≠.cell
 own:∀ y∈scope.names,y.2 = .local->y.1 ∉ N
 free:∀ y∈scope.names,y.2 = .free->sc.names.lookup y.1=some .cell\/sc.names.lookup y.1=some .free
section
variable {X:Cx} {pins:List (Addr×Obj)} {σ:L2.St} {H HZ:Hp} {s s1:Shared}
theorem ScL.has {N:List Str} {scope:Scope} (L:ScL N X.env.scope scope) (ok:X.Ok):∀ y∈scope.names,y.2 = .free->∃ c,X.env.cells.lookup y.1=some c :=
 fun y hy e=>(L.free y hy e).elim (fun k=>ok.has _ (.inl k)) fun k=>ok.has _ (.inr k)
theorem ScL.cells {N:List Str} {scope:Scope} (L:ScL N X.env.scope scope) (ok:X.Ok) :
  (∀ {y c},(cloFrom X.env.cells scope.names []).lookup y=some c->X.env.cells.lookup y=some c)/\∀ {y},scope.names.lookup y=some .free->∃ c,(cloFrom X.env.cells scope.names []).lookup y=some c:=by
 constructor
 ·intro y c e
  rcases cloFrom_mem (PySem.mem_of_lookup e) with hm | ⟨h1,h2⟩
  ·cases hm
  ·obtain ⟨c1,hc⟩:=L.has ok _ h1 rfl
   replace hc:X.env.cells.lookup y=some c1:=hc
   rw [h2,hc]
   rfl
 ·intro y hl
  exact mem_lookup (cloFrom_has (cells:=X.env.cells) (acc:=[]) (PySem.mem_of_lookup hl))
end
end LamE
namespace DL
open PySem PySem.Spec PyProof.Rows L2 Mt
section
variable {K:PySem.W.Frag} {Tb:List (Addr×Str)} {al:Al} {M:Mem} {H:Hp} {a:Addr}
theorem rpk_zip {κ:Type} {kvs:List (κ×D)} {ys:List (κ×V)} (h:Rpk K al M H kvs ys):(kvs.map (·.1)).zip (ys.map (·.2))=ys/\(kvs.map (·.1)).length=(ys.map (·.2)).length:=by
 rw [h.1]
 exact ⟨zip_unzip ys,by simp⟩
theorem lock_stp (w:Wf K Tb al H M) {i:Nat} {mo:MO} {u:HO} {od:Obj} (hi:al.a[i]?=some a) (hm:M[i]?=some (some mo)) (hu:H a=some u) (mu:∀ ps,u≠.tbl ps) :
  Stp al M H al (M.set i none) (upd H a (.frz od u))/\Wf K Tb al (upd H a (.frz od u)) (M.set i none):=by
 have ne:∀ b o,H b=some o->Fz al M b->b≠a:=fun b o h f z=>f.2 i mo (z ▸ hi) hm
 have s:Stp al M H al (M.set i none) (upd H a (.frz od u)):=⟨fun _ _ h=>h,fun b o h n f=>⟨by rw [upd_ne (ne b o h f)];exact h,(stp_fz (i:=i)).fz b o h n f |>.2⟩,rfl,fun b hb=>upd_ne fun z=>w.hdis i a mo hi hm (z ▸ hb)⟩
 have w2:=wf_fz w i
 refine ⟨s,w2.len,w2.nd,fun j b m e1 e2=>?_,fun j b e=>?_,?_,fun b hb=>?_,w2.hdis⟩
 ·have hj:i≠j:=fun z=>by subst z;rw [List.getElem?_set] at e2;simp at e2
  have hb:b≠a:=fun z=>by
   subst z
   exact hj ((List.getElem?_inj (List.getElem?_eq_some_iff.mp hi).1 w.nd).mp (hi.trans e1.symm))
  rw [List.getElem?_set_ne hj] at e2
  exact (w.rep j b m e1 e2).mono s fun o h=>by rw [upd_ne hb];exact h
 ·obtain ⟨o,h1,h2⟩:=w.there j b e
  by_cases hb:b=a
  ·subst hb
   exact ⟨_,upd_same,fun ps z=>by cases z⟩
  ·exact ⟨o,by rw [upd_ne hb];exact h1,h2⟩
 ·intro p hp
  obtain ⟨ps,h1,h2,h3⟩:=w.tb p hp
  refine ⟨ps,by rw [upd_ne fun z=>mu ps (by rw [z] at h1;exact Option.some.inj (hu.symm.trans h1))];exact h1,h2,fun pos cv hc=>?_⟩
  obtain ⟨c,e1,e2⟩:=h3 pos cv hc
  refine ⟨c,e1,?_⟩
  rw [upd_ne];exact e2
  intro z
  subst z
  have r:=w.rep i c mo hi hm
  cases mo with
  | lst ds=>obtain ⟨ys,h,_⟩:=r;rw [h] at e2;cases e2
  | dK ds=>obtain ⟨ys,h,_⟩:=r;rw [h] at e2;cases e2
  | dT ks ds=>obtain ⟨ys,h,_⟩:=r;rw [h] at e2;exact dic_code (Option.some.inj e2)
  | ins C fs=>obtain ⟨dx,ys,h,_⟩:=r;rw [h] at e2;cases e2
 ·obtain ⟨xs,h,q⟩:=w.hth b hb
  have ne2:b≠a:=fun z=>w.hdis i a mo hi hm (z ▸ hb)
  exact ⟨xs,by rw [upd_ne ne2];exact h,q⟩
end
structure Seer (P:Program) (base:Heap):Prop where
 ns:base.NoSeer
 tr:P.given.tree=none
section
variable {X:Cx}
theorem room_of {pins:List (Addr×Obj)} {σ:L2.St} {H:Hp} {s:Shared} {env:Env} {l:List Env} (S:Seer X.prog X.base) (hr:Room 32 X.A) (I:Inv X pins σ H s) (hs:X.stack=env :: l) (h1:env.scope.isGenerator=false) (h2:env.scope.isCoroutine=false)
  (h3:env.builtins=builtinsNs) (h4:env.globals=mainGlobals):PylongRoom (model X.prog X.w) X.A s:=by
 have e0:=I.env0
 have nl:s.heap.NoLimit:=I.ok.mod.nolimit.keeps fun b o e=>(e0.bs b o e).1
 have ns:s.heap.NoSeer:=S.ns.keeps fun b o e=>(e0.bs b o e).1
 refine PylongRoom.of nl (by have:=hr.dp;show X.A.depth+100 < _;omega) (SeerAt.of ns S.tr (env:=env) (l:=l) (by rw [I.ok.frames,hs]) h1 h2 h3 h4)
theorem op_fdivP {env:Env} {l:List Env} (S:Seer X.prog X.base) (hr:Room 32 X.A) (hs:X.stack=env :: l) (h1:env.scope.isGenerator=false) (h2:env.scope.isCoroutine=false)
  (h3:env.builtins=builtinsNs) (h4:env.globals=mainGlobals):OpR X (binaryOp .FloorDiv) (rI (fun _ j=>j≠0) fun i j=>.int (i.fdiv j)):=by
 intro pins s σ H x y v u Q I rx ry h
 obtain ⟨i,j,rfl,rfl,hc,q⟩:=h
 obtain ⟨t,rfl⟩:=rx
 obtain ⟨t',rfl⟩:=ry
 refine floordiv_int hc ?_ (.inr (room_of S hr I hs h1 h2 h3 h4))
 exact ⟨.int (i.fdiv j),H,I.tok _,⟨_,rfl⟩,q⟩
end
abbrev rDivP_:RD2:=rIntD (fun _ j=>j≠0) fun i j=>.int (i.fdiv j)
section
variable {X:Cx} {Tb:List (Addr×Str)} {EV:XK} {a b:Expr} {ta tb:TED} {pos:Pos}
theorem dv_fdivP (S:Seer X.prog X.base) (hr:Room 32 X.A) (ha:PD X Tb EV a ta) (hb:PD X Tb EV b tb) (hs:X.stack=X.env :: X.outer:=by rfl) (h1:X.env.scope.isGenerator=false:=by rfl) (h2:X.env.scope.isCoroutine=false:=by rfl)
  (h3:X.env.builtins=builtinsNs:=by rfl) (h4:X.env.globals=mainGlobals:=by rfl):PD X Tb EV (.BinOp a .FloorDiv b pos) (dOp rDivP_ ta tb):=dv_op (op_fdivP S hr hs h1 h2 h3 h4) (ref_int fun _ _ _ _ _=>rfl) ha hb
end
end DL
namespace DL
open PySem PySem.Spec PyProof.Rows L2 Mt LamX
theorem RP.mem {K:PySem.W.Frag} {al:Al} {M:Mem} {H:Hp} {kvs:Kvs} {L:Ents} (h:RP K al M H kvs L) {e:List Int×Addr×V} (he:e∈L):∃ p∈kvs,p.1=e.1/\Rp K al M H (kD e.1) (.ref e.2.1):=by
 induction h with
 | nil=>exact nomatch he
 | cons a _ ih =>
  rcases List.mem_cons.mp he with z | z
  ·subst z;exact ⟨_,List.mem_cons_self,a.1,a.1 ▸ a.2.1⟩
  ·obtain ⟨p,hp,q⟩:=ih z;exact ⟨p,List.mem_cons_of_mem _ hp,q⟩
end DL
namespace DL
open PySem PySem.Spec PyProof.Rows L2 Mt
theorem RgTo.allL {M M':Mem} {i:Nat} (h:AllL M) (t:RgTo M i M'):AllL M':=by
 obtain ⟨r,_,rfl⟩:=t
 exact AllL.set (xs:=r.items) h
end DL
namespace DL
open PySem Mt
def dnT (t:Str) (k:Int):Prop:=t="down"\/(t="even"/\k % 2=0)
instance (t:Str) (k:Int):Decidable (dnT t k):=by unfold dnT;exact inferInstance
def nT (t:Str) (u o:Rat) (k:Int):Pt:=⟨o+k * u+u / 2,o+k * u,if dnT t k then o+k * u else o+k * u+u,o+k * u+u⟩
end DL
namespace DL
open PySem PySem.Spec PyProof.Rows L2 Mt
def dFkv (i:Nat) (t:TSD):TSD:=fun E DD rho M=>match rho[i]? with
 | some (some (.mt j))=>(match M[j]? with
  | some (some (.dT ks ds))=>t E DD (rho.set i (some (.dt ks ds))) (M.set j none)
  | some (some (.lst xs))=>t E DD (rho.set i (some (.lst xs))) (M.set j none)
  | some (some (.dK kvs))=>t E DD (rho.set i (some (.dk (kvs.map (·.1)) (kvs.map (·.2))))) (M.set j none)
  | _=>t E DD rho M)
 | _=>t E DD rho M
theorem dp_fkv {X:Cx} {Tb:List (Addr×Str)} {EV:XK} {st:Stmt} {t:TSD} (i:Nat) (h:PDS X Tb EV st t):PDS X Tb EV st (dFkv i t):=by
 refine ⟨fun pins s σ H DV I q=>?_⟩
 obtain ⟨al,rho,M,E,DD,a,t0,p⟩:=q
 unfold dFkv at t0
 split at t0
 ·rename_i j ej
  split at t0
  ·rename_i ks ds e1
   obtain ⟨v,hv,b,hb,rfl⟩:=a.sl.2 i _ ej
   obtain ⟨L,hH,r⟩:=a.wf.rep j b _ hb e1
   obtain ⟨od,I2⟩:=I.lock hH True.intro
   obtain ⟨s2,w2⟩:=lock_stp (od:=od) a.wf hb e1 hH (fun _ z=>by cases z)
   exact h.run pins s σ _ DV I2 ⟨al,_,_,E,DD,⟨w2,(a.sl.mono s2).at (d:=.dt ks ds) i hv ⟨b,od,L,rfl,upd_same,fz_at a.wf hb e1,r.1,r.2.mono s2⟩,a.ex.mono s2⟩,t0,p.mono s2⟩
  ·rename_i xs e1
   obtain ⟨v,hv,b,hb,rfl⟩:=a.sl.2 i _ ej
   obtain ⟨ys,hH,r⟩:=a.wf.rep j b _ hb e1
   have s2:Stp al M H al (M.set j none) H:=stp_fz
   exact h.run pins s σ _ DV I ⟨al,_,_,E,DD,⟨wf_fz a.wf j,(a.sl.mono s2).at (d:=.lst xs) i hv ⟨b,ys,rfl,hH,fz_at a.wf hb e1,r.mono s2⟩,a.ex.mono s2⟩,t0,p.mono s2⟩
  ·rename_i kvs e1
   obtain ⟨v,hv,b,hb,rfl⟩:=a.sl.2 i _ ej
   obtain ⟨ys,hH,r⟩:=a.wf.rep j b _ hb e1
   obtain ⟨od,I2⟩:=I.lock hH True.intro
   obtain ⟨s2,w2⟩:=lock_stp (od:=od) a.wf hb e1 hH (fun _ z=>by cases z)
   refine h.run pins s σ _ DV I2 ⟨al,_,_,E,DD,⟨w2,(a.sl.mono s2).at (d:=.dk (kvs.map (·.1)) (kvs.map (·.2))) i hv ⟨b,od,ys.map (·.2),rfl,?_,fz_at a.wf hb e1,(rpk_zip r).2,r.2.mono s2⟩,a.ex.mono s2⟩,t0,p.mono s2⟩
   rw [(rpk_zip r).1];exact upd_same
  ·exact h.run pins s σ _ DV I ⟨al,_,_,E,DD,a,t0,p⟩
 ·exact h.run pins s σ _ DV I ⟨al,_,_,E,DD,a,t0,p⟩
theorem e_fkvL {i j:Nat} {xs:List D} {t:TSD} {E:XD} {DD:DEnds} {rho:Rho} {M:Mem} (h1:rho[i]?=some (some (.mt j))) (h2:M[j]?=some (some (.lst xs))) (h:t E DD (rho.set i (some (.lst xs))) (M.set j none)):dFkv i t E DD rho M:=by
 unfold dFkv
 rw [h1]
 simp only []
 rw [h2]
 exact h
end DL
namespace He
open PySem PySem.Spec PyProof.Rows L2
theorem LookEq.to {r:PySem.W.OpenRow} {M:Nat} {w:World} {β γ:Type} {f:PySem.W.SharedT->β} {v:β} (a:LookEq r M w f v) (k:β->γ):LookEq r M w (fun s=>k (f s)) (k v):=fun os=>by
 have h1:=a os
 generalize HandSHeadRun.endF _ _ _ _ _=x at h1
 cases x with
 | none=>cases h1
 | some s =>
  simp only [Option.map_some,Option.some.injEq] at h1 ⊢
  rw [h1]
end He
namespace DL
open PySem PySem.Spec PySem.Calls PyProof.Rows L2
def hStar (k:Nat) (t:TGsD):TGD:=fun d E rho M Q=>match d with
 | .tup xs=>k<=xs.length/\t (xs.take k ++ [.lst (xs.drop k)]) E rho M Q
 | .lst xs=>k<=xs.length/\t (xs.take k ++ [.lst (xs.drop k)]) E rho M Q
 | _=>False
def bindM:List Nat->List D->Rho->Option Rho
 | [],[],rho=>some rho
 | i :: is,x :: xs,rho=>bindM is xs (rho.set i (some x))
 | _,_,_=>none
section
variable {X:Cx} {Tb:List (Addr×Str)} {EV:XK} {pos:Pos}
def mSeq (is:List Nat) (tg:TTD) (tb:TSD) (rest:D->TSD):D->TSD:=fun d E DD rho M=>match d with
 | .lst xs=>(match bindM is xs rho with
  | some r=>tg E r M fun b M1=>if b=true then tb E DD r M1 else rest d E DD r M1
  | none=>rest d E DD rho M)
 | _=>False
theorem e_mhit {is:List Nat} {tg:TTD} {tb:TSD} {rest:D->TSD} {xs:List D} {E:XD} {DD:DEnds} {rho r:Rho} {M:Mem} (e:bindM is xs rho=some r) (h:tg E r M fun b M1=>if b=true then tb E DD r M1 else rest (.lst xs) E DD r M1):mSeq is tg tb rest (.lst xs) E DD rho M:=by
 unfold mSeq;simp only [e];exact h
theorem e_mmiss {is:List Nat} {tg:TTD} {tb:TSD} {rest:D->TSD} {xs:List D} {E:XD} {DD:DEnds} {rho:Rho} {M:Mem} (e:bindM is xs rho=none) (h:rest (.lst xs) E DD rho M):mSeq is tg tb rest (.lst xs) E DD rho M:=by
 unfold mSeq;simp only [e];exact h
theorem e_star1 {t:TGsD} {x:D} {xs:List D} {E:XD} {rho:Rho} {M:Mem} {Q:Rho->Mem->Prop} (h:t [x,.lst xs] E rho M Q):hStar 1 t (.tup (x :: xs)) E rho M Q:=⟨by simp,h⟩
theorem e_star1l {t:TGsD} {x:D} {xs:List D} {E:XD} {rho:Rho} {M:Mem} {Q:Rho->Mem->Prop} (h:t [x,.lst xs] E rho M Q):hStar 1 t (.lst (x :: xs)) E rho M Q:=⟨by simp,h⟩
theorem e_star2l {t:TGsD} {x y:D} {xs:List D} {E:XD} {rho:Rho} {M:Mem} {Q:Rho->Mem->Prop} (h:t [x,y,.lst xs] E rho M Q):hStar 2 t (.lst (x :: y :: xs)) E rho M Q:=⟨by simp,h⟩
end
end DL
namespace DL
open PySem PySem.Spec PyProof.Rows L2 Mt
theorem e_istup {xs:List D} {M:Mem} {Q:VD} (h:Q (.bl true) M):rIsi_ [.tup xs,.ty "tuple"] M Q:=isi_of (b:=true) "tuple" rfl (by decide +kernel) (by decide +kernel) h
theorem e_isstr {z:Str} {M:Mem} {Q:VD} (h:Q (.bl true) M):rIsi_ [.str z,.ty "str"] M Q:=isi_of (b:=true) "str" rfl (by decide +kernel) (by decide +kernel) h
theorem e_ix0t {x:D} {xs:List D} {M:Mem} {Q:VD} (h:Q x M):rIx_ (.tup (x :: xs)) (.int 0) M Q:=e_ix (rfl:seqD M (.tup (x :: xs))=some (x :: xs)) at_0 h
theorem e_tpM {j:Nat} {xs:List D} {M:Mem} {Q:VD} (e:M[j]?=some (some (.lst xs))) (h:Q (.tup xs) M):rTuple_ [.mt j] M Q:=by
 show (match memL M j with
  | some xs=>Q (.tup xs) M
  | none=>False)
 rw [memL_at e]
 exact h
end DL
namespace DL
open PySem PySem.Spec PyProof.Rows L2
theorem ns_via {K:PySem.W.Frag} {h base:Heap} {a:Addr} {m:Str->Option Value} (X:K.In h) (Y:K.In base) (k:(K.lookup a).isSome=true) (n:h.Ns a m):base.Ns a m:=by
 obtain ⟨o,es,ep,e,r⟩:=n
 obtain ⟨o2,e2⟩:=Option.isSome_iff_exists.mp k
 have e3:=X a o2 e2
 rw [e] at e3
 cases e3
 exact ⟨o,es,ep,Y a o e2,r⟩
theorem ns_eq {h:Heap} {a:Addr} {m m':Str->Option Value} (n:h.Ns a m) (n':h.Ns a m') (x:Str):m x=m' x:=by
 obtain ⟨o,es,ep,e,d,_,f⟩:=n
 obtain ⟨o',es',ep',e',d',_,f'⟩:=n'
 rw [e] at e'
 cases e'
 rw [d] at d'
 cases d'
 rw [<- f,<- f']
theorem seer_via {P:Program} {K:PySem.W.Frag} {h base:Heap} {mg:Str->Option Value} (NS:h.NoSeer) (tr:P.given.tree=none) (X:K.In h) (Y:K.In base) (G:h.Ns mainGlobals mg) (G':base.Ns mainGlobals mg) (hb:mg "__builtins__"=some (.ref (He.ga K "__builtins__"))) (k:seerB K=true):Seer P base:=by
 unfold seerB at k
 simp only [Bool.and_eq_true] at k
 obtain ⟨k1,k2,k3,k4⟩:=k
 obtain ⟨mc,a1,a2⟩:=NS.statics
 obtain ⟨mm,b1,b2⟩:=NS.mods
 obtain ⟨mb,c1,c2⟩:=NS.imp
 obtain ⟨mg',bm,ob,d1,d2,d3,d4⟩:=NS.main
 have e:=ns_eq d1 G "__builtins__"
 rw [d2,hb] at e
 cases e
 obtain ⟨o2,e2⟩:=Option.isSome_iff_exists.mp k4
 have e3:=X _ o2 e2
 rw [d3] at e3
 cases e3
 exact ⟨⟨⟨mc,ns_via X Y k1 a1,a2⟩,⟨mm,ns_via X Y k2 b1,b2⟩,⟨mb,ns_via X Y k3 c1,c2⟩,⟨mg,_,_,G',hb,Y _ _ e2,d4⟩⟩,tr⟩
theorem walk_wS {l:PySem.W.OpenLaw} {n k:Nat} {q:Program} {loose:List Str} {XP:(Str->Option Value)->Heap->Prop} {YP:World->Heap->Prop} {d:DefRec} {x:Str} {dsp:DSp}
  (hn:l.most=some n) (hn2:n<=63) (hdf:d.params.defaults=[]) (hr:Room k callerA) (hl:∀ ds Q E,lawSp ds [] Q E->dsp ds [] Q E) (hi:importsNone q=true)
  (F:∀ (w:World) (mg:Str->Option Value) (fa:Addr) (h:Heap),YP w h->h.Ns mainGlobals mg->h.NoSeer->mg d.name=some (.ref fa) ->
   ∃ (K:PySem.W.Frag) (fd:FuncData) (cs:List ((Addr×Addr)×Str)),K.In h/\(∀ p∈cs,h.get? p.1.2=some { cls:=.none,data:=.fields #[] })/\(∀ p∈cs,K.lookup p.1.2=none)/\(∀ p∈cs,PySem.W.CodeHd h p.1.1 p.1.2) /\
    (∀ (s:Shared) (u:Value),BindsTo s fd ⟨[u],[]⟩ [(x,u)])/\∀ base:Heap,K.In base->base.Ns mainGlobals mg->(∀ p∈cs,LamX.TabB base mg p.1.1 p.1.2)->FnD l.prog w K mg base (cs.map fun p=>(p.1.2,p.2)) k fa fd [x] dsp) :
  PySem.W.WalkO q loose XP YP l.row.toRowW d [] (fun f vs=>PySem.call f vs):=by
 refine Att.attach_call hn hdf fun w s₀ s₁ mg mb fa o pm cd doc a vs ns G Y ho hd hcd hmg hobj hints hlen hg=>?_
 obtain ⟨K,fd,cs,KX,hT,nT,C,hb,hF⟩:=F w mg fa _ Y G.T.g (G.T.seer hi) hmg
 have up:∀ {R:Addr×Addr->Prop},(∀ p∈cs,R p.1)->∀ p∈cs.map (·.1),R p:=fun {R} h p hp=>by
  obtain ⟨q,hq,rfl⟩:=List.mem_map.mp hp
  exact h q hq
 have dn:∀ {R:Addr×Addr->Prop},(∀ p∈cs.map (·.1),R p)->∀ p∈cs,R p.1:=fun {R} h p hp=>h p.1 (List.mem_map.mpr ⟨p,hp,rfl⟩)
 exact LamX.law_callTs (cs:=cs.map (·.1)) KX G.T.g G.T.b G.T.builtins G.T.nolimit hg (up (R:=fun p=>s₁.heap.get? p.2=some { cls:=.none,data:=.fields #[] }) hT) (up (R:=fun p=>K.lookup p.2=none) nT) (up (R:=fun p=>PySem.W.CodeHd s₁.heap p.1 p.2) C) G.T.bmain hobj hints (Nat.le_trans hlen (Nat.le_trans hn2 (by decide))) hr
  (fun base h1 h2 h3=>(hF base h1 h2 (dn (R:=fun p=>LamX.TabB base mg p.1 p.2) h3)).ok) hb
  (fun H hH hS=>law_startT hl (Nat.le_trans hlen hn2) hS fun p hp=>by
   obtain ⟨q,hq,rfl⟩:=List.mem_map.mp hp
   exact LamX.TabS.nil (hH q.1 (List.mem_map.mpr ⟨q,hq,rfl⟩))) fun H e s'=>cx_false H s₁ e s'
end DL
namespace DL
open PySem PySem.Spec PyProof.Rows L2 Mt
def rMin2_:RDC:=fun ds M Q=>match ds with
 | [.int i,.int j]=>Q (.int (if j < i then j else i)) M
 | _=>False
def rMax2_:RDC:=fun ds M Q=>match ds with
 | [.int i,.int j]=>Q (.int (if j > i then j else i)) M
 | _=>False
end DL
namespace Gfr
open PySem
open PyProof.Rows (AllBare)
section
variable {P:Nat->Prop} {Y:Nat->GenState} {gp G:Array GenState}
theorem GRl.look (h:GRl P Y gp G) {g:Nat} {x:GenState} (hg:gp[g]?=some x):(P g/\x=poison (Y g)/\G[g]?=some (Y g))\/(¬ P g/\G[g]?=some x):=by
 by_cases hp:P g
 ·obtain ⟨e1,e2⟩:=h.pz g hp
  rw [e1] at hg
  exact .inl ⟨hp,(Option.some.inj hg).symm,e2⟩
 ·exact .inr ⟨hp,(h.eq g hp).symm.trans hg⟩
end
end Gfr
namespace DL
open PySem PySem.Spec PyProof.Rows L2 Mt
def Oq (K:PySem.W.Frag) (o:Out) (M:Mem) (Q:VD) (E:XD):Prop:=match o with
 | .ok c=>Q (crvD K c) M
 | .error e=>E (e.ex K) M
theorem mkC_gd {p r o:Rat} {pts:List Pt} {c:Crv} (h:mkC p r pts o = .ok c) (ho:pts≠[]\/qs o<=100000) (ho2:qs o<=100000):c.Gd:=by
 unfold mkC at h
 split at h
 ·rename_i ok
  split at h
  ·cases h
  ·rename_i hl
   split at h
   ·cases h
   ·rename_i hs
    cases h
    have hs:(norm p r pts o).long=false:=by simpa using hs
    refine ⟨norm_ok ok,norm_nf ok,?_,hs,?_⟩
    ·have h1:=kept_len (p:=p) (r:=r) (pts:=pts)
     unfold norm
     split
     ·exact Nat.zero_le _
     ·show ((keptP p r pts).take _).length<=60
      rw [List.length_take];omega
    ·by_cases e:(norm p r pts o).row=[]
     ·have:=(Crv.small2 hs).2.2 e;omega
     ·have:(norm p r pts o).b=o:=by
       unfold norm at e ⊢
       split
       ·rename_i z;rw [if_pos z] at e;exact absurd rfl e
       ·rfl
      rw [this];exact ho2
 ·cases h
theorem e_aug {i:Nat} {te:TED} {r:RD2} {E:XD} {DD:DEnds} {rho:Rho} {M:Mem} {d:D} (h:rho[i]?=some (some d)) (k:te E rho M fun y M1=>r d y M1 fun z M2=>DD.nx (rho.set i (some z)) M2):dAug i te r E DD rho M:=by
 unfold dAug
 rw [h]
 exact k
theorem e_neq0 {p:Rat} {M:Mem} {Q:VD} (h:Q (.bl (!decide (p=0))) M):rNe_ (qD p) (.tup [.int 0,.int 1]) M Q:=e_neq (q:=0) h
theorem e_eq0 {p:Rat} {M:Mem} {Q:VD} (h:Q (.bl (decide (p=0))) M):rEq_ (qD p) (.tup [.int 0,.int 1]) M Q:=e_eqq (q:=0) h
theorem e_isrfC {K:PySem.W.Frag} {c:Crv} {P:Prop} (h:P):isRf (crvD K c)=true/\P:=⟨rfl,h⟩
theorem e_isCC {K:PySem.W.Frag} {c:Crv} {M:Mem} {P:Prop} (h:P):isC (He.ga K "Curve") M (crvD K c)/\P:=⟨rfl,h⟩
theorem Oq.cut {K:PySem.W.Frag} {o:Out} {M L:Mem} {Q:VD} {E:XD} (hM:okM M.length M) (h:Oq K o M Q E):Oq K o (M ++ L) (Cut M.length Q) (CutX M.length E):=by
 cases o with
 | ok c=>exact Cut.app hb_crv hM h
 | error e=>exact cutx_app hM (CErr.hb K e _) h
theorem mem_snoc {M:Mem} {o:Option MO}:(M ++ [o])[M.length]?=some o:=by simp
theorem e_min2 {i j:Int} {M:Mem} {Q:VD} (h:Q (.int (min i j)) M):rMin2_ [.int i,.int j] M Q:=by
 show Q (.int (if j < i then j else i)) M
 have:(if j < i then j else i)=min i j:=by rw [Int.min_def];split <;> split <;> omega
 rw [this];exact h
theorem e_max2 {i j:Int} {M:Mem} {Q:VD} (h:Q (.int (max i j)) M):rMax2_ [.int i,.int j] M Q:=by
 show Q (.int (if j > i then j else i)) M
 have:(if j > i then j else i)=max i j:=by rw [Int.max_def];split <;> split <;> omega
 rw [this];exact h
theorem toldX_1 {K:PySem.W.Frag} {x z f:Str} {d:D} {Q:VD} {M:Mem} (Z:XFa K x [f]) (hz:xfields z=[f]) (hf:f≠"code") (h:Q (.tup [.str "no",.str z,d]) M) :
  toldX K [.ref (He.ga K "RoundError"),.ref (He.ga K "Missing"),.ref (He.ga K "NothingLeft")] (fieldsSp K) Q ⟨He.ga K x,[(f,d),("code",.str z)]⟩ M:=by
 have e:(("code":Str) == f)=false:=by simpa using hf.symm
 have e2:(f == f)=true:=by simp
 refine ⟨Z.exm,Z.xf,Z.no _ List.mem_cons_self,z,?_,_,_,_,z,[d],rfl,Z.xf,by rw [hz];exact Z.no,?_,?_,by show 3<=sizeLine/\_;exact ⟨by decide,h⟩⟩
 ·show List.lookup ("code":Str) [(f,d),("code",.str z)]=_
  rw [List.lookup_cons,e];rfl
 ·show List.lookup ("code":Str) [(f,d),("code",.str z)]=_
  rw [List.lookup_cons,e];rfl
 ·rw [hz]
  show [List.lookup f [(f,d),("code",.str z)]]=_
  rw [List.lookup_cons,e2];rfl
end DL
namespace DL
open PySem PySem.Spec PyProof.Rows L2
def lcUM (g:TGD) (tt:TTD) (te:TED) (vs:List Nat) (k:Nat):List D->Rho->Mem->VD->Prop
 | []=>fun _ M Q=>Q (.mt k) M
 | d :: r=>fun rho M Q=>g d noE (wipeD rho vs) M fun rho' M1=>tt noE rho' M1 fun b M2=>if b=true then te noE rho' M2 (fun y M3=>∃ acc,M3[k]?=some (some (.lst acc))/\acc.length < sizeLine/\lcUM g tt te vs k r rho (M3.set k (some (.lst (acc ++ [y])))) Q) else lcUM g tt te vs k r rho M2 Q
abbrev dLcM (it:TID) (g:TGD) (tt:TTD) (te:TED) (vs:List Nat):TED:=fun E rho M Q=>it E rho M fun ds M1=>lcUM g tt te vs M1.length ds rho (M1 ++ [some (.lst [])]) Q
theorem lcM_lift {K:PySem.W.Frag} {Tb:List (Addr×Str)} {EV:XK} {it:TID} {gV:TG} {g:TGD} {tt:TTD} {te:TED} {vs:List Nat} (hN:TgN K gV g vs) {σ:L2.St} {H:Hp} {QV:VK} (h:lift K Tb EV (dLcM it g tt te vs) σ H QV) :
  tLc (liftI K Tb EV it) gV (liftT K Tb E0 tt) (lift K Tb E0 te) vs σ H QV:=by
 obtain ⟨al,rho,M,E,Q,a,t,p⟩:=h
 refine ⟨al,rho,M,E,_,a,t,fun al0 ds M0 H0 J s0 w0 ok q D0 hD0=>?_⟩
 have a0:=a.go s0 w0
 obtain ⟨S0,W0,R0⟩:=mut_lst (ds:=[]) (xs:=[]) w0 hD0 rfl
 have k0:(al0.push D0).a[M0.length]?=some D0:=al_last w0
 refine ⟨fun i m H1=>m=ds.length - i/\i<=ds.length/\∃ (al1:Al) (M1:Mem),Stp (al0.push D0) (M0 ++ [some (.lst [])]) (upd H0 D0 (.lst [])) al1 M1 H1/\Wf K Tb al1 H1 M1/\RpS K al1 M1 H1 σ rho /\
   lcUM g tt te vs M0.length (ds.drop i) rho M1 Q,⟨ds.length,by simp,Nat.zero_le _,al0.push D0,_,Stp.refl ..,W0,?_,by simpa using q⟩,?_⟩
 ·exact a0.sl.mono S0
 ·rintro i m H1 ⟨rfl,hi,al1,M1,s1,w1,sl1,t1⟩
  have sw:=(S0.trans s1).stw
  by_cases hlt:i < ds.length
  ·have e:ds[i]?=some ds[i]:=by simp [hlt]
   have ed:ds.drop i=ds[i] :: ds.drop (i+1):=List.drop_eq_getElem_cons hlt
   rw [ed] at t1
   refine .inr ⟨ok.go _ _ _ sw w1 i _ e,fun H2=>∃ (al2:Al) (M2:Mem),Stp (al0.push D0) (M0 ++ [some (.lst [])]) (upd H0 D0 (.lst [])) al2 M2 H2/\Wf K Tb al2 H2 M2/\RpS K al2 M2 H2 σ rho /\
    lcUM g tt te vs M0.length (ds.drop (i+1)) rho M2 Q,fun H2 h2=>⟨ds.length - (i+1),by omega,rfl,hlt,h2⟩,fun x H2 y=>?_⟩
   obtain ⟨s2,w2,r2⟩:=ok.yld _ _ _ sw w1 i _ x H2 e y
   have sl2:=sl1.mono s2
   refine hN _ _ _ _ _ _ _ _ _ _ (wipe_ok sl2 vs) r2 t1 fun σ' rho' ew sl' t2=>⟨by rw [ew];exact wipe_wipe fun _ h=>h,?_⟩
   have aB:At K Tb E0 al1 σ' H2 rho' M1 noE:=⟨w2,sl',fun _ _ _ _ _ _ _ _ _ z=>z⟩
   have S2:=s1.trans s2
   refine seqT aB t2 fun al3 b M3 H3 s3 a3 q3=>?_
   have S3:=S2.trans s3
   cases b with
   | false =>
    rw [if_neg Bool.false_ne_true]
    refine ⟨al3,M3,S3,a3.wf,sl2.mono s3,q3⟩
   | true =>
    rw [if_pos rfl]
    refine seq1 a3 q3 fun al4 d4 M4 v4 H4 s4 a4 r4 q4=>?_
    have S4:=S3.trans s4
    obtain ⟨acc,e1,hl,q4⟩:=q4
    have kk:=S4.pre _ _ k0
    obtain ⟨ys,hD4,ru⟩:=a4.wf.rep _ _ _ kk e1
    obtain ⟨g1,g2⟩:=set_lst a4.wf kk e1 hD4 (ru.append (show Rps K al4 M4 H4 [d4] [v4] from ⟨v4,[],rfl,r4,rfl⟩))
    exact ⟨ys,hD4,by rw [<- ru.length];exact hl,al4,_,S4.trans g1,g2,(sl2.mono (s3.trans s4)).mono g1,q4⟩
  ·have e:i=ds.length:=by omega
   subst e
   refine .inl ⟨ok.stop _ _ _ sw w1,?_⟩
   simp [lcUM] at t1
   exact p al1 (.mt M0.length) M1 _ H1 (s0.trans (S0.trans s1)) w1 ⟨D0,s1.pre _ _ k0,rfl⟩ t1
section
variable {X:Cx} {Tb:List (Addr×Str)} {EV:XK} {elt tg iter:Expr} {ifs:List Expr} {scope:Scope} {own:List (Str×Nat)} {pos:Pos} {it:TID} {gV:TG} {g:TGD} {tt:TTD} {te:TED}
theorem dv_lcM (hc:X.calm=true) (hN:X.N.Nodup) (hi:PDI X Tb EV tg iter it) (ok:BlkOk X.N X.env.scope scope own) (hT:TgN X.K gV g (own.map (·.2)))
  (hg:∀ (s:Shared) (H:Hp) (C:Addr) (cl:List (Str×Addr)) (fp:List Addr),PG (X.blk s H scope (compEnvC scope cl C X.env) fp) tg gV) (ht:∀ (s:Shared) (H:Hp) (C:Addr) (cl:List (Str×Addr)) (fp:List Addr),PTs (X.blk s H scope (compEnvC scope cl C X.env) fp) ifs (liftT X.K Tb E0 tt))
  (he:∀ (s:Shared) (H:Hp) (C:Addr) (cl:List (Str×Addr)) (fp:List Addr),PD (X.blk s H scope (compEnvC scope cl C X.env) fp) Tb E0 elt te) (hs:∀ x,foldedSetIterable iter X.env x=pure x:=by intro _;rfl) :
  PD X Tb EV (.ListComp elt [⟨tg,iter,ifs,0⟩] scope pos) (dLcM it g tt te (own.map (·.2))):=pe_imp (pe_lc hc hN hi ok hg ht he hs) fun _ _ _ h=>lcM_lift hT h
end
theorem lcM_inv {g:TGD} {tt:TTD} {te:TED} {vs:List Nat} {k:Nat} {rho:Rho} {Q:VD} (Pv:List D->Mem->Prop)
  (hs:∀ d r M (N:Mem->Prop),Pv (d :: r) M->(∀ M',Pv r M'->N M')->g d noE (wipeD rho vs) M fun rho' M1=>tt noE rho' M1 fun b M2=>if b=true then te noE rho' M2 (fun y M3=>∃ acc,M3[k]?=some (some (.lst acc))/\acc.length < sizeLine/\N (M3.set k (some (.lst (acc ++ [y]))))) else N M2)
  (hd:∀ M,Pv [] M->Q (.mt k) M):∀ ds M,Pv ds M->lcUM g tt te vs k ds rho M Q
 | [],M,h=>hd M h
 | d :: r,M,h=>hs d r M (fun M=>lcUM g tt te vs k r rho M Q) h fun M' h'=>lcM_inv Pv hs hd r M' h'
theorem lcM_range {g:TGD} {tt:TTD} {te:TED} {vs:List Nat} {k:Nat} {rho:Rho} {Q:VD} {n:Nat} {M:Mem} (Pv:Nat->Mem->Prop) (h0:Pv 0 M)
  (hs:∀ j M (N:Mem->Prop),j < n->Pv j M->(∀ M',Pv (j+1) M'->N M')->g (.int (j:Int)) noE (wipeD rho vs) M fun rho' M1=>tt noE rho' M1 fun b M2=>if b=true then te noE rho' M2 (fun y M3=>∃ acc,M3[k]?=some (some (.lst acc))/\acc.length < sizeLine/\N (M3.set k (some (.lst (acc ++ [y]))))) else N M2)
  (hd:∀ M,Pv n M->Q (.mt k) M):lcUM g tt te vs k (rangeD 0 n) rho M Q:=by
 refine lcM_inv (fun ds M=>∃ j,j<=n/\ds=(rangeD 0 n).drop j/\Pv j M) ?_ ?_ _ _ ⟨0,Nat.zero_le _,rfl,h0⟩
 ·rintro d r M N ⟨j,hj,e,p⟩ hN
  have hj':j < n:=by
   rcases Nat.lt_or_ge j n with h | h
   ·exact h
   ·have:(rangeD 0 n).drop j=[]:=List.drop_of_length_le (by simp [rangeD];exact h)
    rw [this] at e;cases e
  rw [range_drop hj'] at e
  cases e
  exact hs j M N hj' p fun M' q=>hN _ ⟨j+1,hj',rfl,q⟩
 ·rintro M ⟨j,hj,e,p⟩
  have:j=n:=by
   rcases Nat.lt_or_ge j n with h | h
   ·rw [range_drop h] at e;cases e
   ·omega
  exact hd M (this ▸ p)
def hLst (n:Nat) (t:TGsD):TGD:=fun d E rho M Q=>match d with
 | .lst xs=>xs.length=n/\t xs E rho M Q
 | _=>False
theorem e_htl {n:Nat} {t:TGsD} {xs:List D} {E:XD} {rho:Rho} {M:Mem} {N:Rho->Mem->Prop} (h0:xs.length=n) (h:t xs E rho M N):hLst n t (.lst xs) E rho M N:=⟨h0,h⟩
end DL
namespace DL
open PySem PySem.Spec PyProof.Rows L2 ZN
section
variable {X:Cx} {Tb:List (Addr×Str)} {EV:XK} {a o e:Expr} {ta:TAD} {t te:TED} {p p' pos pos' tpos:Pos} {elts:List Expr} {kk:Nat} {tg:Expr}
def dRevS (t:TED):TED:=fun E rho M Q=>t E rho M fun x M1=>match asL M1 x with
 | some xs=>Q (.lst xs.reverse) M1
 | none=>False
theorem dv_rev {k:Nat} {p1 p2 p3:Pos} (he:PD X Tb EV e te):PD X Tb EV (.Subscript e (.Slice none none (some (.UnaryOp .USub (.Constant (.int 1) k p1) p2)) p3) pos) (dRevS te):=pe_imp (pe_revL he) fun σ H QV h=>by
 obtain ⟨al,rho,M,E,Q,a,t,p⟩:=h
 refine seq1 a t fun al1 x M1 v H1 s1 a1 r1 q1=>?_
 split at q1
 ·rename_i xs e1
  obtain ⟨b,us,rfl,h1,k1⟩:=asL_ok a1.wf e1 r1
  exact ⟨b,us,rfl,SqL.of h1,fun q hq=>p _ _ _ _ _ (s1.trans (stp_new a1.wf hq _)) (wf_new a1.wf hq _) (rp_lst a1.wf hq k1.rev) q1⟩
 ·exact q1.elim
end
end DL
namespace DL
open PySem PySem.Spec PyProof.Rows L2 Mt
theorem RgA.of {M M':Mem} (g:RgL M [] M'):RgA M M':=⟨[],.nil,g⟩
theorem RgA.to {M M' M'':Mem}:RgA M M'->RgTo M' M.length M''->RgA M M'' | ⟨_,h,g⟩,t=>⟨_,h,g.to t⟩
theorem RgA.cut {M M':Mem} {Q:VD} {d:D}:RgA M M'->d.hb M.length=true->okM M.length M->Q d M->Cut M.length Q d M' | ⟨_,_,g⟩,h,ok,q=>g.cut h ok q
theorem RgA.allL {M':Mem}:RgA [] M'->AllL M' | ⟨_,h,g⟩=>g.allL h
theorem R10.to {M M' M'':Mem} (g:R10 M M') (t:RgTo M' M.length M''):R10 M M'':=⟨g.a.to t,g.ok.rg t⟩
theorem R10.setn {M M':Mem} {k:Nat} (g:R10 M M') (hk:M.length < k):R10 M (M'.set k none):=⟨g.a.set10 hk (.inl rfl),g.ok.setn'⟩
theorem R10.cut {M M':Mem} {Q:VD} {d:D} (g:R10 M M') (h:d.hb M.length=true) (ok:okM M.length M) (q:Q d M):Cut M.length Q d M':=g.a.cut h ok q
def chg (q:Pt) (j:Nat) (x:Rat):Pt:=match j with
 | 0=>⟨x,q.l,q.v,q.r⟩
 | 1=>⟨q.a,x,q.v,q.r⟩
 | 2=>⟨q.a,q.l,x,q.r⟩
 | _=>⟨q.a,q.l,q.v,x⟩
def num4 (q:Pt) (j:Nat):Rat:=match j with
 | 0=>q.a
 | 1=>q.l
 | 2=>q.v
 | _=>q.r
theorem chg_sz {q:Pt} {j:Nat} {x:Rat} {B:Nat} (h:q.sz B) (hx:qs x<=B):(chg q j x).sz B:=by
 obtain ⟨h1,h2,h3,h4⟩:=h
 unfold chg
 split <;> exact ⟨by assumption,by assumption,by assumption,by assumption⟩
theorem num4_sz {q:Pt} {j:Nat} {B:Nat} (h:q.sz B):qs (num4 q j)<=B:=by
 obtain ⟨h1,h2,h3,h4⟩:=h
 unfold num4
 split <;> assumption
theorem chg_row {q:Pt} {j:Nat} {x:Rat} (hj:j < 4):[qD q.a,qD q.l,qD q.v,qD q.r].set j (qD x)=[qD (chg q j x).a,qD (chg q j x).l,qD (chg q j x).v,qD (chg q j x).r]:=by
 have:j=0\/j=1\/j=2\/j=3:=by omega
 rcases this with rfl | rfl | rfl | rfl <;> rfl
theorem num4_at {q:Pt} {j:Nat} (hj:j < 4):L2.atI [qD q.a,qD q.l,qD q.v,qD q.r] (j:Int)=some (qD (num4 q j)):=by
 rw [at_nat (by simpa using hj)]
 have:j=0\/j=1\/j=2\/j=3:=by omega
 rcases this with rfl | rfl | rfl | rfl <;> rfl
theorem ixN_nat {n j:Nat} (h:j < n):L2.ixN n (j:Int)=some j:=by
 unfold L2.ixN
 rw [if_pos (by omega),if_pos (by omega)];rfl
theorem map_set {α β:Type} {f:α->β} {l:List α} {j:Nat} {x:α}:(l.map f).set j (f x)=(l.set j x).map f:=by
 rw [List.map_set]
theorem small_short {p r:Rat} {pts:List Pt} (hp:qs p<=30) (hr:qs r<=30) (hs:∀ q∈pts,q.sz 30) (hne:pts≠[]) (hl:pts.length<=60):(norm p r pts 0).long=false:=by
 have hb:qs (norm p r pts 0).b<=170:=by
  have q0:qs (0:Rat)=1:=by decide
  unfold norm
  split
  ·cases pts with
   | nil=>exact absurd rfl hne
   | cons q l =>
    show qs (q.v - r / p * q.a)<=170
    have h1:=(hs q (List.mem_cons_self ..)).v
    have h2:=(hs q (List.mem_cons_self ..)).a
    have h3:=qs_div r p
    have h4:=qs_mul (r / p) q.a
    have h5:=qs_sub q.v (r / p * q.a)
    omega
  ·show qs (0:Rat)<=170
   omega
 have q0:qs (0:Rat)=1:=by decide
 have q1:qs (1:Rat)=1:=by decide
 have h3:=qs_div r p
 refine Crv.short fun x hx=>?_
 by_cases hk:keptP p r pts=[]
 ·have hc:=norm_str (o:=0) hk
  rw [hc] at hx hb
  simp only [Crv.nums,List.flatMap_nil,List.append_nil,List.mem_cons,List.not_mem_nil,or_false,if_pos] at hx
  rcases hx with rfl | rfl | rfl
  ·omega
  ·omega
  ·exact Nat.le_trans hb (by decide)
 ·have hc:=norm_not (o:=0) hk
  have kle:=eqParts_le (p:=p) (r:=r) hk
  have kl:=kept_len (p:=p) (r:=r) (pts:=pts)
  have tne:=row_take_ne (p:=p) (r:=r) hk
  have qk:qs ((eqParts p r (keptP p r pts):Nat):Rat)<=6:=qs_nat (by show _ < 64;omega) (by decide)
  have d1:=qs_div p ((eqParts p r (keptP p r pts):Nat):Rat)
  have d2:=qs_div r ((eqParts p r (keptP p r pts):Nat):Rat)
  rw [hc] at hx
  simp only [Crv.nums,if_neg tne] at hx
  rcases List.mem_append.mp hx with hx | hx
  ·simp only [List.mem_cons,List.not_mem_nil,or_false] at hx
   rcases hx with rfl | rfl | rfl <;> omega
  ·obtain ⟨q,hq,hx⟩:=List.mem_flatMap.mp hx
   have hs:=hs q (kept_mem (List.mem_of_mem_take hq))
   have s1:=hs.a
   have s2:=hs.l
   have s3:=hs.v
   have s4:=hs.r
   simp only [List.mem_cons,List.not_mem_nil,or_false] at hx
   rcases hx with rfl | rfl | rfl | rfl <;> omega
theorem e_lsP {q:Pt} {M:Mem} {Q:VD} (h:Q (.mt M.length) (M ++ [some (.lst [qD q.a,qD q.l,qD q.v,qD q.r])])):rListM_ [ptD q] M Q:=h
theorem pick10 {d:D} (h:d∈[D.tup [.int 1,.int 2],.tup [.int (-1),.int 2],.tup [.int 1,.int 1],.tup [.int (-1),.int 1],.tup [.int 9,.int 1]]):∃ x:Rat,d=qD x/\qs x<=5:=by
 simp only [List.mem_cons,List.not_mem_nil,or_false] at h
 rcases h with rfl | rfl | rfl | rfl | rfl
 ·exact ⟨⟨1,2,by decide,by decide⟩,rfl,by decide +kernel⟩
 ·exact ⟨⟨-1,2,by decide,by decide⟩,rfl,by decide +kernel⟩
 ·exact ⟨1,rfl,by decide +kernel⟩
 ·exact ⟨-1,rfl,by decide +kernel⟩
 ·exact ⟨9,rfl,by decide +kernel⟩
theorem chg_tup {q:Pt} {j:Nat} {x:Rat} (hj:j < 4):D.tup ([qD q.a,qD q.l,qD q.v,qD q.r].set j (qD x))=ptD (chg q j x):=by rw [chg_row hj];rfl
def rRv (x:D) (M:Mem) (Q:VD):Prop:=match asL M x with
 | some xs=>Q (.lst xs.reverse) M
 | none=>False
theorem e_rv0 {t:TED} {E:XD} {rho:Rho} {M:Mem} {Q:VD} (h:t E rho M fun x M1=>rRv x M1 Q):dRevS t E rho M Q:=h
theorem e_rv {xs:List D} {M:Mem} {Q:VD} (h:Q (.lst xs.reverse) M):rRv (.lst xs) M Q:=h
theorem e_rvM {xs:List D} {i:Nat} {M:Mem} {Q:VD} (e:M[i]?=some (some (.lst xs))) (h:Q (.lst xs.reverse) M):rRv (.mt i) M Q:=by
 unfold rRv
 rw [show asL M (.mt i)=some xs from memL_at e]
 exact h
theorem first_v {p r:Rat} {pts:List Pt} (ok:okPts p r pts) (hl:0 < pts.length):((norm p r pts 0).arn pts[0].a).v=pts[0].v:=by
 have hne:pts≠[]:=fun h=>by subst h;simp at hl
 rw [norm_arn ok hne]
 have:=(ok.trk hne).arn_pt (k:=0)
 have e:rowAt p r pts 0=pts[0]:=rowAt_nat 0 hl
 rw [e] at this
 rw [this]
theorem e_slM {i:Nat} {xs:List D} {lo hi:Option Int} {M:Mem} {Q:VD} (e:M[i]?=some (some (.lst xs))) (h:Q (.lst (cutL xs lo hi)) M):rSl_ (.mt i) lo hi M Q:=by
 have e':asL M (.mt i)=some xs:=memL_at e
 show (match asL M (.mt i) with
  | some xs=>Q (.lst (cutL xs lo hi)) M
  | none=>False)
 rw [e'];exact h
end DL
namespace LW
open PySem PySem.Spec PyProof.Rows L2 DL Mt
section
variable {P:Program} {w:World} {K:PySem.W.Frag} {mg:Str->Option Value} {base:Heap} {Tb:List (Addr×Str)}
abbrev CC_ZERO (K:PySem.W.Frag) (mg:Str->Option Value):Prop:=CcD K mg "ZERO" (.tup [(.int 0),(.int 1)])
abbrev CC_ONE (K:PySem.W.Frag) (mg:Str->Option Value):Prop:=CcD K mg "ONE" (.tup [(.int 1),(.int 1)])
abbrev DD_ZERO:D:=(.tup [(.int 0),(.int 1)])
theorem sc_InvalidFractionu_initu:FnScope ["self"] ["self"] (defScope s_InvalidFractionu_initu):=⟨rfl,rfl,rfl,by decide +kernel,rfl,by decide +kernel,by decide +kernel⟩
abbrev F_InvalidFractionu_initu (K:PySem.W.Frag) (f:Addr) (fd:FuncData):Prop:=FunD K "__init__" "InvalidFraction.__init__" (defArgs s_InvalidFractionu_initu) (defBody s_InvalidFractionu_initu) (defScope s_InvalidFractionu_initu) [] [] f fd
theorem bd_InvalidFractionu_initu {K:PySem.W.Frag} {f:Addr} {fd:FuncData} (F:F_InvalidFractionu_initu K f fd):Binds K fd ["self"] []:=F.bindsN fun _ _ _ _ _ _ us hl=>match us,hl with | [_],_=>rfl
abbrev XC_InvalidFraction (P:Program) (w:World) (K:PySem.W.Frag) (mg:Str->Option Value) (base:Heap):=XCal P w K mg base "InvalidFraction" [("code",.k "InvalidFraction")] 0 1
theorem ok_InvalidFractionu_initu {C fI:Addr} {fdI:FuncData} (F:F_InvalidFractionu_initu K fI fdI) (T:OexC K C) (h_code:PySem.W.findIn K (.ref C) "code"=some none):FnOk P w K mg base (L2.CX P w) 1 fI fdI ["self"] (spX C [("code",.k "InvalidFraction")] 0):=by
 refine F.ok sc_InvalidFractionu_initu (fun vs H Q E h=>?_) (fun cdv A outer s H vs Q E hr h=>⟨_,(pss_one (ps_ost (pv 0) pe_str)),?_⟩)
 ·obtain ⟨a,ws,rfl,hl,_⟩:=h
  show ws.length+1=_
  rw [hl];rfl
 ·obtain ⟨a,ws,rfl,hl,h0,hQ⟩:=h
  match ws,hl with
  | [],_=>exact init_first T h_code h0 ev_c (ev_var rfl) fun dx h1 h2=>hQ dx h1 h2
theorem sc_InvalidCurveu_initu:FnScope ["self"] ["self"] (defScope s_InvalidCurveu_initu):=⟨rfl,rfl,rfl,by decide +kernel,rfl,by decide +kernel,by decide +kernel⟩
abbrev F_InvalidCurveu_initu (K:PySem.W.Frag) (f:Addr) (fd:FuncData):Prop:=FunD K "__init__" "InvalidCurve.__init__" (defArgs s_InvalidCurveu_initu) (defBody s_InvalidCurveu_initu) (defScope s_InvalidCurveu_initu) [] [] f fd
theorem bd_InvalidCurveu_initu {K:PySem.W.Frag} {f:Addr} {fd:FuncData} (F:F_InvalidCurveu_initu K f fd):Binds K fd ["self"] []:=F.bindsN fun _ _ _ _ _ _ us hl=>match us,hl with | [_],_=>rfl
abbrev XC_InvalidCurve (P:Program) (w:World) (K:PySem.W.Frag) (mg:Str->Option Value) (base:Heap):=XCal P w K mg base "InvalidCurve" [("code",.k "InvalidCurve")] 0 1
theorem ok_InvalidCurveu_initu {C fI:Addr} {fdI:FuncData} (F:F_InvalidCurveu_initu K fI fdI) (T:OexC K C) (h_code:PySem.W.findIn K (.ref C) "code"=some none):FnOk P w K mg base (L2.CX P w) 1 fI fdI ["self"] (spX C [("code",.k "InvalidCurve")] 0):=by
 refine F.ok sc_InvalidCurveu_initu (fun vs H Q E h=>?_) (fun cdv A outer s H vs Q E hr h=>⟨_,(pss_one (ps_ost (pv 0) pe_str)),?_⟩)
 ·obtain ⟨a,ws,rfl,hl,_⟩:=h
  show ws.length+1=_
  rw [hl];rfl
 ·obtain ⟨a,ws,rfl,hl,h0,hQ⟩:=h
  match ws,hl with
  | [],_=>exact init_first T h_code h0 ev_c (ev_var rfl) fun dx h1 h2=>hQ dx h1 h2
theorem sc_TooLongu_initu:FnScope ["self","limit"] ["self","limit"] (defScope s_TooLongu_initu):=⟨rfl,rfl,rfl,by decide +kernel,rfl,by decide +kernel,by decide +kernel⟩
abbrev F_TooLongu_initu (K:PySem.W.Frag) (f:Addr) (fd:FuncData):Prop:=FunD K "__init__" "TooLong.__init__" (defArgs s_TooLongu_initu) (defBody s_TooLongu_initu) (defScope s_TooLongu_initu) [] [] f fd
theorem bd_TooLongu_initu {K:PySem.W.Frag} {f:Addr} {fd:FuncData} (F:F_TooLongu_initu K f fd):Binds K fd ["self","limit"] []:=F.bindsN fun _ _ _ _ _ _ us hl=>match us,hl with | [_,_],_=>rfl
abbrev XC_TooLong (P:Program) (w:World) (K:PySem.W.Frag) (mg:Str->Option Value) (base:Heap):=XCal P w K mg base "TooLong" [("limit",.p 0),("code",.k "TooLong")] 1 1
theorem ok_TooLongu_initu {C fI:Addr} {fdI:FuncData} (F:F_TooLongu_initu K fI fdI) (T:OexC K C) (h_code:PySem.W.findIn K (.ref C) "code"=some none) (h_limit:PySem.W.findIn K (.ref C) "limit"=some none):FnOk P w K mg base (L2.CX P w) 1 fI fdI ["self","limit"] (spX C [("limit",.p 0),("code",.k "TooLong")] 1):=by
 refine F.ok sc_TooLongu_initu (fun vs H Q E h=>?_) (fun cdv A outer s H vs Q E hr h=>⟨_,(pss_cons (ps_ost (pv 0) pe_str) (pss_one (ps_ost (pv 0) (pv 1)))),?_⟩)
 ·obtain ⟨a,ws,rfl,hl,_⟩:=h
  show ws.length+1=_
  rw [hl];rfl
 ·obtain ⟨a,ws,rfl,hl,h0,hQ⟩:=h
  match ws,hl with
  | [w0],_=>exact init_first T h_code h0 ev_c (ev_var rfl) fun dx h1 h2=>init_next T h_limit h2 (by decide) (ev_var rfl) (ev_var rfl) (hQ dx h1 h2)
theorem sc_TooManyu_initu:FnScope ["self","limit"] ["self","limit"] (defScope s_TooManyu_initu):=⟨rfl,rfl,rfl,by decide +kernel,rfl,by decide +kernel,by decide +kernel⟩
abbrev F_TooManyu_initu (K:PySem.W.Frag) (f:Addr) (fd:FuncData):Prop:=FunD K "__init__" "TooMany.__init__" (defArgs s_TooManyu_initu) (defBody s_TooManyu_initu) (defScope s_TooManyu_initu) [] [] f fd
theorem bd_TooManyu_initu {K:PySem.W.Frag} {f:Addr} {fd:FuncData} (F:F_TooManyu_initu K f fd):Binds K fd ["self","limit"] []:=F.bindsN fun _ _ _ _ _ _ us hl=>match us,hl with | [_,_],_=>rfl
abbrev XC_TooMany (P:Program) (w:World) (K:PySem.W.Frag) (mg:Str->Option Value) (base:Heap):=XCal P w K mg base "TooMany" [("limit",.p 0),("code",.k "TooMany")] 1 1
theorem ok_TooManyu_initu {C fI:Addr} {fdI:FuncData} (F:F_TooManyu_initu K fI fdI) (T:OexC K C) (h_code:PySem.W.findIn K (.ref C) "code"=some none) (h_limit:PySem.W.findIn K (.ref C) "limit"=some none):FnOk P w K mg base (L2.CX P w) 1 fI fdI ["self","limit"] (spX C [("limit",.p 0),("code",.k "TooMany")] 1):=by
 refine F.ok sc_TooManyu_initu (fun vs H Q E h=>?_) (fun cdv A outer s H vs Q E hr h=>⟨_,(pss_cons (ps_ost (pv 0) pe_str) (pss_one (ps_ost (pv 0) (pv 1)))),?_⟩)
 ·obtain ⟨a,ws,rfl,hl,_⟩:=h
  show ws.length+1=_
  rw [hl];rfl
 ·obtain ⟨a,ws,rfl,hl,h0,hQ⟩:=h
  match ws,hl with
  | [w0],_=>exact init_first T h_code h0 ev_c (ev_var rfl) fun dx h1 h2=>init_next T h_limit h2 (by decide) (ev_var rfl) (ev_var rfl) (hQ dx h1 h2)
theorem sc__law_told:FnScope ["_law_ask","_law_e"] ["_law_ask"] (defScope s__law_told):=⟨rfl,rfl,rfl,by decide +kernel,rfl,by decide +kernel,by decide +kernel⟩
abbrev F__law_told (K:PySem.W.Frag) (f:Addr) (fd:FuncData):Prop:=FunD K "_law_told" "_law_told" (defArgs s__law_told) (defBody s__law_told) (defScope s__law_told) [] [] f fd
theorem bd__law_told {K:PySem.W.Frag} {f:Addr} {fd:FuncData} (F:F__law_told K f fd):Binds K fd ["_law_ask"] []:=F.bindsN fun _ _ _ _ _ _ us hl=>match us,hl with | [_],_=>rfl
theorem sc__law_fields:FnScope ["_law_e"] ["_law_e"] (defScope s__law_fields):=⟨rfl,rfl,rfl,by decide +kernel,rfl,by decide +kernel,by decide +kernel⟩
abbrev F__law_fields (K:PySem.W.Frag) (f:Addr) (fd:FuncData):Prop:=FunD K "_law_fields" "_law_fields" (defArgs s__law_fields) (defBody s__law_fields) (defScope s__law_fields) [] [] f fd
theorem bd__law_fields {K:PySem.W.Frag} {f:Addr} {fd:FuncData} (F:F__law_fields K f fd):Binds K fd ["_law_e"] []:=F.bindsN fun _ _ _ _ _ _ us hl=>match us,hl with | [_],_=>rfl
abbrev sp__law_fields (K:PySem.W.Frag):DSp:=fieldsSp K
theorem sc__law_begin:FnScope ["_law_script","_law_salt","_law_cell"] ["_law_script"] (defScope s__law_begin):=⟨rfl,rfl,rfl,by decide +kernel,rfl,by decide +kernel,by decide +kernel⟩
abbrev F__law_begin (K:PySem.W.Frag) (f:Addr) (fd:FuncData):Prop:=FunD K "_law_begin" "_law_begin" (defArgs s__law_begin) (defBody s__law_begin) (defScope s__law_begin) [] [] f fd
theorem bd__law_begin {K:PySem.W.Frag} {f:Addr} {fd:FuncData} (F:F__law_begin K f fd):Binds K fd ["_law_script"] []:=F.bindsN fun _ _ _ _ _ _ us hl=>match us,hl with | [_],_=>rfl
def sp__law_begin:DSp:=fun ds M Q E=>∃ ns:List Int,ds=[.rol (ns.map D.int)]/\∀ r:Rng,r.Ok->Q (.mt M.length) (M ++ [some r.mo])
abbrev Cal__law_begin (P:Program) (w:World) (K:PySem.W.Frag) (mg:Str->Option Value) (base:Heap) (Tb:List (Addr×Str)):=Cal P w K mg base Tb "_law_begin" "_law_begin" s__law_begin [] [] 1 ["_law_script"] sp__law_begin
theorem sc__law_draw:FnScope ["_law_rng","_law_many","_law_cell","_law_got","_law_seed"] ["_law_rng","_law_many"] (defScope s__law_draw):=⟨rfl,rfl,rfl,by decide +kernel,rfl,by decide +kernel,by decide +kernel⟩
abbrev F__law_draw (K:PySem.W.Frag) (f:Addr) (fd:FuncData):Prop:=FunD K "_law_draw" "_law_draw" (defArgs s__law_draw) (defBody s__law_draw) (defScope s__law_draw) [] [] f fd
theorem bd__law_draw {K:PySem.W.Frag} {f:Addr} {fd:FuncData} (F:F__law_draw K f fd):Binds K fd ["_law_rng","_law_many"] []:=F.bindsN fun _ _ _ _ _ _ us hl=>match us,hl with | [_,_],_=>rfl
abbrev sp__law_draw:DSp:=drawSp
abbrev Cal__law_draw (P:Program) (w:World) (K:PySem.W.Frag) (mg:Str->Option Value) (base:Heap) (Tb:List (Addr×Str)):=Cal P w K mg base Tb "_law_draw" "_law_draw" s__law_draw [] [] 1 ["_law_rng","_law_many"] sp__law_draw
theorem sc__law_pick:FnScope ["_law_rng","_law_some"] ["_law_rng","_law_some"] (defScope s__law_pick):=⟨rfl,rfl,rfl,by decide +kernel,rfl,by decide +kernel,by decide +kernel⟩
abbrev F__law_pick (K:PySem.W.Frag) (f:Addr) (fd:FuncData):Prop:=FunD K "_law_pick" "_law_pick" (defArgs s__law_pick) (defBody s__law_pick) (defScope s__law_pick) [] [] f fd
theorem bd__law_pick {K:PySem.W.Frag} {f:Addr} {fd:FuncData} (F:F__law_pick K f fd):Binds K fd ["_law_rng","_law_some"] []:=F.bindsN fun _ _ _ _ _ _ us hl=>match us,hl with | [_,_],_=>rfl
abbrev sp__law_pick:DSp:=pickSp
abbrev Cal__law_pick (P:Program) (w:World) (K:PySem.W.Frag) (mg:Str->Option Value) (base:Heap) (Tb:List (Addr×Str)):=Cal P w K mg base Tb "_law_pick" "_law_pick" s__law_pick [] [] 2 ["_law_rng","_law_some"] sp__law_pick
theorem sc__law_stairs:FnScope ["_law_rng","_law_many","_law_k"] ["_law_rng","_law_many"] (defScope s__law_stairs):=⟨rfl,rfl,rfl,by decide +kernel,rfl,by decide +kernel,by decide +kernel⟩
abbrev F__law_stairs (K:PySem.W.Frag) (f:Addr) (fd:FuncData):Prop:=FunD K "_law_stairs" "_law_stairs" (defArgs s__law_stairs) (defBody s__law_stairs) (defScope s__law_stairs) [] [] f fd
theorem bd__law_stairs {K:PySem.W.Frag} {f:Addr} {fd:FuncData} (F:F__law_stairs K f fd):Binds K fd ["_law_rng","_law_many"] []:=F.bindsN fun _ _ _ _ _ _ us hl=>match us,hl with | [_,_],_=>rfl
def stPt (k:Nat):Pt:=⟨(k:Rat),(k:Rat),(k:Rat),((k+1:Nat):Rat)⟩
def sp__law_stairs:DSp:=fun ds M Q E=>∃ (r:D) (m:Nat),ds=[r,.int m]/\m<=100/\Q (.mt M.length) (M ++ [some (.lst ((List.range m).map fun k=>ptD (stPt k)))])
abbrev Cal__law_stairs (P:Program) (w:World) (K:PySem.W.Frag) (mg:Str->Option Value) (base:Heap) (Tb:List (Addr×Str)):=Cal P w K mg base Tb "_law_stairs" "_law_stairs" s__law_stairs [] [] 1 ["_law_rng","_law_many"] sp__law_stairs
theorem sc__law_lowest:FnScope ["_law_top","_law_bottom","_law_one","_law_other"] ["_law_top","_law_bottom"] (defScope s__law_lowest):=⟨rfl,rfl,rfl,by decide +kernel,rfl,by decide +kernel,by decide +kernel⟩
abbrev F__law_lowest (K:PySem.W.Frag) (f:Addr) (fd:FuncData):Prop:=FunD K "_law_lowest" "_law_lowest" (defArgs s__law_lowest) (defBody s__law_lowest) (defScope s__law_lowest) [] [] f fd
theorem bd__law_lowest {K:PySem.W.Frag} {f:Addr} {fd:FuncData} (F:F__law_lowest K f fd):Binds K fd ["_law_top","_law_bottom"] []:=F.bindsN fun _ _ _ _ _ _ us hl=>match us,hl with | [_,_],_=>rfl
def sp__law_lowest:DSp:=fun ds M Q E=>∃ (a b:Int),ds=[.int a,.int b]/\b≠0/\bz b<=16000000/\Q (qD (Rat.divInt a b)) M
abbrev Cal__law_lowest (P:Program) (w:World) (K:PySem.W.Frag) (mg:Str->Option Value) (base:Heap) (Tb:List (Addr×Str)):=Cal P w K mg base Tb "_law_lowest" "_law_lowest" s__law_lowest [] [] 33 ["_law_top","_law_bottom"] sp__law_lowest
theorem sc__law_plus:FnScope ["_law_one","_law_other"] ["_law_one","_law_other"] (defScope s__law_plus):=⟨rfl,rfl,rfl,by decide +kernel,rfl,by decide +kernel,by decide +kernel⟩
abbrev F__law_plus (K:PySem.W.Frag) (f:Addr) (fd:FuncData):Prop:=FunD K "_law_plus" "_law_plus" (defArgs s__law_plus) (defBody s__law_plus) (defScope s__law_plus) [] [] f fd
theorem bd__law_plus {K:PySem.W.Frag} {f:Addr} {fd:FuncData} (F:F__law_plus K f fd):Binds K fd ["_law_one","_law_other"] []:=F.bindsN fun _ _ _ _ _ _ us hl=>match us,hl with | [_,_],_=>rfl
def sp__law_plus:DSp:=fun ds M Q E=>∃ (a b:Rat),ds=[qD a,qD b]/\qs a<=8000000/\qs a+qs b<=8000000/\Q (qD (a+b)) M
abbrev Cal__law_plus (P:Program) (w:World) (K:PySem.W.Frag) (mg:Str->Option Value) (base:Heap) (Tb:List (Addr×Str)):=Cal P w K mg base Tb "_law_plus" "_law_plus" s__law_plus [] [] 34 ["_law_one","_law_other"] sp__law_plus
theorem sc_compare:FnScope ["one","other","gap"] ["one","other"] (defScope s_compare):=⟨rfl,rfl,rfl,by decide +kernel,rfl,by decide +kernel,by decide +kernel⟩
abbrev F_compare (K:PySem.W.Frag) (f:Addr) (fd:FuncData):Prop:=FunD K "compare" "compare" (defArgs s_compare) (defBody s_compare) (defScope s_compare) [] [] f fd
theorem bd_compare {K:PySem.W.Frag} {f:Addr} {fd:FuncData} (F:F_compare K f fd):Binds K fd ["one","other"] []:=F.bindsN fun _ _ _ _ _ _ us hl=>match us,hl with | [_,_],_=>rfl
def sp_compare:DSp:=fun ds M Q E=>∃ (a b:Rat),ds=[qD a,qD b]/\qs a<=30000000/\qs b<=30000000/\Q (.int (gapS (a.num * b.den - b.num * a.den))) M
abbrev Cal_compare (P:Program) (w:World) (K:PySem.W.Frag) (mg:Str->Option Value) (base:Heap) (Tb:List (Addr×Str)):=Cal P w K mg base Tb "compare" "compare" s_compare [] [] 1 ["one","other"] sp_compare
theorem sc_common_divisor:FnScope ["one","other"] ["one","other"] (defScope s_common_divisor):=⟨rfl,rfl,rfl,by decide +kernel,rfl,by decide +kernel,by decide +kernel⟩
abbrev F_common_divisor (K:PySem.W.Frag) (f:Addr) (fd:FuncData):Prop:=FunD K "common_divisor" "common_divisor" (defArgs s_common_divisor) (defBody s_common_divisor) (defScope s_common_divisor) [] [] f fd
theorem bd_common_divisor {K:PySem.W.Frag} {f:Addr} {fd:FuncData} (F:F_common_divisor K f fd):Binds K fd ["one","other"] []:=F.bindsN fun _ _ _ _ _ _ us hl=>match us,hl with | [_,_],_=>rfl
def sp_common_divisor:DSp:=fun ds M Q E=>∃ (a b:Int),ds=[.int a,.int b]/\Q (.int (Int.gcd a b)) M
abbrev Cal_common_divisor (P:Program) (w:World) (K:PySem.W.Frag) (mg:Str->Option Value) (base:Heap) (Tb:List (Addr×Str)):=Cal P w K mg base Tb "common_divisor" "common_divisor" s_common_divisor [] [] 1 ["one","other"] sp_common_divisor
theorem sc_fraction:FnScope ["numerator","denominator","shared"] ["numerator","denominator"] (defScope s_fraction):=⟨rfl,rfl,rfl,by decide +kernel,rfl,by decide +kernel,by decide +kernel⟩
abbrev F_fraction (K:PySem.W.Frag) (f:Addr) (fd:FuncData):Prop:=FunD K "fraction" "fraction" (defArgs s_fraction) (defBody s_fraction) (defScope s_fraction) [.int 1] [] f fd
def sp_fraction (K:PySem.W.Frag):DSp:=fun ds M Q E=>∃ (a b:Int),ds=[.int a,.int b]/\bz b<=16000000/\(b=0->E ⟨He.ga K "InvalidFraction",[("code",.str "InvalidFraction")]⟩ M)/\(b≠0->Q (qD (Rat.divInt a b)) M)
abbrev Cal_fraction (P:Program) (w:World) (K:PySem.W.Frag) (mg:Str->Option Value) (base:Heap) (Tb:List (Addr×Str)):=Cal P w K mg base Tb "fraction" "fraction" s_fraction [.int 1] [] 33 ["numerator","denominator"] (sp_fraction K)
theorem cs_fraction {K:PySem.W.Frag}:CsD K [.int 1] [.int 1]:=fun _ _ _=>⟨_,_,rfl,rfl,rfl⟩
theorem kb_fraction_2_ {f:Addr} {fd:FuncData} (F:F_fraction K f fd):KBp K fd ["numerator","denominator"] 2 [] [0,1] [.int 1]:=kbp_dfl F (by simp) 2 [] [0,1] fun _ _ _ _ _ _ _ us its ws h1 h2 h3=>match us,its,ws,h1,h2,h3 with | [_,_],[_],[],_,_,_=>⟨_,rfl,rfl⟩
theorem sc_times:FnScope ["number","value"] ["number","value"] (defScope s_times):=⟨rfl,rfl,rfl,by decide +kernel,rfl,by decide +kernel,by decide +kernel⟩
abbrev F_times (K:PySem.W.Frag) (f:Addr) (fd:FuncData):Prop:=FunD K "times" "times" (defArgs s_times) (defBody s_times) (defScope s_times) [] [] f fd
theorem bd_times {K:PySem.W.Frag} {f:Addr} {fd:FuncData} (F:F_times K f fd):Binds K fd ["number","value"] []:=F.bindsN fun _ _ _ _ _ _ us hl=>match us,hl with | [_,_],_=>rfl
def sp_times:DSp:=fun ds M Q E=>∃ (n:Int) (a:Rat),ds=[.int n,qD a]/\bz n<=8000000/\qs a<=7900000/\Q (qD (n * a)) M
abbrev Cal_times (P:Program) (w:World) (K:PySem.W.Frag) (mg:Str->Option Value) (base:Heap) (Tb:List (Addr×Str)):=Cal P w K mg base Tb "times" "times" s_times [] [] 34 ["number","value"] sp_times
theorem sc_add:FnScope ["one","other"] ["one","other"] (defScope s_add):=⟨rfl,rfl,rfl,by decide +kernel,rfl,by decide +kernel,by decide +kernel⟩
abbrev F_add (K:PySem.W.Frag) (f:Addr) (fd:FuncData):Prop:=FunD K "add" "add" (defArgs s_add) (defBody s_add) (defScope s_add) [] [] f fd
theorem bd_add {K:PySem.W.Frag} {f:Addr} {fd:FuncData} (F:F_add K f fd):Binds K fd ["one","other"] []:=F.bindsN fun _ _ _ _ _ _ us hl=>match us,hl with | [_,_],_=>rfl
def sp_add:DSp:=fun ds M Q E=>∃ (a b:Rat),ds=[qD a,qD b]/\qs a<=8000000/\qs a+qs b<=8000000/\Q (qD (a+b)) M
abbrev Cal_add (P:Program) (w:World) (K:PySem.W.Frag) (mg:Str->Option Value) (base:Heap) (Tb:List (Addr×Str)):=Cal P w K mg base Tb "add" "add" s_add [] [] 34 ["one","other"] sp_add
theorem sc_moved:FnScope ["point","turns","period","rise","lift","value"] ["point","turns","period","rise"] (defScope s_moved):=⟨rfl,rfl,rfl,by decide +kernel,rfl,by decide +kernel,by decide +kernel⟩
abbrev F_moved (K:PySem.W.Frag) (f:Addr) (fd:FuncData):Prop:=FunD K "moved" "moved" (defArgs s_moved) (defBody s_moved) (defScope s_moved) [] [] f fd
theorem bd_moved {K:PySem.W.Frag} {f:Addr} {fd:FuncData} (F:F_moved K f fd):Binds K fd ["point","turns","period","rise"] []:=F.bindsN fun _ _ _ _ _ _ us hl=>match us,hl with | [_,_,_,_],_=>rfl
def sp_moved:DSp:=fun ds M Q E=>∃ (q:Pt) (t:Int) (p r:Rat) (B:Nat),ds=[ptD q,.int t,qD p,qD r]/\qs p<=B/\qs r<=B/\q.sz B/\bz t+2 * B<=7990000/\Q (ptD (q.mv t p r)) M
abbrev Cal_moved (P:Program) (w:World) (K:PySem.W.Frag) (mg:Str->Option Value) (base:Heap) (Tb:List (Addr×Str)):=Cal P w K mg base Tb "moved" "moved" s_moved [] [] 35 ["point","turns","period","rise"] sp_moved
theorem sc_check_points:FnScope ["period","rise","points","amount","left","value","right","later","here","there"] ["period","rise","points"] (defScope s_check_points):=⟨rfl,rfl,rfl,by decide +kernel,rfl,by decide +kernel,by decide +kernel⟩
abbrev F_check_points (K:PySem.W.Frag) (f:Addr) (fd:FuncData):Prop:=FunD K "check_points" "check_points" (defArgs s_check_points) (defBody s_check_points) (defScope s_check_points) [] [] f fd
theorem bd_check_points {K:PySem.W.Frag} {f:Addr} {fd:FuncData} (F:F_check_points K f fd):Binds K fd ["period","rise","points"] []:=F.bindsN fun _ _ _ _ _ _ us hl=>match us,hl with | [_,_,_],_=>rfl
def sp_check_points (K:PySem.W.Frag):DSp:=fun ds M Q E=>∃ (p r:Rat) (P:D) (pts:List Pt),ds=[qD p,qD r,P]/\asS P=some (pts.map ptD)/\qs p<=1000000/\qs r<=1000000/\(∀ q∈pts,q.sz 1000000)/\pts.length < 10000 /\
 (¬ okPts p r pts->E ⟨He.ga K "InvalidCurve",[("code",.str "InvalidCurve")]⟩ M)/\(okPts p r pts->Q .non M)
abbrev Cal_check_points (P:Program) (w:World) (K:PySem.W.Frag) (mg:Str->Option Value) (base:Heap) (Tb:List (Addr×Str)):=Cal P w K mg base Tb "check_points" "check_points" s_check_points [] [] 36 ["period","rise","points"] (sp_check_points K)
theorem sc_divide:FnScope ["one","other"] ["one","other"] (defScope s_divide):=⟨rfl,rfl,rfl,by decide +kernel,rfl,by decide +kernel,by decide +kernel⟩
abbrev F_divide (K:PySem.W.Frag) (f:Addr) (fd:FuncData):Prop:=FunD K "divide" "divide" (defArgs s_divide) (defBody s_divide) (defScope s_divide) [] [] f fd
theorem bd_divide {K:PySem.W.Frag} {f:Addr} {fd:FuncData} (F:F_divide K f fd):Binds K fd ["one","other"] []:=F.bindsN fun _ _ _ _ _ _ us hl=>match us,hl with | [_,_],_=>rfl
def sp_divide (K:PySem.W.Frag):DSp:=fun ds M Q E=>∃ (a b:Rat),ds=[qD a,qD b]/\qs a<=8000000/\qs a+qs b<=8000000/\(b=0->E ⟨He.ga K "InvalidFraction",[("code",.str "InvalidFraction")]⟩ M)/\(b≠0->Q (qD (a / b)) M)
abbrev Cal_divide (P:Program) (w:World) (K:PySem.W.Frag) (mg:Str->Option Value) (base:Heap) (Tb:List (Addr×Str)):=Cal P w K mg base Tb "divide" "divide" s_divide [] [] 34 ["one","other"] (sp_divide K)
theorem sc_subtract:FnScope ["one","other"] ["one","other"] (defScope s_subtract):=⟨rfl,rfl,rfl,by decide +kernel,rfl,by decide +kernel,by decide +kernel⟩
abbrev F_subtract (K:PySem.W.Frag) (f:Addr) (fd:FuncData):Prop:=FunD K "subtract" "subtract" (defArgs s_subtract) (defBody s_subtract) (defScope s_subtract) [] [] f fd
theorem bd_subtract {K:PySem.W.Frag} {f:Addr} {fd:FuncData} (F:F_subtract K f fd):Binds K fd ["one","other"] []:=F.bindsN fun _ _ _ _ _ _ us hl=>match us,hl with | [_,_],_=>rfl
def sp_subtract:DSp:=fun ds M Q E=>∃ (a b:Rat),ds=[qD a,qD b]/\qs a<=8000000/\qs a+qs b<=8000000/\Q (qD (a - b)) M
abbrev Cal_subtract (P:Program) (w:World) (K:PySem.W.Frag) (mg:Str->Option Value) (base:Heap) (Tb:List (Addr×Str)):=Cal P w K mg base Tb "subtract" "subtract" s_subtract [] [] 34 ["one","other"] sp_subtract
theorem sc_slope_between:FnScope ["one","other"] ["one","other"] (defScope s_slope_between):=⟨rfl,rfl,rfl,by decide +kernel,rfl,by decide +kernel,by decide +kernel⟩
abbrev F_slope_between (K:PySem.W.Frag) (f:Addr) (fd:FuncData):Prop:=FunD K "slope_between" "slope_between" (defArgs s_slope_between) (defBody s_slope_between) (defScope s_slope_between) [] [] f fd
theorem bd_slope_between {K:PySem.W.Frag} {f:Addr} {fd:FuncData} (F:F_slope_between K f fd):Binds K fd ["one","other"] []:=F.bindsN fun _ _ _ _ _ _ us hl=>match us,hl with | [_,_],_=>rfl
def sp_slope_between:DSp:=fun ds M Q E=>∃ (x y:Pt),ds=[ptD x,ptD y]/\x.sz 1990000/\y.sz 1990000/\x.a≠y.a/\Q (qD (slB x y)) M
abbrev Cal_slope_between (P:Program) (w:World) (K:PySem.W.Frag) (mg:Str->Option Value) (base:Heap) (Tb:List (Addr×Str)):=Cal P w K mg base Tb "slope_between" "slope_between" s_slope_between [] [] 35 ["one","other"] sp_slope_between
theorem sc_true_points:FnScope ["period","rise","points","ring","before","here","later"] ["period","rise","points"] (defScope s_true_points):=⟨rfl,rfl,rfl,by decide +kernel,rfl,by decide +kernel,by decide +kernel⟩
abbrev F_true_points (K:PySem.W.Frag) (f:Addr) (fd:FuncData):Prop:=FunD K "true_points" "true_points" (defArgs s_true_points) (defBody s_true_points) (defScope s_true_points) [] [] f fd
theorem bd_true_points {K:PySem.W.Frag} {f:Addr} {fd:FuncData} (F:F_true_points K f fd):Binds K fd ["period","rise","points"] []:=F.bindsN fun _ _ _ _ _ _ us hl=>match us,hl with | [_,_,_],_=>rfl
def sp_true_points:DSp:=fun ds M Q E=>∃ (p r:Rat) (q:Pt) (l:List Pt),ds=[qD p,qD r,.lst ((q :: l).map ptD)]/\qs p<=900000/\qs r<=900000/\(∀ x∈q :: l,x.sz 900000)/\(q :: l).length < 10000/\okPts p r (q :: l)/\Q (.lst ((truePts p r q l).map ptD)) M
abbrev Cal_true_points (P:Program) (w:World) (K:PySem.W.Frag) (mg:Str->Option Value) (base:Heap) (Tb:List (Addr×Str)):=Cal P w K mg base Tb "true_points" "true_points" s_true_points [] [] 36 ["period","rise","points"] sp_true_points
theorem sc_repeats:FnScope ["period","rise","points","size","parts","later","point","after"] ["period","rise","points","size"] (defScope s_repeats):=⟨rfl,rfl,rfl,by decide +kernel,rfl,by decide +kernel,by decide +kernel⟩
abbrev F_repeats (K:PySem.W.Frag) (f:Addr) (fd:FuncData):Prop:=FunD K "repeats" "repeats" (defArgs s_repeats) (defBody s_repeats) (defScope s_repeats) [] [] f fd
theorem bd_repeats {K:PySem.W.Frag} {f:Addr} {fd:FuncData} (F:F_repeats K f fd):Binds K fd ["period","rise","points","size"] []:=F.bindsN fun _ _ _ _ _ _ us hl=>match us,hl with | [_,_,_,_],_=>rfl
def sp_repeats:DSp:=fun ds M Q E=>∃ (p r:Rat) (pts:List Pt) (n:Nat),ds=[qD p,qD r,.lst (pts.map ptD),.int n]/\0 < n/\n<=pts.length/\qs p<=900000/\qs r<=900000/\(∀ x∈pts,x.sz 900000)/\pts.length < 10000/\Q (.bl (repB p r pts n)) M
abbrev Cal_repeats (P:Program) (w:World) (K:PySem.W.Frag) (mg:Str->Option Value) (base:Heap) (Tb:List (Addr×Str)):=Cal P w K mg base Tb "repeats" "repeats" s_repeats [] [] 36 ["period","rise","points","size"] sp_repeats
theorem sc_equal_parts:FnScope ["period","rise","points","size"] ["period","rise","points"] (defScope s_equal_parts):=⟨rfl,rfl,rfl,by decide +kernel,rfl,by decide +kernel,by decide +kernel⟩
abbrev F_equal_parts (K:PySem.W.Frag) (f:Addr) (fd:FuncData):Prop:=FunD K "equal_parts" "equal_parts" (defArgs s_equal_parts) (defBody s_equal_parts) (defScope s_equal_parts) [] [] f fd
theorem bd_equal_parts {K:PySem.W.Frag} {f:Addr} {fd:FuncData} (F:F_equal_parts K f fd):Binds K fd ["period","rise","points"] []:=F.bindsN fun _ _ _ _ _ _ us hl=>match us,hl with | [_,_,_],_=>rfl
def sp_equal_parts:DSp:=fun ds M Q E=>∃ (p r:Rat) (pts:List Pt),ds=[qD p,qD r,.lst (pts.map ptD)]/\qs p<=900000/\qs r<=900000/\(∀ x∈pts,x.sz 900000)/\pts.length < 10000/\Q (.int (eqParts p r pts:Nat)) M
abbrev Cal_equal_parts (P:Program) (w:World) (K:PySem.W.Frag) (mg:Str->Option Value) (base:Heap) (Tb:List (Addr×Str)):=Cal P w K mg base Tb "equal_parts" "equal_parts" s_equal_parts [] [] 37 ["period","rise","points"] sp_equal_parts
theorem sc_multiply:FnScope ["one","other"] ["one","other"] (defScope s_multiply):=⟨rfl,rfl,rfl,by decide +kernel,rfl,by decide +kernel,by decide +kernel⟩
abbrev F_multiply (K:PySem.W.Frag) (f:Addr) (fd:FuncData):Prop:=FunD K "multiply" "multiply" (defArgs s_multiply) (defBody s_multiply) (defScope s_multiply) [] [] f fd
theorem bd_multiply {K:PySem.W.Frag} {f:Addr} {fd:FuncData} (F:F_multiply K f fd):Binds K fd ["one","other"] []:=F.bindsN fun _ _ _ _ _ _ us hl=>match us,hl with | [_,_],_=>rfl
def sp_multiply:DSp:=fun ds M Q E=>∃ (a b:Rat),ds=[qD a,qD b]/\qs a<=8000000/\qs a+qs b<=8000000/\Q (qD (a * b)) M
abbrev Cal_multiply (P:Program) (w:World) (K:PySem.W.Frag) (mg:Str->Option Value) (base:Heap) (Tb:List (Addr×Str)):=Cal P w K mg base Tb "multiply" "multiply" s_multiply [] [] 34 ["one","other"] sp_multiply
theorem sc_floor_of:FnScope ["value"] ["value"] (defScope s_floor_of):=⟨rfl,rfl,rfl,by decide +kernel,rfl,by decide +kernel,by decide +kernel⟩
abbrev F_floor_of (K:PySem.W.Frag) (f:Addr) (fd:FuncData):Prop:=FunD K "floor_of" "floor_of" (defArgs s_floor_of) (defBody s_floor_of) (defScope s_floor_of) [] [] f fd
theorem bd_floor_of {K:PySem.W.Frag} {f:Addr} {fd:FuncData} (F:F_floor_of K f fd):Binds K fd ["value"] []:=F.bindsN fun _ _ _ _ _ _ us hl=>match us,hl with | [_],_=>rfl
def sp_floor_of:DSp:=fun ds M Q E=>∃ (a:Rat),ds=[qD a]/\qs a<=8000000/\Q (.int (a.num.fdiv a.den)) M
abbrev Cal_floor_of (P:Program) (w:World) (K:PySem.W.Frag) (mg:Str->Option Value) (base:Heap) (Tb:List (Addr×Str)):=Cal P w K mg base Tb "floor_of" "floor_of" s_floor_of [] [] 33 ["value"] sp_floor_of
theorem sc_Curve_point_at:FnScope ["self","place"] ["self","place"] (defScope s_Curve_point_at):=⟨rfl,rfl,rfl,by decide +kernel,rfl,by decide +kernel,by decide +kernel⟩
abbrev F_Curve_point_at (K:PySem.W.Frag) (f:Addr) (fd:FuncData):Prop:=FunD K "point_at" "Curve.point_at" (defArgs s_Curve_point_at) (defBody s_Curve_point_at) (defScope s_Curve_point_at) [] [] f fd
def sp_Curve_point_at (K:PySem.W.Frag):DSp:=fun ds M Q E=>∃ (x:D) (c:Crv) (fs:List (Str×D)) (k:Int) (B:Nat),ds=[x,.int k]/\CrvX K M x c fs/\c.Sz B/\c.row≠[]/\bz k+2 * B<=7900000/\Q (ptD (c.at k)) M
abbrev Cal_Curve_point_at (P:Program) (w:World) (K:PySem.W.Frag) (mg:Str->Option Value) (base:Heap) (Tb:List (Addr×Str)):=MCal P w K mg base Tb (He.ga K "Curve") "point_at" "Curve.point_at" s_Curve_point_at [] [] 36 ["self","place"] (sp_Curve_point_at K)
theorem kb_Curve_point_at_2_ {f:Addr} {fd:FuncData} (F:F_Curve_point_at K f fd):KBp K fd ["self","place"] 2 [] [0,1] []:=kbp_plain F 2 [] [0,1] fun _ _ _ _ _ _ us ws h1 h2=>match us,ws,h1,h2 with | [_,_],[],_,_=>rfl
theorem sc_Curve_place_from:FnScope ["self","amount","place"] ["self","amount"] (defScope s_Curve_place_from):=⟨rfl,rfl,rfl,by decide +kernel,rfl,by decide +kernel,by decide +kernel⟩
abbrev F_Curve_place_from (K:PySem.W.Frag) (f:Addr) (fd:FuncData):Prop:=FunD K "place_from" "Curve.place_from" (defArgs s_Curve_place_from) (defBody s_Curve_place_from) (defScope s_Curve_place_from) [] [] f fd
def sp_Curve_place_from (K:PySem.W.Frag):DSp:=fun ds M Q E=>∃ (x:D) (c:Crv) (fs:List (Str×D)) (y:Rat) (B:Nat),ds=[x,qD y]/\CrvX K M x c fs/\c.Sz B/\c.Ok/\c.row≠[]/\qs y+3 * B<=7800000/\Q (.int (plc c.at y)) M
abbrev Cal_Curve_place_from (P:Program) (w:World) (K:PySem.W.Frag) (mg:Str->Option Value) (base:Heap) (Tb:List (Addr×Str)):=MCal P w K mg base Tb (He.ga K "Curve") "place_from" "Curve.place_from" s_Curve_place_from [] [] 37 ["self","amount"] (sp_Curve_place_from K)
theorem kb_Curve_place_from_2_ {f:Addr} {fd:FuncData} (F:F_Curve_place_from K f fd):KBp K fd ["self","amount"] 2 [] [0,1] []:=kbp_plain F 2 [] [0,1] fun _ _ _ _ _ _ us ws h1 h2=>match us,ws,h1,h2 with | [_,_],[],_,_=>rfl
theorem sc_Curve_slope_behind:FnScope ["self","place"] ["self","place"] (defScope s_Curve_slope_behind):=⟨rfl,rfl,rfl,by decide +kernel,rfl,by decide +kernel,by decide +kernel⟩
abbrev F_Curve_slope_behind (K:PySem.W.Frag) (f:Addr) (fd:FuncData):Prop:=FunD K "slope_behind" "Curve.slope_behind" (defArgs s_Curve_slope_behind) (defBody s_Curve_slope_behind) (defScope s_Curve_slope_behind) [] [] f fd
def sp_Curve_slope_behind (K:PySem.W.Frag):DSp:=fun ds M Q E=>∃ (x:D) (c:Crv) (fs:List (Str×D)) (k:Int) (B:Nat),ds=[x,.int k]/\CrvX K M x c fs/\c.Sz B/\c.Ok/\c.row≠[]/\bz k+2 * B<=1980000/\Q (qD (slB (c.at k) (c.at (k+1)))) M
abbrev Cal_Curve_slope_behind (P:Program) (w:World) (K:PySem.W.Frag) (mg:Str->Option Value) (base:Heap) (Tb:List (Addr×Str)):=MCal P w K mg base Tb (He.ga K "Curve") "slope_behind" "Curve.slope_behind" s_Curve_slope_behind [] [] 37 ["self","place"] (sp_Curve_slope_behind K)
theorem kb_Curve_slope_behind_2_ {f:Addr} {fd:FuncData} (F:F_Curve_slope_behind K f fd):KBp K fd ["self","place"] 2 [] [0,1] []:=kbp_plain F 2 [] [0,1] fun _ _ _ _ _ _ us ws h1 h2=>match us,ws,h1,h2 with | [_,_],[],_,_=>rfl
theorem sc_Curve_around:FnScope ["self","amount","here","place","spot","left","value","right","before"] ["self","amount"] (defScope s_Curve_around):=⟨rfl,rfl,rfl,by decide +kernel,rfl,by decide +kernel,by decide +kernel⟩
abbrev F_Curve_around (K:PySem.W.Frag) (f:Addr) (fd:FuncData):Prop:=FunD K "around" "Curve.around" (defArgs s_Curve_around) (defBody s_Curve_around) (defScope s_Curve_around) [] [] f fd
def sp_Curve_around (K:PySem.W.Frag):DSp:=fun ds M Q E=>∃ (x:D) (c:Crv) (fs:List (Str×D)) (y:Rat) (B:Nat),ds=[x,qD y]/\CrvX K M x c fs/\c.Sz B/\c.Ok/\qs y+3 * B<=1500000/\Q (arnD (c.arn y)) M
abbrev Cal_Curve_around (P:Program) (w:World) (K:PySem.W.Frag) (mg:Str->Option Value) (base:Heap) (Tb:List (Addr×Str)):=MCal P w K mg base Tb (He.ga K "Curve") "around" "Curve.around" s_Curve_around [] [] 38 ["self","amount"] (sp_Curve_around K)
theorem kb_Curve_around_2_ {f:Addr} {fd:FuncData} (F:F_Curve_around K f fd):KBp K fd ["self","amount"] 2 [] [0,1] []:=kbp_plain F 2 [] [0,1] fun _ _ _ _ _ _ us ws h1 h2=>match us,ws,h1,h2 with | [_,_],[],_,_=>rfl
theorem sc_Curve_value:FnScope ["self","amount"] ["self","amount"] (defScope s_Curve_value):=⟨rfl,rfl,rfl,by decide +kernel,rfl,by decide +kernel,by decide +kernel⟩
abbrev F_Curve_value (K:PySem.W.Frag) (f:Addr) (fd:FuncData):Prop:=FunD K "value" "Curve.value" (defArgs s_Curve_value) (defBody s_Curve_value) (defScope s_Curve_value) [] [] f fd
def sp_Curve_value (K:PySem.W.Frag):DSp:=fun ds M Q E=>∃ (x:D) (c:Crv) (fs:List (Str×D)) (y:Rat) (B:Nat),ds=[x,qD y]/\CrvX K M x c fs/\c.Sz B/\c.Ok/\qs y+3 * B<=1500000/\Q (qD (c.arn y).v) M
abbrev Cal_Curve_value (P:Program) (w:World) (K:PySem.W.Frag) (mg:Str->Option Value) (base:Heap) (Tb:List (Addr×Str)):=MCal P w K mg base Tb (He.ga K "Curve") "value" "Curve.value" s_Curve_value [] [] 39 ["self","amount"] (sp_Curve_value K)
theorem kb_Curve_value_2_ {f:Addr} {fd:FuncData} (F:F_Curve_value K f fd):KBp K fd ["self","amount"] 2 [] [0,1] []:=kbp_plain F 2 [] [0,1] fun _ _ _ _ _ _ us ws h1 h2=>match us,ws,h1,h2 with | [_,_],[],_,_=>rfl
theorem sc_Curve_check_digits:FnScope ["self","values","point","above","below"] ["self"] (defScope s_Curve_check_digits):=⟨rfl,rfl,rfl,by decide +kernel,rfl,by decide +kernel,by decide +kernel⟩
abbrev F_Curve_check_digits (K:PySem.W.Frag) (f:Addr) (fd:FuncData):Prop:=FunD K "check_digits" "Curve.check_digits" (defArgs s_Curve_check_digits) (defBody s_Curve_check_digits) (defScope s_Curve_check_digits) [] [] f fd
def sp_Curve_check_digits (K:PySem.W.Frag):DSp:=fun ds M Q E=>∃ (x:D) (c:Crv) (fs:List (Str×D)),ds=[x]/\CrvX K M x c fs/\lkF "MAX_DIGITS" fs=none/\c.row.length < 10000 /\
 (c.long=true->E ⟨He.ga K "TooLong",[("limit",.int 60),("code",.str "TooLong")]⟩ M)/\(c.long=false->Q .non M)
theorem pt4 (M:Mem) (q:Pt):asE M (ptD q)=some ([q.a,q.l,q.v,q.r].map qD):=rfl
abbrev Cal_Curve_check_digits (P:Program) (w:World) (K:PySem.W.Frag) (mg:Str->Option Value) (base:Heap) (Tb:List (Addr×Str)):=MCal P w K mg base Tb (He.ga K "Curve") "check_digits" "Curve.check_digits" s_Curve_check_digits [] [] 3 ["self"] (sp_Curve_check_digits K)
theorem kb_Curve_check_digits_1_ {f:Addr} {fd:FuncData} (F:F_Curve_check_digits K f fd):KBp K fd ["self"] 1 [] [0] []:=kbp_plain F 1 [] [0] fun _ _ _ _ _ _ us ws h1 h2=>match us,ws,h1,h2 with | [_],[],_,_=>rfl
theorem sc_Curveu_initu:FnScope ["self","period","rise","points","offset","kept","slope","parts"] ["self","period","rise","points","offset"] (defScope s_Curveu_initu):=⟨rfl,rfl,rfl,by decide +kernel,rfl,by decide +kernel,by decide +kernel⟩
abbrev F_Curveu_initu (K:PySem.W.Frag) (f:Addr) (fd:FuncData):Prop:=FunD K "__init__" "Curve.__init__" (defArgs s_Curveu_initu) (defBody s_Curveu_initu) (defScope s_Curveu_initu) [] [("offset",.ref (He.ga K "ZERO"))] f fd
def sp_Curveu_initu (K:PySem.W.Frag):DSp:=fun ds M Q E=>∃ (i:Nat) (p r o:Rat) (P:D) (pts:List Pt) (B:Nat),ds=[.mt i,qD p,qD r,P,qD o]/\M[i]?=some (some (.ins (He.ga K "Curve") []))/\asS P=some (pts.map ptD)/\qs p<=B/\qs r<=B/\qs o<=6 * B/\(∀ q∈pts,q.sz B)/\B<=470000/\pts.length < 10000 /\
 (¬ okPts p r pts->E ⟨He.ga K "InvalidCurve",[("code",.str "InvalidCurve")]⟩ M) /\
 (okPts p r pts->60 < pts.length->E ⟨He.ga K "TooMany",[("limit",.int 60),("code",.str "TooMany")]⟩ M) /\
 (okPts p r pts->pts.length<=60->(norm p r pts o).long=true->E ⟨He.ga K "TooLong",[("limit",.int 60),("code",.str "TooLong")]⟩ (M.set i (some (.ins (He.ga K "Curve") (cvN.zip (cvX (norm p r pts o))))))) /\
 (okPts p r pts->pts.length<=60->(norm p r pts o).long=false->Q .non (M.set i (some (.ins (He.ga K "Curve") (cvN.zip (cvX (norm p r pts o)))))))
theorem mk_Curve {K:PySem.W.Frag} {M:Mem} {Q:VD} {E:XD} {p r o:Rat} {P:D} {pts:List Pt} (B:Nat) (ok:okM M.length M) (hP:asS P=some (pts.map ptD)) (q1:qs p<=B) (q2:qs r<=B) (q3:qs o<=6 * B) (q4:∀ q∈pts,q.sz B) (hB:B<=470000) (hl:pts.length < 10000)
  (h1:¬ okPts p r pts->E ⟨He.ga K "InvalidCurve",[("code",.str "InvalidCurve")]⟩ M)
  (h2:okPts p r pts->60 < pts.length->E ⟨He.ga K "TooMany",[("limit",.int 60),("code",.str "TooMany")]⟩ M)
  (h3:okPts p r pts->pts.length<=60->(norm p r pts o).long=true->E ⟨He.ga K "TooLong",[("limit",.int 60),("code",.str "TooLong")]⟩ M)
  (h4:okPts p r pts->pts.length<=60->(norm p r pts o).long=false->Q (crvD K (norm p r pts o)) M) :
  sp_Curveu_initu K [.mt M.length,qD p,qD r,P,qD o] (M ++ [some (.ins (He.ga K "Curve") [])]) (if true=true then mkQ (He.ga K "Curve") M Q else mkM M Q) (CutX M.length E) :=
 ⟨M.length,p,r,o,P,pts,B,rfl,mem_last,hP,q1,q2,q3,q4,hB,hl,fun z=>cutx_app ok rfl (h1 z),fun z g=>cutx_app ok rfl (h2 z g),fun z g l=>by rw [mem_put];exact cutx_app ok rfl (h3 z g l),fun z g l=>mkq_set ok hbs_crv (h4 z g l)⟩
theorem mk_CurveL {K:PySem.W.Frag} {M:Mem} {Q:VD} {E:XD} {p r o:Rat} {j:Nat} {pts:List Pt} (B:Nat) (ok:okM M.length M) (hL:AllL M) (hP:M[j]?=some (some (.lst (pts.map ptD)))) (q1:qs p<=B) (q2:qs r<=B) (q3:qs o<=6 * B) (q4:∀ q∈pts,q.sz B) (hB:B<=470000) (hl:pts.length < 10000)
  (h1:¬ okPts p r pts->E ⟨He.ga K "InvalidCurve",[("code",.str "InvalidCurve")]⟩ M)
  (h2:okPts p r pts->60 < pts.length->E ⟨He.ga K "TooMany",[("limit",.int 60),("code",.str "TooMany")]⟩ M)
  (h3:okPts p r pts->pts.length<=60->(norm p r pts o).long=true->E ⟨He.ga K "TooLong",[("limit",.int 60),("code",.str "TooLong")]⟩ M)
  (h4:okPts p r pts->pts.length<=60->(norm p r pts o).long=false->Q (crvD K (norm p r pts o)) M) :
  lendSp (sp_Curveu_initu K) [.mt M.length,qD p,qD r,.mt j,qD o] (M ++ [some (.ins (He.ga K "Curve") [])]) (if true=true then mkQ (He.ga K "Curve") M Q else mkM M Q) (CutX M.length E):=by
 have hj:j < M.length:=(List.getElem?_eq_some_iff.mp hP).1
 refine .inr ⟨M.length,by simp,fun i mo hi e=>hL i mo (by rw [List.getElem?_append_left hi] at e;exact e),?_⟩
 have e1:[D.mt M.length,qD p,qD r,.mt j,qD o].map (lendD (M ++ [some (.ins (He.ga K "Curve") [])]) M.length)=[.mt M.length,qD p,qD r,.lst (pts.map ptD),qD o]:=by
  show [lendD _ _ (.mt M.length),qD p,qD r,lendD _ _ (.mt j),qD o]=_
  have a:lendD (M ++ [some (.ins (He.ga K "Curve") [])]) M.length (.mt M.length) = .mt M.length:=by
   show (if M.length < M.length then _ else _)=_
   rw [if_neg (by omega)]
  have b:lendD (M ++ [some (.ins (He.ga K "Curve") [])]) M.length (.mt j) = .lst (pts.map ptD):=by
   show (if j < M.length then _ else _)=_
   rw [if_pos hj,List.getElem?_append_left hj,hP]
  rw [a,b]
 rw [e1,dead_ins]
 have hl0:(M.map fun _=>(none:Option MO)).length=M.length:=by simp
 have hz:∀ o':Option MO,(M.map (fun _=>(none:Option MO)) ++ [some (MO.ins (He.ga K "Curve") [])]).set M.length o'=M.map (fun _=>none) ++ [o']:=fun o'=>by
  conv=>lhs;rw [<- hl0]
  exact mem_put
 refine ⟨M.length,p,r,o,.lst (pts.map ptD),pts,B,rfl,by conv=>{ lhs;rw [<- hl0] };exact mem_at,rfl,q1,q2,q3,q4,hB,hl,fun z=>?_,fun z g=>?_,fun z g l=>?_,fun z g l=>?_⟩
 ·exact ⟨rfl,lend_ins rfl,by rw [back_ins hl0];exact cutx_app ok rfl (h1 z)⟩
 ·exact ⟨rfl,lend_ins rfl,by rw [back_ins hl0];exact cutx_app ok rfl (h2 z g)⟩
 ·rw [hz]
  exact ⟨rfl,lend_ins (nls_crv _),by rw [back_ins hl0];exact cutx_app ok rfl (h3 z g l)⟩
 ·rw [hz]
  refine ⟨rfl,lend_ins (nls_crv _),?_⟩
  rw [back_ins hl0]
  have:=mkq_set (C:=He.ga K "Curve") (fs:=cvN.zip (cvX (norm p r pts o))) (Q:=Q) ok hbs_crv (h4 z g l)
  rw [mem_put] at this
  exact this
abbrev Cal_Curveu_initu (P:Program) (w:World) (K:PySem.W.Frag) (mg:Str->Option Value) (base:Heap) (Tb:List (Addr×Str)):=MCal P w K mg base Tb (He.ga K "Curve") "__init__" "Curve.__init__" s_Curveu_initu [] [("offset",.ref (He.ga K "ZERO"))] 40 ["self","period","rise","points","offset"] (sp_Curveu_initu K)
theorem kb_Curveu_initu_4_ {f:Addr} {fd:FuncData} (F:F_Curveu_initu K f fd):KBp K fd ["self","period","rise","points","offset"] 4 [] [0,1,2,3,4] [.ref (He.ga K "ZERO")]:=kbp_kw F 4 [] [("offset",.ref (He.ga K "ZERO"))] [0,1,2,3,4] (by simp) (by simp) fun _ _ _ _ _ _ us mv ws h1 h2 h3=>match us,mv,ws,h1,h2,h3 with | [_,_,_,_],[_],[],_,_,_=>⟨_,_,_,_,_,_,rfl,rfl,rfl⟩
theorem sc__law_less:FnScope ["_law_one","_law_other"] ["_law_one","_law_other"] (defScope s__law_less):=⟨rfl,rfl,rfl,by decide +kernel,rfl,by decide +kernel,by decide +kernel⟩
abbrev F__law_less (K:PySem.W.Frag) (f:Addr) (fd:FuncData):Prop:=FunD K "_law_less" "_law_less" (defArgs s__law_less) (defBody s__law_less) (defScope s__law_less) [] [] f fd
theorem bd__law_less {K:PySem.W.Frag} {f:Addr} {fd:FuncData} (F:F__law_less K f fd):Binds K fd ["_law_one","_law_other"] []:=F.bindsN fun _ _ _ _ _ _ us hl=>match us,hl with | [_,_],_=>rfl
def sp__law_less:DSp:=fun ds M Q E=>∃ (a b:Rat),ds=[qD a,qD b]/\qs a<=30000000/\qs b<=30000000/\Q (.bl (decide (a < b))) M
abbrev Cal__law_less (P:Program) (w:World) (K:PySem.W.Frag) (mg:Str->Option Value) (base:Heap) (Tb:List (Addr×Str)):=Cal P w K mg base Tb "_law_less" "_law_less" s__law_less [] [] 1 ["_law_one","_law_other"] sp__law_less
theorem sc__law_is_curve:FnScope ["_law_period","_law_rise","_law_points","_law_k","_law_spot","_law_low","_law_value","_law_high","_law_behind","_law_later","_law_goal"] ["_law_period","_law_rise","_law_points"] (defScope s__law_is_curve):=⟨rfl,rfl,rfl,by decide +kernel,rfl,by decide +kernel,by decide +kernel⟩
abbrev F__law_is_curve (K:PySem.W.Frag) (f:Addr) (fd:FuncData):Prop:=FunD K "_law_is_curve" "_law_is_curve" (defArgs s__law_is_curve) (defBody s__law_is_curve) (defScope s__law_is_curve) [] [] f fd
theorem bd__law_is_curve {K:PySem.W.Frag} {f:Addr} {fd:FuncData} (F:F__law_is_curve K f fd):Binds K fd ["_law_period","_law_rise","_law_points"] []:=F.bindsN fun _ _ _ _ _ _ us hl=>match us,hl with | [_,_,_],_=>rfl
def sp__law_is_curve:DSp:=fun ds M Q E=>∃ (p r:Rat) (pts:List Pt),ds=[qD p,qD r,.lst (pts.map ptD)]/\qs p<=2000/\qs r<=2000/\(∀ q∈pts,q.sz 2000)/\pts.length<=100/\pts≠[]/\(okPts p r pts->Q (.bl true) M)/\(¬ okPts p r pts->Q (.bl false) M)
theorem zip_snoc {α:Type}:∀ {xs:List α} {a b:α} {i:Nat} {x y:α},((a :: xs).zip (xs ++ [b]))[i]?=some (x,y)->(a :: xs)[i]?=some x/\(if i=xs.length then b=y else (a :: xs)[i+1]?=some y)
 | [],a,b,i,x,y,h=>by
  match i,h with
  | 0,h=>simp at h ⊢;exact h
  | n+1,h=>simp at h
 | c :: xs,a,b,i,x,y,h=>by
  match i,h with
  | 0,h=>simp at h ⊢;exact h
  | n+1,h =>
   have h':((c :: xs).zip (xs ++ [b]))[n]?=some (x,y):=by simpa using h
   have:=zip_snoc h'
   simpa using this
def nxPt (p r:Rat) (pts:List Pt) (k:Nat):Pt:=if k+1=pts.length then (pts[0]?.getD (⟨0,0,0,0⟩:Pt)).mv 1 p r else pts[k+1]?.getD (⟨0,0,0,0⟩:Pt)
theorem okPts_ix {p r:Rat} {pts:List Pt} (hne:pts≠[]) (p0:0 < p) (r0:0 < r) (h:∀ (k:Nat) (hk:k < pts.length),okPt p pts[k]/\okPr (pts[k],nxPt p r pts k)):okPts p r pts:=by
 obtain ⟨q,rest,rfl⟩:∃ q rest,pts=q :: rest:=by
  cases pts with
  | nil=>exact absurd rfl hne
  | cons q rest=>exact ⟨q,rest,rfl⟩
 refine ⟨p0,r0,fun x hx=>?_,fun x hx=>?_⟩
 ·obtain ⟨i,hi,rfl⟩:=List.mem_iff_getElem.mp hx
  exact (h i hi).1
 ·obtain ⟨i,hi,e⟩:=List.mem_iff_getElem.mp hx
  have e2:((q :: rest).zip (rest ++ [q.mv 1 p r]))[i]?=some (x.1,x.2):=by
   have:nextPts p r (q :: rest)=rest ++ [q.mv 1 p r]:=rfl
   rw [<- this,List.getElem?_eq_getElem hi,e]
  obtain ⟨a1,a2⟩:=zip_snoc e2
  obtain ⟨hi',e3⟩:=List.getElem?_eq_some_iff.mp a1
  have h3:=(h i hi').2
  rw [e3] at h3
  have:nxPt p r (q :: rest) i=x.2:=by
   unfold nxPt
   by_cases hk:i=rest.length
   ·rw [if_pos hk] at a2
    rw [if_pos (by simp [hk])]
    simpa using a2
   ·rw [if_neg hk] at a2
    rw [if_neg (by simp;omega),a2];rfl
  rw [this] at h3
  exact h3
theorem ix_okPts {p r:Rat} {pts:List Pt} (ok:okPts p r pts) (k:Nat) (hk:k < pts.length):okPt p pts[k]/\okPr (pts[k],nxPt p r pts k):=by
 refine ⟨ok.pt _ (List.getElem_mem hk),?_⟩
 obtain ⟨q,rest,rfl⟩:∃ q rest,pts=q :: rest:=by
  cases pts with
  | nil=>simp at hk
  | cons q rest=>exact ⟨q,rest,rfl⟩
 refine ok.pr _ ?_
 have hx:(rest ++ [q.mv 1 p r])[k]?=some (nxPt p r (q :: rest) k):=by
  unfold nxPt
  by_cases h:k+1=(q :: rest).length
  ·rw [if_pos h]
   have hk':k=rest.length:=by simpa using h
   subst hk';simp
  ·rw [if_neg h]
   have hk':k < rest.length:=by simp at h hk;omega
   rw [List.getElem?_append_left hk'];simp [hk']
 have hz:((q :: rest).zip (rest ++ [q.mv 1 p r]))[k]?=some ((q :: rest)[k],nxPt p r (q :: rest) k) :=
  List.getElem?_zip_eq_some.mpr ⟨List.getElem?_eq_getElem hk,hx⟩
 exact List.mem_of_getElem? hz
abbrev Cal__law_is_curve (P:Program) (w:World) (K:PySem.W.Frag) (mg:Str->Option Value) (base:Heap) (Tb:List (Addr×Str)):=Cal P w K mg base Tb "_law_is_curve" "_law_is_curve" s__law_is_curve [] [] 35 ["_law_period","_law_rise","_law_points"] sp__law_is_curve
theorem sc_Curveu_callu:FnScope ["self","amount"] ["self","amount"] (defScope s_Curveu_callu):=⟨rfl,rfl,rfl,by decide +kernel,rfl,by decide +kernel,by decide +kernel⟩
abbrev F_Curveu_callu (K:PySem.W.Frag) (f:Addr) (fd:FuncData):Prop:=FunD K "__call__" "Curve.__call__" (defArgs s_Curveu_callu) (defBody s_Curveu_callu) (defScope s_Curveu_callu) [] [] f fd
theorem bd_Curveu_callu {K:PySem.W.Frag} {f:Addr} {fd:FuncData} (F:F_Curveu_callu K f fd):Binds K fd ["self","amount"] []:=F.bindsN fun _ _ _ _ _ _ us hl=>match us,hl with | [_,_],_=>rfl
def sp_Curveu_callu (K:PySem.W.Frag):DSp:=fun ds M Q E=>∃ (x:D) (c:Crv) (fs:List (Str×D)) (y:Rat) (B:Nat),ds=[x,qD y]/\CrvX K M x c fs/\c.Sz B/\c.Ok/\qs y+3 * B<=1500000/\Q (qD (c.arn y).v) M
abbrev Cal_Curveu_callu (P:Program) (w:World) (K:PySem.W.Frag) (mg:Str->Option Value) (base:Heap) (Tb:List (Addr×Str)):=MCal P w K mg base Tb (He.ga K "Curve") "__call__" "Curve.__call__" s_Curveu_callu [] [] 40 ["self","amount"] (sp_Curveu_callu K)
theorem sc_law:FnScope ["_law_script","_law_rng","_law_turn","_law_many","_law_period","_law_rise","_law_points","_law_change","_law_at","_law_place","_law_row","_law_way","_law_kept","_law_told_here","_law_due","_law_sizes","_law_wrong","_law_long"] ["_law_script"] (defScope s_law):=⟨rfl,rfl,rfl,by decide +kernel,rfl,by decide +kernel,by decide +kernel⟩
abbrev F_law (K:PySem.W.Frag) (f:Addr) (fd:FuncData):Prop:=FunD K "law" "law" (defArgs s_law) (defBody s_law) (defScope s_law) [] [] f fd
abbrev sp_law:DSp:=lawSp0
def stL (n:Nat):List Pt:=(List.range n).map stPt
theorem stL_len {n:Nat}:(stL n).length=n:=by unfold stL;rw [List.length_map,List.length_range]
theorem stL_at {n k:Nat} (h:k < (stL n).length):(stL n)[k]=stPt k:=by
 have:=List.getElem_map (l:=List.range n) stPt (i:=k) (h:=h)
 rw [List.getElem_range] at this
 exact this
theorem cast_lt' {a b:Nat}:((a:Rat) < (b:Rat)) ↔ a < b:=by
 rw [<- Rat.intCast_natCast,<- Rat.intCast_natCast,Rat.intCast_lt_intCast];omega
theorem stL_nx {n k:Nat} (hk:k < n):(nxPt n n (stL n) k).a=((k+1:Nat):Rat)/\(nxPt n n (stL n) k).l=((k+1:Nat):Rat):=by
 unfold nxPt
 rw [stL_len]
 by_cases h:k+1=n
 ·subst h
  rw [if_pos rfl]
  have e:(stL (k+1))[0]?.getD (⟨0,0,0,0⟩:Pt)=stPt 0:=by
   rw [List.getElem?_eq_getElem (by rw [stL_len];omega),stL_at];rfl
  rw [e]
  unfold Pt.mv stPt
  have z:((0:Nat):Rat)=0:=rfl
  constructor
  ·show ((0:Nat):Rat)+1 * ((k+1:Nat):Rat)=_
   rw [z,Rat.one_mul,Rat.zero_add]
  ·show ((0:Nat):Rat)+1 * ((k+1:Nat):Rat)=_
   rw [z,Rat.one_mul,Rat.zero_add]
 ·rw [if_neg h]
  have e:(stL n)[k+1]?.getD (⟨0,0,0,0⟩:Pt)=stPt (k+1):=by
   rw [List.getElem?_eq_getElem (by rw [stL_len];omega),stL_at];rfl
  rw [e]
  exact ⟨rfl,rfl⟩
theorem stL_ok {n:Nat} (h:1<=n):okPts n n (stL n):=by
 have p0:(0:Rat) < (n:Rat):=by
  have:=cast_lt' (a:=0) (b:=n)
  exact this.mpr (by omega)
 refine okPts_ix (fun z=>by have:=stL_len (n:=n);rw [z] at this;have h0:(0:Nat)=n:=this;omega) p0 p0 fun k hk=>?_
 have hk':k < n:=by rw [stL_len] at hk;exact hk
 obtain ⟨e1,e2⟩:=stL_nx hk'
 rw [stL_at]
 refine ⟨⟨?_,cast_lt'.mpr hk',?_,?_⟩,⟨?_,?_⟩⟩
 ·show ¬ ((k:Nat):Rat) < 0
  have:=cast_lt' (a:=k) (b:=0)
  exact fun z=>absurd (this.mp z) (by omega)
 ·show ¬ ((k:Nat):Rat) < ((k:Nat):Rat)
  exact fun z=>absurd (cast_lt'.mp z) (by omega)
 ·show ¬ (((k+1:Nat)):Rat) < ((k:Nat):Rat)
  exact fun z=>absurd (cast_lt'.mp z) (by omega)
 ·show ((k:Nat):Rat) < _
  rw [e1];exact cast_lt'.mpr (by omega)
 ·show ¬ _ < ((k+1:Nat):Rat)
  rw [e2];exact fun z=>absurd (cast_lt'.mp z) (by omega)
theorem st60_p:(norm (60:Nat) (60:Nat) (stL 60) 0).p=1:=by decide +kernel
theorem wrong_no:¬ okPts (61:Nat) (61:Nat) (stL 61).reverse:=fun ok=>by
 have:=(ix_okPts ok 0 (by rw [List.length_reverse,stL_len];decide)).2.lt
 revert this
 decide +kernel
def lnQ:Rat:=⟨1,10 ^ 60,by decide +kernel,by decide +kernel⟩
def lnP:Pt:=⟨0,0,lnQ,1⟩
def lnL:List Pt:=lnP :: (stL 61).drop 1
theorem lnL_len:lnL.length=61:=by
 show ((stL 61).drop 1).length+1=61
 rw [List.length_drop,stL_len]
theorem ln_all:∀ k:Fin 61,((¬ (lnL[k.1]?.getD (⟨0,0,0,0⟩:Pt)).a < 0)/\(lnL[k.1]?.getD (⟨0,0,0,0⟩:Pt)).a < (61:Nat)/\¬ (lnL[k.1]?.getD (⟨0,0,0,0⟩:Pt)).v < (lnL[k.1]?.getD (⟨0,0,0,0⟩:Pt)).l/\¬ (lnL[k.1]?.getD (⟨0,0,0,0⟩:Pt)).r < (lnL[k.1]?.getD (⟨0,0,0,0⟩:Pt)).v/\(lnL[k.1]?.getD (⟨0,0,0,0⟩:Pt)).a < (nxPt (61:Nat) (61:Nat) lnL k.1).a/\¬ (nxPt (61:Nat) (61:Nat) lnL k.1).l < (lnL[k.1]?.getD (⟨0,0,0,0⟩:Pt)).r):=by decide +kernel
theorem ln_ok:okPts (61:Nat) (61:Nat) lnL:=by
 refine okPts_ix (fun z=>by have:=lnL_len;rw [z] at this;exact absurd this (by decide)) (by decide +kernel) (by decide +kernel) fun k hk=>?_
 obtain ⟨h1,h2,h3,h4,h5,h6⟩:=ln_all ⟨k,by rw [lnL_len] at hk;exact hk⟩
 rw [show lnL[(⟨k,by rw [lnL_len] at hk;exact hk⟩:Fin 61).1]?.getD (⟨0,0,0,0⟩:Pt)=lnL[k] by rw [List.getElem?_eq_getElem hk];rfl] at h1 h2 h3 h4 h5 h6
 exact ⟨⟨h1,h2,h3,h4⟩,⟨h5,h6⟩⟩
end
def tfq:List (He.Defn×Str):=[(("law",none),(envOfC "law" (defScope s_law) 0 0 .none).qual ++ "<lambda>")]
def csL (K:PySem.W.Frag):List ((Addr×Addr)×Str):=tfq.map fun q=>(He.cT K q.1,q.2)
local macro_rules | `(tactic| walk_at "dlns") => `(tactic| (first | ((with_reducible apply e_var); · exact rfl) | ((with_reducible apply e_sz); · exact rfl) | ((with_reducible apply e_aug); · exact rfl) | ((with_reducible apply e_arg); (· exact rfl); (· exact rfl)) | ((with_reducible apply e_ix); (· first | exact seq_at (by assumption) | exact rfl); (· exact rfl)) | ((with_reducible apply e_fldC); · exact rfl) | ((with_reducible apply e_fldo); · exact rfl) | ((with_reducible apply e_isiK); · exact rfl) | ((with_reducible apply e_ixpt); · exact rfl) | ((with_reducible apply e_ixar); · exact rfl) | with_reducible refine e_cls ?_ | with_reducible refine e_ix0t ?_ | with_reducible refine e_star1 ?_ | with_reducible refine e_star1l ?_ | with_reducible refine e_star2l ?_ | ((with_reducible apply e_mhit); (· exact rfl)) | ((with_reducible apply e_mmiss); (· exact rfl)) | with_reducible refine e_istup ?_ | with_reducible refine e_isstr ?_ | ((with_reducible apply e_isi); · exact rfl) | with_reducible refine e_add ?_ | with_reducible refine e_sub ?_ | ((with_reducible apply e_subc); (· assumption); (· exact rfl)) | with_reducible refine e_ift ?_ | with_reducible refine e_iff ?_ | ((with_reducible apply e_ht); · exact rfl) | ((with_reducible apply e_htl); · exact rfl) | with_reducible refine e_htq ?_ | with_reducible refine e_htpt ?_ | with_reducible refine e_eqi ?_ | ((with_reducible apply e_len); · first | exact seq_at (by assumption) | exact rfl) | with_reducible refine e_eqs ?_ | with_reducible refine e_eqq ?_ | with_reducible refine e_neq ?_ | with_reducible refine e_isrfC ?_ | with_reducible refine e_isCC ?_ | with_reducible refine e_min2 ?_ | with_reducible refine pts_l ?_ | with_reducible refine e_max2 ?_ | with_reducible refine e_neq0 ?_ | with_reducible refine e_eq0 ?_ | ((with_reducible apply e_int); · first | with_reducible assumption | with_reducible exact nz (by decide) | with_reducible exact mok_r (by decide) (by decide) | with_reducible exact mok_l (by decide) (by decide) | with_reducible exact cdx_d (by decide) | with_reducible exact cpow (by decide) (by decide) (by omega) (by omega)) | with_reducible refine e_nei ?_ | with_reducible refine e_isc ?_ | ((with_reducible apply e_cono); · exact rfl) | with_reducible refine e_fmt ?_ | with_reducible refine e_isB ?_ | with_reducible refine e_isnotB ?_ | with_reducible refine e_inO ?_ | with_reducible refine e_blq ?_ | ((with_reducible apply e_conC); · exact rfl) | with_reducible refine e_htar ?_ | with_reducible refine e_abs ?_ | with_reducible refine e_tpl ?_ | with_reducible refine e_tpt ?_ | with_reducible refine e_lsl ?_ | with_reducible refine e_lst' ?_ | with_reducible refine e_slnil ?_ | with_reducible refine e_fzl ?_ | with_reducible refine e_isrf ?_ | ((with_reducible apply e_eqO); · exact rfl) | ((with_reducible apply e_neO); · exact rfl) | ((with_reducible apply e_eqOo); · first | exact rfl | (rw [kind_obj]; rfl)) | ((with_reducible apply e_neOo); · first | exact rfl | (rw [kind_obj]; rfl)) | ((with_reducible apply e_eqQs); · exact rfl) | ((with_reducible apply e_neQs); · exact rfl) | with_reducible refine e_join0 ?_ | with_reducible refine e_js0 ?_ | with_reducible refine e_js1 ?_ | with_reducible refine e_nes ?_ | with_reducible refine e_tyS ?_ | with_reducible refine e_sls (by assumption) ?_ | with_reducible refine e_chain ?_ | with_reducible refine e_dchain ?_ | with_reducible refine e_in ?_ | with_reducible refine e_zip2 ?_ | with_reducible refine e_zip3 ?_ | with_reducible refine e_lenS (by assumption) ?_ | ((with_reducible apply e_lenOn); · exact rfl) | with_reducible refine e_dn ?_ | with_reducible refine e_int1 ?_ | with_reducible refine e_int2 ?_ | with_reducible refine e_ib ?_ | with_reducible refine e_ii ?_ | with_reducible refine e_is ?_ | with_reducible refine e_isn ?_ | with_reducible refine e_eqb ?_ | with_reducible refine e_neb ?_ | with_reducible refine e_rg1 ?_ | with_reducible refine isi_l (by assumption) ?_ | with_reducible refine isi_t (by assumption) ?_ | with_reducible refine isi_lt (by assumption) ?_ | with_reducible refine isi_b (by assumption) ?_ | with_reducible refine isi_i (by assumption) ?_ | with_reducible refine isi_s (by assumption) ?_))
local macro_rules | `(tactic| walk_at "S") => `(tactic| ((first | with_reducible refine e_seq ?_ | walk_at "dlns"); (try (with_reducible conv => whnf))))
local macro_rules | `(tactic| walk_at "R") => `(tactic| ((try (with_reducible conv => whnf)); repeat walk_at "S"))
local macro_rules | `(tactic| walk_at "r") => `(tactic| ((try (with_reducible conv => whnf)); repeat (walk_at "dlns"; (try (with_reducible conv => whnf)))))
local macro_rules | `(tactic| walk_at "A") => `(tactic| ((try (with_reducible conv => whnf)); repeat' ((first | with_reducible refine e_seq ?_ | walk_at "dlns" | refine ifd (fun _ => ?_) (fun _ => ?_) | refine ifn (fun _ => ?_) (fun _ => ?_) | refine ifb (fun _ => ?_) (fun _ => ?_)) <;> (try (with_reducible conv => whnf)))))
section
variable {P:Program} {w:World} {K:PySem.W.Frag} {mg:Str->Option Value} {base:Heap} {Tb:List (Addr×Str)}
theorem ok__law_fields {f:Addr} {fd:FuncData} (F:F__law_fields K f fd)  : FnDC P w K mg base Tb 1 f fd ["_law_e"] (sp__law_fields K):=by
 refine fnDC_of _ F sc__law_fields (by rintro ds M Q E ⟨C,ns,xs,z,ys,rfl,_⟩;rfl) (fun cdv A outer s H EV hr=>(ds_cons (dp_if (dt_in (dv_xf K (dv_var 0)) (dv_tup (da_cons dv_str (da_cons dv_str (da_cons dv_str (da_cons dv_str da_nil)))))) (ds_one (dp_ret (dv_tup (da_cons (dv_xf K (dv_var 0)) da_nil)))) ds_nil)
 (ds_cons (dp_if (dt_in (dv_xf K (dv_var 0)) (dv_tup (da_cons dv_str (da_cons dv_str da_nil)))) (ds_one (dp_ret (dv_tup (da_cons (dv_xf K (dv_var 0)) da_nil)))) ds_nil)
 (ds_cons (dp_if (dt_eq (roomH_units hr) (dv_xf K (dv_var 0)) dv_str) (ds_one (dp_ret (dv_tup (da_cons (dv_xf K (dv_var 0)) (da_cons (dv_xf K (dv_var 0)) da_nil))))) ds_nil)
 (ds_cons (dp_if (dt_eq (roomH_units hr) (dv_xf K (dv_var 0)) dv_str) (ds_one (dp_ret (dv_tup (da_cons (dv_xf K (dv_var 0)) (da_cons (dv_xf K (dv_var 0)) da_nil))))) ds_nil)
 (ds_cons (dp_if (dt_eq (roomH_units hr) (dv_xf K (dv_var 0)) dv_str) (ds_one (dp_ret (dv_tup (da_cons (dv_xf K (dv_var 0)) da_nil)))) ds_nil)
 (ds_cons (dp_if (dt_eq (roomH_units hr) (dv_xf K (dv_var 0)) dv_str) (ds_one (dp_ret (dv_tup (da_cons (dv_xf K (dv_var 0)) da_nil)))) ds_nil)
 (ds_one (dp_ret (dv_if (dt_eq (roomH_units hr) (dv_xf K (dv_var 0)) dv_str) (dv_tup (da_cons (dv_xf K (dv_var 0)) da_nil)) (dv_tup da_nil))))))))))) ?_
 rintro ds M Q E hM hD ⟨C,ns,xs,z,ys,rfl,T,hn,hz,hy,hQ⟩
 have hc:=hn "code" List.mem_cons_self
 have hys:D.hbs M.length ys=true->Cut M.length Q (.tup ys) M:=fun h=>Cut.same h hM hQ
 have hlk:∀ (f:Str) (d:D),(ns.zip xs).lookup f=some d->d.hb M.length=true:=fun f d e=>zip_hb (by have h:(_ && _)=true:=hD;simp only [Bool.and_eq_true] at h;exact h.1) e
 unfold xfields at hy hn
 change dSeq _ _ _ _ [some (.exc C ns xs)] M
 walk_at "R"
 with_reducible refine e_xf0 T hc hz ?_
 walk_at "R"
 refine ifb (fun h=>?_) (fun h=>?_)
 ·try simp only [Bool.false_eq_true,if_false] at h
  rw [if_pos h] at hy hn
  obtain ⟨y,e,rfl⟩:=map1 hy
  walk_at "R"
  with_reducible refine e_xf0 T (hn _ (by simp)) e ?_
  walk_at "R"
  exact hys (by show (_ && true)=true;rw [hlk _ _ e];rfl)
 try simp only [Bool.false_eq_true,if_false] at h
 rw [if_neg (by rw [h];decide)] at hy hn
 walk_at "R"
 with_reducible refine e_xf0 T hc hz ?_
 walk_at "R"
 refine ifb (fun h=>?_) (fun h=>?_)
 ·try simp only [Bool.false_eq_true,if_false] at h
  rw [if_pos h] at hy hn
  obtain ⟨y,e,rfl⟩:=map1 hy
  walk_at "R"
  with_reducible refine e_xf0 T (hn _ (by simp)) e ?_
  walk_at "R"
  exact hys (by show (_ && true)=true;rw [hlk _ _ e];rfl)
 try simp only [Bool.false_eq_true,if_false] at h
 rw [if_neg (by rw [h];decide)] at hy hn
 walk_at "R"
 with_reducible refine e_xf0 T hc hz ?_
 walk_at "R"
 refine ifb (fun h=>?_) (fun h=>?_)
 ·try simp only [Bool.false_eq_true,if_false] at h
  rw [if_pos h] at hy hn
  obtain ⟨y,w,e,e2,rfl⟩:=map2 hy
  walk_at "R"
  with_reducible refine e_xf0 T (hn _ (by simp)) e ?_
  walk_at "R"
  with_reducible refine e_xf0 T (hn _ (by simp)) e2 ?_
  walk_at "R"
  exact hys (by show (_ && (_ && true))=true;rw [hlk _ _ e,hlk _ _ e2];rfl)
 try simp only [Bool.false_eq_true,if_false] at h
 rw [if_neg (by rw [h];decide)] at hy hn
 walk_at "R"
 with_reducible refine e_xf0 T hc hz ?_
 walk_at "R"
 refine ifb (fun h=>?_) (fun h=>?_)
 ·try simp only [Bool.false_eq_true,if_false] at h
  rw [if_pos h] at hy hn
  obtain ⟨y,w,e,e2,rfl⟩:=map2 hy
  walk_at "R"
  with_reducible refine e_xf0 T (hn _ (by simp)) e ?_
  walk_at "R"
  with_reducible refine e_xf0 T (hn _ (by simp)) e2 ?_
  walk_at "R"
  exact hys (by show (_ && (_ && true))=true;rw [hlk _ _ e,hlk _ _ e2];rfl)
 try simp only [Bool.false_eq_true,if_false] at h
 rw [if_neg (by rw [h];decide)] at hy hn
 walk_at "R"
 with_reducible refine e_xf0 T hc hz ?_
 walk_at "R"
 refine ifb (fun h=>?_) (fun h=>?_)
 ·try simp only [Bool.false_eq_true,if_false] at h
  rw [if_pos h] at hy hn
  obtain ⟨y,e,rfl⟩:=map1 hy
  walk_at "R"
  with_reducible refine e_xf0 T (hn _ (by simp)) e ?_
  walk_at "R"
  exact hys (by show (_ && true)=true;rw [hlk _ _ e];rfl)
 try simp only [Bool.false_eq_true,if_false] at h
 rw [if_neg (by rw [h];decide)] at hy hn
 walk_at "R"
 with_reducible refine e_xf0 T hc hz ?_
 walk_at "R"
 refine ifb (fun h=>?_) (fun h=>?_)
 ·try simp only [Bool.false_eq_true,if_false] at h
  rw [if_pos h] at hy hn
  obtain ⟨y,e,rfl⟩:=map1 hy
  walk_at "R"
  with_reducible refine e_xf0 T (hn _ (by simp)) e ?_
  walk_at "R"
  exact hys (by show (_ && true)=true;rw [hlk _ _ e];rfl)
 try simp only [Bool.false_eq_true,if_false] at h
 rw [if_neg (by rw [h];decide)] at hy hn
 walk_at "R"
 with_reducible refine e_xf0 T hc hz ?_
 walk_at "R"
 refine ifb (fun h=>?_) (fun h=>?_)
 ·try simp only [Bool.false_eq_true,if_false] at h
  rw [if_pos h] at hy hn
  obtain ⟨y,e,rfl⟩:=map1 hy
  walk_at "R"
  with_reducible refine e_xf0 T (hn _ (by simp)) e ?_
  walk_at "R"
  exact hys (by show (_ && true)=true;rw [hlk _ _ e];rfl)
 try simp only [Bool.false_eq_true,if_false] at h
 rw [if_neg (by rw [h];decide)] at hy hn
 cases map0 hy
 walk_at "R"
 exact hys rfl
theorem ok__law_begin {f:Addr} {fd:FuncData} (F:F__law_begin K f fd) (g_list:mg "list"=none):FnD P w K mg base Tb 1 f fd ["_law_script"] sp__law_begin:=by
 refine fnD_of _ F sc__law_begin (by rintro ds M Q E ⟨ns,rfl,_⟩;rfl) (fun cdv A outer s H EV hr=>(ds_cons (dp_set 1 sc__law_begin.nd dv_int)
 (ds_cons (dp_for PassesOwn.leaving rfl (di_seq (dv_slice (dv_var 0) do_none (do_some dv_int))) (dg_name 2 sc__law_begin.nd) (ds_one (dp_set 1 sc__law_begin.nd (dv_mod (dv_add (dv_add (dv_mul (dv_var 1) dv_int) (dv_mod (dv_var 2) dv_int)) dv_int) dv_int))))
 (ds_one (dp_ret (dv_lstM (da_cons (dv_callTy call_list_of ref_list (by rfl) g_list (by decide +kernel) (da_cons (dv_slice (dv_var 0) do_none (do_some dv_int)) da_nil)) (da_cons dv_int (da_cons dv_int (da_cons (dv_var 1) (da_cons dv_int da_nil))))))))))) ?_
 rintro ds M Q E hM hD ⟨ns,rfl,hQ⟩
 have hall:∀ d∈cutL (ns.map D.int) none (some 63),∃ n,d=D.int n:=fun d hd=>by
  have:=List.mem_of_mem_drop (List.mem_of_mem_take hd)
  obtain ⟨n,_,rfl⟩:=List.mem_map.mp this
  exact ⟨n,rfl⟩
 have hcut:cutL (ns.map D.int) none (some 63)=(cutL ns none (some 63)).map D.int:=by
  unfold cutL
  simp [List.map_drop,List.map_take]
 refine for_inv (fun ds rho M'=>(∀ d∈ds,∃ n,d=D.int n)/\M'=M/\∃ (s:Int) (c:Option D),rho=[some (.rol (ns.map D.int)),some (.int s),c]/\0<=s/\s < 2147483647) ?_ ?_ _ _ _ ⟨hall,rfl,3809,none,rfl,by decide,by decide⟩
 ·rintro d r rho M' N ⟨hd,rfl,s,c,rfl,h0,h1⟩ hN
  obtain ⟨n,rfl⟩:=hd _ List.mem_cons_self
  refine ⟨mok_r (by decide) (by decide),nz (by decide),nz (by decide),?_⟩
  refine hN _ _ ⟨fun d h=>hd d (List.mem_cons_of_mem _ h),rfl,_,_,rfl,?_⟩
  exact fmod_pos (by decide)
 ·rintro rho M' ⟨_,rfl,s,c,rfl,h0,h1⟩
  have r:=hQ ⟨cutL ns none (some 63),0,0,s,0⟩ ⟨Int.le_refl 0,Int.le_refl 0,h0,h1,Int.le_refl 0⟩
  refine ⟨by show 5<=sizeLine;decide,?_⟩
  rw [hcut]
  exact Cut.new hM (Rng.hb ⟨cutL ns none (some 63),0,0,s,0⟩ _) r
theorem ok__law_draw {f:Addr} {fd:FuncData} (F:F__law_draw K f fd) (g_len:mg "len"=none):FnD P w K mg base Tb 1 f fd ["_law_rng","_law_many"] sp__law_draw:=by
 refine fnD_of _ F sc__law_draw (by rintro ds M Q E ⟨i,m,rfl,_⟩;rfl) (fun cdv A outer s H EV hr=>(ds_cons (dp_if (dt_w (dw_and (dt_eq hr.units (dv_ix (dv_var 0) dv_int) dv_int) (dw_and1 (dt_lt (dv_ix (dv_var 0) dv_int) (dv_callB call_len ref_len (by rfl) g_len PySem.boot_len (da_cons (dv_ix (dv_var 0) dv_int) da_nil)))))) (ds_cons (dp_set 2 sc__law_draw.nd (dv_ix (dv_ix (dv_var 0) dv_int) (dv_ix (dv_var 0) dv_int)))
 (ds_cons (dp_asg (dv_add (dv_ix (dv_var 0) dv_int) dv_int) (dg_sub (dv_var 0) dv_int))
 (ds_one (dp_if (dt_ge (dv_var 2) (dv_pow dv_int dv_int)) (ds_one (dp_asg (dv_var 2) (dg_sub (dv_var 0) dv_int))) (ds_one (dp_asg (dv_mod (dv_add (dv_add (dv_mul (dv_ix (dv_var 0) dv_int) dv_int) (dv_mod (dv_var 2) dv_int)) dv_int) dv_int) (dg_sub (dv_var 0) dv_int))))))) ds_nil)
 (ds_cons (dp_if (dt_gt (dv_ix (dv_var 0) dv_int) dv_int) (ds_cons (dp_set 3 sc__law_draw.nd (dv_mod (dv_ix (dv_var 0) dv_int) (dv_var 1)))
 (ds_cons (dp_asg (dv_fdiv (dv_ix (dv_var 0) dv_int) (dv_var 1)) (dg_sub (dv_var 0) dv_int))
 (ds_one (dp_ret (dv_var 3))))) ds_nil)
 (ds_cons (dp_asg (dv_add (dv_ix (dv_var 0) dv_int) dv_int) (dg_sub (dv_var 0) dv_int))
 (ds_cons (dp_set 4 sc__law_draw.nd (dv_mod (dv_add (dv_ix (dv_var 0) dv_int) (dv_mul (dv_ix (dv_var 0) dv_int) dv_int)) dv_int))
 (ds_cons (dp_asg (dv_mod (dv_add (dv_add (dv_pow (dv_var 4) dv_int) (dv_mul dv_int (dv_var 4))) dv_int) dv_int) (dg_sub (dv_var 0) dv_int))
 (ds_one (dp_ret (dv_mod (dv_add (dv_fdiv (dv_ix (dv_var 0) dv_int) dv_int) (dv_mul (dv_mod (dv_ix (dv_var 0) dv_int) dv_int) dv_int)) (dv_var 1)))))))))) ?_
 rintro ds M Q E hM hD ⟨i,m,rfl,⟨r,hi,ok⟩,hm,hm2,hQ⟩
 have hl:i < M.length:=(List.getElem?_eq_some_iff.mp hi).1
 have nm:m≠0:=by omega
 have cm:CDivX m:=cdx_small hm hm2
 refine e_cut (fun rho M1=>∃ (r':Rng) (c:Option D),rho=[some (.mt i),some (.int m),c,none,none]/\r'.Ok/\M1=M.set i (some r'.mo)) ?_ ?_
 ·rintro rho M1 ⟨r',c,rfl,ok',e1⟩
  have h1:M1[i]?=some (some r'.mo):=by rw [e1,List.getElem?_set_self hl]
  unfold Rng.mo Rng.items at h1
  walk_at "R"
  refine ifd (fun hc=>?_) (fun hc=>?_)
  ·walk_at "R"
   intro M2 e2 h2
   walk_at "R"
   subst e1
   rw [List.set_set] at e2
   exact Cut.rg ⟨⟨r'.ns,r'.p,r'.c.fdiv m,r'.s,r'.k⟩,⟨ok'.p0,Int.fdiv_nonneg ok'.c0 (by omega),ok'.s0,ok'.s1,ok'.k0⟩,e2⟩ rfl hM (hQ _ _ ⟨⟨r'.ns,r'.p,r'.c.fdiv m,r'.s,r'.k⟩,⟨ok'.p0,Int.fdiv_nonneg ok'.c0 (by omega),ok'.s0,ok'.s1,ok'.k0⟩,e2⟩ (fmod_pos hm).1 (fmod_pos hm).2)
  ·walk_at "R"
   intro M2 e2 h2
   have b3:=fmod_pos (a:=r'.s+(r'.k+1) * 7927) (b:=2147483647) (by decide)
   walk_at "R"
   intro M3 e3 h3
   walk_at "R"
   have b4:=fmod_pos (a:=((r'.s+(r'.k+1) * 7927).fmod 2147483647 ^ (3:Int).toNat+30013 * (r'.s+(r'.k+1) * 7927).fmod 2147483647+1999)) (b:=2147483647) (by decide)
   subst e1
   rw [List.set_set] at e2
   rw [e2,List.set_set] at e3
   have q:RgTo M i M3:=⟨⟨r'.ns,r'.p,r'.c,_,r'.k+1⟩,⟨ok'.p0,ok'.c0,b4.1,b4.2,by have:=ok'.k0;show 0<=r'.k+1;omega⟩,e3⟩
   exact Cut.rg q rfl hM (hQ _ _ q (fmod_pos hm).1 (fmod_pos hm).2)
 ·intro N hN
  have h1:=hi
  unfold Rng.mo Rng.items at h1
  have hN':N [some (.mt i),some (.int m),none,none,none] M:=hN _ _ ⟨r,none,rfl,ok,(RgTo.same hi)⟩
  walk_at "R"
  refine ifd (fun hc=>?_) (fun hc=>hN')
  walk_at "R"
  refine ifd (fun hp=>?_) (fun hp=>hN')
  obtain ⟨x,hn,hx⟩:=at_ex ok.p0 hp
  obtain ⟨n,_,rfl⟩:=List.mem_map.mp hx
  walk_at "R"
  refine e_ix (d:=.lst _) rfl hn ?_
  walk_at "R"
  intro M2 e2 h2
  walk_at "R"
  refine ifd (fun hg=>?_) (fun hg=>?_)
  ·walk_at "R"
   intro M3 e3 h3
   refine hN _ _ ⟨⟨r.ns,r.p+1,n,r.s,r.k⟩,_,rfl,⟨?_,?_,ok.s0,ok.s1,ok.k0⟩,?_⟩
   ·have:=ok.p0;show 0<=r.p+1;omega
   ·exact Int.le_trans (by decide) hg
   ·rw [e3,e2,List.set_set];rfl
  ·walk_at "R"
   intro M3 e3 h3
   refine hN _ _ ⟨⟨r.ns,r.p+1,r.c,(r.s * 36217+n.fmod 2147483579+19).fmod 2147483647,r.k⟩,_,rfl,⟨?_,ok.c0,(fmod_pos (by decide)).1,(fmod_pos (by decide)).2,ok.k0⟩,?_⟩
   ·have:=ok.p0;show 0<=r.p+1;omega
   ·rw [e3,e2,List.set_set];rfl
theorem ok__law_pick {f:Addr} {fd:FuncData} (F:F__law_pick K f fd) (C__law_draw:Cal__law_draw P w K mg base Tb) (g_len:mg "len"=none):FnD P w K mg base Tb 2 f fd ["_law_rng","_law_some"] sp__law_pick:=by
 refine fnD_of _ F sc__law_pick (by rintro ds M Q E ⟨i,x,xs,rfl,_⟩;rfl) (fun cdv A outer s H EV hr=>(ds_one (dp_ret (dv_ix (dv_var 1) (dv_call C__law_draw.fn (hr.mono (by decide)) (by rfl) C__law_draw.mgx C__law_draw.F.kp (bd__law_draw C__law_draw.F) hxF (da_cons (dv_var 0) (da_cons (dv_callB call_len ref_len (by rfl) g_len PySem.boot_len (da_cons (dv_var 1) da_nil)) da_nil))))))) ?_
 rintro ds M Q E hM hD ⟨i,x,xs,rfl,ha,hx,h0,hz,hQ⟩
 have hhb:∀ d∈xs,d.hb M.length=true:=pk_hb hx (by have h:(_ && (_ && _))=true:=hD;simp only [Bool.and_eq_true] at h;exact h.2.1)
 have hlen:0 < xs.length:=List.length_pos_iff.mpr h0
 walk_at "R"
 refine pk_len hx ?_
 walk_at "R"
 refine ⟨i,xs.length,rfl,ha,by omega,Int.lt_of_le_of_lt (Int.ofNat_le.mpr hz) (by decide +kernel),fun k M' ht k0 k1=>?_⟩
 obtain ⟨d,hd,hm⟩:=at_ex k0 k1
 refine pk_ix hx hd ?_
 exact Cut.rg ht (hhb d hm) hM (hQ d M' ht hm)
theorem ok__law_stairs {f:Addr} {fd:FuncData} (F:F__law_stairs K f fd) (g_range:mg "range"=none):FnD P w K mg base Tb 1 f fd ["_law_rng","_law_many"] sp__law_stairs:=by
 refine fnD_of _ F sc__law_stairs (by rintro ds M Q E ⟨r,m,rfl,_⟩;rfl) (fun cdv A outer s H EV hr=>(ds_one (dp_ret (dv_lcM rfl sc__law_stairs.nd (di_range1 (by rfl) g_range (da_cons (dv_var 1) da_nil)) (blkOk_by (own:=[("_law_k",2)]) (N:=["_law_rng","_law_many","_law_k"]) (sc:=defScope s__law_stairs) (by decide +kernel)) (tgn_name (i:=2) (by decide)) (fun _ _ _ _ _=>pg_name (i:=2) sc__law_stairs.nd rfl (by first | exact Or.inl rfl | exact Or.inr rfl)) (fun _ _ _ _ _=>dts_nil) (fun _ _ _ _ _=>(dv_tup (da_cons (dv_tup (da_cons (dv_var 2) (da_cons dv_int da_nil))) (da_cons (dv_tup (da_cons (dv_var 2) (da_cons dv_int da_nil))) (da_cons (dv_tup (da_cons (dv_var 2) (da_cons dv_int da_nil))) (da_cons (dv_tup (da_cons (dv_add (dv_var 2) dv_int) (da_cons dv_int da_nil))) da_nil)))))))))) ?_
 rintro ds M Q E hM hD ⟨r,m,rfl,hm,hQ⟩
 have zl:sizeLine=16777216:=rfl
 have e1:∀ k:Nat,ptD (stPt k) = .tup [.tup [.int k,.int 1],.tup [.int k,.int 1],.tup [.int k,.int 1],.tup [.int (k+1),.int 1]]:=fun k=>rfl
 walk_at "R"
 refine ⟨⟨by omega,by omega⟩,?_⟩
 rw [Int.toNat_natCast]
 refine lcM_range (fun j M'=>M'=M ++ [some (.lst ((List.range j).map fun k=>ptD (stPt k)))]) rfl ?_ ?_
 ·rintro j M' N hj rfl hN
  walk_at "R"
  refine ⟨_,mem_at,by rw [List.length_map,List.length_range];omega,?_⟩
  rw [mem_put]
  refine hN _ ?_
  rw [List.range_succ,List.map_append,List.map_singleton,e1]
 ·rintro M' rfl
  walk_at "R"
  exact Cut.new hM (hbs_all fun d hd=>by
   obtain ⟨k,_,rfl⟩:=List.mem_map.mp hd;rfl) hQ
theorem ok__law_lowest {f:Addr} {fd:FuncData} (F:F__law_lowest K f fd) (g_abs:mg "abs"=none) (NS:Seer P base):FnD P w K mg base Tb 33 f fd ["_law_top","_law_bottom"] sp__law_lowest:=by
 refine fnD_of _ F sc__law_lowest (by rintro ds M Q E ⟨a,b,rfl,_⟩;rfl) (fun cdv A outer s H EV hr=>(ds_cons (dp_par 2 3 rfl sc__law_lowest.nd (da_cons (dv_callB call_abs ref_abs (by rfl) g_abs (by decide +kernel) (da_cons (dv_var 0) da_nil)) (da_cons (dv_callB call_abs ref_abs (by rfl) g_abs (by decide +kernel) (da_cons (dv_var 1) da_nil)) da_nil)) (by rfl))
 (ds_cons (dp_while PassesOwn.leaving (dt_ne hr.units (dv_var 3) dv_int) (ds_one (dp_par 2 3 rfl sc__law_lowest.nd (da_cons (dv_var 3) (da_cons (dv_mod (dv_var 2) (dv_var 3)) da_nil)) (by rfl))))
 (ds_cons (dp_if (dt_lt (dv_var 1) dv_int) (ds_one (dp_set 2 sc__law_lowest.nd (dv_sub dv_int (dv_var 2)))) ds_nil)
 (ds_one (dp_ret (dv_tup (da_cons (dv_fdivP NS (hr.mono (by decide)) (dv_var 0) (dv_var 2)) (da_cons (dv_fdivP NS (hr.mono (by decide)) (dv_var 1) (dv_var 2)) da_nil))))))))) ?_
 rintro ds M Q E hM hD ⟨a,b,rfl,hb,hs,hQ⟩
 refine wh_inv (fun rho M'=>M'=M/\∃ p q:Nat,rho=[some (.int a),some (.int b),some (.int (p:Int)),some (.int (q:Int))]/\Nat.gcd p q=Nat.gcd a.natAbs b.natAbs) (fun rho _=>match rho with
  | [_,_,_,some (.int q)]=>q.natAbs
  | _=>0) ?_ _ _ ⟨rfl,a.natAbs,b.natAbs,rfl,rfl⟩
 rintro rho M' N ⟨rfl,p,q,rfl,hg⟩ hN
 refine ifn (fun h=>?_) (fun h=>?_)
 ·have hq:q≠0:=fun e=>h (by rw [e];rfl)
  refine ⟨fun e=>hq (Int.ofNat.inj e),?_⟩
  refine hN _ _ ⟨rfl,q,p % q,?_,?_⟩ ?_
  ·show [some (D.int a),some (D.int b),some (D.int (q:Int)),some (D.int ((p:Int).fmod (q:Int)))]=_
   rw [fmod_nat]
  ·rw [<- hg,Nat.gcd_comm q (p % q),<- Nat.gcd_rec,Nat.gcd_comm]
  ·show (Int.fmod (p:Int) (q:Int)).natAbs < (q:Int).natAbs
   rw [fmod_nat]
   exact Nat.mod_lt p (Nat.pos_of_ne_zero hq)
 ·have hq:q=0:=Int.ofNat.inj h
  subst hq
  rw [Nat.gcd_zero_right] at hg
  have hp:p≠0:=by
   rw [hg]
   exact Nat.pos_iff_ne_zero.mp (Nat.gcd_pos_of_pos_right _ (by omega))
  have hz:bz (p:Int)<=16000000:=Nat.le_trans (bs_mono (by
   show p<=b.natAbs
   rw [hg];exact Nat.le_of_dvd (by omega) (Nat.gcd_dvd_right _ _))) hs
  refine ifd (fun hn=>?_) (fun hn=>?_)
  ·have cp:(0 - (p:Int))≠0:=by omega
   refine ⟨cp,cp,by show 2<=sizeLine;decide,?_⟩
   refine Cut.same rfl hM ?_
   have e:(D.tup [.int (a.fdiv (0 - (p:Int))),.int (b.fdiv (0 - (p:Int)))])=qD (Rat.divInt a b):=by
    have h1:=low_num a b hb
    have h2:=low_den a b hb
    rw [if_pos hn] at h1 h2
    have e:(0 - (p:Int)) = -(Int.gcd a b:Int):=by rw [hg,Int.zero_sub];rfl
    rw [e,h1,h2];rfl
   exact e ▸ hQ
  ·have cp:(p:Int)≠0:=by omega
   refine ⟨cp,cp,by show 2<=sizeLine;decide,?_⟩
   refine Cut.same rfl hM ?_
   have e:(D.tup [.int (a.fdiv (p:Int)),.int (b.fdiv (p:Int))])=qD (Rat.divInt a b):=by
    have h1:=low_num a b hb
    have h2:=low_den a b hb
    rw [if_neg hn] at h1 h2
    have e:(p:Int)=(Int.gcd a b:Int):=by rw [hg];rfl
    rw [e,h1,h2];rfl
   exact e ▸ hQ
theorem ok__law_plus {f:Addr} {fd:FuncData} (F:F__law_plus K f fd) (C__law_lowest:Cal__law_lowest P w K mg base Tb):FnD P w K mg base Tb 34 f fd ["_law_one","_law_other"] sp__law_plus:=by
 refine fnD_of _ F sc__law_plus (by rintro ds M Q E ⟨a,b,rfl,_⟩;rfl) (fun cdv A outer s H EV hr=>(ds_one (dp_ret (dv_call C__law_lowest.fn (hr.mono (by decide)) (by rfl) C__law_lowest.mgx C__law_lowest.F.kp (bd__law_lowest C__law_lowest.F) hxF (da_cons (dv_add (dv_mul (dv_ix (dv_var 0) dv_int) (dv_ix (dv_var 1) dv_int)) (dv_mul (dv_ix (dv_var 1) dv_int) (dv_ix (dv_var 0) dv_int))) (da_cons (dv_mul (dv_ix (dv_var 0) dv_int) (dv_ix (dv_var 1) dv_int)) da_nil)))))) ?_
 rintro ds M Q E hM hD ⟨a,b,rfl,ha,hb,hQ⟩
 have:=qs_num a
 have:=qs_num b
 have:=qs_den' a
 have:=qs_den' b
 refine ⟨mok_b (by omega),mok_b (by omega),mok_b (by omega),_,_,rfl,den_ne a b,Nat.le_trans (bi_mul _ _) (by omega),?_⟩
 refine Cut.same rfl hM ?_
 rw [divInt_add];exact hQ
theorem ok_compare {f:Addr} {fd:FuncData} (F:F_compare K f fd)  : FnD P w K mg base Tb 1 f fd ["one","other"] sp_compare:=by
 refine fnD_of _ F sc_compare (by rintro ds M Q E ⟨a,b,rfl,_⟩;rfl) (fun cdv A outer s H EV hr=>(ds_cons (dp_set 2 sc_compare.nd (dv_sub (dv_mul (dv_ix (dv_var 0) dv_int) (dv_ix (dv_var 1) dv_int)) (dv_mul (dv_ix (dv_var 1) dv_int) (dv_ix (dv_var 0) dv_int))))
 (ds_cons (dp_if (dt_eq hr.units (dv_var 2) dv_int) (ds_one (dp_ret dv_int)) ds_nil)
 (ds_one (dp_ret (dv_if (dt_gt (dv_var 2) dv_int) dv_int (dv_neg dv_int))))))) ?_
 rintro ds M Q E hM hD ⟨a,b,rfl,ha,hb,hQ⟩
 have:=qs_num a
 have:=qs_num b
 have:=qs_den' a
 have:=qs_den' b
 unfold gapS at hQ
 refine ⟨mok_b (by omega),mok_b (by omega),?_⟩
 refine ifd (fun h=>?_) (fun h=>ifd (fun h2=>?_) (fun h2=>?_))
 ·rw [if_pos h] at hQ;exact Cut.same rfl hM hQ
 ·rw [if_neg h,if_pos h2] at hQ;exact Cut.same rfl hM hQ
 ·rw [if_neg h,if_neg h2] at hQ;exact Cut.same rfl hM hQ
theorem ok_common_divisor {f:Addr} {fd:FuncData} (F:F_common_divisor K f fd) (g_abs:mg "abs"=none):FnD P w K mg base Tb 1 f fd ["one","other"] sp_common_divisor:=by
 refine fnD_of _ F sc_common_divisor (by rintro ds M Q E ⟨a,b,rfl,_⟩;rfl) (fun cdv A outer s H EV hr=>(ds_cons (dp_while PassesOwn.leaving (dt_ne hr.units (dv_var 1) dv_int) (ds_one (dp_par 0 1 rfl sc_common_divisor.nd (da_cons (dv_var 1) (da_cons (dv_mod (dv_var 0) (dv_var 1)) da_nil)) (by rfl))))
 (ds_one (dp_ret (dv_callB call_abs ref_abs (by rfl) g_abs (by decide +kernel) (da_cons (dv_var 0) da_nil)))))) ?_
 rintro ds M Q E hM hD ⟨a,b,rfl,hQ⟩
 refine wh_inv (fun rho M'=>M'=M/\∃ p q:Int,rho=[some (.int p),some (.int q)]/\Int.gcd p q=Int.gcd a b) (fun rho _=>match rho with
  | [_,some (.int q)]=>q.natAbs
  | _=>0) ?_ _ _ ⟨rfl,a,b,rfl,rfl⟩
 rintro rho M' N ⟨rfl,p,q,rfl,hg⟩ hN
 refine ifn (fun h=>?_) (fun h=>?_)
 ·refine ⟨h,hN _ _ ⟨rfl,q,p.fmod q,rfl,?_⟩ (fmod_abs h)⟩
  rw [fmod_gcd,hg]
 ·subst h
  refine Cut.same rfl hM ?_
  rw [<- hg,Int.gcd_zero_right] at hQ
  exact hQ
theorem ok_fraction {f:Addr} {fd:FuncData} (F:F_fraction K f fd) (C_common_divisor:Cal_common_divisor P w K mg base Tb) (X_InvalidFraction:XC_InvalidFraction P w K mg base) (NS:Seer P base):FnD P w K mg base Tb 33 f fd ["numerator","denominator"] (sp_fraction K):=by
 refine fnD_of _ F sc_fraction (by rintro ds M Q E ⟨a,b,rfl,_⟩;rfl) (fun cdv A outer s H EV hr=>(ds_cons (dp_if (dt_eq hr.units (dv_var 1) dv_int) (ds_one (dp_raise0 X_InvalidFraction (hr.mono (by decide)) rfl tkF hxN (by rfl))) ds_nil)
 (ds_cons (dp_set 2 sc_fraction.nd (dv_call C_common_divisor.fn (hr.mono (by decide)) (by rfl) C_common_divisor.mgx C_common_divisor.F.kp (bd_common_divisor C_common_divisor.F) hxF (da_cons (dv_var 0) (da_cons (dv_var 1) da_nil))))
 (ds_cons (dp_if (dt_lt (dv_var 1) dv_int) (ds_one (dp_set 2 sc_fraction.nd (dv_neg (dv_var 2)))) ds_nil)
 (ds_one (dp_ret (dv_tup (da_cons (dv_fdivP NS (hr.mono (by decide)) (dv_var 0) (dv_var 2)) (da_cons (dv_fdivP NS (hr.mono (by decide)) (dv_var 1) (dv_var 2)) da_nil))))))))) ?_
 rintro ds M Q E hM hD ⟨a,b,rfl,hs,hE,hQ⟩
 refine ifd (fun h=>?_) (fun h=>?_)
 ·exact ⟨rfl,by decide,rfl,hM,by rw [List.take_length];exact hE h⟩
 ·have hQ:=hQ h
  refine ⟨a,b,rfl,?_⟩
  have hz:bz ((Int.gcd a b:Nat):Int)<=16000000:=Nat.le_trans (bs_mono (by
   show Int.gcd a b<=b.natAbs
   exact Nat.le_of_dvd (by omega) (Nat.gcd_dvd_right _ _))) hs
  have hp:Int.gcd a b≠0:=by
   have:0 < Nat.gcd a.natAbs b.natAbs:=Nat.gcd_pos_of_pos_right _ (by omega)
   show Nat.gcd a.natAbs b.natAbs≠0
   omega
  have h1:=low_num a b h
  have h2:=low_den a b h
  refine ifd (fun hn=>?_) (fun hn=>?_)
  ·rw [if_pos hn] at h1 h2
   have cp:(-(Int.gcd a b:Int))≠0:=by omega
   refine ⟨cp,cp,by show 2<=sizeLine;decide,Cut.same rfl hM ?_⟩
   have e:(D.tup [.int (a.fdiv (-(Int.gcd a b:Int))),.int (b.fdiv (-(Int.gcd a b:Int)))])=qD (Rat.divInt a b):=by rw [h1,h2];rfl
   exact e ▸ hQ
  ·rw [if_neg hn] at h1 h2
   have cp:(Int.gcd a b:Int)≠0:=by omega
   refine ⟨cp,cp,by show 2<=sizeLine;decide,Cut.same rfl hM ?_⟩
   have e:(D.tup [.int (a.fdiv (Int.gcd a b:Int)),.int (b.fdiv (Int.gcd a b:Int))])=qD (Rat.divInt a b):=by rw [h1,h2];rfl
   exact e ▸ hQ
theorem ok_times {f:Addr} {fd:FuncData} (F:F_times K f fd) (C_fraction:Cal_fraction P w K mg base Tb):FnD P w K mg base Tb 34 f fd ["number","value"] sp_times:=by
 refine fnD_of _ F sc_times (by rintro ds M Q E ⟨a,b,rfl,_⟩;rfl) (fun cdv A outer s H EV hr=>(ds_one (dp_ret (dv_callK C_fraction.fn (hr.mono (by decide)) (by rfl) C_fraction.mgx C_fraction.F.kp (kb_fraction_2_ C_fraction.F) cs_fraction hxF (da_cons (dv_mul (dv_var 0) (dv_ix (dv_var 1) dv_int)) (da_cons (dv_ix (dv_var 1) dv_int) da_nil)) dk_nil)))) ?_
 rintro ds M Q E hM hD ⟨n,a,rfl,hn,ha,hQ⟩
 have:=qs_num a
 have:=qs_den' a
 have hd:(a.den:Int)≠0:=by have:=a.den_nz;omega
 refine ⟨mok_b (by omega),rfl,rfl,_,_,rfl,by omega,fun h=>absurd h hd,fun _=>Cut.same rfl hM ?_⟩
 have e:=divInt_mul (n:Rat) a
 rw [Rat.num_intCast,Rat.den_intCast] at e
 rw [show ((1:Nat):Int) * (a.den:Int)=a.den from Int.one_mul _] at e
 rw [e];exact hQ
theorem ok_add {f:Addr} {fd:FuncData} (F:F_add K f fd) (C_fraction:Cal_fraction P w K mg base Tb):FnD P w K mg base Tb 34 f fd ["one","other"] sp_add:=by
 refine fnD_of _ F sc_add (by rintro ds M Q E ⟨a,b,rfl,_⟩;rfl) (fun cdv A outer s H EV hr=>(ds_one (dp_ret (dv_callK C_fraction.fn (hr.mono (by decide)) (by rfl) C_fraction.mgx C_fraction.F.kp (kb_fraction_2_ C_fraction.F) cs_fraction hxF (da_cons (dv_add (dv_mul (dv_ix (dv_var 0) dv_int) (dv_ix (dv_var 1) dv_int)) (dv_mul (dv_ix (dv_var 1) dv_int) (dv_ix (dv_var 0) dv_int))) (da_cons (dv_mul (dv_ix (dv_var 0) dv_int) (dv_ix (dv_var 1) dv_int)) da_nil)) dk_nil)))) ?_
 rintro ds M Q E hM hD ⟨a,b,rfl,ha,hb,hQ⟩
 have:=qs_num a
 have:=qs_num b
 have:=qs_den' a
 have:=qs_den' b
 refine ⟨mok_b (by omega),mok_b (by omega),mok_b (by omega),rfl,rfl,_,_,rfl,Nat.le_trans (bi_mul _ _) (by omega),fun h=>absurd h (den_ne a b),fun _=>Cut.same rfl hM ?_⟩
 rw [divInt_add];exact hQ
theorem ok_moved {f:Addr} {fd:FuncData} (F:F_moved K f fd) (C_times:Cal_times P w K mg base Tb) (C_add:Cal_add P w K mg base Tb) (g_tuple:mg "tuple"=none):FnD P w K mg base Tb 35 f fd ["point","turns","period","rise"] sp_moved:=by
 refine fnD_of _ F sc_moved (by rintro ds M Q E ⟨q,t,p,r,B,rfl,_⟩;rfl) (fun cdv A outer s H EV hr=>(ds_cons (dp_set 4 sc_moved.nd (dv_call C_times.fn (hr.mono (by decide)) (by rfl) C_times.mgx C_times.F.kp (bd_times C_times.F) hxF (da_cons (dv_var 1) (da_cons (dv_var 3) da_nil))))
 (ds_one (dp_ret (dv_add (dv_tup (da_cons (dv_call C_add.fn (hr.mono (by decide)) (by rfl) C_add.mgx C_add.F.kp (bd_add C_add.F) hxF (da_cons (dv_ix (dv_var 0) dv_int) (da_cons (dv_call C_times.fn (hr.mono (by decide)) (by rfl) C_times.mgx C_times.F.kp (bd_times C_times.F) hxF (da_cons (dv_var 1) (da_cons (dv_var 2) da_nil))) da_nil))) da_nil)) (dv_callTy call_tuple_of ref_tuple (by rfl) g_tuple (by decide +kernel) (da_cons (dv_lc rfl sc_moved.nd (di_seq (dv_slice (dv_var 0) (do_some dv_int) do_none)) (blkOk_by (own:=[("value",5)]) (N:=["point","turns","period","rise","lift","value"]) (sc:=defScope s_moved) (by decide +kernel)) (tgn_name (i:=5) (by decide)) (fun _ _ _ _ _=>pg_name (i:=5) sc_moved.nd rfl (by first | exact Or.inl rfl | exact Or.inr rfl)) (fun _ _ _ _ _=>dts_nil) (fun _ _ _ _ _=>(dv_call C_add.fn (hr.mono (by decide)) (by rfl) C_add.mgx C_add.F.kp (bd_add C_add.F) passL (da_cons (dv_var 5) (da_cons (dv_var 4) da_nil))))) da_nil))))))) ?_
 rintro ds M Q E hM hD ⟨q,t,p,r,B,rfl,hp,hr,hq,ht,hQ⟩
 have h1:=qs_mul t p
 have h2:=qs_mul t r
 have h3:=hq.a
 have h4:=hq.l
 have h5:=hq.v
 have h6:=hq.r
 have h0:=qs_int t
 walk_at "R"
 refine ⟨t,r,rfl,by omega,by omega,?_⟩
 walk_at "R"
 refine ⟨t,p,rfl,by omega,by omega,?_⟩
 walk_at "R"
 refine ⟨q.a,t * p,rfl,by omega,by omega,?_⟩
 walk_at "R"
 refine e_slt (xs:=[qD q.a,qD q.l,qD q.v,qD q.r]) (ys:=[q.l,q.v,q.r].map qD) rfl ?_
 refine lc_map qD (fun x=>qD (x+t * r)) [q.l,q.v,q.r] (by show 3<=sizeLine;decide) ?_ ?_
 ·intro c hc N hN
  walk_at "R"
  simp only [List.mem_cons,List.not_mem_nil,or_false] at hc
  rcases hc with rfl | rfl | rfl <;> exact ⟨_,t * r,rfl,by omega,by omega,hN⟩
 walk_at "R"
 refine e_addt (Nat.le_of_ble_eq_true rfl) ?_
 exact Cut.same rfl hM hQ
theorem ok_check_points {f:Addr} {fd:FuncData} (F:F_check_points K f fd) (C_compare:Cal_compare P w K mg base Tb) (C_moved:Cal_moved P w K mg base Tb) (g_len:mg "len"=none) (g_list:mg "list"=none) (g_zip:mg "zip"=none) (c_ZERO:CC_ZERO K mg) (X_InvalidCurve:XC_InvalidCurve P w K mg base):FnD P w K mg base Tb 36 f fd ["period","rise","points"] (sp_check_points K):=by
 refine fnD_of _ F sc_check_points (by rintro ds M Q E ⟨p,r,P,pts,rfl,_⟩;rfl) (fun cdv A outer s H EV hr=>(ds_cons (dp_if (dt_w (dw_or (dt_le (dv_call C_compare.fn (hr.mono (by decide)) (by rfl) C_compare.mgx C_compare.F.kp (bd_compare C_compare.F) hxF (da_cons (dv_var 0) (da_cons (dv_gl c_ZERO (by rfl)) da_nil))) dv_int) (dw_or1 (dt_le (dv_call C_compare.fn (hr.mono (by decide)) (by rfl) C_compare.mgx C_compare.F.kp (bd_compare C_compare.F) hxF (da_cons (dv_var 1) (da_cons (dv_gl c_ZERO (by rfl)) da_nil))) dv_int)))) (ds_one (dp_raise0 X_InvalidCurve (hr.mono (by decide)) rfl tkF hxN (by rfl))) ds_nil)
 (ds_cons (dp_for PassesOwn.leaving rfl (di_seq (dv_var 2)) (dg_tup (n:=4) rfl (dgs_cons (dg_name 3 sc_check_points.nd) (dgs_cons (dg_name 4 sc_check_points.nd) (dgs_cons (dg_name 5 sc_check_points.nd) (dgs_cons (dg_name 6 sc_check_points.nd) dgs_nil))))) (ds_cons (dp_if (dt_w (dw_or (dt_lt (dv_call C_compare.fn (hr.mono (by decide)) (by rfl) C_compare.mgx C_compare.F.kp (bd_compare C_compare.F) hxF (da_cons (dv_var 3) (da_cons (dv_gl c_ZERO (by rfl)) da_nil))) dv_int) (dw_or1 (dt_ge (dv_call C_compare.fn (hr.mono (by decide)) (by rfl) C_compare.mgx C_compare.F.kp (bd_compare C_compare.F) hxF (da_cons (dv_var 3) (da_cons (dv_var 0) da_nil))) dv_int)))) (ds_one (dp_raise0 X_InvalidCurve (hr.mono (by decide)) rfl tkF hxN (by rfl))) ds_nil)
 (ds_one (dp_if (dt_w (dw_or (dt_gt (dv_call C_compare.fn (hr.mono (by decide)) (by rfl) C_compare.mgx C_compare.F.kp (bd_compare C_compare.F) hxF (da_cons (dv_var 4) (da_cons (dv_var 5) da_nil))) dv_int) (dw_or1 (dt_gt (dv_call C_compare.fn (hr.mono (by decide)) (by rfl) C_compare.mgx C_compare.F.kp (bd_compare C_compare.F) hxF (da_cons (dv_var 5) (da_cons (dv_var 6) da_nil))) dv_int)))) (ds_one (dp_raise0 X_InvalidCurve (hr.mono (by decide)) rfl tkF hxN (by rfl))) ds_nil))))
 (ds_one (dp_if (dt_gt (dv_callB call_len ref_len (by rfl) g_len PySem.boot_len (da_cons (dv_var 2) da_nil)) dv_int) (ds_cons (dp_set 7 sc_check_points.nd (dv_add (dv_callTy call_list_of ref_list (by rfl) g_list (by decide +kernel) (da_cons (dv_slice (dv_var 2) (do_some dv_int) do_none) da_nil)) (dv_lst (da_cons (dv_call C_moved.fn (hr.mono (by decide)) (by rfl) C_moved.mgx C_moved.F.kp (bd_moved C_moved.F) hxF (da_cons (dv_ix (dv_var 2) dv_int) (da_cons dv_int (da_cons (dv_var 0) (da_cons (dv_var 1) da_nil))))) da_nil))))
 (ds_one (dp_for PassesOwn.leaving rfl (di_zip2 (by rfl) g_zip (da_cons (dv_var 2) (da_cons (dv_var 7) da_nil))) (dg_tup (n:=2) rfl (dgs_cons (dg_name 8 sc_check_points.nd) (dgs_cons (dg_name 9 sc_check_points.nd) dgs_nil))) (ds_one (dp_if (dt_w (dw_or (dt_ge (dv_call C_compare.fn (hr.mono (by decide)) (by rfl) C_compare.mgx C_compare.F.kp (bd_compare C_compare.F) hxF (da_cons (dv_ix (dv_var 8) dv_int) (da_cons (dv_ix (dv_var 9) dv_int) da_nil))) dv_int) (dw_or1 (dt_gt (dv_call C_compare.fn (hr.mono (by decide)) (by rfl) C_compare.mgx C_compare.F.kp (bd_compare C_compare.F) hxF (da_cons (dv_ix (dv_var 8) dv_int) (da_cons (dv_ix (dv_var 9) dv_int) da_nil))) dv_int)))) (ds_one (dp_raise0 X_InvalidCurve (hr.mono (by decide)) rfl tkF hxN (by rfl))) ds_nil))))) ds_nil))))) ?_
 rintro ds M Q E hM hD ⟨p,r,P,pts,rfl,hP,qp,qr,hsz,hlen,hE,hQ⟩
 have hX:¬ okPts p r pts->CutX M.length E ⟨He.ga K "InvalidCurve",[("code",.str "InvalidCurve")]⟩ M:=fun h=>CutX.same rfl hM (hE h)
 have zl:sizeLine=16777216:=rfl
 walk_at "R"
 refine ⟨p,0,rfl,by omega,by decide +kernel,?_⟩
 rw [gap_cmp]
 walk_at "R"
 refine ifd (fun h=>?_) (fun h1=>?_)
 ·walk_at "R"
  exact ⟨rfl,by decide,hX fun ok=>absurd ok.p0 (cmp_le.mp h)⟩
 walk_at "R"
 refine ⟨r,0,rfl,by omega,by decide +kernel,?_⟩
 rw [gap_cmp]
 walk_at "R"
 refine ifd (fun h=>?_) (fun h2=>?_)
 ·walk_at "R"
  exact ⟨rfl,by decide,hX fun ok=>absurd ok.r0 (cmp_le.mp h)⟩
 have hp0:0 < p:=by
  by_cases z:0 < p
  ·exact z
  ·exact absurd (cmp_le.mpr z) h1
 have hr0:0 < r:=by
  by_cases z:0 < r
  ·exact z
  ·exact absurd (cmp_le.mpr z) h2
 walk_at "R"
 refine e_forS hP ?_
 refine for_list ptD pts (fun rest rho M'=>M'=M/\(∃ dn,pts=dn ++ rest/\∀ q∈dn,okPt p q)/\∃ c3 c4 c5 c6,rho=[some (qD p),some (qD r),some P,c3,c4,c5,c6,none,none,none]) ⟨rfl,⟨[],rfl,fun q h=>nomatch h⟩,_,_,_,_,rfl⟩ ?_ ?_
 ·rintro c rest rho M' N ⟨rfl,⟨dn,hdn,hok⟩,c3,c4,c5,c6,rfl⟩ hN
  have hc:c∈pts:=by rw [hdn];simp
  have hs:=hsz c hc
  have s1:=hs.a
  have s2:=hs.l
  have s3:=hs.v
  have s4:=hs.r
  walk_at "R"
  refine ⟨c.a,0,rfl,by omega,by decide +kernel,?_⟩
  rw [gap_cmp]
  walk_at "R"
  refine ifd (fun h=>?_) (fun g1=>?_)
  ·walk_at "R"
   exact ⟨rfl,by decide,hX fun ok=>absurd (cmp_lt.mp h) (ok.pt c hc).lo⟩
  walk_at "R"
  refine ⟨c.a,p,rfl,by omega,by omega,?_⟩
  rw [gap_cmp]
  walk_at "R"
  refine ifd (fun h=>?_) (fun g2=>?_)
  ·walk_at "R"
   exact ⟨rfl,by decide,hX fun ok=>absurd (ok.pt c hc).hi (cmp_ge.mp h)⟩
  walk_at "R"
  refine ⟨c.l,c.v,rfl,by omega,by omega,?_⟩
  rw [gap_cmp]
  walk_at "R"
  refine ifd (fun h=>?_) (fun g3=>?_)
  ·walk_at "R"
   exact ⟨rfl,by decide,hX fun ok=>absurd (cmp_gt.mp h) (ok.pt c hc).lv⟩
  walk_at "R"
  refine ⟨c.v,c.r,rfl,by omega,by omega,?_⟩
  rw [gap_cmp]
  walk_at "R"
  refine ifd (fun h=>?_) (fun g4=>?_)
  ·walk_at "R"
   exact ⟨rfl,by decide,hX fun ok=>absurd (cmp_gt.mp h) (ok.pt c hc).vr⟩
  walk_at "R"
  refine hN _ _ ⟨rfl,⟨dn ++ [c],by rw [hdn];simp,fun q hq=>?_⟩,_,_,_,_,rfl⟩
  rcases List.mem_append.mp hq with hq | hq
  ·exact hok q hq
  ·have:q=c:=by simpa using hq
   subst this
   refine ⟨fun z=>g1 (cmp_lt.mpr z),?_,fun z=>g3 (cmp_gt.mpr z),fun z=>g4 (cmp_gt.mpr z)⟩
   by_cases z:q.a < p
   ·exact z
   ·exact absurd (cmp_ge.mpr z) g2
 ·rintro rho M' ⟨rfl,⟨dn,hdn,hok⟩,c3,c4,c5,c6,rfl⟩
  rw [List.append_nil] at hdn
  subst hdn
  walk_at "R"
  refine e_len (asS_seq hP) ?_
  walk_at "R"
  rw [List.length_map]
  refine ifd (fun hne=>?_) (fun hz=>?_)
  rotate_left
  ·walk_at "R"
   refine Cut.same rfl hM (hQ ⟨hp0,hr0,hok,?_⟩)
   cases pts with
   | nil=>intro x hx;cases hx
   | cons q qs=>exact absurd (by simp only [List.length_cons];omega) hz
  obtain ⟨q,rest,rfl⟩:∃ q rest,pts=q :: rest:=by
   cases pts with
   | nil=>exact absurd hne (by decide)
   | cons q rest=>exact ⟨q,rest,rfl⟩
  have hnx:∀ x∈rest ++ [q.mv 1 p r],x.sz 3000000:=fun x hx=>by
   rcases List.mem_append.mp hx with hx | hx
   ·exact (hsz x (List.mem_cons_of_mem _ hx)).mono (by omega)
   ·have:x=q.mv 1 p r:=by simpa using hx
    subst this
    exact Pt.sz.mv (hsz q (List.mem_cons_self ..)) (t:=1) (n:=1) (by decide) qp qr (by omega)
  walk_at "R"
  refine e_slS hP fun y hy=>?_
  walk_at "R"
  refine e_listS hy ?_
  walk_at "R"
  refine e_ix (asS_seq hP) at_0 ?_
  walk_at "R"
  refine ⟨q,1,p,r,1000000,rfl,by omega,by omega,hsz q (List.mem_cons_self ..),by decide,?_⟩
  walk_at "R"
  rw [List.map_cons,cut_tl]
  refine e_addl (by simp only [List.length_map,List.length_cons,List.length_nil] at hlen ⊢;omega) ?_
  walk_at "R"
  refine ⟨_,_,hP,rfl,?_⟩
  rw [show rest.map ptD ++ [ptD (q.mv ((1:Int):Rat) p r)]=(rest ++ [q.mv 1 p r]).map ptD from by rw [List.map_append];rfl,zip2_map]
  refine for_list (fun x:Pt×Pt=>D.tup [ptD x.1,ptD x.2]) ((q :: rest).zip (rest ++ [q.mv 1 p r])) (fun rs rho M''=>M''=M'/\(∃ dn,(q :: rest).zip (rest ++ [q.mv 1 p r])=dn ++ rs/\∀ x∈dn,okPr x)/\∃ c8 c9,rho=[some (qD p),some (qD r),some P,c3,c4,c5,c6,some (.lst ((rest ++ [q.mv 1 p r]).map ptD)),c8,c9]) ⟨rfl,⟨[],rfl,fun q h=>nomatch h⟩,_,_,rfl⟩ ?_ ?_
  ·rintro c rs rho M'' N ⟨rfl,⟨dn,hdn,hok2⟩,c8,c9,rfl⟩ hN
   have hc:c∈(q :: rest).zip (rest ++ [q.mv 1 p r]):=by rw [hdn];simp
   have hs:=hsz c.1 (List.of_mem_zip hc).1
   have hs':=hnx c.2 (List.of_mem_zip hc).2
   have s1:=hs.a
   have s2:=hs.r
   have s3:=hs'.a
   have s4:=hs'.l
   walk_at "R"
   refine ⟨c.1.a,c.2.a,rfl,by omega,by omega,?_⟩
   rw [gap_cmp]
   walk_at "R"
   refine ifd (fun h=>?_) (fun g1=>?_)
   ·walk_at "R"
    exact ⟨rfl,by decide,hX fun ok=>absurd (ok.pr c hc).lt (cmp_ge.mp h)⟩
   walk_at "R"
   refine ⟨c.1.r,c.2.l,rfl,by omega,by omega,?_⟩
   rw [gap_cmp]
   walk_at "R"
   refine ifd (fun h=>?_) (fun g2=>?_)
   ·walk_at "R"
    exact ⟨rfl,by decide,hX fun ok=>absurd (cmp_gt.mp h) (ok.pr c hc).le⟩
   walk_at "R"
   refine hN _ _ ⟨rfl,⟨dn ++ [c],by rw [hdn];simp,fun x hx=>?_⟩,_,_,rfl⟩
   rcases List.mem_append.mp hx with hx | hx
   ·exact hok2 x hx
   ·have:x=c:=by simpa using hx
    subst this
    refine ⟨?_,fun z=>g2 (cmp_gt.mpr z)⟩
    by_cases z:x.1.a < x.2.a
    ·exact z
    ·exact absurd (cmp_ge.mpr z) g1
  ·rintro rho M'' ⟨rfl,⟨dn,hdn,hok2⟩,c8,c9,rfl⟩
   rw [List.append_nil] at hdn
   refine Cut.same rfl hM (hQ ⟨hp0,hr0,hok,?_⟩)
   rw [<- hdn] at hok2
   exact hok2
theorem ok_divide {f:Addr} {fd:FuncData} (F:F_divide K f fd) (C_fraction:Cal_fraction P w K mg base Tb):FnD P w K mg base Tb 34 f fd ["one","other"] (sp_divide K):=by
 refine fnD_of _ F sc_divide (by rintro ds M Q E ⟨a,b,rfl,_⟩;rfl) (fun cdv A outer s H EV hr=>(ds_one (dp_ret (dv_callK C_fraction.fn (hr.mono (by decide)) (by rfl) C_fraction.mgx C_fraction.F.kp (kb_fraction_2_ C_fraction.F) cs_fraction hxF (da_cons (dv_mul (dv_ix (dv_var 0) dv_int) (dv_ix (dv_var 1) dv_int)) (da_cons (dv_mul (dv_ix (dv_var 0) dv_int) (dv_ix (dv_var 1) dv_int)) da_nil)) dk_nil)))) ?_
 rintro ds M Q E hM hD ⟨a,b,rfl,ha,hb,hQ⟩
 have:=qs_num a
 have:=qs_num b
 have:=qs_den' a
 have:=qs_den' b
 have hd:(a.den:Int)≠0:=by have:=a.den_nz;omega
 refine ⟨mok_b (by omega),mok_b (by omega),rfl,rfl,_,_,rfl,Nat.le_trans (bi_mul _ _) (by omega),fun h=>?_,fun h=>Cut.same rfl hM ?_⟩
 ·exact CutX.same rfl hM (hQ.1 (Rat.num_eq_zero.mp ((Int.mul_eq_zero.mp h).resolve_left hd)))
 ·have h0:b≠0:=fun e=>h (by rw [e];exact Int.mul_zero _)
  rw [divInt_div _ _ h0];exact hQ.2 h0
theorem ok_subtract {f:Addr} {fd:FuncData} (F:F_subtract K f fd) (C_fraction:Cal_fraction P w K mg base Tb):FnD P w K mg base Tb 34 f fd ["one","other"] sp_subtract:=by
 refine fnD_of _ F sc_subtract (by rintro ds M Q E ⟨a,b,rfl,_⟩;rfl) (fun cdv A outer s H EV hr=>(ds_one (dp_ret (dv_callK C_fraction.fn (hr.mono (by decide)) (by rfl) C_fraction.mgx C_fraction.F.kp (kb_fraction_2_ C_fraction.F) cs_fraction hxF (da_cons (dv_sub (dv_mul (dv_ix (dv_var 0) dv_int) (dv_ix (dv_var 1) dv_int)) (dv_mul (dv_ix (dv_var 1) dv_int) (dv_ix (dv_var 0) dv_int))) (da_cons (dv_mul (dv_ix (dv_var 0) dv_int) (dv_ix (dv_var 1) dv_int)) da_nil)) dk_nil)))) ?_
 rintro ds M Q E hM hD ⟨a,b,rfl,ha,hb,hQ⟩
 have:=qs_num a
 have:=qs_num b
 have:=qs_den' a
 have:=qs_den' b
 refine ⟨mok_b (by omega),mok_b (by omega),mok_b (by omega),rfl,rfl,_,_,rfl,Nat.le_trans (bi_mul _ _) (by omega),fun h=>absurd h (den_ne a b),fun _=>Cut.same rfl hM ?_⟩
 rw [divInt_sub];exact hQ
theorem ok_slope_between {f:Addr} {fd:FuncData} (F:F_slope_between K f fd) (C_divide:Cal_divide P w K mg base Tb) (C_subtract:Cal_subtract P w K mg base Tb):FnD P w K mg base Tb 35 f fd ["one","other"] sp_slope_between:=by
 refine fnD_of _ F sc_slope_between (by rintro ds M Q E ⟨x,y,rfl,_⟩;rfl) (fun cdv A outer s H EV hr=>(ds_one (dp_ret (dv_call C_divide.fn (hr.mono (by decide)) (by rfl) C_divide.mgx C_divide.F.kp (bd_divide C_divide.F) hxF (da_cons (dv_call C_subtract.fn (hr.mono (by decide)) (by rfl) C_subtract.mgx C_subtract.F.kp (bd_subtract C_subtract.F) hxF (da_cons (dv_ix (dv_var 1) dv_int) (da_cons (dv_ix (dv_var 0) dv_int) da_nil))) (da_cons (dv_call C_subtract.fn (hr.mono (by decide)) (by rfl) C_subtract.mgx C_subtract.F.kp (bd_subtract C_subtract.F) hxF (da_cons (dv_ix (dv_var 1) dv_int) (da_cons (dv_ix (dv_var 0) dv_int) da_nil))) da_nil)))))) ?_
 rintro ds M Q E hM hD ⟨x,y,rfl,hx,hy,hn,hQ⟩
 have h1:=hx.a
 have h2:=hx.r
 have h3:=hy.a
 have h4:=hy.l
 have h5:=qs_sub y.l x.r
 have h6:=qs_sub y.a x.a
 have hne:y.a - x.a≠0:=fun z=>hn (by grind)
 walk_at "R"
 refine ⟨y.l,x.r,rfl,by omega,by omega,?_⟩
 walk_at "R"
 refine ⟨y.a,x.a,rfl,by omega,by omega,?_⟩
 walk_at "R"
 refine ⟨y.l - x.r,y.a - x.a,rfl,by omega,by omega,fun z=>absurd z hne,fun _=>?_⟩
 exact Cut.same rfl hM hQ
theorem ok_true_points {f:Addr} {fd:FuncData} (F:F_true_points K f fd) (C_moved:Cal_moved P w K mg base Tb) (C_slope_between:Cal_slope_between P w K mg base Tb) (g_zip:mg "zip"=none):FnD P w K mg base Tb 36 f fd ["period","rise","points"] sp_true_points:=by
 refine fnD_of _ F sc_true_points (by rintro ds M Q E ⟨p,r,q,l,rfl,_⟩;rfl) (fun cdv A outer s H EV hr=>(ds_cons (dp_set 3 sc_true_points.nd (dv_add (dv_add (dv_lst (da_cons (dv_call C_moved.fn (hr.mono (by decide)) (by rfl) C_moved.mgx C_moved.F.kp (bd_moved C_moved.F) hxF (da_cons (dv_ix (dv_var 2) (dv_neg dv_int)) (da_cons (dv_neg dv_int) (da_cons (dv_var 0) (da_cons (dv_var 1) da_nil))))) da_nil)) (dv_var 2)) (dv_lst (da_cons (dv_call C_moved.fn (hr.mono (by decide)) (by rfl) C_moved.mgx C_moved.F.kp (bd_moved C_moved.F) hxF (da_cons (dv_ix (dv_var 2) dv_int) (da_cons dv_int (da_cons (dv_var 0) (da_cons (dv_var 1) da_nil))))) da_nil))))
 (ds_one (dp_ret (dv_lc rfl sc_true_points.nd (di_zip3 (by rfl) g_zip (da_cons (dv_var 3) (da_cons (dv_slice (dv_var 3) (do_some dv_int) do_none) (da_cons (dv_slice (dv_var 3) (do_some dv_int) do_none) da_nil)))) (blkOk_by (own:=[("before",4),("here",5),("later",6)]) (N:=["period","rise","points","ring","before","here","later"]) (sc:=defScope s_true_points) (by decide +kernel)) (tgn_tup (n:=3) (tgns_cons (tgn_name (i:=4) (by decide)) (tgns_cons (tgn_name (i:=5) (by decide)) (tgns_cons (tgn_name (i:=6) (by decide)) tgns_nil)))) (fun _ _ _ _ _=>pg_tup (n:=3) rfl (pgs_cons (pg_name (i:=4) sc_true_points.nd rfl (by first | exact Or.inl rfl | exact Or.inr rfl)) (pgs_cons (pg_name (i:=5) sc_true_points.nd rfl (by first | exact Or.inl rfl | exact Or.inr rfl)) (pgs_cons (pg_name (i:=6) sc_true_points.nd rfl (by first | exact Or.inl rfl | exact Or.inr rfl)) pgs_nil)))) (fun _ _ _ _ _=>dts_one (dt_w (dw_or (dt_ne hr.units (dv_ix (dv_var 5) dv_int) (dv_ix (dv_var 5) dv_int)) (dw_or1 (dt_ne hr.units (dv_call C_slope_between.fn (hr.mono (by decide)) (by rfl) C_slope_between.mgx C_slope_between.F.kp (bd_slope_between C_slope_between.F) passL (da_cons (dv_var 4) (da_cons (dv_var 5) da_nil))) (dv_call C_slope_between.fn (hr.mono (by decide)) (by rfl) C_slope_between.mgx C_slope_between.F.kp (bd_slope_between C_slope_between.F) passL (da_cons (dv_var 5) (da_cons (dv_var 6) da_nil)))))))) (fun _ _ _ _ _=>(dv_var 5))))))) ?_
 rintro ds M Q E hM hD ⟨p,r,q,l,rfl,qp,qr,hsz,hlen,ok,hQ⟩
 have zl:sizeLine=16777216:=rfl
 have hq:=hsz q (List.mem_cons_self ..)
 have hl:=hsz _ (List.getLast_mem (by simp:q :: l≠[]))
 have hr:=ring_sz hsz qp qr
 simp only [List.length_cons] at hlen
 walk_at "R"
 refine e_ix rfl (at_last (by simp)) ?_
 walk_at "R"
 refine ⟨(q :: l).getLast (by simp),-1,p,r,900000,by rw [List.getLast_map],by omega,by omega,hl.mono (by omega),by decide,?_⟩
 walk_at "R"
 refine e_addl (by simp only [List.length_map,List.length_cons,List.length_nil];omega) ?_
 walk_at "R"
 refine e_ix rfl at_0 ?_
 walk_at "R"
 refine ⟨q,1,p,r,900000,rfl,by omega,by omega,hq.mono (by omega),by decide,?_⟩
 walk_at "R"
 refine e_addl (by simp only [List.length_map,List.length_cons,List.length_nil,List.length_append];omega) ?_
 rw [show ([ptD (((q :: l).getLast (by simp)).mv ((-1:Int):Rat) p r)] ++ (q :: l).map ptD) ++ [ptD (q.mv ((1:Int):Rat) p r)]=(ringP p r q l).map ptD from by
  show _=(((q :: l).getLast (by simp)).mv (-1) p r :: (q :: l) ++ [q.mv 1 p r]).map ptD
  rw [List.map_append];rfl]
 walk_at "R"
 refine e_sll (ys:=((ringP p r q l).drop 1).map ptD) ?_ ?_
 ·rw [List.map_drop];exact cut_from 1
 walk_at "R"
 refine e_sll (ys:=((ringP p r q l).drop 2).map ptD) ?_ ?_
 ·rw [List.map_drop];exact cut_from 2
 walk_at "R"
 refine ⟨_,_,_,rfl,rfl,rfl,?_⟩
 rw [zip3_map]
 have rl:(ringP p r q l).length=l.length+3:=by simp [ringP]
 refine lc_filt (fun x:Pt×Pt×Pt=>D.tup [ptD x.1,ptD x.2.1,ptD x.2.2]) (fun x=>ptD x.2.1) isTrue3 _ (by simp only [List.length_zip,List.length_drop,rl];omega) ?_ ?_
 ·intro c hc Y W hY hW
  obtain ⟨l1,l2⟩:=ring_lt ok hc
  obtain ⟨m1,m2⟩:=mem_zip3 hc
  have z1:=hr _ (List.of_mem_zip m1).1
  have z2:=hr _ (List.mem_of_mem_drop (List.of_mem_zip m1).2)
  have z3:=hr _ (List.mem_of_mem_drop (List.of_mem_zip (show (c.2.1,c.2.2)∈_ from m2)).2)
  have n1:c.1.a≠c.2.1.a:=fun z=>absurd l1 (by rw [z];exact Rat.lt_irrefl)
  have n2:c.2.1.a≠c.2.2.a:=fun z=>absurd l2 (by rw [z];exact Rat.lt_irrefl)
  walk_at "R"
  by_cases h1:c.2.1.l=c.2.1.r
  ·rw [decide_eq_true h1]
   walk_at "R"
   refine ⟨c.1,c.2.1,rfl,z1.mono (by omega),z2.mono (by omega),n1,?_⟩
   walk_at "R"
   refine ⟨c.2.1,c.2.2,rfl,z2.mono (by omega),z3.mono (by omega),n2,?_⟩
   walk_at "R"
   by_cases h2:slB c.1 c.2.1=slB c.2.1 c.2.2
   ·rw [decide_eq_true h2]
    walk_at "R"
    exact hW (by simp [isTrue3,h1,h2])
   ·rw [decide_eq_false h2]
    walk_at "R"
    exact hY (by simp [isTrue3,h2])
  ·rw [decide_eq_false h1]
   walk_at "R"
   exact hY (by simp [isTrue3,h1])
 ·rw [show ((((ringP p r q l).zip (((ringP p r q l).drop 1).zip ((ringP p r q l).drop 2))).filter isTrue3).map fun x=>ptD x.2.1)=(truePts p r q l).map ptD from by unfold truePts;rw [List.map_map];rfl]
  exact Cut.same hb_pts hM hQ
theorem ok_repeats {f:Addr} {fd:FuncData} (F:F_repeats K f fd) (C_moved:Cal_moved P w K mg base Tb) (C_divide:Cal_divide P w K mg base Tb) (g_len:mg "len"=none) (g_all:mg "all"=none) (g_zip:mg "zip"=none):FnD P w K mg base Tb 36 f fd ["period","rise","points","size"] sp_repeats:=by
 refine fnD_of _ F sc_repeats (by rintro ds M Q E ⟨p,r,pts,n,rfl,_⟩;rfl) (fun cdv A outer s H EV hr=>(ds_cons (dp_set 4 sc_repeats.nd (dv_tup (da_cons (dv_fdiv (dv_callB call_len ref_len (by rfl) g_len PySem.boot_len (da_cons (dv_var 2) da_nil)) (dv_var 3)) (da_cons dv_int da_nil))))
 (ds_cons (dp_set 5 sc_repeats.nd (dv_add (dv_slice (dv_var 2) (do_some (dv_var 3)) do_none) (dv_lc rfl sc_repeats.nd (di_seq (dv_slice (dv_var 2) do_none (do_some (dv_var 3)))) (blkOk_by (own:=[("point",6)]) (N:=["period","rise","points","size","parts","later","point","after"]) (sc:=defScope s_repeats) (by decide +kernel)) (tgn_name (i:=6) (by decide)) (fun _ _ _ _ _=>pg_name (i:=6) sc_repeats.nd rfl (by first | exact Or.inl rfl | exact Or.inr rfl)) (fun _ _ _ _ _=>dts_nil) (fun _ _ _ _ _=>(dv_call C_moved.fn (hr.mono (by decide)) (by rfl) C_moved.mgx C_moved.F.kp (bd_moved C_moved.F) passL (da_cons (dv_var 6) (da_cons dv_int (da_cons (dv_var 0) (da_cons (dv_var 1) da_nil)))))))))
 (ds_one (dp_ret (dv_callB (cr_all rfl) ref_all (by rfl) g_all (by decide +kernel) (da_cons (dv_lc rfl sc_repeats.nd (di_zip2 (by rfl) g_zip (da_cons (dv_var 2) (da_cons (dv_var 5) da_nil))) (blkOk_by (own:=[("point",6),("after",7)]) (N:=["period","rise","points","size","parts","later","point","after"]) (sc:=defScope s_repeats) (by decide +kernel)) (tgn_tup (n:=2) (tgns_cons (tgn_name (i:=6) (by decide)) (tgns_cons (tgn_name (i:=7) (by decide)) tgns_nil))) (fun _ _ _ _ _=>pg_tup (n:=2) rfl (pgs_cons (pg_name (i:=6) sc_repeats.nd rfl (by first | exact Or.inl rfl | exact Or.inr rfl)) (pgs_cons (pg_name (i:=7) sc_repeats.nd rfl (by first | exact Or.inl rfl | exact Or.inr rfl)) pgs_nil))) (fun _ _ _ _ _=>dts_nil) (fun _ _ _ _ _=>(dv_eq hr.units (dv_call C_moved.fn (hr.mono (by decide)) (by rfl) C_moved.mgx C_moved.F.kp (bd_moved C_moved.F) passL (da_cons (dv_var 6) (da_cons dv_int (da_cons (dv_call C_divide.fn (hr.mono (by decide)) (by rfl) C_divide.mgx C_divide.F.kp (bd_divide C_divide.F) passL (da_cons (dv_var 0) (da_cons (dv_var 4) da_nil))) (da_cons (dv_call C_divide.fn (hr.mono (by decide)) (by rfl) C_divide.mgx C_divide.F.kp (bd_divide C_divide.F) passL (da_cons (dv_var 1) (da_cons (dv_var 4) da_nil))) da_nil))))) (dv_var 7)))) da_nil))))))) ?_
 rintro ds M Q E hM hD ⟨p,r,pts,n,rfl,hn,hle,qp,qr,hsz,hlen,hQ⟩
 have zl:sizeLine=16777216:=rfl
 walk_at "R"
 rw [List.length_map]
 refine e_int (cdx_small (by omega) (Int.lt_trans (show (n:Int) < 10000 by omega) (by decide +kernel))) ?_
 have ek:(pts.length:Int).fdiv (n:Int)=((pts.length / n:Nat):Int):=by rw [Int.fdiv_eq_ediv_of_nonneg _ (by omega)];rfl
 rw [ek]
 have hk1:0 < pts.length / n:=Nat.div_pos hle hn
 have hk2:pts.length / n<=pts.length:=Nat.div_le_self ..
 generalize hk:pts.length / n=k at hk1 hk2
 have qk:qs ((k:Int):Rat)<=20:=Nat.le_trans (qs_int _) (Nat.max_le.mpr ⟨Nat.le_trans (bi_lt (k:=14) (by omega) (by omega)) (by omega),by omega⟩)
 have k0:((k:Int):Rat)≠0:=fun z=>by
  have:(k:Int)=0:=by exact_mod_cast z
  omega
 walk_at "R"
 refine e_sll (ys:=(pts.drop n).map ptD) (by rw [List.map_drop];exact cut_from n) ?_
 walk_at "R"
 refine e_sll (ys:=(pts.take n).map ptD) (by rw [List.map_take];exact cut_to n) ?_
 refine lc_map ptD (fun x=>ptD (x.mv 1 p r)) (pts.take n) (by simp only [List.length_take];omega) ?_ ?_
 ·intro c hc N hN
  have hs:=hsz c (List.mem_of_mem_take hc)
  walk_at "R"
  exact ⟨c,1,p,r,900000,rfl,by omega,by omega,hs.mono (by omega),by decide,hN⟩
 walk_at "R"
 refine e_addl (by simp only [List.length_map,List.length_take,List.length_drop];omega) ?_
 rw [show (pts.drop n).map ptD ++ (pts.take n).map (fun x=>ptD (x.mv 1 p r))=(laterP p r pts n).map ptD from by unfold laterP;rw [List.map_append,List.map_map];rfl]
 walk_at "R"
 refine ⟨_,_,rfl,rfl,?_⟩
 rw [zip2_map]
 have q1:=qs_div p ((k:Int):Rat)
 have q2:=qs_div r ((k:Int):Rat)
 refine lc_map (fun x:Pt×Pt=>D.tup [ptD x.1,ptD x.2]) (fun x=>D.bl (decide (x.1.mv 1 (p / ((k:Int):Rat)) (r / ((k:Int):Rat))=x.2))) _ (by simp only [List.length_zip];omega) ?_ ?_
 ·intro c hc N hN
  have hs:=hsz c.1 (List.of_mem_zip (show (c.1,c.2)∈_ from hc)).1
  walk_at "R"
  refine ⟨p,((k:Int):Rat),rfl,by omega,by omega,fun z=>absurd z k0,fun _=>?_⟩
  walk_at "R"
  refine ⟨r,((k:Int):Rat),rfl,by omega,by omega,fun z=>absurd z k0,fun _=>?_⟩
  walk_at "R"
  refine ⟨c.1,1,_,_,1000000,rfl,by omega,by omega,hs.mono (by omega),by decide,?_⟩
  refine e_eqpt ?_
  exact hN
 walk_at "R"
 rw [show ((pts.zip (laterP p r pts n)).map fun x=>D.bl (decide (x.1.mv 1 (p / ((k:Int):Rat)) (r / ((k:Int):Rat))=x.2)))=((pts.zip (laterP p r pts n)).map fun x=>decide (x.1.mv 1 (p / ((k:Int):Rat)) (r / ((k:Int):Rat))=x.2)).map D.bl from by rw [List.map_map];rfl]
 refine e_all ?_
 rw [show ((pts.zip (laterP p r pts n)).map fun x=>decide (x.1.mv 1 (p / ((k:Int):Rat)) (r / ((k:Int):Rat))=x.2)).all _root_.id=repB p r pts n from by unfold repB;rw [hk,List.all_map];rfl]
 exact Cut.same rfl hM hQ
theorem ok_equal_parts {f:Addr} {fd:FuncData} (F:F_equal_parts K f fd) (C_repeats:Cal_repeats P w K mg base Tb) (g_range:mg "range"=none) (g_len:mg "len"=none):FnD P w K mg base Tb 37 f fd ["period","rise","points"] sp_equal_parts:=by
 refine fnD_of _ F sc_equal_parts (by rintro ds M Q E ⟨p,r,pts,rfl,_⟩;rfl) (fun cdv A outer s H EV hr=>(ds_cons (dp_for PassesOwn.leaving rfl (di_range2 (by rfl) g_range (da_cons dv_int (da_cons (dv_callB call_len ref_len (by rfl) g_len PySem.boot_len (da_cons (dv_var 2) da_nil)) da_nil))) (dg_name 3 sc_equal_parts.nd) (ds_one (dp_if (dt_w (dw_and (dt_eq hr.units (dv_mod (dv_callB call_len ref_len (by rfl) g_len PySem.boot_len (da_cons (dv_var 2) da_nil)) (dv_var 3)) dv_int) (dw_and1 (dt_tru (dv_call C_repeats.fn (hr.mono (by decide)) (by rfl) C_repeats.mgx C_repeats.F.kp (bd_repeats C_repeats.F) hxF (da_cons (dv_var 0) (da_cons (dv_var 1) (da_cons (dv_var 2) (da_cons (dv_var 3) da_nil))))))))) (ds_one (dp_ret (dv_fdiv (dv_callB call_len ref_len (by rfl) g_len PySem.boot_len (da_cons (dv_var 2) da_nil)) (dv_var 3)))) ds_nil)))
 (ds_one (dp_ret dv_int)))) ?_
 rintro ds M Q E hM hD ⟨p,r,pts,rfl,qp,qr,hsz,hlen,hQ⟩
 have zl:sizeLine=16777216:=rfl
 walk_at "R"
 refine ⟨⟨by decide,by decide,by rw [List.length_map];omega,by rw [List.length_map];omega⟩,?_⟩
 rw [List.length_map,show ((pts.length:Int) - 1).toNat=pts.length - 1 from by omega]
 refine for_list (fun i:Nat=>D.int (1+(i:Int))) (List.range (pts.length - 1)) (fun rest rho M'=>M'=M/\(∃ dn,List.range (pts.length - 1)=dn ++ rest/\∀ i∈dn,goodN p r pts i=false)/\∃ c3,rho=[some (qD p),some (qD r),some (.lst (pts.map ptD)),c3]) ⟨rfl,⟨[],rfl,fun q h=>nomatch h⟩,_,rfl⟩ ?_ ?_
 ·rintro c rest rho M' N ⟨rfl,⟨dn,hdn,hno⟩,c3,rfl⟩ hN
  have hc:c < pts.length - 1:=List.mem_range.mp (by rw [hdn];simp)
  have hi:(1+(c:Int))=((1+c:Nat):Int):=by omega
  have hno':goodN p r pts c=false->∀ i∈dn ++ [c],goodN p r pts i=false:=fun z i hi=>by
   rcases List.mem_append.mp hi with hi | hi
   ·exact hno i hi
   ·have:i=c:=by simpa using hi
    rw [this];exact z
  rw [hi]
  walk_at "R"
  rw [List.length_map]
  refine e_int (by omega) ?_
  have em:decide ((pts.length:Int).fmod ((1+c:Nat):Int)=0)=decide (pts.length % (1+c)=0):=by
   rw [Int.fmod_eq_emod_of_nonneg _ (by omega)]
   rw [Bool.eq_iff_iff,decide_eq_true_iff,decide_eq_true_iff]
   omega
  walk_at "R"
  rw [em]
  refine ifd (fun h1=>?_) (fun h1=>?_)
  ·walk_at "R"
   refine ⟨p,r,pts,1+c,rfl,by omega,by omega,qp,qr,hsz,hlen,?_⟩
   walk_at "R"
   cases hb:repB p r pts (1+c) with
   | true =>
    walk_at "R"
    rw [List.length_map]
    refine e_int (cdx_small (by omega) (Int.lt_trans (show ((1+c:Nat):Int) < 10000 by omega) (by decide +kernel))) ?_
    refine Cut.same rfl hM ?_
    have hg:goodN p r pts c=true:=by unfold goodN;rw [decide_eq_true h1,hb];rfl
    have:eqParts p r pts=pts.length / (1+c):=by unfold eqParts;rw [hdn,find_at hno hg]
    rw [this] at hQ
    rw [Int.fdiv_eq_ediv_of_nonneg _ (by omega)]
    exact hQ
   | false =>
    walk_at "R"
    exact hN _ _ ⟨rfl,⟨dn ++ [c],by rw [hdn];simp,hno' (by unfold goodN;rw [hb,Bool.and_false])⟩,_,rfl⟩
  ·walk_at "R"
   exact hN _ _ ⟨rfl,⟨dn ++ [c],by rw [hdn];simp,hno' (by unfold goodN;rw [decide_eq_false h1,Bool.false_and])⟩,_,rfl⟩
 ·rintro rho M' ⟨rfl,⟨dn,hdn,hno⟩,c3,rfl⟩
  rw [List.append_nil] at hdn
  walk_at "R"
  refine Cut.same rfl hM ?_
  have:eqParts p r pts=1:=by unfold eqParts;rw [hdn,find_no hno]
  rw [this] at hQ
  exact hQ
theorem ok_multiply {f:Addr} {fd:FuncData} (F:F_multiply K f fd) (C_fraction:Cal_fraction P w K mg base Tb):FnD P w K mg base Tb 34 f fd ["one","other"] sp_multiply:=by
 refine fnD_of _ F sc_multiply (by rintro ds M Q E ⟨a,b,rfl,_⟩;rfl) (fun cdv A outer s H EV hr=>(ds_one (dp_ret (dv_callK C_fraction.fn (hr.mono (by decide)) (by rfl) C_fraction.mgx C_fraction.F.kp (kb_fraction_2_ C_fraction.F) cs_fraction hxF (da_cons (dv_mul (dv_ix (dv_var 0) dv_int) (dv_ix (dv_var 1) dv_int)) (da_cons (dv_mul (dv_ix (dv_var 0) dv_int) (dv_ix (dv_var 1) dv_int)) da_nil)) dk_nil)))) ?_
 rintro ds M Q E hM hD ⟨a,b,rfl,ha,hb,hQ⟩
 have:=qs_num a
 have:=qs_num b
 have:=qs_den' a
 have:=qs_den' b
 refine ⟨mok_b (by omega),mok_b (by omega),rfl,rfl,_,_,rfl,Nat.le_trans (bi_mul _ _) (by omega),fun h=>absurd h (den_ne a b),fun _=>Cut.same rfl hM ?_⟩
 rw [divInt_mul];exact hQ
theorem ok_floor_of {f:Addr} {fd:FuncData} (F:F_floor_of K f fd) (NS:Seer P base):FnD P w K mg base Tb 33 f fd ["value"] sp_floor_of:=by
 refine fnD_of _ F sc_floor_of (by rintro ds M Q E ⟨a,rfl,_⟩;rfl) (fun cdv A outer s H EV hr=>(ds_one (dp_ret (dv_fdivP NS (hr.mono (by decide)) (dv_ix (dv_var 0) dv_int) (dv_ix (dv_var 0) dv_int))))) ?_
 rintro ds M Q E hM hD ⟨a,rfl,ha,hQ⟩
 have:=qs_den' a
 have:=a.den_nz
 exact ⟨show ((a.den:Nat):Int)≠0 by omega,Cut.same rfl hM hQ⟩
theorem ok_Curve_point_at {f:Addr} {fd:FuncData} (F:F_Curve_point_at K f fd) (C_moved:Cal_moved P w K mg base Tb) (g_len:mg "len"=none) (O_Curve:OCl K "Curve" ["period","rise","row","slope","base","form","offset"]):FnD P w K mg base Tb 36 f fd ["self","place"] (sp_Curve_point_at K):=by
 refine fnD_of _ F sc_Curve_point_at (by rintro ds M Q E ⟨x,c,fs,k,B,rfl,_⟩;rfl) (fun cdv A outer s H EV hr=>(ds_one (dp_ret (dv_call C_moved.fn (hr.mono (by decide)) (by rfl) C_moved.mgx C_moved.F.kp (bd_moved C_moved.F) hxF (da_cons (dv_ix (dv_fld O_Curve.clo.cls (O_Curve.no _ (by simp)) (dv_var 0)) (dv_mod (dv_var 1) (dv_callB call_len ref_len (by rfl) g_len PySem.boot_len (da_cons (dv_fld O_Curve.clo.cls (O_Curve.no _ (by simp)) (dv_var 0)) da_nil)))) (da_cons (dv_fdiv (dv_var 1) (dv_callB call_len ref_len (by rfl) g_len PySem.boot_len (da_cons (dv_fld O_Curve.clo.cls (O_Curve.no _ (by simp)) (dv_var 0)) da_nil))) (da_cons (dv_fld O_Curve.clo.cls (O_Curve.no _ (by simp)) (dv_var 0)) (da_cons (dv_fld O_Curve.clo.cls (O_Curve.no _ (by simp)) (dv_var 0)) da_nil)))))))) ?_
 rintro ds M Q E hM hD ⟨x,c,fs,k,B,rfl,hx,hz,hn,hk,hQ⟩
 have hl:=List.length_pos_iff.mpr hn
 have hl2:=hz.len
 have hj:(k % (c.row.length:Int)).toNat < c.row.length:=by
  have:=Int.emod_lt_of_pos k (show (0:Int) < c.row.length by omega)
  have:=Int.emod_nonneg k (show (c.row.length:Int)≠0 by omega)
  omega
 walk_at "R"
 refine e_fldx hx.ins hx.row ?_
 walk_at "R"
 refine e_fldx hx.ins hx.row ?_
 walk_at "R"
 rw [List.length_map]
 refine e_int (by omega) ?_
 rw [Int.fmod_eq_emod_of_nonneg _ (by omega),show k % (c.row.length:Int)=(((k % (c.row.length:Int)).toNat:Nat):Int) from by have:=Int.emod_nonneg k (show (c.row.length:Int)≠0 by omega);omega]
 walk_at "R"
 refine e_ix rfl (at_nat (by rw [List.length_map];exact hj)) ?_
 rw [List.getElem_map]
 generalize hq:c.row[(k % (c.row.length:Int)).toNat]'hj=q
 walk_at "R"
 refine e_fldx hx.ins hx.row ?_
 walk_at "R"
 rw [List.length_map]
 refine e_int (cdx_small (by omega) (Int.lt_trans (show (c.row.length:Int) < 10000 by omega) (by decide +kernel))) ?_
 rw [Int.fdiv_eq_ediv_of_nonneg _ (by omega)]
 walk_at "R"
 refine e_fldx hx.ins hx.p ?_
 walk_at "R"
 refine e_fldx hx.ins hx.r ?_
 walk_at "R"
 have:=bz_ediv k c.row.length
 refine ⟨q,k / c.row.length,c.p,c.r,B,rfl,hz.p hn,hz.r hn,hz.pt _ (by rw [<- hq];exact List.getElem_mem hj),by omega,?_⟩
 unfold Crv.at rowAt at hQ
 rw [List.getElem?_eq_getElem hj,hq] at hQ
 exact Cut.same rfl hM hQ
theorem ok_Curve_place_from {f:Addr} {fd:FuncData} (F:F_Curve_place_from K f fd) (C_floor_of:Cal_floor_of P w K mg base Tb) (C_divide:Cal_divide P w K mg base Tb) (C_compare:Cal_compare P w K mg base Tb) (C_Curve_point_at:Cal_Curve_point_at P w K mg base Tb) (g_len:mg "len"=none) (O_Curve:OCl K "Curve" ["period","rise","row","slope","base","form","offset"]):FnD P w K mg base Tb 37 f fd ["self","amount"] (sp_Curve_place_from K):=by
 refine fnD_of _ F sc_Curve_place_from (by rintro ds M Q E ⟨x,c,fs,y,B,rfl,_⟩;rfl) (fun cdv A outer s H EV hr=>(ds_cons (dp_set 2 sc_Curve_place_from.nd (dv_mul (dv_call C_floor_of.fn (hr.mono (by decide)) (by rfl) C_floor_of.mgx C_floor_of.F.kp (bd_floor_of C_floor_of.F) hxF (da_cons (dv_call C_divide.fn (hr.mono (by decide)) (by rfl) C_divide.mgx C_divide.F.kp (bd_divide C_divide.F) hxF (da_cons (dv_var 1) (da_cons (dv_fld O_Curve.clo.cls (O_Curve.no _ (by simp)) (dv_var 0)) da_nil))) da_nil)) (dv_callB call_len ref_len (by rfl) g_len PySem.boot_len (da_cons (dv_fld O_Curve.clo.cls (O_Curve.no _ (by simp)) (dv_var 0)) da_nil))))
 (ds_cons (dp_while PassesOwn.leaving (dt_lt (dv_call C_compare.fn (hr.mono (by decide)) (by rfl) C_compare.mgx C_compare.F.kp (bd_compare C_compare.F) hxF (da_cons (dv_ix (dv_meth (dv_var 0) O_Curve.clo.cls C_Curve_point_at.me C_Curve_point_at.fn (hr.mono (by decide)) (kb_Curve_point_at_2_ C_Curve_point_at.F) CsD.nil hxF (dak (da_cons (dv_var 2) da_nil) dk_nil)) dv_int) (da_cons (dv_var 1) da_nil))) dv_int) (ds_one (dp_augAdd 2 sc_Curve_place_from.nd dv_int)))
 (ds_one (dp_ret (dv_var 2)))))) ?_
 rintro ds M Q E hM hD ⟨x,c,fs,y,B,rfl,hx,hz,ok,hn,hy,hQ⟩
 have hl:=List.length_pos_iff.mpr hn
 have hl2:=hz.len
 have trk:=ok.trk hn
 have p0:=ok.p0
 have hzp:=hz.p hn
 have hd:=qs_div y c.p
 walk_at "R"
 refine e_fldx hx.ins hx.p ?_
 walk_at "R"
 refine ⟨y,c.p,rfl,by omega,by omega,fun z=>absurd p0 (by rw [z];exact Rat.lt_irrefl),fun _=>?_⟩
 walk_at "R"
 refine ⟨y / c.p,rfl,by omega,?_⟩
 rw [fdiv_floor]
 have hf:=bz_floor (y / c.p)
 walk_at "R"
 refine e_fldx hx.ins hx.row ?_
 walk_at "R"
 rw [List.length_map]
 refine e_int (mok_r (by omega) (by omega)) ?_
 have h0:∀ t:Int,(c.at (t * c.row.length)).a=(c.row[0]).a+t * c.p:=fun t=>by
  have h1:=rowAt_add (p:=c.p) (r:=c.r) hn 0 t
  rw [Int.zero_add,show (0:Int)=((0:Nat):Int) from rfl,rowAt_nat 0 hl] at h1
  unfold Crv.at
  rw [h1];rfl
 have okp:=(ok.ok hn).pt _ (List.getElem_mem hl)
 have f1:=Rat.floor_le (y / c.p)
 have f2:=Rat.lt_floor_add_one (y / c.p)
 rw [Rat.intCast_add] at f2
 have g1:((y / c.p).floor:Rat) * c.p<=y:=by
  have:=fun z=>(show ¬ y / c.p < ((y / c.p).floor:Rat) by grind) ((Rat.div_lt_iff p0).mpr z)
  grind
 have g2:y < (((y / c.p).floor:Rat)+((1:Int):Rat)) * c.p:=(Rat.div_lt_iff p0).mp f2
 have e1:(((1:Int)):Rat)=1:=rfl
 rw [e1] at g2
 have lo:(c.at ((y / c.p).floor * c.row.length - 1)).a < y:=by
  have h1:=rowAt_add (p:=c.p) (r:=c.r) hn ((c.row.length - 1:Nat):Int) ((y / c.p).floor - 1)
  rw [rowAt_nat _ (by omega),show ((c.row.length - 1:Nat):Int)+((y / c.p).floor - 1) * c.row.length=(y / c.p).floor * c.row.length - 1 from by rw [Int.sub_mul];omega] at h1
  unfold Crv.at
  rw [h1]
  have:=((ok.ok hn).pt _ (List.getElem_mem (show c.row.length - 1 < c.row.length by omega))).hi
  show _+_ < y
  rw [Rat.intCast_sub]
  grind
 have hi:y < (c.at (((y / c.p).floor+1) * c.row.length)).a:=by
  rw [h0,Rat.intCast_add,e1]
  have:=okp.lo
  grind
 have bzn:∀ j:Int,0<=j->j<=c.row.length->bz ((y / c.p).floor * c.row.length+j)<=qs y+B+17:=fun j j0 j1=>by
  have b1:=bi_mul (y / c.p).floor c.row.length
  have b2:=bi_add ((y / c.p).floor * c.row.length) j
  have b3:bz (c.row.length:Int)<=14:=bi_lt (by omega) (by omega)
  have b4:bz j<=14:=bi_lt (by omega) (by omega)
  omega
 walk_at "R"
 refine wh_inv (fun rho M'=>M'=M/\∃ j:Nat,j<=c.row.length/\rho=[some x,some (qD y),some (.int ((y / c.p).floor * c.row.length+j))]/\(c.at ((y / c.p).floor * c.row.length+j - 1)).a < y) (fun rho _=>match rho with
  | [_,_,some (.int q)]=>((y / c.p).floor * c.row.length+c.row.length - q).toNat
  | _=>0) ?_ _ _ ⟨rfl,0,by omega,by rw [Int.natCast_zero,Int.add_zero];rfl,by simpa using lo⟩
 rintro rho M' N ⟨rfl,j,hj,rfl,hlt⟩ hN
 walk_at "R"
 refine e_isix hx.ins hx.m1 ?_
 walk_at "R"
 have:=bzn j (by omega) (by omega)
 refine ⟨x,c,fs,_,B,rfl,hx,hz,hn,by omega,?_⟩
 walk_at "R"
 have hsz:=(hz.at hn (Nat.le_refl (bz ((y / c.p).floor * c.row.length+(j:Int))))).a
 refine ⟨_,y,rfl,by omega,by omega,?_⟩
 rw [gap_cmp]
 walk_at "R"
 refine ifd (fun h=>?_) (fun h=>?_)
 ·have h:=cmp_lt.mp h
  have hj':j≠c.row.length:=fun z=>by
   rw [z,show (y / c.p).floor * (c.row.length:Int)+c.row.length=((y / c.p).floor+1) * c.row.length from by rw [Int.add_mul];omega] at h
   exact absurd h (by grind)
  walk_at "R"
  refine hN _ _ ⟨rfl,j+1,by omega,?_,?_⟩ ?_
  ·show [_,_,_]=_
   simp [Int.add_assoc]
  ·rw [show (y / c.p).floor * (c.row.length:Int)+((j+1:Nat):Int) - 1=(y / c.p).floor * c.row.length+j from by omega]
   exact h
  ·show ((y / c.p).floor * (c.row.length:Int)+c.row.length - ((y / c.p).floor * c.row.length+j+1)).toNat < ((y / c.p).floor * (c.row.length:Int)+c.row.length - ((y / c.p).floor * c.row.length+j)).toNat
   omega
 ·have h:¬ (c.at ((y / c.p).floor * c.row.length+j)).a < y:=fun z=>h (cmp_lt.mpr z)
  walk_at "R"
  rw [trk.plc_eq ⟨hlt,by grind⟩] at hQ
  exact Cut.same rfl hM hQ
theorem ok_Curve_slope_behind {f:Addr} {fd:FuncData} (F:F_Curve_slope_behind K f fd) (C_slope_between:Cal_slope_between P w K mg base Tb) (C_Curve_point_at:Cal_Curve_point_at P w K mg base Tb) (O_Curve:OCl K "Curve" ["period","rise","row","slope","base","form","offset"]):FnD P w K mg base Tb 37 f fd ["self","place"] (sp_Curve_slope_behind K):=by
 refine fnD_of _ F sc_Curve_slope_behind (by rintro ds M Q E ⟨x,c,fs,k,B,rfl,_⟩;rfl) (fun cdv A outer s H EV hr=>(ds_one (dp_ret (dv_call C_slope_between.fn (hr.mono (by decide)) (by rfl) C_slope_between.mgx C_slope_between.F.kp (bd_slope_between C_slope_between.F) hxF (da_cons (dv_meth (dv_var 0) O_Curve.clo.cls C_Curve_point_at.me C_Curve_point_at.fn (hr.mono (by decide)) (kb_Curve_point_at_2_ C_Curve_point_at.F) CsD.nil hxF (dak (da_cons (dv_var 1) da_nil) dk_nil)) (da_cons (dv_meth (dv_var 0) O_Curve.clo.cls C_Curve_point_at.me C_Curve_point_at.fn (hr.mono (by decide)) (kb_Curve_point_at_2_ C_Curve_point_at.F) CsD.nil hxF (dak (da_cons (dv_add (dv_var 1) dv_int) da_nil) dk_nil)) da_nil)))))) ?_
 rintro ds M Q E hM hD ⟨x,c,fs,k,B,rfl,hx,hz,ok,hn,hk,hQ⟩
 have hk1:bz (k+1)<=bz k+2:=by
  have:=bi_add k 1
  have:bz (1:Int)=1:=rfl
  omega
 have s1:=hz.at hn (Nat.le_refl (bz k))
 have s2:=hz.at hn hk1
 have lt:=(ok.trk hn).up k
 walk_at "R"
 refine e_isix hx.ins hx.m1 ?_
 walk_at "R"
 refine ⟨x,c,fs,k,B,rfl,hx,hz,hn,by omega,?_⟩
 walk_at "R"
 refine e_isix hx.ins hx.m1 ?_
 walk_at "R"
 refine ⟨x,c,fs,k+1,B,rfl,hx,hz,hn,by omega,?_⟩
 walk_at "R"
 refine ⟨_,_,rfl,s1.mono (by omega),s2.mono (by omega),fun z=>by rw [z] at lt;exact Rat.lt_irrefl lt,?_⟩
 exact Cut.same rfl hM hQ
theorem ok_Curve_around {f:Addr} {fd:FuncData} (F:F_Curve_around K f fd) (C_add:Cal_add P w K mg base Tb) (C_multiply:Cal_multiply P w K mg base Tb) (C_Curve_place_from:Cal_Curve_place_from P w K mg base Tb) (C_Curve_point_at:Cal_Curve_point_at P w K mg base Tb) (C_Curve_slope_behind:Cal_Curve_slope_behind P w K mg base Tb) (C_subtract:Cal_subtract P w K mg base Tb) (O_Curve:OCl K "Curve" ["period","rise","row","slope","base","form","offset"]):FnD P w K mg base Tb 38 f fd ["self","amount"] (sp_Curve_around K):=by
 refine fnD_of _ F sc_Curve_around (by rintro ds M Q E ⟨x,c,fs,y,B,rfl,_⟩;rfl) (fun cdv A outer s H EV hr=>(ds_cons (dp_if (dt_eq hr.units (dv_fld O_Curve.clo.cls (O_Curve.no _ (by simp)) (dv_var 0)) (dv_tup da_nil)) (ds_cons (dp_set 2 sc_Curve_around.nd (dv_call C_add.fn (hr.mono (by decide)) (by rfl) C_add.mgx C_add.F.kp (bd_add C_add.F) hxF (da_cons (dv_fld O_Curve.clo.cls (O_Curve.no _ (by simp)) (dv_var 0)) (da_cons (dv_call C_multiply.fn (hr.mono (by decide)) (by rfl) C_multiply.mgx C_multiply.F.kp (bd_multiply C_multiply.F) hxF (da_cons (dv_fld O_Curve.clo.cls (O_Curve.no _ (by simp)) (dv_var 0)) (da_cons (dv_var 1) da_nil))) da_nil))))
 (ds_one (dp_ret (dv_tup (da_cons (dv_var 2) (da_cons (dv_var 2) (da_cons (dv_var 2) (da_cons (dv_fld O_Curve.clo.cls (O_Curve.no _ (by simp)) (dv_var 0)) (da_cons (dv_fld O_Curve.clo.cls (O_Curve.no _ (by simp)) (dv_var 0)) da_nil))))))))) ds_nil)
 (ds_cons (dp_set 3 sc_Curve_around.nd (dv_meth (dv_var 0) O_Curve.clo.cls C_Curve_place_from.me C_Curve_place_from.fn (hr.mono (by decide)) (kb_Curve_place_from_2_ C_Curve_place_from.F) CsD.nil hxF (dak (da_cons (dv_var 1) da_nil) dk_nil)))
 (ds_cons (dp_asg (dv_meth (dv_var 0) O_Curve.clo.cls C_Curve_point_at.me C_Curve_point_at.fn (hr.mono (by decide)) (kb_Curve_point_at_2_ C_Curve_point_at.F) CsD.nil hxF (dak (da_cons (dv_var 3) da_nil) dk_nil)) (dg_tup (n:=4) rfl (dgs_cons (dg_name 4 sc_Curve_around.nd) (dgs_cons (dg_name 5 sc_Curve_around.nd) (dgs_cons (dg_name 6 sc_Curve_around.nd) (dgs_cons (dg_name 7 sc_Curve_around.nd) dgs_nil))))))
 (ds_cons (dp_set 8 sc_Curve_around.nd (dv_meth (dv_var 0) O_Curve.clo.cls C_Curve_slope_behind.me C_Curve_slope_behind.fn (hr.mono (by decide)) (kb_Curve_slope_behind_2_ C_Curve_slope_behind.F) CsD.nil hxF (dak (da_cons (dv_sub (dv_var 3) dv_int) da_nil) dk_nil)))
 (ds_cons (dp_if (dt_eq hr.units (dv_var 4) (dv_var 1)) (ds_one (dp_ret (dv_tup (da_cons (dv_var 5) (da_cons (dv_var 6) (da_cons (dv_var 7) (da_cons (dv_var 8) (da_cons (dv_meth (dv_var 0) O_Curve.clo.cls C_Curve_slope_behind.me C_Curve_slope_behind.fn (hr.mono (by decide)) (kb_Curve_slope_behind_2_ C_Curve_slope_behind.F) CsD.nil hxF (dak (da_cons (dv_var 3) da_nil) dk_nil)) da_nil)))))))) ds_nil)
 (ds_cons (dp_set 2 sc_Curve_around.nd (dv_call C_subtract.fn (hr.mono (by decide)) (by rfl) C_subtract.mgx C_subtract.F.kp (bd_subtract C_subtract.F) hxF (da_cons (dv_var 5) (da_cons (dv_call C_multiply.fn (hr.mono (by decide)) (by rfl) C_multiply.mgx C_multiply.F.kp (bd_multiply C_multiply.F) hxF (da_cons (dv_var 8) (da_cons (dv_call C_subtract.fn (hr.mono (by decide)) (by rfl) C_subtract.mgx C_subtract.F.kp (bd_subtract C_subtract.F) hxF (da_cons (dv_var 4) (da_cons (dv_var 1) da_nil))) da_nil))) da_nil))))
 (ds_one (dp_ret (dv_tup (da_cons (dv_var 2) (da_cons (dv_var 2) (da_cons (dv_var 2) (da_cons (dv_var 8) (da_cons (dv_var 8) da_nil))))))))))))))) ?_
 rintro ds M Q E hM hD ⟨x,c,fs,y,B,rfl,hx,hz,ok,hy,hQ⟩
 have hm:=qs_mul c.s y
 have hzs:=hz.s
 have hzb:=hz.b
 have hzl:=hz.len
 walk_at "R"
 refine e_fldx hx.ins hx.row ?_
 walk_at "R"
 refine e_eqr0 ?_
 walk_at "R"
 refine ifd (fun hn=>?_) (fun hn=>?_)
 ·unfold Crv.arn at hQ
  rw [if_pos hn] at hQ
  walk_at "R"
  refine e_fldx hx.ins hx.b ?_
  walk_at "R"
  refine e_fldx hx.ins hx.s ?_
  walk_at "R"
  refine ⟨c.s,y,rfl,by omega,by omega,?_⟩
  walk_at "R"
  refine ⟨c.b,c.s * y,rfl,by omega,by omega,?_⟩
  walk_at "R"
  refine e_fldx hx.ins hx.s ?_
  walk_at "R"
  refine e_fldx hx.ins hx.s ?_
  walk_at "R"
  exact Cut.same rfl hM hQ
 unfold Crv.arn at hQ
 rw [if_neg hn] at hQ
 have trk:=ok.trk hn
 have hpl:=trk.plc y
 unfold arn at hQ
 have hb:bz (plc c.at y)<=qs y+B+18:=plc_bz hz ok hn y
 generalize plc c.at y=k at *
 have hb1:bz (k - 1)<=bz k+2:=by
  have:=bi_sub k 1
  have:bz (1:Int)=1:=rfl
  omega
 have hs:=hz.at hn (Nat.le_refl (bz k))
 have hsl:=hz.sl hn (k - 1)
 rw [show k - 1+1=k from by omega] at hsl
 have hsa:=hs.a
 have hsl':=hs.l
 walk_at "R"
 refine e_isix hx.ins hx.m2 ?_
 walk_at "R"
 refine ⟨x,c,fs,y,B,rfl,hx,hz,ok,hn,by omega,?_⟩
 rw [trk.plc_eq hpl]
 walk_at "R"
 refine e_isix hx.ins hx.m1 ?_
 walk_at "R"
 refine ⟨x,c,fs,k,B,rfl,hx,hz,hn,by omega,?_⟩
 walk_at "R"
 refine e_isix hx.ins hx.m3 ?_
 walk_at "R"
 refine ⟨x,c,fs,k - 1,B,rfl,hx,hz,ok,hn,by omega,?_⟩
 rw [show k - 1+1=k from by omega]
 walk_at "R"
 unfold arnAt at hQ
 refine ifd (fun h=>?_) (fun h=>?_)
 ·rw [if_pos h] at hQ
  walk_at "R"
  refine e_isix hx.ins hx.m3 ?_
  walk_at "R"
  refine ⟨x,c,fs,k,B,rfl,hx,hz,ok,hn,by omega,?_⟩
  walk_at "R"
  exact Cut.same rfl hM hQ
 ·rw [if_neg h] at hQ
  have q1:=qs_sub (c.at k).a y
  have q2:=qs_mul (slB (c.at (k - 1)) (c.at k)) ((c.at k).a - y)
  walk_at "R"
  refine ⟨(c.at k).a,y,rfl,by omega,by omega,?_⟩
  walk_at "R"
  refine ⟨slB (c.at (k - 1)) (c.at k),(c.at k).a - y,rfl,by omega,by omega,?_⟩
  walk_at "R"
  refine ⟨(c.at k).l,slB (c.at (k - 1)) (c.at k) * ((c.at k).a - y),rfl,by omega,by omega,?_⟩
  walk_at "R"
  exact Cut.same rfl hM hQ
theorem ok_Curve_value {f:Addr} {fd:FuncData} (F:F_Curve_value K f fd) (C_Curve_around:Cal_Curve_around P w K mg base Tb) (O_Curve:OCl K "Curve" ["period","rise","row","slope","base","form","offset"]):FnD P w K mg base Tb 39 f fd ["self","amount"] (sp_Curve_value K):=by
 refine fnD_of _ F sc_Curve_value (by rintro ds M Q E ⟨x,c,fs,y,B,rfl,_⟩;rfl) (fun cdv A outer s H EV hr=>(ds_one (dp_ret (dv_ix (dv_meth (dv_var 0) O_Curve.clo.cls C_Curve_around.me C_Curve_around.fn (hr.mono (by decide)) (kb_Curve_around_2_ C_Curve_around.F) CsD.nil hxF (dak (da_cons (dv_var 1) da_nil) dk_nil)) dv_int)))) ?_
 rintro ds M Q E hM hD ⟨x,c,fs,y,B,rfl,hx,hz,ok,hy,hQ⟩
 walk_at "R"
 refine e_isix hx.ins hx.m4 ?_
 walk_at "R"
 refine ⟨x,c,fs,y,B,rfl,hx,hz,ok,hy,?_⟩
 walk_at "R"
 exact Cut.same rfl hM hQ
theorem ok_Curve_check_digits {f:Addr} {fd:FuncData} (F:F_Curve_check_digits K f fd) (g_any:mg "any"=none) (g_abs:mg "abs"=none) (c_ZERO:CC_ZERO K mg) (X_TooLong:XC_TooLong P w K mg base) (O_Curve:OCl K "Curve" ["period","rise","row","slope","base","form","offset"]) (w_Curve_MAX_DIGITS:ConD K (He.ga K "Curve") "MAX_DIGITS" (.int 60)):FnD P w K mg base Tb 3 f fd ["self"] (sp_Curve_check_digits K):=by
 refine fnD_of _ F sc_Curve_check_digits (by rintro ds M Q E ⟨x,c,fs,rfl,_⟩;rfl) (fun cdv A outer s H EV hr=>(ds_cons (dp_set 1 sc_Curve_check_digits.nd (dv_lstM (da_cons (dv_fld O_Curve.clo.cls (O_Curve.no _ (by simp)) (dv_var 0)) (da_cons (dv_fld O_Curve.clo.cls (O_Curve.no _ (by simp)) (dv_var 0)) (da_cons (dv_if (dt_eq hr.units (dv_fld O_Curve.clo.cls (O_Curve.no _ (by simp)) (dv_var 0)) (dv_tup da_nil)) (dv_fld O_Curve.clo.cls (O_Curve.no _ (by simp)) (dv_var 0)) (dv_gl c_ZERO (by rfl))) da_nil)))))
 (ds_cons (dp_for PassesOwn.leaving rfl (di_seq (dv_fld O_Curve.clo.cls (O_Curve.no _ (by simp)) (dv_var 0))) (dg_name 2 sc_Curve_check_digits.nd) (ds_one (dp_expr (dv_bm PySem.F.plainAttrs_list PySem.F.slot_list_extend PySem.F.type_list_extend mt_extend2 ref_extD (dv_var 1) (da_cons (dv_var 2) da_nil)))))
 (ds_one (dp_if (dt_tru (dv_callB (cr_any rfl) ref_any (by rfl) g_any (by decide +kernel) (da_cons (dv_lc rfl sc_Curve_check_digits.nd (di_seq (dv_fz (dv_var 1))) (blkOk_by (own:=[("above",3),("below",4)]) (N:=["self","values","point","above","below"]) (sc:=defScope s_Curve_check_digits) (by decide +kernel)) (tgn_tup (n:=2) (tgns_cons (tgn_name (i:=3) (by decide)) (tgns_cons (tgn_name (i:=4) (by decide)) tgns_nil))) (fun _ _ _ _ _=>pg_tup (n:=2) rfl (pgs_cons (pg_name (i:=3) sc_Curve_check_digits.nd rfl (by first | exact Or.inl rfl | exact Or.inr rfl)) (pgs_cons (pg_name (i:=4) sc_Curve_check_digits.nd rfl (by first | exact Or.inl rfl | exact Or.inr rfl)) pgs_nil))) (fun _ _ _ _ _=>dts_nil) (fun _ _ _ _ _=>(dv_or (dv_ge (dv_callB call_abs ref_abs (by rfl) g_abs (by decide +kernel) (da_cons (dv_var 3) da_nil)) (dv_pow dv_int dv_int)) (dv_one (dv_ge (dv_var 4) (dv_pow dv_int dv_int)))))) da_nil))) (ds_one (dp_raise X_TooLong (hr.mono (by decide)) rfl tkF hxN (by rfl) (da_cons (dv_con O_Curve.clo.cls w_Curve_MAX_DIGITS (dv_var 0)) da_nil))) ds_nil))))) ?_
 rintro ds M Q E hM hD ⟨x,c,fs,rfl,hx,hmd,hl,hE,hQ⟩
 have zl:sizeLine=16777216:=rfl
 refine e_cut (fun rho M'=>rho=[some x,some (.mt M.length),none,none,none]/\M'=M ++ [some (.lst ([c.p,c.r,if c.row=[] then c.b else 0].map qD))]) ?_ ?_
 rotate_left
 ·intro N hN
  walk_at "R"
  refine e_fldx hx.ins hx.p ?_
  walk_at "R"
  refine e_fldx hx.ins hx.r ?_
  walk_at "R"
  refine e_fldx hx.ins hx.row ?_
  walk_at "R"
  refine e_eqr0 ?_
  refine ifd (fun hn=>?_) (fun hn=>?_)
  ·rw [if_pos hn] at hN
   walk_at "R"
   refine e_fldx hx.ins hx.b ?_
   walk_at "R"
   exact hN _ _ ⟨rfl,rfl⟩
  ·rw [if_neg hn] at hN
   walk_at "R"
   exact hN _ _ ⟨rfl,rfl⟩
 rintro rho M1 ⟨rfl,rfl⟩
 have hx1:=fun (o:Option MO)=>(hx.app (L:=[o]))
 refine e_cut (fun rho M'=>(∃ c2,rho=[some x,some (.mt M.length),c2,none,none])/\M'=M ++ [some (.lst (c.nums.map qD))]) ?_ ?_
 rotate_left
 ·intro N hN
  walk_at "R"
  refine e_fldx (hx1 _).ins (hx1 (some (MO.lst ([c.p,c.r,if c.row=[] then c.b else 0].map qD)))).row ?_
  refine for_list ptD c.row (fun rest rho M'=>(∃ c2,rho=[some x,some (.mt M.length),c2,none,none])/\∃ dn,c.row=dn ++ rest/\M'=M ++ [some (.lst (([c.p,c.r,if c.row=[] then c.b else 0] ++ dn.flatMap fun q=>[q.a,q.l,q.v,q.r]).map qD))]) ⟨⟨_,rfl⟩,[],rfl,rfl⟩ ?_ ?_
  ·rintro q rest rho M' N2 ⟨⟨c2,rfl⟩,dn,hdn,rfl⟩ hN2
   walk_at "R"
   have hlen:=congrArg List.length hdn
   simp only [List.length_append,List.length_cons] at hlen
   have hfl:(dn.flatMap fun q=>[q.a,q.l,q.v,q.r]).length=4 * dn.length:=by
    clear hdn hlen hN2
    induction dn with
    | nil=>rfl
    | cons a l ih=>simp only [List.flatMap_cons,List.length_append,ih,List.length_cons,List.length_nil];omega
   refine e_tyL mem_at ?_
   walk_at "R"
   refine e_ext (xs:=([c.p,c.r,if c.row=[] then c.b else 0] ++ dn.flatMap fun q=>[q.a,q.l,q.v,q.r]).map qD) (y:=ptD q) (ys:=[q.a,q.l,q.v,q.r].map qD) mem_at (pt4 _ q) (by simp only [List.length_map,List.length_append,List.length_cons,List.length_nil,hfl];omega) ?_
   rw [mem_put]
   refine hN2 _ _ ⟨⟨_,rfl⟩,dn ++ [q],by rw [hdn];simp,?_⟩
   rw [List.flatMap_append,<- List.map_append,List.append_assoc]
   simp
  ·rintro rho M' ⟨⟨c2,rfl⟩,dn,hdn,rfl⟩
   rw [List.append_nil] at hdn
   subst hdn
   exact hN _ _ ⟨⟨_,rfl⟩,rfl⟩
 rintro rho M2 ⟨⟨c2,rfl⟩,rfl⟩
 have hfl:c.nums.length<=40004:=by
  unfold Crv.nums
  have:∀ l:List Pt,(l.flatMap fun q=>[q.a,q.l,q.v,q.r]).length=4 * l.length:=fun l=>by
   induction l with
   | nil=>rfl
   | cons a l ih=>simp only [List.flatMap_cons,List.length_append,ih,List.length_cons,List.length_nil];omega
  simp only [List.length_append,this,List.length_cons,List.length_nil]
  omega
 walk_at "R"
 refine e_fzm mem_at ?_
 rw [mem_put]
 walk_at "R"
 refine lc_map qD (fun q=>.bl (bigQ q)) c.nums (by omega) (fun q hc N hN=>?_) ?_
 ·unfold bigQ at hN
  walk_at "A"
  ·rename_i h
   have h:(10:Int) ^ 60<=(q.num.natAbs:Int):=h
   rw [decide_eq_true h] at hN
   exact hN
  ·rename_i h
   have h:¬ (10:Int) ^ 60<=(q.num.natAbs:Int):=h
   rw [decide_eq_false h] at hN
   exact hN
 ·walk_at "R"
  refine e_anyM (f:=bigQ) (cs:=c.nums) ?_
  rw [show (c.nums.map bigQ).any _root_.id=c.long from by unfold Crv.long;rw [List.any_map];rfl]
  walk_at "R"
  cases hlong:c.long with
  | true =>
   walk_at "R"
   refine e_conx (hx1 none).ins hmd ?_
   walk_at "R"
   exact ⟨rfl,by decide,cutx_app hM rfl (hE hlong)⟩
  | false =>
   walk_at "R"
   exact Cut.app rfl hM (hQ hlong)
theorem ok_Curveu_initu {f:Addr} {fd:FuncData} (F:F_Curveu_initu K f fd) (C_check_points:Cal_check_points P w K mg base Tb) (C_true_points:Cal_true_points P w K mg base Tb) (C_equal_parts:Cal_equal_parts P w K mg base Tb) (C_divide:Cal_divide P w K mg base Tb) (C_subtract:Cal_subtract P w K mg base Tb) (C_multiply:Cal_multiply P w K mg base Tb) (C_Curve_value:Cal_Curve_value P w K mg base Tb) (C_Curve_check_digits:Cal_Curve_check_digits P w K mg base Tb) (g_len:mg "len"=none) (g_list:mg "list"=none) (g_tuple:mg "tuple"=none) (c_ONE:CC_ONE K mg) (c_ZERO:CC_ZERO K mg) (X_TooMany:XC_TooMany P w K mg base) (O_Curve:OCl K "Curve" ["period","rise","row","slope","base","form","offset"]) (w_Curve_MAX_POINTS:ConD K (He.ga K "Curve") "MAX_POINTS" (.int 60)):FnD P w K mg base Tb 40 f fd ["self","period","rise","points","offset"] (sp_Curveu_initu K):=by
 refine fnD_of _ F sc_Curveu_initu (by rintro ds M Q E ⟨i,p,r,o,P,pts,B,rfl,_⟩;rfl) (fun cdv A outer s H EV hr=>(ds_cons (dp_expr (dv_call C_check_points.fn (hr.mono (by decide)) (by rfl) C_check_points.mgx C_check_points.F.kp (bd_check_points C_check_points.F) hxF (da_cons (dv_var 1) (da_cons (dv_var 2) (da_cons (dv_var 3) da_nil)))))
 (ds_cons (dp_if (dt_gt (dv_callB call_len ref_len (by rfl) g_len PySem.boot_len (da_cons (dv_var 3) da_nil)) (dv_con O_Curve.clo.cls w_Curve_MAX_POINTS (dv_var 0))) (ds_one (dp_raise X_TooMany (hr.mono (by decide)) rfl tkF hxN (by rfl) (da_cons (dv_con O_Curve.clo.cls w_Curve_MAX_POINTS (dv_var 0)) da_nil))) ds_nil)
 (ds_cons (dp_set 5 sc_Curveu_initu.nd (dv_if (dt_gt (dv_callB call_len ref_len (by rfl) g_len PySem.boot_len (da_cons (dv_var 3) da_nil)) dv_int) (dv_call C_true_points.fn (hr.mono (by decide)) (by rfl) C_true_points.mgx C_true_points.F.kp (bd_true_points C_true_points.F) hxF (da_cons (dv_var 1) (da_cons (dv_var 2) (da_cons (dv_callTy call_list_of ref_list (by rfl) g_list (by decide +kernel) (da_cons (dv_var 3) da_nil)) da_nil)))) (dv_lst da_nil)))
 (ds_cons (dp_par 6 7 rfl sc_Curveu_initu.nd (da_cons (dv_call C_divide.fn (hr.mono (by decide)) (by rfl) C_divide.mgx C_divide.F.kp (bd_divide C_divide.F) hxF (da_cons (dv_var 2) (da_cons (dv_var 1) da_nil))) (da_cons (dv_call C_equal_parts.fn (hr.mono (by decide)) (by rfl) C_equal_parts.mgx C_equal_parts.F.kp (bd_equal_parts C_equal_parts.F) hxF (da_cons (dv_var 1) (da_cons (dv_var 2) (da_cons (dv_var 5) da_nil)))) da_nil)) (by rfl))
 (ds_cons (dp_if (dt_w (dw_and (dt_eq hr.units (dv_var 5) (dv_lst da_nil)) (dw_and1 (dt_gt (dv_callB call_len ref_len (by rfl) g_len PySem.boot_len (da_cons (dv_var 3) da_nil)) dv_int)))) (ds_one (dp_set 4 sc_Curveu_initu.nd (dv_call C_subtract.fn (hr.mono (by decide)) (by rfl) C_subtract.mgx C_subtract.F.kp (bd_subtract C_subtract.F) hxF (da_cons (dv_ix (dv_ix (dv_var 3) dv_int) dv_int) (da_cons (dv_call C_multiply.fn (hr.mono (by decide)) (by rfl) C_multiply.mgx C_multiply.F.kp (bd_multiply C_multiply.F) hxF (da_cons (dv_var 6) (da_cons (dv_ix (dv_ix (dv_var 3) dv_int) dv_int) da_nil))) da_nil))))) ds_nil)
 (ds_cons (dp_put O_Curve.clo.cls (O_Curve.no _ (by simp)) (dv_var 0) (dv_if (dt_ne hr.units (dv_var 5) (dv_lst da_nil)) (dv_call C_divide.fn (hr.mono (by decide)) (by rfl) C_divide.mgx C_divide.F.kp (bd_divide C_divide.F) hxF (da_cons (dv_var 1) (da_cons (dv_tup (da_cons (dv_var 7) (da_cons dv_int da_nil))) da_nil))) (dv_gl c_ONE (by rfl))))
 (ds_cons (dp_put O_Curve.clo.cls (O_Curve.no _ (by simp)) (dv_var 0) (dv_if (dt_ne hr.units (dv_var 5) (dv_lst da_nil)) (dv_call C_divide.fn (hr.mono (by decide)) (by rfl) C_divide.mgx C_divide.F.kp (bd_divide C_divide.F) hxF (da_cons (dv_var 2) (da_cons (dv_tup (da_cons (dv_var 7) (da_cons dv_int da_nil))) da_nil))) (dv_var 6)))
 (ds_cons (dp_put O_Curve.clo.cls (O_Curve.no _ (by simp)) (dv_var 0) (dv_callTy call_tuple_of ref_tuple (by rfl) g_tuple (by decide +kernel) (da_cons (dv_slice (dv_var 5) do_none (do_some (dv_fdiv (dv_callB call_len ref_len (by rfl) g_len PySem.boot_len (da_cons (dv_var 5) da_nil)) (dv_var 7)))) da_nil)))
 (ds_cons (dp_put O_Curve.clo.cls (O_Curve.no _ (by simp)) (dv_var 0) (dv_var 6))
 (ds_cons (dp_put O_Curve.clo.cls (O_Curve.no _ (by simp)) (dv_var 0) (dv_var 4))
 (ds_cons (dp_put O_Curve.clo.cls (O_Curve.no _ (by simp)) (dv_var 0) (dv_tup (da_cons (dv_fld O_Curve.clo.cls (O_Curve.no _ (by simp)) (dv_var 0)) (da_cons (dv_fld O_Curve.clo.cls (O_Curve.no _ (by simp)) (dv_var 0)) (da_cons (dv_fld O_Curve.clo.cls (O_Curve.no _ (by simp)) (dv_var 0)) (da_cons (dv_if (dt_eq hr.units (dv_var 5) (dv_lst da_nil)) (dv_var 4) (dv_gl c_ZERO (by rfl))) da_nil))))))
 (ds_cons (dp_put O_Curve.clo.cls (O_Curve.no _ (by simp)) (dv_var 0) (dv_meth (dv_var 0) O_Curve.clo.cls C_Curve_value.me C_Curve_value.fn (hr.mono (by decide)) (kb_Curve_value_2_ C_Curve_value.F) CsD.nil hxF (dak (da_cons (dv_gl c_ZERO (by rfl)) da_nil) dk_nil)))
 (ds_one (dp_expr (dv_meth (dv_var 0) O_Curve.clo.cls C_Curve_check_digits.me C_Curve_check_digits.fn (hr.mono (by decide)) (kb_Curve_check_digits_1_ C_Curve_check_digits.F) CsD.nil hxF (dak0 dk_nil))))))))))))))))) ?_
 rintro ds M Q E hM hD ⟨i,p,r,o,P,pts,B,rfl,hi,hP,qp,qr,qo,hsz,hB,hlen,hE1,hE2,hE3,hQ⟩
 have zl:sizeLine=16777216:=rfl
 have hd:=qs_div r p
 walk_at "R"
 refine ⟨p,r,P,pts,rfl,hP,by omega,by omega,fun q hq=>(hsz q hq).mono (by omega),hlen,fun z=>CutX.same rfl hM (hE1 z),fun ok=>?_⟩
 replace hE2:=hE2 ok
 replace hE3:=hE3 ok
 replace hQ:=hQ ok
 walk_at "R"
 refine e_len (asS_seq hP) ?_
 walk_at "R"
 refine e_conm hi rfl ?_
 walk_at "R"
 rw [List.length_map]
 refine ifd (fun h=>?_) (fun h60=>?_)
 ·walk_at "R"
  refine e_conm hi rfl ?_
  walk_at "R"
  exact ⟨rfl,by decide,CutX.same rfl hM (hE2 (by omega))⟩
 replace hE3:=hE3 (by omega)
 replace hQ:=hQ (by omega)
 have hp0:=ok.p0
 have pne:p≠0:=fun z=>by rw [z] at hp0;exact Rat.lt_irrefl hp0
 have kl:=kept_len (p:=p) (r:=r) (pts:=pts)
 walk_at "r"
 with_reducible refine e_cut (fun rho M'=>rho=[some (.mt i),some (qD p),some (qD r),some P,some (qD o),some (.lst ((keptP p r pts).map ptD)),none,none]/\M'=M) ?_ ?_
 rotate_left
 ·intro N hN
  walk_at "R"
  refine e_len (asS_seq hP) ?_
  walk_at "R"
  rw [List.length_map]
  cases pts with
  | nil =>
   refine ifd (fun h=>absurd h (by decide)) (fun _=>?_)
   walk_at "R"
   exact hN _ _ ⟨rfl,rfl⟩
  | cons q qs =>
   refine ifd (fun _=>?_) (fun h=>absurd (by simp only [List.length_cons];omega) h)
   walk_at "R"
   refine e_listS hP ?_
   walk_at "R"
   refine ⟨p,r,q,qs,rfl,by omega,by omega,fun x hx=>(hsz x hx).mono (by omega),hlen,ok,?_⟩
   exact hN _ _ ⟨rfl,rfl⟩
 rintro rho M1 ⟨rfl,rfl⟩
 walk_at "R"
 refine ⟨r,p,rfl,by omega,by omega,fun z=>absurd z pne,fun _=>?_⟩
 walk_at "R"
 refine ⟨p,r,keptP p r pts,rfl,by omega,by omega,fun x hx=>(hsz x (kept_mem hx)).mono (by omega),by omega,?_⟩
 have hi0:=hi
 by_cases hk:keptP p r pts=[]
 ·have hc:=norm_str (o:=o) hk
  have hb:qs (baseP p r o pts)<=6 * B:=by
   cases pts with
   | nil=>exact qo
   | cons q qs =>
    have hs:=hsz q (List.mem_cons_self ..)
    have h1:=qs_mul (r / p) q.a
    have h2:=qs_sub q.v (r / p * q.a)
    have:=hs.a
    have:=hs.v
    have h3:1<=Mt.qs p:=Nat.le_trans (by unfold bs;have:=p.den_pos;split <;> omega) (qs_den p)
    show Mt.qs (q.v - r / p * q.a)<=6 * B
    omega
  have hcz:(norm p r pts o).Sz (B+20):=by
   rw [hc]
   exact ⟨fun z=>absurd rfl z,fun z=>absurd rfl z,by show qs (r / p)<=_;omega,by show qs (baseP p r o pts)<=_;omega,(fun q hq=>nomatch hq),by show 0 < 10000;decide⟩
  have hcl:(norm p r pts o).row.length < 10000:=by rw [hc];show 0 < 10000;decide
  rw [hk]
  walk_at "r"
  with_reducible refine e_cut (fun rho M'=>rho=[some (.mt i),some (qD p),some (qD r),some P,some (qD (baseP p r o pts)),some (.lst (([]:List Pt).map ptD)),some (qD (r / p)),some (.int 1)]/\M'=M1) ?_ ?_
  rotate_left
  ·intro N hN
   walk_at "R"
   refine e_eqL0 ?_
   rw [show decide (([]:List Pt)=[])=true from rfl]
   walk_at "R"
   refine e_len (asS_seq hP) ?_
   walk_at "R"
   rw [List.length_map]
   cases pts with
   | nil =>
    refine ifd (fun h=>absurd h (by decide)) (fun _=>?_)
    walk_at "R"
    exact hN _ _ ⟨rfl,rfl⟩
   | cons q qs =>
    have hs:=hsz q (List.mem_cons_self ..)
    have h1:=qs_mul (r / p) q.a
    have h2:=hs.a
    have h3:=hs.v
    refine ifd (fun _=>?_) (fun h=>absurd (by simp only [List.length_cons];omega) h)
    walk_at "R"
    refine e_ix (asS_seq hP) at_0 ?_
    walk_at "R"
    refine e_ix (asS_seq hP) at_0 ?_
    walk_at "R"
    refine ⟨r / p,q.a,rfl,by omega,by omega,?_⟩
    walk_at "R"
    refine ⟨q.v,r / p * q.a,rfl,by omega,by omega,?_⟩
    exact hN _ _ ⟨rfl,rfl⟩
  rintro rho M2 ⟨rfl,rfl⟩
  have hQe:cvN.zip [qD 1,qD (r / p),.tup (([]:List Pt).map ptD),qD (r / p),qD (baseP p r o pts),.tup [qD 1,qD (r / p),.tup (([]:List Pt).map ptD),qD (baseP p r o pts)],qD ((norm p r pts o).arn 0).v]=cvN.zip (cvX (norm p r pts o)):=by
   unfold cvX formD
   rw [hc]
   rfl
  have hmo:(MO.ins (He.ga K "Curve") (cvN.zip [qD 1,qD (r / p),.tup (([]:List Pt).map ptD),qD (r / p),qD (baseP p r o pts),.tup [qD 1,qD (r / p),.tup (([]:List Pt).map ptD),qD (baseP p r o pts)],qD ((norm p r pts o).arn 0).v])).hb M2.length=true:=by
   rw [hQe]
   exact hbs_crv
  walk_at "R"
  refine e_neL0 ?_
  walk_at "R"
  refine e_putx hi rfl fun M1 e1 hi=>?_
  walk_at "R"
  refine e_neL0 ?_
  walk_at "R"
  refine e_putx hi rfl fun M2 e2 hi=>?_
  walk_at "R"
  walk_at "R"
  refine e_putx hi rfl fun M3 e3 hi=>?_
  walk_at "R"
  refine e_putx hi rfl fun M4 e4 hi=>?_
  walk_at "R"
  refine e_putx hi rfl fun M5 e5 hi=>?_
  walk_at "R"
  refine e_fldm hi rfl ?_
  walk_at "R"
  refine e_fldm hi rfl ?_
  walk_at "R"
  refine e_fldm hi rfl ?_
  walk_at "R"
  refine e_eqL0 ?_
  rw [decide_eq_true rfl]
  walk_at "R"
  refine e_putx hi rfl fun M6 e6 hi=>?_
  walk_at "R"
  refine e_isim hi rfl ?_
  walk_at "R"
  refine ⟨.mt i,norm p r pts o,_,0,B+20,rfl,⟨insOf_mt hi,by rw [hc];rfl,by rw [hc];rfl,by rw [hc];rfl,by rw [hc];rfl,by rw [hc];rfl,rfl,rfl,rfl,rfl,rfl⟩,hcz,norm_ok ok,by rw [show qs (0:Rat)=1 from by decide];omega,?_⟩
  walk_at "R"
  refine e_putx hi rfl fun M7 e7 hi=>?_
  walk_at "R"
  refine e_isim hi rfl ?_
  walk_at "R"
  refine ⟨.mt i,norm p r pts o,_,rfl,⟨insOf_mt hi,by rw [hc];rfl,by rw [hc];rfl,by rw [hc];rfl,by rw [hc];rfl,by rw [hc];rfl,rfl,rfl,rfl,rfl,rfl⟩,rfl,hcl,fun hl=>?_,fun hl=>?_⟩
  ·have hE3:=hE3 hl
   subst e7 e6 e5 e4 e3 e2 e1
   simp only [List.set_set]
   rw [<- hQe] at hE3
   exact CutX.set rfl hM hmo hE3
  ·have hQ:=hQ hl
   subst e7 e6 e5 e4 e3 e2 e1
   simp only [List.set_set]
   rw [<- hQe] at hQ
   exact Cut.set rfl hM hmo hQ
 ·have hc:=norm_not (o:=o) hk
  have k0:0 < eqParts p r (keptP p r pts):=(eqParts_spec (p:=p) (r:=r) (row:=keptP p r pts)).choose_spec.2.2.2
  have kle:=eqParts_le (p:=p) (r:=r) hk
  have tne:=row_take_ne (p:=p) (r:=r) hk
  generalize hkk:eqParts p r (keptP p r pts)=k at *
  generalize hkept:keptP p r pts=kp at *
  have qk:qs ((k:Int):Rat)<=7:=by rw [Rat.intCast_natCast];exact qs_nat (by show k < 128;omega) (by decide)
  have kne:((k:Int):Rat)≠0:=fun z=>by
   have:(k:Int)=0:=by exact_mod_cast z
   omega
  have hkp:∀ q∈kp,q.sz B:=fun q hq=>hsz q (kept_mem (by rw [hkept];exact hq))
  have d1:=qs_div p ((k:Int):Rat)
  have d2:=qs_div r ((k:Int):Rat)
  have hcz:(norm p r pts o).Sz (B+20):=by
   rw [hc]
   refine ⟨fun _=>?_,fun _=>?_,?_,?_,?_,?_⟩
   ·show qs (p / (k:Nat))<=_
    rw [<- Rat.intCast_natCast];omega
   ·show qs (r / (k:Nat))<=_
    rw [<- Rat.intCast_natCast];omega
   ·show qs (r / p)<=_;omega
   ·show qs o<=_;omega
   ·exact fun q hq=>(hkp q (List.mem_of_mem_take hq)).mono (by omega)
   ·show (kp.take _).length < _
    rw [List.length_take];omega
  have hcl:(norm p r pts o).row.length < 10000:=hcz.len
  walk_at "R"
  refine e_eqL0 ?_
  rw [show decide (kp=[])=false from decide_eq_false hk]
  have hQe:cvN.zip [qD (p / ((k:Int):Rat)),qD (r / ((k:Int):Rat)),.tup ((kp.take (kp.length / k)).map ptD),qD (r / p),qD o,.tup [qD (p / ((k:Int):Rat)),qD (r / ((k:Int):Rat)),.tup ((kp.take (kp.length / k)).map ptD),qD 0],qD ((norm p r pts o).arn 0).v]=cvN.zip (cvX (norm p r pts o)):=by
   unfold cvX formD
   rw [hc]
   simp only [Rat.intCast_natCast,if_neg tne]
  have hmo:(MO.ins (He.ga K "Curve") (cvN.zip [qD (p / ((k:Int):Rat)),qD (r / ((k:Int):Rat)),.tup ((kp.take (kp.length / k)).map ptD),qD (r / p),qD o,.tup [qD (p / ((k:Int):Rat)),qD (r / ((k:Int):Rat)),.tup ((kp.take (kp.length / k)).map ptD),qD 0],qD ((norm p r pts o).arn 0).v])).hb M1.length=true:=by
   rw [hQe]
   exact hbs_crv
  walk_at "R"
  refine e_neL0 ?_
  rw [show decide (kp=[])=false from decide_eq_false hk]
  walk_at "R"
  refine ⟨p,((k:Int):Rat),rfl,by omega,by omega,fun z=>absurd z kne,fun _=>?_⟩
  walk_at "R"
  refine e_putx hi rfl fun M1 e1 hi=>?_
  walk_at "R"
  refine e_neL0 ?_
  rw [show decide (kp=[])=false from decide_eq_false hk]
  walk_at "R"
  refine ⟨r,((k:Int):Rat),rfl,by omega,by omega,fun z=>absurd z kne,fun _=>?_⟩
  walk_at "R"
  refine e_putx hi rfl fun M2 e2 hi=>?_
  walk_at "R"
  rw [List.length_map]
  refine e_int (cdx_small (by omega) (Int.lt_trans (show (k:Int) < 10000 by omega) (by decide +kernel))) ?_
  rw [show ((kp.length:Int)).fdiv (k:Int)=((kp.length / k:Nat):Int) from by rw [Int.fdiv_eq_ediv_of_nonneg _ (by omega)];rfl]
  walk_at "R"
  refine take_lst ?_
  walk_at "R"
  refine e_putx hi rfl fun M3 e3 hi=>?_
  walk_at "R"
  refine e_putx hi rfl fun M4 e4 hi=>?_
  walk_at "R"
  refine e_putx hi rfl fun M5 e5 hi=>?_
  walk_at "R"
  refine e_fldm hi rfl ?_
  walk_at "R"
  refine e_fldm hi rfl ?_
  walk_at "R"
  refine e_fldm hi rfl ?_
  walk_at "R"
  refine e_eqL0 ?_
  rw [decide_eq_false hk]
  walk_at "R"
  refine e_putx hi rfl fun M6 e6 hi=>?_
  walk_at "R"
  refine e_isim hi rfl ?_
  walk_at "R"
  refine ⟨.mt i,norm p r pts o,_,0,B+20,rfl,⟨insOf_mt hi,by rw [hc];rfl,by rw [hc];rfl,by rw [hc];rfl,by rw [hc];rfl,by rw [hc];rfl,rfl,rfl,rfl,rfl,rfl⟩,hcz,norm_ok ok,by rw [show qs (0:Rat)=1 from by decide];omega,?_⟩
  walk_at "R"
  refine e_putx hi rfl fun M7 e7 hi=>?_
  walk_at "R"
  refine e_isim hi rfl ?_
  walk_at "R"
  refine ⟨.mt i,norm p r pts o,_,rfl,⟨insOf_mt hi,by rw [hc];rfl,by rw [hc];rfl,by rw [hc];rfl,by rw [hc];rfl,by rw [hc];rfl,rfl,rfl,rfl,rfl,rfl⟩,rfl,hcl,fun hl=>?_,fun hl=>?_⟩
  ·have hE3:=hE3 hl
   subst e7 e6 e5 e4 e3 e2 e1
   simp only [List.set_set]
   rw [<- hQe] at hE3
   exact CutX.set rfl hM hmo hE3
  ·have hQ:=hQ hl
   subst e7 e6 e5 e4 e3 e2 e1
   simp only [List.set_set]
   rw [<- hQe] at hQ
   exact Cut.set rfl hM hmo hQ
theorem ok__law_less {f:Addr} {fd:FuncData} (F:F__law_less K f fd)  : FnD P w K mg base Tb 1 f fd ["_law_one","_law_other"] sp__law_less:=by
 refine fnD_of _ F sc__law_less (by rintro ds M Q E ⟨a,b,rfl,_⟩;rfl) (fun cdv A outer s H EV hr=>(ds_one (dp_ret (dv_lt (dv_mul (dv_ix (dv_var 0) dv_int) (dv_ix (dv_var 1) dv_int)) (dv_mul (dv_ix (dv_var 1) dv_int) (dv_ix (dv_var 0) dv_int)))))) ?_
 rintro ds M Q E hM hD ⟨a,b,rfl,ha,hb,hQ⟩
 have:=qs_num a
 have:=qs_num b
 have:=qs_den' a
 have:=qs_den' b
 refine ⟨mok_b (by omega),mok_b (by omega),Cut.same rfl hM ?_⟩
 have e:decide (a.num * b.den < b.num * a.den)=decide (a < b):=decide_eq_decide.mpr (Rat.lt_iff a b).symm
 show Q (.bl (decide (a.num * b.den < b.num * a.den))) M
 rw [e];exact hQ
theorem ok__law_is_curve {f:Addr} {fd:FuncData} (F:F__law_is_curve K f fd) (C__law_less:Cal__law_less P w K mg base Tb) (C__law_plus:Cal__law_plus P w K mg base Tb) (g_range:mg "range"=none) (g_len:mg "len"=none):FnD P w K mg base Tb 35 f fd ["_law_period","_law_rise","_law_points"] sp__law_is_curve:=by
 refine fnD_of _ F sc__law_is_curve (by rintro ds M Q E ⟨p,r,pts,rfl,_⟩;rfl) (fun cdv A outer s H EV hr=>(ds_cons (dp_if (dt_w (dw_or (dt_not (dt_tru (dv_call C__law_less.fn (hr.mono (by decide)) (by rfl) C__law_less.mgx C__law_less.F.kp (bd__law_less C__law_less.F) hxF (da_cons (dv_tup (da_cons dv_int (da_cons dv_int da_nil))) (da_cons (dv_var 0) da_nil))))) (dw_or1 (dt_not (dt_tru (dv_call C__law_less.fn (hr.mono (by decide)) (by rfl) C__law_less.mgx C__law_less.F.kp (bd__law_less C__law_less.F) hxF (da_cons (dv_tup (da_cons dv_int (da_cons dv_int da_nil))) (da_cons (dv_var 1) da_nil)))))))) (ds_one (dp_ret dv_bl)) ds_nil)
 (ds_cons (dp_for PassesOwn.leaving rfl (di_range1 (by rfl) g_range (da_cons (dv_callB call_len ref_len (by rfl) g_len PySem.boot_len (da_cons (dv_var 2) da_nil)) da_nil)) (dg_name 3 sc__law_is_curve.nd) (ds_cons (dp_asg (dv_ix (dv_var 2) (dv_var 3)) (dg_tup (n:=4) rfl (dgs_cons (dg_name 4 sc__law_is_curve.nd) (dgs_cons (dg_name 5 sc__law_is_curve.nd) (dgs_cons (dg_name 6 sc__law_is_curve.nd) (dgs_cons (dg_name 7 sc__law_is_curve.nd) dgs_nil))))))
 (ds_cons (dp_set 8 sc__law_is_curve.nd (dv_ix (dv_var 2) (dv_mod (dv_add (dv_var 3) dv_int) (dv_callB call_len ref_len (by rfl) g_len PySem.boot_len (da_cons (dv_var 2) da_nil)))))
 (ds_cons (dp_par 9 10 rfl sc__law_is_curve.nd (da_cons (dv_ix (dv_var 8) dv_int) (da_cons (dv_ix (dv_var 8) dv_int) da_nil)) (by rfl))
 (ds_cons (dp_if (dt_eq hr.units (dv_add (dv_var 3) dv_int) (dv_callB call_len ref_len (by rfl) g_len PySem.boot_len (da_cons (dv_var 2) da_nil))) (ds_one (dp_par 9 10 rfl sc__law_is_curve.nd (da_cons (dv_call C__law_plus.fn (hr.mono (by decide)) (by rfl) C__law_plus.mgx C__law_plus.F.kp (bd__law_plus C__law_plus.F) hxF (da_cons (dv_var 9) (da_cons (dv_var 0) da_nil))) (da_cons (dv_call C__law_plus.fn (hr.mono (by decide)) (by rfl) C__law_plus.mgx C__law_plus.F.kp (bd__law_plus C__law_plus.F) hxF (da_cons (dv_var 10) (da_cons (dv_var 1) da_nil))) da_nil)) (by rfl))) ds_nil)
 (ds_cons (dp_if (dt_w (dw_or (dt_tru (dv_call C__law_less.fn (hr.mono (by decide)) (by rfl) C__law_less.mgx C__law_less.F.kp (bd__law_less C__law_less.F) hxF (da_cons (dv_var 4) (da_cons (dv_tup (da_cons dv_int (da_cons dv_int da_nil))) da_nil)))) (dw_or (dt_not (dt_tru (dv_call C__law_less.fn (hr.mono (by decide)) (by rfl) C__law_less.mgx C__law_less.F.kp (bd__law_less C__law_less.F) hxF (da_cons (dv_var 4) (da_cons (dv_var 0) da_nil))))) (dw_or1 (dt_not (dt_tru (dv_call C__law_less.fn (hr.mono (by decide)) (by rfl) C__law_less.mgx C__law_less.F.kp (bd__law_less C__law_less.F) hxF (da_cons (dv_var 4) (da_cons (dv_var 9) da_nil))))))))) (ds_one (dp_ret dv_bl)) ds_nil)
 (ds_one (dp_if (dt_w (dw_or (dt_tru (dv_call C__law_less.fn (hr.mono (by decide)) (by rfl) C__law_less.mgx C__law_less.F.kp (bd__law_less C__law_less.F) hxF (da_cons (dv_var 6) (da_cons (dv_var 5) da_nil)))) (dw_or (dt_tru (dv_call C__law_less.fn (hr.mono (by decide)) (by rfl) C__law_less.mgx C__law_less.F.kp (bd__law_less C__law_less.F) hxF (da_cons (dv_var 7) (da_cons (dv_var 6) da_nil)))) (dw_or1 (dt_tru (dv_call C__law_less.fn (hr.mono (by decide)) (by rfl) C__law_less.mgx C__law_less.F.kp (bd__law_less C__law_less.F) hxF (da_cons (dv_var 10) (da_cons (dv_var 7) da_nil)))))))) (ds_one (dp_ret dv_bl)) ds_nil))))))))
 (ds_one (dp_ret dv_bl))))) ?_
 rintro ds M Q E hM hD ⟨p,r,pts,rfl,hp,hr,hsz,hl,hne,hT,hF⟩
 have zl:sizeLine=16777216:=rfl
 have q0:qs (0:Rat)<=2:=by decide +kernel
 have hX:¬ okPts p r pts->Cut M.length Q (.bl false) M:=fun h=>Cut.same rfl hM (hF h)
 walk_at "R"
 refine ⟨0,p,rfl,by omega,by omega,?_⟩
 refine ifn (fun h1=>?_) (fun h1=>?_)
 ·walk_at "R"
  exact hX fun ok=>h1 ok.p0
 walk_at "R"
 refine ⟨0,r,rfl,by omega,by omega,?_⟩
 walk_at "R"
 refine ifn (fun h2=>?_) (fun h2=>?_)
 ·walk_at "R"
  exact hX fun ok=>h2 ok.r0
 have hlm:(List.map ptD pts).length=pts.length:=List.length_map ..
 walk_at "R"
 rw [hlm,Int.toNat_natCast]
 refine ⟨⟨by omega,by omega⟩,?_⟩
 refine for_range (fun j rho M'=>M'=M/\(∀ (k:Nat) (hk:k < pts.length),k < j->okPt p pts[k]/\okPr (pts[k],nxPt p r pts k))/\∃ c3 c4 c5 c6 c7 c8 c9 c10,rho=[some (qD p),some (qD r),some (.lst (pts.map ptD)),c3,c4,c5,c6,c7,c8,c9,c10]) ⟨rfl,fun k _ h=>absurd h (Nat.not_lt_zero _),_,_,_,_,_,_,_,_,rfl⟩ ?_ ?_
 ·rintro j rho M' N hj ⟨rfl,hok,c3,c4,c5,c6,c7,c8,c9,c10,rfl⟩ hN
  have hs:=hsz pts[j] (List.getElem_mem hj)
  have s1:=hs.a
  have s2:=hs.l
  have s3:=hs.v
  have s4:=hs.r
  have hx:L2.atI (pts.map ptD) (j:Int)=some (ptD pts[j]):=by rw [at_nat (by rw [hlm];exact hj),List.getElem_map]
  obtain ⟨y,hy1,hy2,hy3⟩:∃ y:Pt,L2.atI (pts.map ptD) (((j:Int)+1).fmod (pts.map ptD).length)=some (ptD y)/\y∈pts/\nxPt p r pts j=if j+1=pts.length then y.mv 1 p r else y:=by
   rw [Int.fmod_eq_emod_of_nonneg _ (by omega),hlm]
   by_cases hlast:j+1=pts.length
   ·refine ⟨pts[0],?_,List.getElem_mem _,?_⟩
    ·rw [show ((j:Int)+1) % (pts.length:Int)=((0:Nat):Int) by rw [show (j:Int)+1=(pts.length:Int) by omega,Int.emod_self];rfl,at_nat (by rw [hlm];omega),List.getElem_map]
    ·unfold nxPt
     rw [if_pos hlast,if_pos hlast,List.getElem?_eq_getElem (by omega)];rfl
   ·refine ⟨pts[j+1],?_,List.getElem_mem _,?_⟩
    ·rw [show ((j:Int)+1) % (pts.length:Int)=((j+1:Nat):Int) by rw [Int.emod_eq_of_lt (by omega) (by omega)];omega,at_nat (by rw [hlm];omega),List.getElem_map]
    ·unfold nxPt
     rw [if_neg hlast,if_neg hlast,List.getElem?_eq_getElem (by omega)];rfl
  have hys:=hsz y hy2
  have y1:=hys.a
  have y2:=hys.l
  walk_at "R"
  refine e_ix rfl hx ?_
  walk_at "R"
  refine e_int (by rw [hlm];omega) ?_
  walk_at "R"
  refine e_ix rfl hy1 ?_
  walk_at "r"
  refine e_cut (fun rho M9=>M9=M'/\rho=[some (qD p),some (qD r),some (.lst (pts.map ptD)),some (.int (j:Nat)),some (qD pts[j].a),some (qD pts[j].l),some (qD pts[j].v),some (qD pts[j].r),some (ptD y),some (qD y.a),some (qD y.l)]) ?_ ?_
  rotate_left
  ·intro N hN
   walk_at "R"
   exact hN _ _ ⟨rfl,rfl⟩
  rintro rho M9 ⟨rfl,rfl⟩
  refine e_cut (fun rho M8=>M8=M9/\rho=[some (qD p),some (qD r),some (.lst (pts.map ptD)),some (.int (j:Nat)),some (qD pts[j].a),some (qD pts[j].l),some (qD pts[j].v),some (qD pts[j].r),some (ptD y),some (qD (nxPt p r pts j).a),some (qD (nxPt p r pts j).l)]) ?_ ?_
  rotate_left
  ·intro N hN
   walk_at "R"
   rw [hlm]
   refine ifd (fun h=>?_) (fun h=>?_)
   ·rw [hy3,if_pos (show j+1=pts.length by omega)] at hN
    walk_at "R"
    refine ⟨y.a,p,rfl,by omega,by omega,?_⟩
    walk_at "R"
    refine ⟨y.l,r,rfl,by omega,by omega,?_⟩
    walk_at "R"
    refine hN _ _ ⟨rfl,?_⟩
    unfold Pt.mv
    rw [Rat.one_mul,Rat.one_mul]
    rfl
   ·rw [hy3,if_neg (show ¬ j+1=pts.length by omega)] at hN
    walk_at "R"
    exact hN _ _ ⟨rfl,rfl⟩
  have nz:qs (nxPt p r pts j).a<=5000/\qs (nxPt p r pts j).l<=5000:=by
   rw [hy3]
   split
   ·have w1:=qs_add y.a p
    have w2:=qs_add y.l r
    unfold Pt.mv
    rw [Rat.one_mul,Rat.one_mul]
    exact ⟨by show qs (y.a+p)<=5000;omega,by show qs (y.l+r)<=5000;omega⟩
   ·omega
  rintro rho M8 ⟨rfl,rfl⟩
  have fail:∀ {Z:Prop},¬ okPts p r pts->Z->Z:=fun _ z=>z
  obtain ⟨n1,n2⟩:=nz
  have bad:¬ (okPt p pts[j]/\okPr (pts[j],nxPt p r pts j))->¬ okPts p r pts:=fun h ok=>h (ix_okPts ok j hj)
  walk_at "R"
  refine ⟨pts[j].a,0,rfl,by omega,by omega,?_⟩
  walk_at "R"
  refine ifb (fun g1=>?_) (fun g1=>?_)
  ·walk_at "R"
   exact hX (bad fun z=>z.1.lo (by simpa using g1))
  have g1:¬ pts[j].a < 0:=by simpa using g1
  walk_at "R"
  refine ⟨pts[j].a,p,rfl,by omega,by omega,?_⟩
  walk_at "R"
  refine ifn (fun g2=>?_) (fun g2=>?_)
  ·walk_at "R"
   exact hX (bad fun z=>g2 z.1.hi)
  walk_at "R"
  refine ⟨pts[j].a,(nxPt p r pts j).a,rfl,by omega,by omega,?_⟩
  walk_at "R"
  refine ifn (fun g3=>?_) (fun g3=>?_)
  ·walk_at "R"
   exact hX (bad fun z=>g3 z.2.lt)
  walk_at "R"
  refine ⟨pts[j].v,pts[j].l,rfl,by omega,by omega,?_⟩
  walk_at "R"
  refine ifb (fun g4=>?_) (fun g4=>?_)
  ·walk_at "R"
   exact hX (bad fun z=>z.1.lv (by simpa using g4))
  walk_at "R"
  refine ⟨pts[j].r,pts[j].v,rfl,by omega,by omega,?_⟩
  walk_at "R"
  refine ifb (fun g5=>?_) (fun g5=>?_)
  ·walk_at "R"
   exact hX (bad fun z=>z.1.vr (by simpa using g5))
  walk_at "R"
  refine ⟨(nxPt p r pts j).l,pts[j].r,rfl,by omega,by omega,?_⟩
  walk_at "R"
  refine ifb (fun g6=>?_) (fun g6=>?_)
  ·walk_at "R"
   exact hX (bad fun z=>z.2.le (by simpa using g6))
  walk_at "R"
  refine hN _ _ ⟨rfl,fun k hk hkj=>?_,_,_,_,_,_,_,_,_,rfl⟩
  by_cases hkj':k < j
  ·exact hok k hk hkj'
  ·have:k=j:=by omega
   subst this
   exact ⟨⟨g1,g2,by simpa using g4,by simpa using g5⟩,⟨g3,by simpa using g6⟩⟩
 ·rintro rho M' ⟨rfl,hok,c3,c4,c5,c6,c7,c8,c9,c10,rfl⟩
  exact Cut.same rfl hM (hT (okPts_ix hne h1 h2 fun k hk=>hok k hk hk))
theorem ok_Curveu_callu {f:Addr} {fd:FuncData} (F:F_Curveu_callu K f fd) (C_Curve_value:Cal_Curve_value P w K mg base Tb) (O_Curve:OCl K "Curve" ["period","rise","row","slope","base","form","offset"]):FnD P w K mg base Tb 40 f fd ["self","amount"] (sp_Curveu_callu K):=by
 refine fnD_of _ F sc_Curveu_callu (by rintro ds M Q E ⟨x,c,fs,y,B,rfl,_⟩;rfl) (fun cdv A outer s H EV hr=>(ds_one (dp_ret (dv_meth (dv_var 0) O_Curve.clo.cls C_Curve_value.me C_Curve_value.fn (hr.mono (by decide)) (kb_Curve_value_2_ C_Curve_value.F) CsD.nil hxF (dak (da_cons (dv_var 1) da_nil) dk_nil))))) ?_
 rintro ds M Q E hM hD ⟨x,c,fs,y,B,rfl,hx,hz,ok,hy,hQ⟩
 walk_at "R"
 refine e_isix hx.ins hx.m5 ?_
 walk_at "R"
 refine ⟨x,c,fs,y,B,rfl,hx,hz,ok,hy,?_⟩
 exact Cut.same rfl hM hQ
theorem ok_law {f:Addr} {fd:FuncData} (F:F_law K f fd) (C__law_begin:Cal__law_begin P w K mg base Tb) (C__law_pick:Cal__law_pick P w K mg base Tb) (C__law_stairs:Cal__law_stairs P w K mg base Tb) (C__law_draw:Cal__law_draw P w K mg base Tb) (C__law_plus:Cal__law_plus P w K mg base Tb) (C__law_lowest:Cal__law_lowest P w K mg base Tb) (C_Curveu_initu:Cal_Curveu_initu P w K mg base Tb) (C__law_is_curve:Cal__law_is_curve P w K mg base Tb) (C_Curveu_callu:Cal_Curveu_callu P w K mg base Tb) (g_range:mg "range"=none) (g_len:mg "len"=none) (g_list:mg "list"=none) (g_tuple:mg "tuple"=none) (O_Curve:OCl K "Curve" ["period","rise","row","slope","base","form","offset"]) (k_Curve:CcD K mg "Curve" (.ref (He.ga K "Curve"))) (r_ZERO:RcD K "ZERO" DD_ZERO) (LD:LamD base mg Tb fd "law" (defScope s_law)) (B_told:ToldB P w K mg base Tb s__law_told 1 (sp__law_fields K)) (Z_TooMany:XFa K "TooMany" ["limit"]) (Z_TooLong:XFa K "TooLong" ["limit"]) (Z_InvalidCurve:XFa K "InvalidCurve" []):FnD P w K mg base Tb 44 f fd ["_law_script"] sp_law:=by
 refine fnD_ofL _ F sc_law (by rintro ds M Q E ⟨_,ns,_,rfl,_⟩;rfl) (fun cdv A outer s H EV hcv hr=>(ds_cons (dp_set 1 sc_law.nd (dv_call C__law_begin.fn (hr.mono (by decide)) (by rfl) C__law_begin.mgx C__law_begin.F.kp (bd__law_begin C__law_begin.F) hxF (da_cons (dv_var 0) da_nil)))
 (ds_cons (dp_for PassesOwn.leaving rfl (di_range1 (by rfl) g_range (da_cons dv_int da_nil)) (dg_name 2 sc_law.nd) (ds_cons (dp_set 3 sc_law.nd (dv_call C__law_pick.fn (hr.mono (by decide)) (by rfl) C__law_pick.mgx C__law_pick.F.kp (bd__law_pick C__law_pick.F) hxF (da_cons (dv_var 1) (da_cons (dv_lst (da_cons dv_int (da_cons dv_int (da_cons dv_int (da_cons dv_int da_nil))))) da_nil))))
 (ds_cons (dp_asg (dv_tup (da_cons (dv_tup (da_cons (dv_var 3) (da_cons dv_int da_nil))) (da_cons (dv_tup (da_cons (dv_var 3) (da_cons dv_int da_nil))) (da_cons (dv_call C__law_stairs.fn (hr.mono (by decide)) (by rfl) C__law_stairs.mgx C__law_stairs.F.kp (bd__law_stairs C__law_stairs.F) hxF (da_cons (dv_var 1) (da_cons (dv_var 3) da_nil))) da_nil)))) (dg_tup (n:=3) rfl (dgs_cons (dg_name 4 sc_law.nd) (dgs_cons (dg_name 5 sc_law.nd) (dgs_cons (dg_name 6 sc_law.nd) dgs_nil)))))
 (ds_cons (dp_for PassesOwn.leaving rfl (di_range1 (by rfl) g_range (da_cons (dv_call C__law_draw.fn (hr.mono (by decide)) (by rfl) C__law_draw.mgx C__law_draw.F.kp (bd__law_draw C__law_draw.F) hxF (da_cons (dv_var 1) (da_cons dv_int da_nil))) da_nil)) (dg_name 7 sc_law.nd) (ds_cons (dp_par 8 9 rfl sc_law.nd (da_cons (dv_call C__law_draw.fn (hr.mono (by decide)) (by rfl) C__law_draw.mgx C__law_draw.F.kp (bd__law_draw C__law_draw.F) hxF (da_cons (dv_var 1) (da_cons (dv_callB call_len ref_len (by rfl) g_len PySem.boot_len (da_cons (dv_var 6) da_nil)) da_nil))) (da_cons (dv_call C__law_draw.fn (hr.mono (by decide)) (by rfl) C__law_draw.mgx C__law_draw.F.kp (bd__law_draw C__law_draw.F) hxF (da_cons (dv_var 1) (da_cons dv_int da_nil))) da_nil)) (by rfl))
 (ds_cons (dp_set 10 sc_law.nd (dv_callTy call_list_of ref_listM (by rfl) g_list (by decide +kernel) (da_cons (dv_ix (dv_var 6) (dv_var 8)) da_nil)))
 (ds_cons (dp_asg (dv_call C__law_plus.fn (hr.mono (by decide)) (by rfl) C__law_plus.mgx C__law_plus.F.kp (bd__law_plus C__law_plus.F) hxF (da_cons (dv_ix (dv_var 10) (dv_var 9)) (da_cons (dv_call C__law_pick.fn (hr.mono (by decide)) (by rfl) C__law_pick.mgx C__law_pick.F.kp (bd__law_pick C__law_pick.F) hxF (da_cons (dv_var 1) (da_cons (dv_lst (da_cons (dv_tup (da_cons dv_int (da_cons dv_int da_nil))) (da_cons (dv_tup (da_cons (dv_neg dv_int) (da_cons dv_int da_nil))) (da_cons (dv_tup (da_cons dv_int (da_cons dv_int da_nil))) (da_cons (dv_tup (da_cons (dv_neg dv_int) (da_cons dv_int da_nil))) (da_cons (dv_tup (da_cons dv_int (da_cons dv_int da_nil))) da_nil)))))) da_nil))) da_nil))) (dg_sub (dv_var 10) (dv_var 9)))
 (ds_one (dp_asg (dv_callTy call_tuple_of ref_tuple (by rfl) g_tuple (by decide +kernel) (da_cons (dv_var 10) da_nil)) (dg_sub (dv_var 6) (dv_var 8))))))))
 (ds_cons (dp_fkv 6 (dp_set 11 sc_law.nd (dv_call C__law_draw.fn (hr.mono (by decide)) (by rfl) C__law_draw.mgx C__law_draw.F.kp (bd__law_draw C__law_draw.F) hxF (da_cons (dv_var 1) (da_cons dv_int da_nil)))))
 (ds_cons (dp_if (dt_eq hr.units (dv_var 11) dv_int) (ds_one (dp_set 6 sc_law.nd (dv_rev (dv_var 6)))) (ds_one (dp_if (dt_eq hr.units (dv_var 11) dv_int) (ds_one (dp_set 6 sc_law.nd (dv_add (dv_var 6) (dv_slice (dv_var 6) do_none (do_some dv_int))))) (ds_one (dp_if (dt_eq hr.units (dv_var 11) dv_int) (ds_one (dp_set 4 sc_law.nd (dv_call C__law_pick.fn (hr.mono (by decide)) (by rfl) C__law_pick.mgx C__law_pick.F.kp (bd__law_pick C__law_pick.F) hxF (da_cons (dv_var 1) (da_cons (dv_lst (da_cons (dv_tup (da_cons dv_int (da_cons dv_int da_nil))) (da_cons (dv_tup (da_cons (dv_neg dv_int) (da_cons dv_int da_nil))) (da_cons (dv_call C__law_lowest.fn (hr.mono (by decide)) (by rfl) C__law_lowest.mgx C__law_lowest.F.kp (bd__law_lowest C__law_lowest.F) hxF (da_cons (dv_var 3) (da_cons dv_int da_nil))) (da_cons (dv_tup (da_cons (dv_add (dv_var 3) dv_int) (da_cons dv_int da_nil))) da_nil))))) da_nil))))) (ds_one (dp_if (dt_eq hr.units (dv_var 11) dv_int) (ds_one (dp_set 5 sc_law.nd (dv_call C__law_pick.fn (hr.mono (by decide)) (by rfl) C__law_pick.mgx C__law_pick.F.kp (bd__law_pick C__law_pick.F) hxF (da_cons (dv_var 1) (da_cons (dv_lst (da_cons (dv_tup (da_cons dv_int (da_cons dv_int da_nil))) (da_cons (dv_tup (da_cons (dv_neg dv_int) (da_cons dv_int da_nil))) (da_cons (dv_call C__law_lowest.fn (hr.mono (by decide)) (by rfl) C__law_lowest.mgx C__law_lowest.F.kp (bd__law_lowest C__law_lowest.F) hxF (da_cons (dv_var 3) (da_cons dv_int da_nil))) (da_cons (dv_tup (da_cons (dv_add (dv_var 3) dv_int) (da_cons dv_int da_nil))) da_nil))))) da_nil))))) ds_nil)))))))
 (ds_cons (dp_set 12 sc_law.nd (dv_callTy call_list_of ref_list (by rfl) g_list (by decide +kernel) (da_cons (dv_var 6) da_nil)))
 (ds_cons (dp_set 13 sc_law.nd (dv_lam (k:=41) B_told.F (by rfl) B_told.mgx (bd__law_told B_told.F) sc__law_told rfl (.inl rfl) (fun _=>DL.told_gives K rfl rfl (.inl rfl) rfl rfl rfl rfl B_told.m1 B_told.m2 B_told.m3 B_told.mF B_told.FF B_told.kpF B_told.bF (hr.mono (by decide))) LD.TB (hcv.symm.trans LD.hco) LD.hmT LD.hu (hr.mono (by decide)) (LamX.lamS_by (sc:=defScope s_law) (by decide +kernel)) rfl (fun _ _ _ _ _=>rfl) (fun _ _ _ _ _ _ _ hr1 hx1=>(dv_make true (dv_gl k_Curve (by rfl)) (mk_of O_Curve C_Curveu_initu) C_Curveu_initu.fn.lend (hr1.mono (by decide)) (kb_Curveu_initu_4_ C_Curveu_initu.F) (show CsD K [DD_ZERO] [.ref (He.ga K "ZERO")] from fun _ _ _=>⟨_,_,rfl,r_ZERO _ _ _,rfl⟩) hx1 (dak (da_cons (dv_var 4) (da_cons (dv_var 5) (da_cons (dv_var 6) da_nil))) dk_nil)))))
 (ds_cons (dp_set 14 sc_law.nd (dv_if (dt_tru (dv_call C__law_is_curve.fn (hr.mono (by decide)) (by rfl) C__law_is_curve.mgx C__law_is_curve.F.kp (bd__law_is_curve C__law_is_curve.F) hxF (da_cons (dv_var 4) (da_cons (dv_var 5) (da_cons (dv_var 6) da_nil))))) dv_str dv_str))
 (ds_cons (dp_if (dt_w (dw_or (dt_ne hr.units (dv_ix (dv_var 13) dv_int) (dv_var 14)) (dw_or (dt_w (dw_and (dt_eq hr.units (dv_var 14) dv_str) (dw_and1 (dt_ne hr.units (dv_var 13) (dv_tup (da_cons dv_str (da_cons dv_str da_nil))))))) (dw_or1 (dt_ne hr.units (dv_var 6) (dv_var 12)))))) (ds_one (dp_ret dv_bl)) ds_nil)
 (ds_one (dp_if (dt_w (dw_and (dt_eq hr.units (dv_var 14) dv_str) (dw_and1 (dt_ne hr.units (dv_callO (dv_ix (dv_var 13) dv_int) C_Curveu_callu.me (fnIn_of C_Curveu_callu.F) C_Curveu_callu.fn (hr.mono (by decide)) (bd_Curveu_callu C_Curveu_callu.F) hxF (da_cons (dv_ix (dv_ix (dv_var 6) dv_int) dv_int) da_nil)) (dv_ix (dv_ix (dv_var 6) dv_int) dv_int))))) (ds_one (dp_ret dv_bl)) ds_nil))))))))))))
 (ds_cons (dp_setLc 15 rfl sc_law.nd (di_seq (dv_tup (da_cons dv_int (da_cons dv_int da_nil)))) (blkOk_by (own:=[("_law_many",3)]) (N:=["_law_script","_law_rng","_law_turn","_law_many","_law_period","_law_rise","_law_points","_law_change","_law_at","_law_place","_law_row","_law_way","_law_kept","_law_told_here","_law_due","_law_sizes","_law_wrong","_law_long"]) (sc:=defScope s_law) (by decide +kernel)) (tgn_name (i:=3) (by decide)) (fun _ _ _ _ _=>pg_name (i:=3) sc_law.nd rfl (by first | exact Or.inl rfl | exact Or.inr rfl)) (fun _ _ _ _ _=>dts_nil) (fun _ _ _ _ _=>(dv_lam (k:=41) B_told.F (by rfl) B_told.mgx (bd__law_told B_told.F) sc__law_told rfl (.inl rfl) (fun _=>DL.told_gives K rfl rfl (.inl rfl) rfl rfl rfl rfl B_told.m1 B_told.m2 B_told.m3 B_told.mF B_told.FF B_told.kpF B_told.bF (hr.mono (by decide))) LD.TB (hcv.symm.trans LD.hco) LD.hmT LD.hu (hr.mono (by decide)) (LamX.lamS_by (by kernel_rfl)) rfl (fun _ _ _ _ _=>rfl) (fun _ _ _ _ _ _ _ hr1 hx1=>(dv_fld O_Curve.clo.cls (O_Curve.no _ (by simp)) (dv_make true (dv_gl k_Curve (by rfl)) (mk_of O_Curve C_Curveu_initu) C_Curveu_initu.fn.lend (hr1.mono (by decide)) (kb_Curveu_initu_4_ C_Curveu_initu.F) (show CsD K [DD_ZERO] [.ref (He.ga K "ZERO")] from fun _ _ _=>⟨_,_,rfl,r_ZERO _ _ _,rfl⟩) hx1 (dak (da_cons (dv_tup (da_cons (dv_var 3) (da_cons dv_int da_nil))) (da_cons (dv_tup (da_cons (dv_var 3) (da_cons dv_int da_nil))) (da_cons (dv_call C__law_stairs.fn (hr1.mono (by decide)) (by rfl) C__law_stairs.mgx C__law_stairs.F.kp (bd__law_stairs C__law_stairs.F) hx1 (da_cons (dv_var 1) (da_cons (dv_var 3) da_nil))) da_nil))) dk_nil)))))) (sw_true rfl rfl rfl (by decide +kernel)))
 (ds_cons (dp_set 16 sc_law.nd (dv_rev (dv_call C__law_stairs.fn (hr.mono (by decide)) (by rfl) C__law_stairs.mgx C__law_stairs.F.kp (bd__law_stairs C__law_stairs.F) hxF (da_cons (dv_var 1) (da_cons dv_int da_nil)))))
 (ds_cons (dp_if (dt_ne hr.units (dv_var 15) (dv_lst (da_cons (dv_tup (da_cons dv_str (da_cons (dv_tup (da_cons dv_int (da_cons dv_int da_nil))) da_nil))) (da_cons (dv_tup (da_cons dv_str (da_cons dv_str (da_cons dv_int da_nil)))) da_nil)))) (ds_one (dp_ret dv_bl)) ds_nil)
 (ds_cons (dp_if (dt_ne hr.units (dv_lam (k:=41) B_told.F (by rfl) B_told.mgx (bd__law_told B_told.F) sc__law_told rfl (.inl rfl) (fun _=>DL.told_gives K rfl rfl (.inl rfl) rfl rfl rfl rfl B_told.m1 B_told.m2 B_told.m3 B_told.mF B_told.FF B_told.kpF B_told.bF (hr.mono (by decide))) LD.TB (hcv.symm.trans LD.hco) LD.hmT LD.hu (hr.mono (by decide)) (LamX.lamS_by (sc:=defScope s_law) (by decide +kernel)) rfl (fun _ _ _ _ _=>rfl) (fun _ _ _ _ _ _ _ hr1 hx1=>(dv_make true (dv_gl k_Curve (by rfl)) (mk_of O_Curve C_Curveu_initu) C_Curveu_initu.fn.lend (hr1.mono (by decide)) (kb_Curveu_initu_4_ C_Curveu_initu.F) (show CsD K [DD_ZERO] [.ref (He.ga K "ZERO")] from fun _ _ _=>⟨_,_,rfl,r_ZERO _ _ _,rfl⟩) hx1 (dak (da_cons (dv_tup (da_cons dv_int (da_cons dv_int da_nil))) (da_cons (dv_tup (da_cons dv_int (da_cons dv_int da_nil))) (da_cons (dv_var 16) da_nil))) dk_nil)))) (dv_tup (da_cons dv_str (da_cons dv_str da_nil)))) (ds_one (dp_ret dv_bl)) ds_nil)
 (ds_cons (dp_set 17 sc_law.nd (dv_add (dv_lst (da_cons (dv_tup (da_cons (dv_tup (da_cons dv_int (da_cons dv_int da_nil))) (da_cons (dv_tup (da_cons dv_int (da_cons dv_int da_nil))) (da_cons (dv_tup (da_cons dv_int (da_cons (dv_pow dv_int dv_int) da_nil))) (da_cons (dv_tup (da_cons dv_int (da_cons dv_int da_nil))) da_nil))))) da_nil)) (dv_slice (dv_call C__law_stairs.fn (hr.mono (by decide)) (by rfl) C__law_stairs.mgx C__law_stairs.F.kp (bd__law_stairs C__law_stairs.F) hxF (da_cons (dv_var 1) (da_cons dv_int da_nil))) (do_some dv_int) do_none)))
 (ds_one (dp_ret (dv_eq hr.units (dv_lam (k:=41) B_told.F (by rfl) B_told.mgx (bd__law_told B_told.F) sc__law_told rfl (.inl rfl) (fun _=>DL.told_gives K rfl rfl (.inl rfl) rfl rfl rfl rfl B_told.m1 B_told.m2 B_told.m3 B_told.mF B_told.FF B_told.kpF B_told.bF (hr.mono (by decide))) LD.TB (hcv.symm.trans LD.hco) LD.hmT LD.hu (hr.mono (by decide)) (LamX.lamS_by (sc:=defScope s_law) (by decide +kernel)) rfl (fun _ _ _ _ _=>rfl) (fun _ _ _ _ _ _ _ hr1 hx1=>(dv_make true (dv_gl k_Curve (by rfl)) (mk_of O_Curve C_Curveu_initu) C_Curveu_initu.fn.lend (hr1.mono (by decide)) (kb_Curveu_initu_4_ C_Curveu_initu.F) (show CsD K [DD_ZERO] [.ref (He.ga K "ZERO")] from fun _ _ _=>⟨_,_,rfl,r_ZERO _ _ _,rfl⟩) hx1 (dak (da_cons (dv_tup (da_cons dv_int (da_cons dv_int da_nil))) (da_cons (dv_tup (da_cons dv_int (da_cons dv_int da_nil))) (da_cons (dv_var 17) da_nil))) dk_nil)))) (dv_tup (da_cons dv_str (da_cons dv_str (da_cons dv_int da_nil))))))))))))))) ?_
 rintro ds M Q E hM hD ⟨hM0,ns,hns,rfl,hQ⟩
 have zl:sizeLine=16777216:=rfl
 have hl:("limit":Str)≠"code":=by decide +kernel
 walk_at "R"
 refine ⟨ns,rfl,fun r ok=>?_⟩
 have g1:R10 M (M ++ [some r.mo]):=⟨.of ⟨r,ok,rfl⟩,okM.app' hM (Rng.hb r _)⟩
 generalize M ++ [some r.mo]=M1 at *
 walk_at "R"
 refine ⟨⟨by decide,by decide⟩,?_⟩
 refine for_range (fun j rho M'=>R10 M M'/\∃ c2 c3 c4 c5 c6 c7 c8 c9 c10 c11 c12 c13 c14 c15 c16 c17,rho=[some (.rol (ns.map D.int)),some (.mt M.length),c2,c3,c4,c5,c6,c7,c8,c9,c10,c11,c12,c13,c14,c15,c16,c17]) ⟨g1,_,_,_,_,_,_,_,_,_,_,_,_,_,_,_,_,rfl⟩ ?_ ?_
 ·rintro j rho M2 N2 hj ⟨g2,c2,c3,c4,c5,c6,c7,c8,c9,c10,c11,c12,c13,c14,c15,c16,c17,rfl⟩ hN2
  walk_at "R"
  refine ⟨M.length,_,_,rfl,g2.at,.inl fun _=>rfl,(by intro h;cases h),by show 4<=sizeLine;decide,fun d M3 t3 hd=>?_⟩
  have g3:=g2.to t3
  obtain ⟨n,rfl,n1,n4⟩:∃ n:Nat,d = .int n/\1<=n/\n<=4:=by
   simp only [List.mem_cons,List.not_mem_nil,or_false] at hd
   rcases hd with rfl | rfl | rfl | rfl
   ·exact ⟨1,rfl,by decide,by decide⟩
   ·exact ⟨2,rfl,by decide,by decide⟩
   ·exact ⟨3,rfl,by decide,by decide⟩
   ·exact ⟨4,rfl,by decide,by decide⟩
  walk_at "R"
  refine ⟨_,n,rfl,by omega,?_⟩
  have g4:=g3.app (xs:=(List.range n).map fun k=>ptD (stPt k)) fun m=>hbs_all fun d hd=>by
   obtain ⟨k,_,rfl⟩:=List.mem_map.mp hd;rfl
  have ln3:=g3.lt
  have hcell:(M3 ++ [some (.lst (((List.range n).map stPt).map ptD))])[M3.length]?=some (some (.lst (((List.range n).map stPt).map ptD))):=mem_snoc
  rw [List.map_map] at hcell
  change (M3 ++ [some (.lst ((List.range n).map fun k=>ptD (stPt k)))])[M3.length]?=some (some (.lst ((List.range n).map fun k=>ptD (stPt k)))) at hcell
  rw [show (List.range n).map (fun k=>ptD (stPt k))=((List.range n).map stPt).map ptD by rw [List.map_map];rfl] at hcell g4 ⊢
  have hb0:∀ q∈(List.range n).map stPt,q.sz 5:=fun q hq=>by
   obtain ⟨k,hk,rfl⟩:=List.mem_map.mp hq
   have hk:=List.mem_range.mp hk
   exact ⟨qs_nat (by show k < 32;omega) (by decide),qs_nat (by show k < 32;omega) (by decide),qs_nat (by show k < 32;omega) (by decide),qs_nat (by show k+1 < 32;omega) (by decide)⟩
  have hl0:((List.range n).map stPt).length=n:=by rw [List.length_map,List.length_range]
  generalize (List.range n).map stPt=pts at *
  generalize hi:M3.length=ip at *
  generalize M3 ++ [some (.lst (pts.map ptD))]=M4 at *
  have ipl:M.length < ip:=ln3
  walk_at "r"
  refine e_cut (fun rho M'=>R10 M M'/\∃ (pts:List Pt) (c7 c8 c9 c10:Option D),M'[ip]?=some (some (.lst (pts.map ptD)))/\(∀ q∈pts,q.sz 25)/\pts.length=n/\rho=[some (.rol (ns.map D.int)),some (.mt M.length),some (.int (j:Nat)),some (.int (n:Nat)),some (qD (n:Rat)),some (qD (n:Rat)),some (.mt ip),c7,c8,c9,c10,c11,c12,c13,c14,c15,c16,c17]) ?_ ?_
  rotate_left
  ·intro N hN
   walk_at "R"
   refine ⟨M.length,3,rfl,g4.at,by decide,by decide +kernel,fun k M5 t5 k0 k1=>?_⟩
   have g5:=g4.to t5
   obtain ⟨k,rfl⟩:∃ m:Nat,k=(m:Int):=⟨k.toNat,by omega⟩
   have hc5:M5[ip]?=some (some (.lst (pts.map ptD))):=by rw [t5.ne (by omega)];exact hcell
   walk_at "R"
   refine ⟨⟨by omega,by omega⟩,?_⟩
   rw [Int.toNat_natCast]
   refine for_range (fun i rho M'=>R10 M M'/\∃ (pts:List Pt) (c7 c8 c9 c10:Option D),M'[ip]?=some (some (.lst (pts.map ptD)))/\(∀ q∈pts,q.sz (5+8 * i))/\pts.length=n/\rho=[some (.rol (ns.map D.int)),some (.mt M.length),some (.int (j:Nat)),some (.int (n:Nat)),some (qD (n:Rat)),some (qD (n:Rat)),some (.mt ip),c7,c8,c9,c10,c11,c12,c13,c14,c15,c16,c17]) ⟨g5,pts,_,_,_,_,hc5,hb0,hl0,rfl⟩ ?_ ?_
   ·rintro i rho M6 N6 hik ⟨g6,pts,c7,c8,c9,c10,hc6,hb6,hl6,rfl⟩ hN6
    walk_at "R"
    rw [List.length_map]
    refine ⟨M.length,_,rfl,g6.at,by omega,by omega,fun a M7 t7 a0 a1=>?_⟩
    have g7:=g6.to t7
    have hc7:M7[ip]?=some (some (.lst (pts.map ptD))):=by rw [t7.ne (by omega)];exact hc6
    walk_at "R"
    refine ⟨M.length,4,rfl,g7.at,by decide,by decide +kernel,fun b M8 t8 b0 b1=>?_⟩
    have g8:=g7.to t8
    have hc8:M8[ip]?=some (some (.lst (pts.map ptD))):=by rw [t8.ne (by omega)];exact hc7
    obtain ⟨a,rfl⟩:∃ m:Nat,a=(m:Int):=⟨a.toNat,by omega⟩
    obtain ⟨b,rfl⟩:∃ m:Nat,b=(m:Int):=⟨b.toNat,by omega⟩
    have ha:a < pts.length:=by omega
    have hb:b < 4:=by omega
    have hlm:(pts.map ptD).length=pts.length:=List.length_map ..
    have hat:L2.atI (pts.map ptD) (a:Int)=some (ptD pts[a]):=by rw [at_nat (by rw [hlm];exact ha),List.getElem_map]
    have hqs:=hb6 pts[a] (List.getElem_mem ha)
    generalize pts[a]=q at *
    walk_at "R"
    refine e_ix (memL_at hc8) hat ?_
    walk_at "R"
    refine e_lsP ?_
    have g9:=g8.app (xs:=[qD q.a,qD q.l,qD q.v,qD q.r]) fun m=>rfl
    have hr9:(M8 ++ [some (.lst [qD q.a,qD q.l,qD q.v,qD q.r])])[M8.length]?=some (some (.lst [qD q.a,qD q.l,qD q.v,qD q.r])):=mem_snoc
    have ln8:=g8.lt
    have ip8:ip < M8.length:=(List.getElem?_eq_some_iff.mp hc8).1
    have hc9:(M8 ++ [some (.lst [qD q.a,qD q.l,qD q.v,qD q.r])])[ip]?=some (some (.lst (pts.map ptD))):=by rw [List.getElem?_append_left ip8];exact hc8
    generalize hir:M8.length=ir at *
    generalize M8 ++ [some (.lst [qD q.a,qD q.l,qD q.v,qD q.r])]=M9 at *
    walk_at "R"
    refine e_ix (memL_at hr9) (num4_at hb) ?_
    walk_at "R"
    refine ⟨M.length,_,_,rfl,g9.at,.inl fun _=>rfl,(by intro h;cases h),by show 5<=sizeLine;decide,fun d M10 t10 hd=>?_⟩
    have g10:=g9.to t10
    have hr10:M10[ir]?=some (some (.lst [qD q.a,qD q.l,qD q.v,qD q.r])):=by rw [t10.ne (by omega)];exact hr9
    have hc10:M10[ip]?=some (some (.lst (pts.map ptD))):=by rw [t10.ne (by omega)];exact hc9
    obtain ⟨x,rfl,hx⟩:=pick10 hd
    have hn4:=num4_sz (j:=b) hqs
    walk_at "R"
    refine ⟨num4 q b,x,rfl,by omega,by omega,?_⟩
    have hsx:=qs_add (num4 q b) x
    walk_at "R"
    refine e_subc hr10 (ixN_nat (by simpa using hb)) fun M11 e11 hr11=>?_
    have g11:R10 M M11:=by
     rw [e11]
     refine g10.set ln8 fun m=>?_
     rw [chg_row hb];rfl
    have hc11:M11[ip]?=some (some (.lst (pts.map ptD))):=by rw [e11,List.getElem?_set_ne (by omega)];exact hc10
    walk_at "R"
    refine e_tpM hr11 ?_
    rw [chg_tup hb]
    walk_at "R"
    refine e_subc hc11 (ixN_nat (by rw [hlm];exact ha)) fun M12 e12 hc12=>?_
    rw [map_set] at hc12 e12
    have g12:R10 M M12:=by
     rw [e12]
     exact g11.set ipl fun m=>hbs_map (fun _=>rfl) _
    refine hN6 _ _ ⟨g12,_,_,_,_,_,hc12,fun y hy=>?_,by rw [List.length_set];exact hl6,rfl⟩
    rcases List.mem_or_eq_of_mem_set hy with hy | rfl
    ·exact (hb6 y hy).mono (by omega)
    ·exact chg_sz (hqs.mono (by omega)) (by omega)
   ·rintro rho M6 ⟨g6,pts,c7,c8,c9,c10,hc6,hb6,hl6,rfl⟩
    exact hN _ _ ⟨g6,pts,_,_,_,_,hc6,fun q hq=>(hb6 q hq).mono (by omega),hl6,rfl⟩
  clear hb0 hl0 hcell
  rintro rho M5 ⟨g5,pts,c7,c8,c9,c10,hc5,hb5,hl5,rfl⟩
  walk_at "r"
  have hne5:pts≠[]:=fun h=>by rw [h] at hl5;simp at hl5;omega
  have hlow:qs (Rat.divInt n 2)<=10:=by
   have:n=1\/n=2\/n=3\/n=4:=by omega
   rcases this with rfl | rfl | rfl | rfl <;> decide +kernel
  have hsuc:qs ((n+1:Nat):Rat)<=10:=Nat.le_trans (qs_nat (k:=3) (by show n+1 < 8;omega) (by decide)) (by decide)
  have hnn:qs (n:Rat)<=10:=Nat.le_trans (qs_nat (k:=3) (by show n < 8;omega) (by decide)) (by decide)
  have hpk:∀ d∈[D.tup [.int 0,.int 1],.tup [.int (-1),.int 1],qD (Rat.divInt n 2),.tup [.int ((n:Int)+1),.int 1]],∃ x:Rat,d=qD x/\qs x<=10:=fun d hd=>by
   simp only [List.mem_cons,List.not_mem_nil,or_false] at hd
   rcases hd with rfl | rfl | rfl | rfl
   ·exact ⟨0,rfl,by decide +kernel⟩
   ·exact ⟨-1,rfl,by decide +kernel⟩
   ·exact ⟨_,rfl,hlow⟩
   ·exact ⟨((n+1:Nat):Rat),rfl,hsuc⟩
  refine e_fkvL rfl hc5 ?_
  have g6:=g5.setn ipl
  clear hc5
  generalize M5.set ip none=M6 at *
  refine ⟨M.length,8,rfl,g6.at,by decide,by decide +kernel,fun w M7 t7 w0 w1=>?_⟩
  have g7:=g6.to t7
  walk_at "r"
  refine e_cut (fun rho M'=>R10 M M'/\∃ (pts:List Pt) (p r:Rat),pts≠[]/\pts.length<=5/\(∀ q∈pts,q.sz 25)/\qs p<=10/\qs r<=10/\rho=[some (.rol (ns.map D.int)),some (.mt M.length),some (.int (j:Nat)),some (.int (n:Nat)),some (qD p),some (qD r),some (.lst (pts.map ptD)),c7,c8,c9,c10,some (.int w),c12,c13,c14,c15,c16,c17]) ?_ ?_
  rotate_left
  ·intro N hN
   walk_at "R"
   refine ifd (fun h=>?_) (fun h=>?_)
   ·walk_at "R"
    refine e_rv0 ?_
    walk_at "R"
    refine e_rv ?_
    rw [<- List.map_reverse]
    refine hN _ _ ⟨g7,pts.reverse,_,_,by simpa using hne5,by rw [List.length_reverse];omega,fun q hq=>hb5 q (List.mem_reverse.mp hq),hnn,hnn,rfl⟩
   walk_at "R"
   refine ifd (fun h=>?_) (fun h=>?_)
   ·walk_at "R"
    refine take_lst (n:=1) ?_
    walk_at "R"
    refine e_addl (by rw [List.length_map,List.length_map,List.length_take];omega) ?_
    rw [<- List.map_append]
    refine hN _ _ ⟨g7,pts ++ pts.take 1,_,_,by simp [hne5],by rw [List.length_append,List.length_take];omega,fun q hq=>?_,hnn,hnn,rfl⟩
    rcases List.mem_append.mp hq with hq | hq
    ·exact hb5 q hq
    ·exact hb5 q (List.mem_of_mem_take hq)
   walk_at "R"
   refine ifd (fun h=>?_) (fun h=>?_)
   ·walk_at "R"
    refine ⟨(n:Int),2,rfl,by decide,by decide +kernel,?_⟩
    walk_at "R"
    refine ⟨M.length,_,_,rfl,g7.at,.inl fun _=>rfl,(by intro h;cases h),by show 4<=sizeLine;decide,fun d M8 t8 hd=>?_⟩
    obtain ⟨x,rfl,hx⟩:=hpk d hd
    exact hN _ _ ⟨g7.to t8,pts,x,_,hne5,by omega,hb5,hx,hnn,rfl⟩
   walk_at "R"
   refine ifd (fun h=>?_) (fun h=>?_)
   ·walk_at "R"
    refine ⟨(n:Int),2,rfl,by decide,by decide +kernel,?_⟩
    walk_at "R"
    refine ⟨M.length,_,_,rfl,g7.at,.inl fun _=>rfl,(by intro h;cases h),by show 4<=sizeLine;decide,fun d M8 t8 hd=>?_⟩
    obtain ⟨x,rfl,hx⟩:=hpk d hd
    exact hN _ _ ⟨g7.to t8,pts,_,x,hne5,by omega,hb5,hnn,hx,rfl⟩
   ·walk_at "R"
    exact hN _ _ ⟨g7,pts,_,_,hne5,by omega,hb5,hnn,hnn,rfl⟩
  clear hl5 hb5 hne5
  rintro rho M8 ⟨g8,pts,p,r,hne,hl5,hb5,hp,hr,rfl⟩
  have hl0:0 < pts.length:=List.length_pos_iff.mpr hne
  have hs30:∀ q∈pts,q.sz 30:=fun q hq=>(hb5 q hq).mono (by decide)
  have hshort:=small_short (p:=p) (r:=r) (by omega) (by omega) hs30 hne (by omega)
  have hx0:L2.atI (pts.map ptD) 0=some (ptD pts[0]):=by
   have:=at_nat (xs:=pts.map ptD) (j:=0) (by rw [List.length_map];exact hl0)
   rw [List.getElem_map] at this
   exact this
  have neL:∀ {M:Mem} {Q:VD},Q (.bl false) M->rNe_ (.lst (pts.map ptD)) (.lst (pts.map ptD)) M Q:=fun {M Q} h=>by
   refine e_neP (pz_rowL _) (pz_rowL _) (Nat.le_trans (dp_rowL _) (by decide)) (Nat.le_trans (dp_rowL _) (by decide)) ?_
   rw [pyEq_refl (pz_rowL _)];exact h
  have neI:∀ {M:Mem} {Q:VD},Q (.bl false) M->rNe_ (.tup [.str "no",.str "InvalidCurve"]) (.tup [.str "no",.str "InvalidCurve"]) M Q:=fun {M Q} h=>by
   refine e_neP (by decide +kernel) (by decide +kernel) (by decide +kernel) (by decide +kernel) ?_
   rw [pyEq_refl (by decide +kernel)];exact h
  walk_at "R"
  by_cases ok:okPts p r pts
  ·refine .inl (mk_Curve (p:=p) (r:=r) (o:=0) (P:=.lst (pts.map ptD)) (pts:=pts) 30 g8.ok rfl (by omega) (by omega) (by decide +kernel) hs30 (by decide) (by omega) (fun z=>absurd ok z) (fun _ z=>absurd z (by omega)) (fun _ _ z=>absurd (hshort.symm.trans z) (by decide)) fun _ _ _=>?_)
   walk_at "R"
   refine ⟨p,r,pts,rfl,by omega,by omega,fun q hq=>(hb5 q hq).mono (by decide),by omega,hne,fun _=>?_,fun z=>absurd ok z⟩
   walk_at "R"
   refine ifn (fun h=>absurd rfl h) (fun _=>?_)
   walk_at "R"
   refine ifd (fun h=>absurd h (by decide +kernel)) (fun _=>?_)
   walk_at "R"
   refine neL ?_
   walk_at "R"
   refine ifd (fun _=>?_) (fun h=>absurd rfl h)
   walk_at "R"
   refine e_ix rfl hx0 ?_
   walk_at "R"
   have gn:(norm p r pts 0).Gd:=mkC_gd (p:=p) (r:=r) (pts:=pts) (o:=0) (by unfold mkC;rw [if_pos ok,if_neg (by omega),if_neg (by rw [hshort];decide)]) (.inl hne) (by decide +kernel)
   refine ⟨_,norm p r pts 0,_,pts[0].a,20000,rfl,crvX,gn.sz,gn.ok,by have:=(hb5 pts[0] (List.getElem_mem hl0)).a;omega,?_⟩
   rw [first_v ok hl0]
   walk_at "R"
   refine e_ix rfl hx0 ?_
   walk_at "R"
   refine ifn (fun h=>absurd rfl h) (fun _=>?_)
   walk_at "R"
   exact hN2 _ _ ⟨g8,_,_,_,_,_,_,_,_,_,_,_,_,_,_,_,_,rfl⟩
  ·refine .inl (mk_Curve (p:=p) (r:=r) (o:=0) (P:=.lst (pts.map ptD)) (pts:=pts) 30 g8.ok rfl (by omega) (by omega) (by decide +kernel) hs30 (by decide) (by omega) (fun z=>?_) (fun z=>absurd z ok) (fun z=>absurd z ok) fun z=>absurd z ok)
   refine toldX_0 Z_InvalidCurve (by decide +kernel) ?_
   walk_at "R"
   refine ⟨p,r,pts,rfl,by omega,by omega,fun q hq=>(hb5 q hq).mono (by decide),by omega,hne,fun z=>absurd z ok,fun _=>?_⟩
   walk_at "R"
   refine ifn (fun h=>absurd rfl h) (fun _=>?_)
   walk_at "R"
   refine ifd (fun _=>?_) (fun h=>absurd rfl h)
   walk_at "R"
   refine neI ?_
   walk_at "R"
   refine neL ?_
   walk_at "R"
   refine ifd (fun h=>absurd h (by decide +kernel)) (fun _=>?_)
   walk_at "R"
   exact hN2 _ _ ⟨g8,_,_,_,_,_,_,_,_,_,_,_,_,_,_,_,_,rfl⟩
 ·rintro rho M2 ⟨g2,c2,c3,c4,c5,c6,c7,c8,c9,c10,c11,c12,c13,c14,c15,c16,c17,rfl⟩
  have mapE:∀ n:Nat,(List.range n).map (fun k=>ptD (stPt k))=(stL n).map ptD:=fun n=>by unfold stL;rw [List.map_map];rfl
  have szs:∀ n:Nat,n<=61->∀ q∈stL n,q.sz 30:=fun n hn q hq=>by
   unfold stL at hq
   obtain ⟨k,hk,rfl⟩:=List.mem_map.mp hq
   have hk:=List.mem_range.mp hk
   have e1:qs (k:Rat)<=30:=qs_nat (by show k < 1073741824;omega) (by decide)
   have e2:qs ((k+1:Nat):Rat)<=30:=qs_nat (by show k+1 < 1073741824;omega) (by decide)
   exact ⟨e1,e1,e1,e2⟩
  have qn:∀ n:Nat,n<=61->qs (n:Rat)<=30:=fun n hn=>qs_nat (by show n < 1073741824;omega) (by decide)
  have hbp:∀ n m:Nat,D.hbs m ((List.range n).map fun k=>ptD (stPt k))=true:=fun n m=>hbs_all fun d hd=>by
   obtain ⟨k,_,rfl⟩:=List.mem_map.mp hd;rfl
  walk_at "R"
  refine lc_inv (fun r acc M'=>R10 M M'/\(r=[.int 60,.int 61]/\acc=[]\/r=[.int 61]/\acc=[.tup [.str "told",.tup [.int 1,.int 1]]]\/r=[]/\acc=[.tup [.str "told",.tup [.int 1,.int 1]],.tup [.str "no",.str "TooMany",.int 60]])) ?_ ?_ _ _ _ ⟨g2,.inl ⟨rfl,rfl⟩⟩
  ·rintro d r acc M3 N ⟨g3,h⟩ hN
   rcases h with ⟨h,rfl⟩ | ⟨h,rfl⟩ | ⟨h,_⟩
   ·injection h with h1 h2
    subst h1 h2
    walk_at "R"
    refine ⟨_,60,rfl,by decide,?_⟩
    have g4:=g3.app (hbp 60)
    have hP:(M3 ++ [some (.lst ((List.range 60).map fun k=>ptD (stPt k)))])[M3.length]?=some (some (.lst ((stL 60).map ptD))):=by rw [mapE];exact mem_snoc
    generalize M3 ++ [some (.lst ((List.range 60).map fun k=>ptD (stPt k)))]=M4 at *
    walk_at "R"
    refine mk_CurveL (p:=((60:Nat):Rat)) (r:=((60:Nat):Rat)) (o:=0) (j:=M3.length) (pts:=stL 60) 30 g4.ok (by subst hM0;exact g4.a.allL) hP (qn 60 (by decide)) (qn 60 (by decide)) (by decide +kernel) (szs 60 (by decide)) (by decide) (by rw [stL_len];decide) (fun z=>absurd (stL_ok (by decide)) z) (fun _ z=>absurd z (by rw [stL_len];decide)) (fun _ _ z=>absurd z (by decide +kernel)) fun _ _ _=>?_
    walk_at "R"
    rw [st60_p]
    exact ⟨by show 0 < 16777216;decide,hN _ _ ⟨g4,.inr (.inl ⟨rfl,rfl⟩)⟩⟩
   ·injection h with h1 h2
    subst h1 h2
    walk_at "R"
    refine ⟨_,61,rfl,by decide,?_⟩
    have g4:=g3.app (hbp 61)
    have hP:(M3 ++ [some (.lst ((List.range 61).map fun k=>ptD (stPt k)))])[M3.length]?=some (some (.lst ((stL 61).map ptD))):=by rw [mapE];exact mem_snoc
    generalize M3 ++ [some (.lst ((List.range 61).map fun k=>ptD (stPt k)))]=M4 at *
    walk_at "R"
    refine mk_CurveL (p:=((61:Nat):Rat)) (r:=((61:Nat):Rat)) (o:=0) (j:=M3.length) (pts:=stL 61) 30 g4.ok (by subst hM0;exact g4.a.allL) hP (qn 61 (by decide)) (qn 61 (by decide)) (by decide +kernel) (szs 61 (by decide)) (by decide) (by rw [stL_len];decide) (fun z=>absurd (stL_ok (by decide)) z) (fun _ z=>?_) (fun _ z=>absurd z (by rw [stL_len];decide)) (fun _ z=>absurd z (by rw [stL_len];decide))
    refine toldX_1 Z_TooMany (by decide +kernel) hl ?_
    exact ⟨by show 1 < 16777216;decide,hN _ _ ⟨g4,.inr (.inr ⟨rfl,rfl⟩)⟩⟩
   ·cases h
  rintro acc M3 ⟨g3,h⟩
  obtain rfl:acc=[.tup [.str "told",.tup [.int 1,.int 1]],.tup [.str "no",.str "TooMany",.int 60]]:=by
   rcases h with ⟨h,_⟩ | ⟨h,_⟩ | ⟨_,h⟩
   ·cases h
   ·cases h
   ·exact h
  walk_at "R"
  refine e_rv0 ?_
  walk_at "R"
  refine ⟨_,61,rfl,by decide,?_⟩
  refine e_rvM mem_snoc ?_
  have g4:=g3.app (hbp 61)
  rw [mapE,<- List.map_reverse] at *
  generalize M3 ++ [some (.lst ((stL 61).map ptD))]=M4 at *
  walk_at "R"
  refine e_neP (by decide +kernel) (by decide +kernel) (by decide +kernel) (by decide +kernel) ?_
  rw [pyEq_refl (by decide +kernel)]
  walk_at "R"
  refine .inl (mk_Curve (p:=((61:Nat):Rat)) (r:=((61:Nat):Rat)) (o:=0) (P:=.lst ((stL 61).reverse.map ptD)) (pts:=(stL 61).reverse) 30 g4.ok rfl (qn 61 (by decide)) (qn 61 (by decide)) (by decide +kernel) (fun q hq=>szs 61 (by decide) q (List.mem_reverse.mp hq)) (by decide) (by rw [List.length_reverse,stL_len];decide) (fun z=>?_) (fun z=>absurd z wrong_no) (fun z=>absurd z wrong_no) fun z=>absurd z wrong_no)
  refine toldX_0 Z_InvalidCurve (by decide +kernel) ?_
  walk_at "R"
  refine e_neP (by decide +kernel) (by decide +kernel) (by decide +kernel) (by decide +kernel) ?_
  rw [pyEq_refl (by decide +kernel)]
  walk_at "R"
  refine ⟨_,61,rfl,by decide,?_⟩
  have hm5:(M4 ++ [some (.lst ((List.range 61).map fun k=>ptD (stPt k)))])[M4.length]?=some (some (.lst ((stL 61).map ptD))):=by rw [mapE];exact mem_snoc
  have g5:=g4.app (hbp 61)
  generalize M4 ++ [some (.lst ((List.range 61).map fun k=>ptD (stPt k)))]=M5 at *
  walk_at "R"
  refine e_slM hm5 ?_
  rw [show cutL ((stL 61).map ptD) (some 1) none=((stL 61).map ptD).drop 1 from cut_from 1]
  walk_at "R"
  refine e_addl (by rw [List.length_drop,List.length_map,stL_len];decide) ?_
  rw [show [D.tup [.tup [.int 0,.int 1],.tup [.int 0,.int 1],.tup [.int 1,.int (10 ^ Int.toNat 60)],.tup [.int 1,.int 1]]] ++ ((stL 61).map ptD).drop 1=lnL.map ptD by
   rw [show ((10:Int) ^ Int.toNat 60)=((10 ^ 60:Nat):Int) by decide +kernel,<- List.map_drop];rfl]
  walk_at "R"
  refine .inl (mk_Curve (p:=((61:Nat):Rat)) (r:=((61:Nat):Rat)) (o:=0) (P:=.lst (lnL.map ptD)) (pts:=lnL) 300 g5.ok rfl (Nat.le_trans (qn 61 (by decide)) (by decide)) (Nat.le_trans (qn 61 (by decide)) (by decide)) (by decide +kernel) (fun q hq=>?_) (by decide) (by rw [lnL_len];decide) (fun z=>absurd ln_ok z) (fun _ z=>?_) (fun _ z=>absurd z (by rw [lnL_len];decide)) (fun _ z=>absurd z (by rw [lnL_len];decide)))
  ·rcases List.mem_cons.mp hq with rfl | hq
   ·exact ⟨by decide +kernel,by decide +kernel,by decide +kernel,by decide +kernel⟩
   ·exact (szs 61 (by decide) q (List.mem_of_mem_drop hq)).mono (by decide)
  refine toldX_1 Z_TooMany (by decide +kernel) hl ?_
  walk_at "R"
  refine e_eqP (by decide +kernel) (by decide +kernel) (by decide +kernel) (by decide +kernel) ?_
  rw [pyEq_refl (by decide +kernel)]
  exact g5.cut rfl hM hQ
end
end LW
namespace LW
open PySem PySem.Spec PyProof.Rows L2 DL Mt
theorem facts {P:Program} {w:World} {K:PySem.W.Frag} {h:Heap} {mg:Str->Option Value} {f:Addr} (X:K.In h) (G:h.Ns mainGlobals mg) (hNS:h.NoSeer) (htr:P.given.tree=none) (hfa:mg ("law":Str)=some (.ref f)) (c:He.SaysY fa fn tf exB h K) :
  ∃ fd:FuncData,(∀ (s:Shared) (v:Value),BindsTo s fd ⟨[v],[]⟩ [("_law_script",v)])/\∀ base:Heap,K.In base->base.Ns mainGlobals mg->(∀ p∈csL K,LamX.TabB base mg p.1.1 p.1.2)->FnD P w K mg base ((csL K).map fun p=>(p.1.2,p.2)) 44 f fd ["_law_script"] sp_law:=by
 obtain ⟨fd__law_fields,F__law_fields⟩:=c.def_ 0 (d:=dd__law_fields) rfl
 have m__law_fields:=He.glo_ok X G (c.fact 0 (f:=.glo "_law_fields") rfl)
 obtain ⟨fd__law_begin,F__law_begin⟩:=c.def_ 1 (d:=dd__law_begin) rfl
 have m__law_begin:=He.glo_ok X G (c.fact 1 (f:=.glo "_law_begin") rfl)
 obtain ⟨fd__law_draw,F__law_draw⟩:=c.def_ 2 (d:=dd__law_draw) rfl
 have m__law_draw:=He.glo_ok X G (c.fact 2 (f:=.glo "_law_draw") rfl)
 obtain ⟨fd__law_pick,F__law_pick⟩:=c.def_ 3 (d:=dd__law_pick) rfl
 have m__law_pick:=He.glo_ok X G (c.fact 3 (f:=.glo "_law_pick") rfl)
 obtain ⟨fd__law_stairs,F__law_stairs⟩:=c.def_ 4 (d:=dd__law_stairs) rfl
 have m__law_stairs:=He.glo_ok X G (c.fact 4 (f:=.glo "_law_stairs") rfl)
 obtain ⟨fd__law_lowest,F__law_lowest⟩:=c.def_ 5 (d:=dd__law_lowest) rfl
 have m__law_lowest:=He.glo_ok X G (c.fact 5 (f:=.glo "_law_lowest") rfl)
 obtain ⟨fd__law_plus,F__law_plus⟩:=c.def_ 6 (d:=dd__law_plus) rfl
 have m__law_plus:=He.glo_ok X G (c.fact 6 (f:=.glo "_law_plus") rfl)
 obtain ⟨fd_compare,F_compare⟩:=c.def_ 7 (d:=dd_compare) rfl
 have m_compare:=He.glo_ok X G (c.fact 7 (f:=.glo "compare") rfl)
 obtain ⟨fd_common_divisor,F_common_divisor⟩:=c.def_ 8 (d:=dd_common_divisor) rfl
 have m_common_divisor:=He.glo_ok X G (c.fact 8 (f:=.glo "common_divisor") rfl)
 obtain ⟨fd_fraction,F_fraction⟩:=c.def_ 9 (d:=dd_fraction) rfl
 have m_fraction:=He.glo_ok X G (c.fact 9 (f:=.glo "fraction") rfl)
 obtain ⟨fd_times,F_times⟩:=c.def_ 10 (d:=dd_times) rfl
 have m_times:=He.glo_ok X G (c.fact 10 (f:=.glo "times") rfl)
 obtain ⟨fd_add,F_add⟩:=c.def_ 11 (d:=dd_add) rfl
 have m_add:=He.glo_ok X G (c.fact 11 (f:=.glo "add") rfl)
 obtain ⟨fd_moved,F_moved⟩:=c.def_ 12 (d:=dd_moved) rfl
 have m_moved:=He.glo_ok X G (c.fact 12 (f:=.glo "moved") rfl)
 obtain ⟨fd_check_points,F_check_points⟩:=c.def_ 13 (d:=dd_check_points) rfl
 have m_check_points:=He.glo_ok X G (c.fact 13 (f:=.glo "check_points") rfl)
 obtain ⟨fd_divide,F_divide⟩:=c.def_ 14 (d:=dd_divide) rfl
 have m_divide:=He.glo_ok X G (c.fact 14 (f:=.glo "divide") rfl)
 obtain ⟨fd_subtract,F_subtract⟩:=c.def_ 15 (d:=dd_subtract) rfl
 have m_subtract:=He.glo_ok X G (c.fact 15 (f:=.glo "subtract") rfl)
 obtain ⟨fd_slope_between,F_slope_between⟩:=c.def_ 16 (d:=dd_slope_between) rfl
 have m_slope_between:=He.glo_ok X G (c.fact 16 (f:=.glo "slope_between") rfl)
 obtain ⟨fd_true_points,F_true_points⟩:=c.def_ 17 (d:=dd_true_points) rfl
 have m_true_points:=He.glo_ok X G (c.fact 17 (f:=.glo "true_points") rfl)
 obtain ⟨fd_repeats,F_repeats⟩:=c.def_ 18 (d:=dd_repeats) rfl
 have m_repeats:=He.glo_ok X G (c.fact 18 (f:=.glo "repeats") rfl)
 obtain ⟨fd_equal_parts,F_equal_parts⟩:=c.def_ 19 (d:=dd_equal_parts) rfl
 have m_equal_parts:=He.glo_ok X G (c.fact 19 (f:=.glo "equal_parts") rfl)
 obtain ⟨fd_multiply,F_multiply⟩:=c.def_ 20 (d:=dd_multiply) rfl
 have m_multiply:=He.glo_ok X G (c.fact 20 (f:=.glo "multiply") rfl)
 obtain ⟨fd_floor_of,F_floor_of⟩:=c.def_ 21 (d:=dd_floor_of) rfl
 have m_floor_of:=He.glo_ok X G (c.fact 21 (f:=.glo "floor_of") rfl)
 obtain ⟨fd_Curve_point_at,F_Curve_point_at⟩:=c.def_ 22 (d:=dd_Curve_point_at) rfl
 obtain ⟨fd_Curve_place_from,F_Curve_place_from⟩:=c.def_ 23 (d:=dd_Curve_place_from) rfl
 obtain ⟨fd_Curve_slope_behind,F_Curve_slope_behind⟩:=c.def_ 24 (d:=dd_Curve_slope_behind) rfl
 obtain ⟨fd_Curve_around,F_Curve_around⟩:=c.def_ 25 (d:=dd_Curve_around) rfl
 obtain ⟨fd_Curve_value,F_Curve_value⟩:=c.def_ 26 (d:=dd_Curve_value) rfl
 obtain ⟨fd_Curve_check_digits,F_Curve_check_digits⟩:=c.def_ 27 (d:=dd_Curve_check_digits) rfl
 obtain ⟨fd_Curveu_initu,F_Curveu_initu⟩:=c.def_ 28 (d:=dd_Curveu_initu) rfl
 obtain ⟨fd__law_less,F__law_less⟩:=c.def_ 29 (d:=dd__law_less) rfl
 have m__law_less:=He.glo_ok X G (c.fact 22 (f:=.glo "_law_less") rfl)
 obtain ⟨fd__law_is_curve,F__law_is_curve⟩:=c.def_ 30 (d:=dd__law_is_curve) rfl
 have m__law_is_curve:=He.glo_ok X G (c.fact 23 (f:=.glo "_law_is_curve") rfl)
 obtain ⟨fd_Curveu_callu,F_Curveu_callu⟩:=c.def_ 31 (d:=dd_Curveu_callu) rfl
 obtain ⟨fd_law,F_law⟩:=c.def_ 32 (d:=dd_law) rfl
 have m_law:=He.glo_ok X G (c.fact 24 (f:=.glo "law") rfl)
 obtain ⟨fd__law_told,F__law_told⟩:=c.def_ 33 (d:=dd__law_told) rfl
 have m__law_told:=He.glo_ok X G (c.fact 25 (f:=.glo "_law_told") rfl)
 obtain ⟨fd_InvalidFractionu_initu,F_InvalidFractionu_initu⟩:=c.def_ 34 (d:=dd_InvalidFractionu_initu) rfl
 obtain ⟨fd_InvalidCurveu_initu,F_InvalidCurveu_initu⟩:=c.def_ 35 (d:=dd_InvalidCurveu_initu) rfl
 obtain ⟨fd_TooLongu_initu,F_TooLongu_initu⟩:=c.def_ 36 (d:=dd_TooLongu_initu) rfl
 obtain ⟨fd_TooManyu_initu,F_TooManyu_initu⟩:=c.def_ 37 (d:=dd_TooManyu_initu) rfl
 have e:=hfa.symm.trans m_law
 cases e
 have b:=FunD.bindsA (ps:=["_law_script"]) F_law fun _ _ _ _ _ _ us hl=>match us,hl with | [_],_=>rfl
 refine ⟨fd_law,fun s v=>b s [v] rfl,fun base hKb hGb hTB=>?_⟩
 have C__law_fields:=ok__law_fields (P:=P) (w:=w) (mg:=mg) (base:=base) (Tb:=((csL K).map fun p=>(p.1.2,p.2))) F__law_fields
 have g_list:=He.free_ok X G (c.fact 26 (f:=.free "list") rfl)
 have C__law_begin:Cal__law_begin P w K mg base ((csL K).map fun p=>(p.1.2,p.2)):=⟨_,fd__law_begin,F__law_begin,ok__law_begin (P:=P) (w:=w) (mg:=mg) (base:=base) (Tb:=((csL K).map fun p=>(p.1.2,p.2))) F__law_begin g_list,m__law_begin⟩
 have g_len:=He.free_ok X G (c.fact 27 (f:=.free "len") rfl)
 have C__law_draw:Cal__law_draw P w K mg base ((csL K).map fun p=>(p.1.2,p.2)):=⟨_,fd__law_draw,F__law_draw,ok__law_draw (P:=P) (w:=w) (mg:=mg) (base:=base) (Tb:=((csL K).map fun p=>(p.1.2,p.2))) F__law_draw g_len,m__law_draw⟩
 have C__law_pick:Cal__law_pick P w K mg base ((csL K).map fun p=>(p.1.2,p.2)):=⟨_,fd__law_pick,F__law_pick,ok__law_pick (P:=P) (w:=w) (mg:=mg) (base:=base) (Tb:=((csL K).map fun p=>(p.1.2,p.2))) F__law_pick C__law_draw g_len,m__law_pick⟩
 have g_range:=He.free_ok X G (c.fact 28 (f:=.free "range") rfl)
 have C__law_stairs:Cal__law_stairs P w K mg base ((csL K).map fun p=>(p.1.2,p.2)):=⟨_,fd__law_stairs,F__law_stairs,ok__law_stairs (P:=P) (w:=w) (mg:=mg) (base:=base) (Tb:=((csL K).map fun p=>(p.1.2,p.2))) F__law_stairs g_range,m__law_stairs⟩
 have g_abs:=He.free_ok X G (c.fact 29 (f:=.free "abs") rfl)
 have NS:Seer P base:=seer_via hNS htr X hKb G hGb (He.glo_ok X G (c.fact 30 (f:=.glo "__builtins__") rfl)) (bool_at c.more 0 (b:=seerB K))
 have C__law_lowest:Cal__law_lowest P w K mg base ((csL K).map fun p=>(p.1.2,p.2)):=⟨_,fd__law_lowest,F__law_lowest,ok__law_lowest (P:=P) (w:=w) (mg:=mg) (base:=base) (Tb:=((csL K).map fun p=>(p.1.2,p.2))) F__law_lowest g_abs NS,m__law_lowest⟩
 have C__law_plus:Cal__law_plus P w K mg base ((csL K).map fun p=>(p.1.2,p.2)):=⟨_,fd__law_plus,F__law_plus,ok__law_plus (P:=P) (w:=w) (mg:=mg) (base:=base) (Tb:=((csL K).map fun p=>(p.1.2,p.2))) F__law_plus C__law_lowest,m__law_plus⟩
 have C_compare:Cal_compare P w K mg base ((csL K).map fun p=>(p.1.2,p.2)):=⟨_,fd_compare,F_compare,ok_compare (P:=P) (w:=w) (mg:=mg) (base:=base) (Tb:=((csL K).map fun p=>(p.1.2,p.2))) F_compare ,m_compare⟩
 have C_common_divisor:Cal_common_divisor P w K mg base ((csL K).map fun p=>(p.1.2,p.2)):=⟨_,fd_common_divisor,F_common_divisor,ok_common_divisor (P:=P) (w:=w) (mg:=mg) (base:=base) (Tb:=((csL K).map fun p=>(p.1.2,p.2))) F_common_divisor g_abs,m_common_divisor⟩
 obtain ⟨T_InvalidFraction,tI_InvalidFraction,iC_InvalidFraction,no_InvalidFraction⟩:=xcB_ok (bool_at c.more 1 (b:=xcB K "InvalidFraction" ["code"]))
 have X_InvalidFraction:XC_InvalidFraction P w K mg base:=⟨T_InvalidFraction,_,fd_InvalidFractionu_initu,_,iC_InvalidFraction,tI_InvalidFraction,ok_InvalidFractionu_initu F_InvalidFractionu_initu T_InvalidFraction (no_InvalidFraction _ (by simp)),bd_InvalidFractionu_initu F_InvalidFractionu_initu,He.glo_ok X G (c.fact 31 (f:=.glo "InvalidFraction") rfl)⟩
 have C_fraction:Cal_fraction P w K mg base ((csL K).map fun p=>(p.1.2,p.2)):=⟨_,fd_fraction,F_fraction,ok_fraction (P:=P) (w:=w) (mg:=mg) (base:=base) (Tb:=((csL K).map fun p=>(p.1.2,p.2))) F_fraction C_common_divisor X_InvalidFraction NS,m_fraction⟩
 have C_times:Cal_times P w K mg base ((csL K).map fun p=>(p.1.2,p.2)):=⟨_,fd_times,F_times,ok_times (P:=P) (w:=w) (mg:=mg) (base:=base) (Tb:=((csL K).map fun p=>(p.1.2,p.2))) F_times C_fraction,m_times⟩
 have C_add:Cal_add P w K mg base ((csL K).map fun p=>(p.1.2,p.2)):=⟨_,fd_add,F_add,ok_add (P:=P) (w:=w) (mg:=mg) (base:=base) (Tb:=((csL K).map fun p=>(p.1.2,p.2))) F_add C_fraction,m_add⟩
 have g_tuple:=He.free_ok X G (c.fact 32 (f:=.free "tuple") rfl)
 have C_moved:Cal_moved P w K mg base ((csL K).map fun p=>(p.1.2,p.2)):=⟨_,fd_moved,F_moved,ok_moved (P:=P) (w:=w) (mg:=mg) (base:=base) (Tb:=((csL K).map fun p=>(p.1.2,p.2))) F_moved C_times C_add g_tuple,m_moved⟩
 have g_zip:=He.free_ok X G (c.fact 33 (f:=.free "zip") rfl)
 have c_ZERO:CC_ZERO K mg:=cc_tup X G (c.fact 34 (f:=.glo "ZERO") rfl) (bool_at c.more 2 (b:=He.tupB K "ZERO" [.int 0,.int 1])) fun _ _ _=>⟨_,_,rfl,rfl,⟨_,_,rfl,rfl,rfl⟩⟩
 obtain ⟨T_InvalidCurve,tI_InvalidCurve,iC_InvalidCurve,no_InvalidCurve⟩:=xcB_ok (bool_at c.more 3 (b:=xcB K "InvalidCurve" ["code"]))
 have X_InvalidCurve:XC_InvalidCurve P w K mg base:=⟨T_InvalidCurve,_,fd_InvalidCurveu_initu,_,iC_InvalidCurve,tI_InvalidCurve,ok_InvalidCurveu_initu F_InvalidCurveu_initu T_InvalidCurve (no_InvalidCurve _ (by simp)),bd_InvalidCurveu_initu F_InvalidCurveu_initu,He.glo_ok X G (c.fact 35 (f:=.glo "InvalidCurve") rfl)⟩
 have C_check_points:Cal_check_points P w K mg base ((csL K).map fun p=>(p.1.2,p.2)):=⟨_,fd_check_points,F_check_points,ok_check_points (P:=P) (w:=w) (mg:=mg) (base:=base) (Tb:=((csL K).map fun p=>(p.1.2,p.2))) F_check_points C_compare C_moved g_len g_list g_zip c_ZERO X_InvalidCurve,m_check_points⟩
 have C_divide:Cal_divide P w K mg base ((csL K).map fun p=>(p.1.2,p.2)):=⟨_,fd_divide,F_divide,ok_divide (P:=P) (w:=w) (mg:=mg) (base:=base) (Tb:=((csL K).map fun p=>(p.1.2,p.2))) F_divide C_fraction,m_divide⟩
 have C_subtract:Cal_subtract P w K mg base ((csL K).map fun p=>(p.1.2,p.2)):=⟨_,fd_subtract,F_subtract,ok_subtract (P:=P) (w:=w) (mg:=mg) (base:=base) (Tb:=((csL K).map fun p=>(p.1.2,p.2))) F_subtract C_fraction,m_subtract⟩
 have C_slope_between:Cal_slope_between P w K mg base ((csL K).map fun p=>(p.1.2,p.2)):=⟨_,fd_slope_between,F_slope_between,ok_slope_between (P:=P) (w:=w) (mg:=mg) (base:=base) (Tb:=((csL K).map fun p=>(p.1.2,p.2))) F_slope_between C_divide C_subtract,m_slope_between⟩
 have C_true_points:Cal_true_points P w K mg base ((csL K).map fun p=>(p.1.2,p.2)):=⟨_,fd_true_points,F_true_points,ok_true_points (P:=P) (w:=w) (mg:=mg) (base:=base) (Tb:=((csL K).map fun p=>(p.1.2,p.2))) F_true_points C_moved C_slope_between g_zip,m_true_points⟩
 have g_all:=He.free_ok X G (c.fact 36 (f:=.free "all") rfl)
 have C_repeats:Cal_repeats P w K mg base ((csL K).map fun p=>(p.1.2,p.2)):=⟨_,fd_repeats,F_repeats,ok_repeats (P:=P) (w:=w) (mg:=mg) (base:=base) (Tb:=((csL K).map fun p=>(p.1.2,p.2))) F_repeats C_moved C_divide g_len g_all g_zip,m_repeats⟩
 have C_equal_parts:Cal_equal_parts P w K mg base ((csL K).map fun p=>(p.1.2,p.2)):=⟨_,fd_equal_parts,F_equal_parts,ok_equal_parts (P:=P) (w:=w) (mg:=mg) (base:=base) (Tb:=((csL K).map fun p=>(p.1.2,p.2))) F_equal_parts C_repeats g_range g_len,m_equal_parts⟩
 have C_multiply:Cal_multiply P w K mg base ((csL K).map fun p=>(p.1.2,p.2)):=⟨_,fd_multiply,F_multiply,ok_multiply (P:=P) (w:=w) (mg:=mg) (base:=base) (Tb:=((csL K).map fun p=>(p.1.2,p.2))) F_multiply C_fraction,m_multiply⟩
 have C_floor_of:Cal_floor_of P w K mg base ((csL K).map fun p=>(p.1.2,p.2)):=⟨_,fd_floor_of,F_floor_of,ok_floor_of (P:=P) (w:=w) (mg:=mg) (base:=base) (Tb:=((csL K).map fun p=>(p.1.2,p.2))) F_floor_of NS,m_floor_of⟩
 have O_Curve:OCl K "Curve" ["period","rise","row","slope","base","form","offset"]:=oclB_ok (bool_at c.more 4 (b:=oclB K "Curve" ["period","rise","row","slope","base","form","offset"]))
 have C_Curve_point_at:Cal_Curve_point_at P w K mg base ((csL K).map fun p=>(p.1.2,p.2)):=⟨_,fd_Curve_point_at,F_Curve_point_at,ok_Curve_point_at (P:=P) (w:=w) (mg:=mg) (base:=base) (Tb:=((csL K).map fun p=>(p.1.2,p.2))) F_Curve_point_at C_moved g_len O_Curve,He.meth_ok (c.fact 37 (f:=.meth "Curve" "point_at") rfl)⟩
 have C_Curve_place_from:Cal_Curve_place_from P w K mg base ((csL K).map fun p=>(p.1.2,p.2)):=⟨_,fd_Curve_place_from,F_Curve_place_from,ok_Curve_place_from (P:=P) (w:=w) (mg:=mg) (base:=base) (Tb:=((csL K).map fun p=>(p.1.2,p.2))) F_Curve_place_from C_floor_of C_divide C_compare C_Curve_point_at g_len O_Curve,He.meth_ok (c.fact 38 (f:=.meth "Curve" "place_from") rfl)⟩
 have C_Curve_slope_behind:Cal_Curve_slope_behind P w K mg base ((csL K).map fun p=>(p.1.2,p.2)):=⟨_,fd_Curve_slope_behind,F_Curve_slope_behind,ok_Curve_slope_behind (P:=P) (w:=w) (mg:=mg) (base:=base) (Tb:=((csL K).map fun p=>(p.1.2,p.2))) F_Curve_slope_behind C_slope_between C_Curve_point_at O_Curve,He.meth_ok (c.fact 39 (f:=.meth "Curve" "slope_behind") rfl)⟩
 have C_Curve_around:Cal_Curve_around P w K mg base ((csL K).map fun p=>(p.1.2,p.2)):=⟨_,fd_Curve_around,F_Curve_around,ok_Curve_around (P:=P) (w:=w) (mg:=mg) (base:=base) (Tb:=((csL K).map fun p=>(p.1.2,p.2))) F_Curve_around C_add C_multiply C_Curve_place_from C_Curve_point_at C_Curve_slope_behind C_subtract O_Curve,He.meth_ok (c.fact 40 (f:=.meth "Curve" "around") rfl)⟩
 have C_Curve_value:Cal_Curve_value P w K mg base ((csL K).map fun p=>(p.1.2,p.2)):=⟨_,fd_Curve_value,F_Curve_value,ok_Curve_value (P:=P) (w:=w) (mg:=mg) (base:=base) (Tb:=((csL K).map fun p=>(p.1.2,p.2))) F_Curve_value C_Curve_around O_Curve,He.meth_ok (c.fact 41 (f:=.meth "Curve" "value") rfl)⟩
 have g_any:=He.free_ok X G (c.fact 42 (f:=.free "any") rfl)
 obtain ⟨T_TooLong,tI_TooLong,iC_TooLong,no_TooLong⟩:=xcB_ok (bool_at c.more 5 (b:=xcB K "TooLong" ["code","limit"]))
 have X_TooLong:XC_TooLong P w K mg base:=⟨T_TooLong,_,fd_TooLongu_initu,_,iC_TooLong,tI_TooLong,ok_TooLongu_initu F_TooLongu_initu T_TooLong (no_TooLong _ (by simp)) (no_TooLong _ (by simp)),bd_TooLongu_initu F_TooLongu_initu,He.glo_ok X G (c.fact 43 (f:=.glo "TooLong") rfl)⟩
 have w_Curve_MAX_DIGITS:ConD K (He.ga K "Curve") "MAX_DIGITS" (.int 60):=conB_ok (bool_at c.more 7 (b:=He.conB K "Curve" "MAX_DIGITS" (.int 60))) fun _ _ _=>rfl
 have C_Curve_check_digits:Cal_Curve_check_digits P w K mg base ((csL K).map fun p=>(p.1.2,p.2)):=⟨_,fd_Curve_check_digits,F_Curve_check_digits,ok_Curve_check_digits (P:=P) (w:=w) (mg:=mg) (base:=base) (Tb:=((csL K).map fun p=>(p.1.2,p.2))) F_Curve_check_digits g_any g_abs c_ZERO X_TooLong O_Curve w_Curve_MAX_DIGITS,He.meth_ok (c.fact 44 (f:=.meth "Curve" "check_digits") rfl)⟩
 have c_ONE:CC_ONE K mg:=cc_tup X G (c.fact 45 (f:=.glo "ONE") rfl) (bool_at c.more 8 (b:=He.tupB K "ONE" [.int 1,.int 1])) fun _ _ _=>⟨_,_,rfl,rfl,⟨_,_,rfl,rfl,rfl⟩⟩
 obtain ⟨T_TooMany,tI_TooMany,iC_TooMany,no_TooMany⟩:=xcB_ok (bool_at c.more 9 (b:=xcB K "TooMany" ["code","limit"]))
 have X_TooMany:XC_TooMany P w K mg base:=⟨T_TooMany,_,fd_TooManyu_initu,_,iC_TooMany,tI_TooMany,ok_TooManyu_initu F_TooManyu_initu T_TooMany (no_TooMany _ (by simp)) (no_TooMany _ (by simp)),bd_TooManyu_initu F_TooManyu_initu,He.glo_ok X G (c.fact 46 (f:=.glo "TooMany") rfl)⟩
 have w_Curve_MAX_POINTS:ConD K (He.ga K "Curve") "MAX_POINTS" (.int 60):=conB_ok (bool_at c.more 10 (b:=He.conB K "Curve" "MAX_POINTS" (.int 60))) fun _ _ _=>rfl
 have C_Curveu_initu:Cal_Curveu_initu P w K mg base ((csL K).map fun p=>(p.1.2,p.2)):=⟨_,fd_Curveu_initu,F_Curveu_initu,ok_Curveu_initu (P:=P) (w:=w) (mg:=mg) (base:=base) (Tb:=((csL K).map fun p=>(p.1.2,p.2))) F_Curveu_initu C_check_points C_true_points C_equal_parts C_divide C_subtract C_multiply C_Curve_value C_Curve_check_digits g_len g_list g_tuple c_ONE c_ZERO X_TooMany O_Curve w_Curve_MAX_POINTS,He.meth_ok (c.fact 47 (f:=.meth "Curve" "__init__") rfl)⟩
 have C__law_less:Cal__law_less P w K mg base ((csL K).map fun p=>(p.1.2,p.2)):=⟨_,fd__law_less,F__law_less,ok__law_less (P:=P) (w:=w) (mg:=mg) (base:=base) (Tb:=((csL K).map fun p=>(p.1.2,p.2))) F__law_less ,m__law_less⟩
 have C__law_is_curve:Cal__law_is_curve P w K mg base ((csL K).map fun p=>(p.1.2,p.2)):=⟨_,fd__law_is_curve,F__law_is_curve,ok__law_is_curve (P:=P) (w:=w) (mg:=mg) (base:=base) (Tb:=((csL K).map fun p=>(p.1.2,p.2))) F__law_is_curve C__law_less C__law_plus g_range g_len,m__law_is_curve⟩
 have C_Curveu_callu:Cal_Curveu_callu P w K mg base ((csL K).map fun p=>(p.1.2,p.2)):=⟨_,fd_Curveu_callu,F_Curveu_callu,ok_Curveu_callu (P:=P) (w:=w) (mg:=mg) (base:=base) (Tb:=((csL K).map fun p=>(p.1.2,p.2))) F_Curveu_callu C_Curve_value O_Curve,He.meth_ok (c.fact 48 (f:=.meth "Curve" "__call__") rfl)⟩
 have k_Curve:CcD K mg "Curve" (.ref (He.ga K "Curve")):=cc_cls X G (c.fact 49 (f:=.glo "Curve") rfl)
 have r_ZERO:RcD K "ZERO" DD_ZERO:=rc_tup (bool_at c.more 2 (b:=He.tupB K "ZERO" [.int 0,.int 1])) fun _ _ _=>⟨_,_,rfl,rfl,⟨_,_,rfl,rfl,rfl⟩⟩
 have B_told:ToldB P w K mg base ((csL K).map fun p=>(p.1.2,p.2)) s__law_told 1 (sp__law_fields K):=⟨_,fd__law_told,F__law_told,m__law_told,He.glo_ok X G (c.fact 50 (f:=.glo "RoundError") rfl),He.glo_ok X G (c.fact 51 (f:=.glo "Missing") rfl),He.glo_ok X G (c.fact 52 (f:=.glo "NothingLeft") rfl),_,fd__law_fields,_,C__law_fields,F__law_fields.kp,bd__law_fields F__law_fields,m__law_fields⟩
 have Z_TooMany:XFa K "TooMany" ["limit"]:=xfaB_ok (bool_at c.more 11 (b:=xfaB K "TooMany" ["limit"]))
 have Z_TooLong:XFa K "TooLong" ["limit"]:=xfaB_ok (bool_at c.more 12 (b:=xfaB K "TooLong" ["limit"]))
 have Z_InvalidCurve:XFa K "InvalidCurve" []:=xfaB_ok (bool_at c.more 13 (b:=xfaB K "InvalidCurve" []))
 have LD_law:LamD base mg ((csL K).map fun p=>(p.1.2,p.2)) fd_law "law" (defScope s_law):=⟨(He.cT K ("law",none)).1,(He.cT K ("law",none)).2,lam_codeE rfl F_law,hTB _ (List.getElem_mem (l:=csL K) (n:=0) (show 0 < 1 by decide)),List.mem_map.mpr ⟨_,(List.getElem_mem (l:=csL K) (n:=0) (show 0 < 1 by decide)),rfl⟩,fun p hp _=>by rw [List.mem_singleton.mp hp]⟩
 exact ok_law (P:=P) (w:=w) (mg:=mg) (base:=base) (Tb:=((csL K).map fun p=>(p.1.2,p.2))) F_law C__law_begin C__law_pick C__law_stairs C__law_draw C__law_plus C__law_lowest C_Curveu_initu C__law_is_curve C_Curveu_callu g_range g_len g_list g_tuple O_Curve k_Curve r_ZERO LD_law B_told Z_TooMany Z_TooLong Z_InvalidCurve
end LW
open PySem PySem.W PySem.Calls PyProof.Rows
theorem PySem.Challenge.cw_roundmaps_k10_points_that_are_no_curve_holds : PySem.Challenge.rw_roundmaps_k10_points_that_are_no_curve.Holds := by
 refine LW.hold_of ?hc
 case hc =>
  refine DL.walk_wS (l:=PySem.Challenge.rw_roundmaps_k10_points_that_are_no_curve) (n:=63) (k:=44) (x:="_law_script") (dsp:=LW.sp_law) rfl (by decide) (by kernel_rfl) ⟨rfl,by decide,by decide⟩ (by first | exact fun _ _ _ h=>h | exact fun _ _ _ h=>⟨rfl,h⟩) (by kernel_rfl) ?F
  intro w mg fa h Y G hNS hmg0
  obtain ⟨K,KX,c⟩:=Y
  have hmg:mg ("law":PySem.Str)=some (.ref fa):=by
   have e:(HandSHeadRun.topDef (OpenLaw.row PySem.Challenge.rw_roundmaps_k10_points_that_are_no_curve).prog 40).name=("law":PySem.Str):=by kernel_rfl
   rw [<- e]
   exact hmg0
  obtain ⟨fd,hb,hF⟩:=LW.facts (P:=(PySem.Challenge.rw_roundmaps_k10_points_that_are_no_curve).prog) (w:=w) KX G hNS rfl hmg c
  refine ⟨K,fd,LW.csL K,KX,fun p hp=>?_,fun p hp=>?_,fun p hp=>?_,hb,hF⟩
  all_goals
   obtain ⟨q,hq,rfl⟩:=List.mem_map.mp hp
   have hq2:q.1∈LW.tf:=List.mem_map.mpr ⟨q,hq,rfl⟩
  ·exact c.empty _ hq2
  ·exact c.out _ hq2
  ·exact PySem.W.codeHd_of_K KX (c.hd _ hq2)
