import PyProof.Rows.All
import Wide.All
import OpenK.AllK
import Wide.FinOn
import HandS.ForMost
import HandS.ForExc
import HandS.Wide
import HandS.Lambda
import HandS.TupAny
import HandS.Flow
import HandS.IsInst
import HandS.Conv
import HandS.Deep
import HandS.Defaults
import HandS.MakeKwOnly
import HandS.Walk
import HandS.StrMore
import HandS.Codes
import HandS.Head0
import HandS.Head1
import HandS.Head2
import HandS.HeadEnd
import HandS.HeadHook1
import HandS.HeadHook2
import HandS.Exc
import HandS.ExcInit
import HandS.ExcField
import HandS.ExcValue
import HandS.HotCalls
import HandS.HeadHook4
import HandS.EndTab
import HandS.MakeKw
import HandS.ClsMeth
import HandS.Property
import HandS.HeadNt
import KE.KCallOwn
import PyProof.InstNe
import HandS.FStr
import HandS.Style
import HandS.Star
import HandS.Zip
import PyProof.AutoSeq1
import HandS.ForDict
import HandS.DictComp
import KE.SortKeyHeap
import KE.KUnpackStar
import KE.IntTextLaws
import PyProof.StrBlock2
import HandS.More
import PyProof.GenQ
import PyProof.Rows.RowBridgeG
import HandS.GenCall
import HandS.GenList
import KE.GoesComp
import HandS.TryOnly
import PyProof.LongRange
import KE.KExcInit
import KE.KExcIs
import PySem.Challenge.RW_roundmaps_k05_errors_and_their_families
set_option Elab.async false
set_option linter.all false
set_option maxRecDepth 100000
set_option maxHeartbeats 4000000
set_option autoImplicit false
namespace DL
open PySem PySem.Spec PyProof.Rows L2
inductive D where
 | non | bl (b:Bool) | int (i:Int) | str (x:Str) | ty (n:String)
 | tup (xs:List D) | lst (xs:List D) | rol (xs:List D) | obj (C:Addr) (ns:List Str) (xs:List D)
 | exc (C:Addr) (ns:List Str) (xs:List D)
 | dk (ks:List Key) (xs:List D) | dt (ks:List (List Int)) (xs:List D)
 | ref (a:Addr) | mt (i:Nat)
 | lam (f:Addr) (L:List (Addr×(Heap->Prop)))
inductive MO where
 | lst (xs:List D) | dK (kvs:List (Key×D)) | dT (ks:List (List Int)) (xs:List D) | ins (C:Addr) (fs:List (Str×D))
abbrev Ents:=List (List Int×Addr×V)
def thI (ks:List Int):Int:=reduceHash (Builtin.Tuple.tupleHashOf (ks.map hashInt))
abbrev DicO (a:Addr) (L:Ents):HO:=.ext fun h=>(a == sysModules)=false/\L.length<=sizeLine/\∃ xs:List (List Int×Addr×Value),Paired (fun p q=>p.1=q.1/\p.2.1=q.2.1/\RelV p.2.2 q.2.2) L xs /\
 ∃ o es ep,h.get? a=some o/\o.ExactDict/\o.data = .dict es ep/\es.toList=xs.map (fun x=>(⟨thI x.1,.ref x.2.1,x.2.2⟩:DictEntry))/\(xs.map (·.1)).Nodup
def kD (ks:List Int):D:=.tup (ks.map D.int)
def Lv (L:Ents):List V:=L.map (fun e=>V.ref e.2.1) ++ L.map (·.2.2)
abbrev Mem:=List (Option MO)
abbrev Rho:=List (Option D)
structure Exn where
 C:Addr
 fs:List (Str×D)
abbrev VD:=D->Mem->Prop
abbrev XD:=Exn->Mem->Prop
structure Al where
 a:List Addr
 h:List Addr
def Fz (al:Al) (M:Mem) (a:Addr):Prop:=a ∉ al.h/\∀ (i:Nat) (mo:MO),al.a[i]?=some a->M[i]?=some (some mo)->False
def noH:Hp:=fun _=>none
def exs (a:Addr) (cls:Value) (d:Option Addr):HO:=.ext fun h=>∃ (oe:Obj) (vs:Array Value),h.get? a=some oe/\Zc cls d oe/\oe.data = .fields vs
def SqTz (K:PySem.W.Frag) (al:Al) (M:Mem) (H:Hp) (a:Addr) (xs:List V):Prop:=(H a=some (.tup xs)/\Fz al M a)\/SqT K noH a xs
def SqLz (K:PySem.W.Frag) (al:Al) (M:Mem) (H:Hp) (a:Addr) (xs:List V):Prop:=(Rd H a (.lst xs)/\Fz al M a)\/SqL K noH a xs
mutual
def Rp (K:PySem.W.Frag) (al:Al) (M:Mem) (H:Hp):D->V->Prop
 | .non,v=>v = .non
 | .bl b,v=>v = .bl b
 | .int i,v=>v = .int i
 | .str x,v=>v = .str x
 | .ty n,v=>v = .ty n
 | .tup ds,v=>∃ a xs,v = .ref a/\SqTz K al M H a xs/\Rps K al M H ds xs
 | .lst ds,v=>∃ a xs,v = .ref a/\H a=some (.lst xs)/\Fz al M a/\Rps K al M H ds xs
 | .rol ds,v=>∃ a xs,v = .ref a/\SqLz K al M H a xs/\Rps K al M H ds xs
 | .obj C ns ds,v=>∃ a dx xs,v = .ref a/\H a=some (.ins C dx (ns.zip xs))/\Fz al M a/\ns.length=xs.length/\Rps K al M H ds xs
 | .exc C ns ds,v=>∃ a dx xs,v = .ref a/\H a=some (exs a (.ref C) (some dx))/\Fz al M a/\H dx=some (.xd (ns.zip xs))/\Fz al M dx/\ns.length=xs.length/\Rps K al M H ds xs
 | .dk ks ds,v=>∃ a o xs,v = .ref a/\H a=some (.frz o (.dK (ks.zip xs)))/\Fz al M a/\ks.length=xs.length/\Rps K al M H ds xs
 | .dt ks ds,v=>∃ a o L,v = .ref a/\H a=some (.frz o (DicO a L))/\Fz al M a/\(L.map (·.1)=ks/\ds.take ks.length=ks.map kD)/\Rps K al M H ds (Lv L)
 | .ref a,v=>v = .ref a
 | .lam f L,v=>v = .ref f/\∀ x∈L,H x.1=some (.ext x.2)/\Fz al M x.1
 | .mt i,v=>∃ a,al.a[i]?=some a/\v = .ref a
def Rps (K:PySem.W.Frag) (al:Al) (M:Mem) (H:Hp):List D->List V->Prop
 | [],xs=>xs=[]
 | d :: ds,xs=>∃ x r,xs=x :: r/\Rp K al M H d x/\Rps K al M H ds r
end
structure Stp (al:Al) (M:Mem) (H:Hp) (al':Al) (M':Mem) (H':Hp):Prop where
 pre:∀ (i:Nat) (a:Addr),al.a[i]?=some a->al'.a[i]?=some a
 fz:∀ a o,H a=some o->(∀ ps,o≠.tbl ps)->Fz al M a->H' a=some o/\Fz al' M' a
 hh:al'.h=al.h
 hid:∀ a∈al.h,H' a=H a
theorem Stp.trans {al al1 al2:Al} {M M1 M2:Mem} {H H1 H2:Hp} (a:Stp al M H al1 M1 H1) (b:Stp al1 M1 H1 al2 M2 H2):Stp al M H al2 M2 H2 :=
 ⟨fun i x h=>b.pre i x (a.pre i x h),fun x o h n f=>b.fz x o (a.fz x o h n f).1 n (a.fz x o h n f).2,b.hh.trans a.hh,fun x hx=>(b.hid x (by rw [a.hh];exact hx)).trans (a.hid x hx)⟩
theorem SqTz.mono {K:PySem.W.Frag} {al al':Al} {M M':Mem} {H H':Hp} {a:Addr} {xs:List V} (s:Stp al M H al' M' H') (h:SqTz K al M H a xs):SqTz K al' M' H' a xs:=by
 rcases h with ⟨h,f⟩ | h
 ·exact .inl ⟨(s.fz _ _ h (fun _ z=>by cases z) f).1,(s.fz _ _ h (fun _ z=>by cases z) f).2⟩
 ·exact .inr h
theorem SqLz.mono {K:PySem.W.Frag} {al al':Al} {M M':Mem} {H H':Hp} {a:Addr} {xs:List V} (s:Stp al M H al' M' H') (h:SqLz K al M H a xs):SqLz K al' M' H' a xs:=by
 rcases h with ⟨h | ⟨o,h⟩,f⟩ | h
 ·exact .inl ⟨.inl (s.fz _ _ h (fun _ z=>by cases z) f).1,(s.fz _ _ h (fun _ z=>by cases z) f).2⟩
 ·exact .inl ⟨.inr ⟨o,(s.fz _ _ h (fun _ z=>by cases z) f).1⟩,(s.fz _ _ h (fun _ z=>by cases z) f).2⟩
 ·exact .inr h
mutual
theorem Rp.mono {K:PySem.W.Frag} {al al':Al} {M M':Mem} {H H':Hp} (s:Stp al M H al' M' H'):∀ {d:D} {v:V},Rp K al M H d v->Rp K al' M' H' d v
 | .non,_,h=>h
 | .bl _,_,h=>h
 | .int _,_,h=>h
 | .str _,_,h=>h
 | .ty _,_,h=>h
 | .tup ds,_,h=>by
  obtain ⟨a,xs,e,q,r⟩:=h
  exact ⟨a,xs,e,q.mono s,Rps.mono s r⟩
 | .lst ds,_,h=>by
  obtain ⟨a,xs,e,q,f,r⟩:=h
  exact ⟨a,xs,e,(s.fz _ _ q (fun _ z=>by cases z) f).1,(s.fz _ _ q (fun _ z=>by cases z) f).2,Rps.mono s r⟩
 | .rol ds,_,h=>by
  obtain ⟨a,xs,e,q,r⟩:=h
  exact ⟨a,xs,e,q.mono s,Rps.mono s r⟩
 | .obj C ns ds,_,h=>by
  obtain ⟨a,dx,xs,e,q,f,l,r⟩:=h
  exact ⟨a,dx,xs,e,(s.fz _ _ q (fun _ z=>by cases z) f).1,(s.fz _ _ q (fun _ z=>by cases z) f).2,l,Rps.mono s r⟩
 | .dk C ds,_,h=>by
  obtain ⟨a,dx,xs,e,q,f,l,r⟩:=h
  exact ⟨a,dx,xs,e,(s.fz _ _ q (fun _ z=>by cases z) f).1,(s.fz _ _ q (fun _ z=>by cases z) f).2,l,Rps.mono s r⟩
 | .dt C ds,_,h=>by
  obtain ⟨a,dx,xs,e,q,f,l,r⟩:=h
  exact ⟨a,dx,xs,e,(s.fz _ _ q (fun _ z=>by cases z) f).1,(s.fz _ _ q (fun _ z=>by cases z) f).2,l,Rps.mono s r⟩
 | .exc C ns ds,_,h=>by
  obtain ⟨a,dx,xs,e,q,f,q2,f2,l,r⟩:=h
  exact ⟨a,dx,xs,e,(s.fz _ _ q (fun _ z=>by cases z) f).1,(s.fz _ _ q (fun _ z=>by cases z) f).2,(s.fz _ _ q2 (fun _ z=>by cases z) f2).1,(s.fz _ _ q2 (fun _ z=>by cases z) f2).2,l,Rps.mono s r⟩
 | .lam _ _,_,h=>⟨h.1,fun x hx=>s.fz _ _ (h.2 x hx).1 (fun _ z=>by cases z) (h.2 x hx).2⟩
 | .ref _,_,h=>h
 | .mt i,_,h=>by
  obtain ⟨a,e,q⟩:=h
  exact ⟨a,s.pre _ _ e,q⟩
theorem Rps.mono {K:PySem.W.Frag} {al al':Al} {M M':Mem} {H H':Hp} (s:Stp al M H al' M' H'):∀ {ds:List D} {xs:List V},Rps K al M H ds xs->Rps K al' M' H' ds xs
 | [],_,h=>h
 | d :: ds,_,h=>by
  obtain ⟨x,r,e,q,t⟩:=h
  exact ⟨x,r,e,Rp.mono s q,Rps.mono s t⟩
end
section
variable {K:PySem.W.Frag} {al:Al} {M:Mem} {H:Hp}
theorem Rps.length:∀ {ds:List D} {xs:List V},Rps K al M H ds xs->ds.length=xs.length
 | [],_,h=>by cases (show _=[] from h);rfl
 | d :: ds,_,h=>by
  obtain ⟨x,r,e,_,t⟩:=h
  subst e
  simp [Rps.length t]
theorem Rps.append:∀ {ds es:List D} {xs ys:List V},Rps K al M H ds xs->Rps K al M H es ys->Rps K al M H (ds ++ es) (xs ++ ys)
 | [],_,_,_,h,g=>by cases (show _=[] from h);exact g
 | d :: ds,_,_,_,h,g=>by
  obtain ⟨x,r,q,t,u⟩:=h
  subst q
  exact ⟨x,_,rfl,t,Rps.append u g⟩
theorem Rps.take:∀ {ds:List D} {xs:List V} (n:Nat),Rps K al M H ds xs->Rps K al M H (ds.take n) (xs.take n)
 | _,_,0,_=>rfl
 | [],_,_+1,h=>by cases (show _=[] from h);rfl
 | d :: ds,_,n+1,h=>by
  obtain ⟨x,r,q,t,u⟩:=h
  subst q
  exact ⟨x,_,rfl,t,Rps.take n u⟩
theorem Rps.drop:∀ {ds:List D} {xs:List V} (n:Nat),Rps K al M H ds xs->Rps K al M H (ds.drop n) (xs.drop n)
 | _,_,0,h=>by simpa using h
 | [],_,_+1,h=>by cases (show _=[] from h);rfl
 | d :: ds,_,n+1,h=>by
  obtain ⟨x,r,q,t,u⟩:=h
  subst q
  simpa using Rps.drop n u
theorem Rps.set:∀ {ds:List D} {xs:List V} (n:Nat) {d:D} {x:V},Rps K al M H ds xs->Rp K al M H d x->Rps K al M H (ds.set n d) (xs.set n x)
 | [],_,_,_,_,h,_=>by cases (show _=[] from h);rfl
 | d :: ds,_,0,_,_,h,g=>by
  obtain ⟨x,r,q,t,u⟩:=h
  subst q
  exact ⟨_,_,rfl,g,u⟩
 | d :: ds,_,n+1,_,_,h,g=>by
  obtain ⟨x,r,q,t,u⟩:=h
  subst q
  exact ⟨x,_,rfl,t,Rps.set n u g⟩
end
def Rpk {κ:Type} (K:PySem.W.Frag) (al:Al) (M:Mem) (H:Hp) (ds:List (κ×D)) (xs:List (κ×V)):Prop:=ds.map (·.1)=xs.map (·.1)/\Rps K al M H (ds.map (·.2)) (xs.map (·.2))
theorem Rpk.mono {κ:Type} {K:PySem.W.Frag} {al al':Al} {M M':Mem} {H H':Hp} {ds:List (κ×D)} {xs:List (κ×V)} (s:Stp al M H al' M' H') (h:Rpk K al M H ds xs):Rpk K al' M' H' ds xs:=⟨h.1,h.2.mono s⟩
theorem Rpk.nil {κ:Type} {K:PySem.W.Frag} {al:Al} {M:Mem} {H:Hp}:Rpk (κ:=κ) K al M H [] []:=⟨rfl,rfl⟩
theorem Rpk.cons {κ:Type} {K:PySem.W.Frag} {al:Al} {M:Mem} {H:Hp} {k:κ} {d:D} {x:V} {ds:List (κ×D)} {xs:List (κ×V)} (r:Rp K al M H d x) (h:Rpk K al M H ds xs):Rpk K al M H ((k,d) :: ds) ((k,x) :: xs) :=
 ⟨by simp [h.1],⟨x,_,rfl,r,h.2⟩⟩
theorem Rpk.cases {κ:Type} {K:PySem.W.Frag} {al:Al} {M:Mem} {H:Hp} {k:κ} {d:D} {ds:List (κ×D)} {xs:List (κ×V)} (h:Rpk K al M H ((k,d) :: ds) xs):∃ x r,xs=(k,x) :: r/\Rp K al M H d x/\Rpk K al M H ds r:=by
 obtain ⟨h1,x,r,e,q,t⟩:=h
 cases xs with
 | nil=>simp at h1
 | cons y ys =>
  obtain ⟨y1,y2⟩:=y
  simp at h1 e
  obtain ⟨rfl,h1⟩:=h1
  obtain ⟨rfl,rfl⟩:=e
  exact ⟨y2,ys,rfl,q,h1,t⟩
def Rpd (K:PySem.W.Frag) (al:Al) (M:Mem) (H:Hp) (ks:List (List Int)) (ds:List D) (L:Ents):Prop:=(L.map (·.1)=ks/\ds.take ks.length=ks.map kD)/\Rps K al M H ds (Lv L)
theorem Rpd.mono {K:PySem.W.Frag} {al al':Al} {M M':Mem} {H H':Hp} {ks:List (List Int)} {ds:List D} {L:Ents} (s:Stp al M H al' M' H') (h:Rpd K al M H ks ds L):Rpd K al' M' H' ks ds L:=⟨h.1,h.2.mono s⟩
def RpM (K:PySem.W.Frag) (al:Al) (M:Mem) (H:Hp) (a:Addr):MO->Prop
 | .lst ds=>∃ xs,H a=some (.lst xs)/\Rps K al M H ds xs
 | .dK kvs=>∃ ys,H a=some (.dK ys)/\Rpk K al M H kvs ys
 | .dT ks ds=>∃ L,H a=some (DicO a L)/\Rpd K al M H ks ds L
 | .ins C fs=>∃ dx ys,H a=some (.ins C dx ys)/\Rpk K al M H fs ys
def RpX (K:PySem.W.Frag) (al:Al) (M:Mem) (H:Hp) (x:Exn) (cls:Value) (d:Option Addr):Prop:=cls = .ref x.C/\∃ dx ys,d=some dx/\H dx=some (.xd ys)/\Rpk K al M H x.fs ys
theorem dic_code {a c:Addr} {L:Ents} {q:Str} (h:DicO a L=LamX.CodeO c q):False:=by
 unfold DicO LamX.CodeO at h
 injection h with h
 let ob:Obj:={ cls:=.none,data:=.fields #[.none,.str q 0] }
 let hp:Heap:=⟨Array.replicate (c+1) ob,{}⟩
 have key:∀ b o,hp.get? b=some o->o=ob:=fun b o e=>by
  have e1:(match (Array.replicate (c+1) ob)[b]? with
   | some ⟨_,_,.freed,_⟩=>none
   | o=>o)=some o:=e
  by_cases hb:b < c+1
  ·rw [Array.getElem?_eq_getElem (by simpa using hb),Array.getElem_replicate] at e1
   exact (Option.some.inj e1).symm
  ·rw [Array.getElem?_eq_none (by simpa using hb)] at e1
   cases e1
 have at_:hp.get? c=some ob:=by
  show (match (Array.replicate (c+1) ob)[c]? with
   | some ⟨_,_,.freed,_⟩=>none
   | o=>o)=some ob
  rw [Array.getElem?_eq_getElem (by simp),Array.getElem_replicate]
 have e:=congrFun h hp
 have yes:=e.mpr ⟨ob,_,0,at_,rfl,rfl⟩
 obtain ⟨_,_,_,_,o,es,ep,h1,_,h3,_⟩:=yes
 have:=key _ _ h1
 subst this
 cases h3
def HidO (a:Addr) (o:HO):Prop:=(∃ xs,o = .lst xs)\/(∃ kvs,o = .dK kvs)\/(∃ L,o=DicO a L)\/∃ od u,o = .frz od u
theorem HidO.tbl {a:Addr} {o:HO} (h:HidO a o) (ps:Array Value):o≠.tbl ps:=fun z=>by
 rcases h with ⟨_,rfl⟩ | ⟨_,rfl⟩ | ⟨_,rfl⟩ | ⟨_,_,rfl⟩ <;> cases z
theorem HidO.xd {a:Addr} {o:HO} (h:HidO a o) (fs:List (Str×V)):o≠.xd fs:=fun z=>by
 rcases h with ⟨_,rfl⟩ | ⟨_,rfl⟩ | ⟨_,rfl⟩ | ⟨_,_,rfl⟩ <;> cases z
theorem HidO.code {a:Addr} {o:HO} (h:HidO a o) (c:Addr) (q:Str):o≠LamX.CodeO c q:=fun z=>by
 rcases h with ⟨_,rfl⟩ | ⟨_,rfl⟩ | ⟨_,rfl⟩ | ⟨_,_,rfl⟩
 ·unfold LamX.CodeO at z;cases z
 ·unfold LamX.CodeO at z;cases z
 ·exact dic_code z
 ·unfold LamX.CodeO at z;cases z
structure Wf (K:PySem.W.Frag) (Tb:List (Addr×Str)) (al:Al) (H:Hp) (M:Mem):Prop where
 len:al.a.length=M.length
 nd:al.a.Nodup
 rep:∀ (i:Nat) (a:Addr) (mo:MO),al.a[i]?=some a->M[i]?=some (some mo)->RpM K al M H a mo
 there:∀ (i:Nat) (a:Addr),al.a[i]?=some a->∃ o,H a=some o/\∀ ps,o≠.tbl ps
 tb:LamX.Tabs Tb H
 hth:∀ a∈al.h,∃ o,H a=some o/\HidO a o
 hdis:∀ (i:Nat) (a:Addr) (mo:MO),al.a[i]?=some a->M[i]?=some (some mo)->a ∉ al.h
def RpS (K:PySem.W.Frag) (al:Al) (M:Mem) (H:Hp) (σ:L2.St) (rho:Rho):Prop:=rho.length=σ.length/\∀ (i:Nat) (d:D),rho[i]?=some (some d)->∃ v,σ[i]?=some (some v)/\Rp K al M H d v
theorem RpS.mono {K:PySem.W.Frag} {al al':Al} {M M':Mem} {H H':Hp} {σ:L2.St} {rho:Rho} (s:Stp al M H al' M' H') (h:RpS K al M H σ rho):RpS K al' M' H' σ rho :=
 ⟨h.1,fun i d e=>let ⟨v,e1,r⟩:=h.2 i d e;⟨v,e1,r.mono s⟩⟩
theorem RpS.set {K:PySem.W.Frag} {al:Al} {M:Mem} {H:Hp} {σ:L2.St} {rho:Rho} (h:RpS K al M H σ rho) (i:Nat) {d:D} {v:V} (r:Rp K al M H d v):RpS K al M H (σ.set i (some v)) (rho.set i (some d)):=by
 refine ⟨by simpa using h.1,fun j e q=>?_⟩
 by_cases hj:i=j
 ·subst hj
  rw [List.getElem?_set] at q
  simp at q
  obtain ⟨q1,rfl⟩:=q
  exact ⟨v,by rw [List.getElem?_set];simp;rw [<- h.1];exact q1,r⟩
 ·rw [List.getElem?_set_ne hj] at q ⊢
  exact h.2 j e q
abbrev TED:=XD->Rho->Mem->VD->Prop
structure DEnds where
 nx:Rho->Mem->Prop
 rt:VD
 bk:Rho->Mem->Prop:=fun _ _=>False
 ct:Rho->Mem->Prop:=fun _ _=>False
def PostV (K:PySem.W.Frag) (Tb:List (Addr×Str)) (al:Al) (M:Mem) (H:Hp) (Q:VD) (QV:VK):Prop:=∀ al' d M' v H',Stp al M H al' M' H'->Wf K Tb al' H' M'->Rp K al' M' H' d v->Q d M'->QV v H'
def PostX (K:PySem.W.Frag) (Tb:List (Addr×Str)) (al:Al) (M:Mem) (H:Hp) (E:XD) (EV:XK):Prop:=∀ al' x M' cls dct H',Stp al M H al' M' H'->Wf K Tb al' H' M'->RpX K al' M' H' x cls dct->E x M'->EV cls dct H'
def PostT (K:PySem.W.Frag) (Tb:List (Addr×Str)) (al:Al) (M:Mem) (H:Hp) (Q:Bool->Mem->Prop) (QV:Bool->Hp->Prop):Prop:=∀ al' b M' H',Stp al M H al' M' H'->Wf K Tb al' H' M'->Q b M'->QV b H'
def PostA (K:PySem.W.Frag) (Tb:List (Addr×Str)) (al:Al) (M:Mem) (H:Hp) (Q:List D->Mem->Prop) (QV:List V->Hp->Prop):Prop:=∀ al' ds M' vs H',Stp al M H al' M' H'->Wf K Tb al' H' M'->Rps K al' M' H' ds vs->Q ds M'->QV vs H'
def PostS (K:PySem.W.Frag) (Tb:List (Addr×Str)) (al:Al) (M:Mem) (H:Hp) (Q:Rho->Mem->Prop) (QV:L2.St->Hp->Prop):Prop:=∀ al' rho' M' σ' H',Stp al M H al' M' H'->Wf K Tb al' H' M'->RpS K al' M' H' σ' rho'->Q rho' M'->QV σ' H'
theorem PostX.mono {K:PySem.W.Frag} {Tb:List (Addr×Str)} {al al1:Al} {M M1:Mem} {H H1:Hp} {E:XD} {EV:XK} (s:Stp al M H al1 M1 H1) (p:PostX K Tb al M H E EV):PostX K Tb al1 M1 H1 E EV :=
 fun _ _ _ _ _ _ s'=>p _ _ _ _ _ _ (s.trans s')
theorem PostV.mono {K:PySem.W.Frag} {Tb:List (Addr×Str)} {al al1:Al} {M M1:Mem} {H H1:Hp} {Q:VD} {QV:VK} (s:Stp al M H al1 M1 H1) (p:PostV K Tb al M H Q QV):PostV K Tb al1 M1 H1 Q QV :=
 fun _ _ _ _ _ s'=>p _ _ _ _ _ (s.trans s')
theorem PostT.mono {K:PySem.W.Frag} {Tb:List (Addr×Str)} {al al1:Al} {M M1:Mem} {H H1:Hp} {Q:Bool->Mem->Prop} {QV:Bool->Hp->Prop} (s:Stp al M H al1 M1 H1) (p:PostT K Tb al M H Q QV):PostT K Tb al1 M1 H1 Q QV :=
 fun _ _ _ _ s'=>p _ _ _ _ (s.trans s')
theorem PostA.mono {K:PySem.W.Frag} {Tb:List (Addr×Str)} {al al1:Al} {M M1:Mem} {H H1:Hp} {Q:List D->Mem->Prop} {QV:List V->Hp->Prop} (s:Stp al M H al1 M1 H1) (p:PostA K Tb al M H Q QV):PostA K Tb al1 M1 H1 Q QV :=
 fun _ _ _ _ _ s'=>p _ _ _ _ _ (s.trans s')
theorem PostS.mono {K:PySem.W.Frag} {Tb:List (Addr×Str)} {al al1:Al} {M M1:Mem} {H H1:Hp} {Q:Rho->Mem->Prop} {QV:L2.St->Hp->Prop} (s:Stp al M H al1 M1 H1) (p:PostS K Tb al M H Q QV):PostS K Tb al1 M1 H1 Q QV :=
 fun _ _ _ _ _ s'=>p _ _ _ _ _ (s.trans s')
structure At (K:PySem.W.Frag) (Tb:List (Addr×Str)) (EV:XK) (al:Al) (σ:L2.St) (H:Hp) (rho:Rho) (M:Mem) (E:XD):Prop where
 wf:Wf K Tb al H M
 sl:RpS K al M H σ rho
 ex:PostX K Tb al M H E EV
theorem At.go {K:PySem.W.Frag} {Tb:List (Addr×Str)} {EV:XK} {al al':Al} {σ:L2.St} {H H':Hp} {rho:Rho} {M M':Mem} {E:XD} (a:At K Tb EV al σ H rho M E) (s:Stp al M H al' M' H') (w:Wf K Tb al' H' M'):At K Tb EV al' σ H' rho M' E :=
 ⟨w,a.sl.mono s,a.ex.mono s⟩
structure PostE (K:PySem.W.Frag) (Tb:List (Addr×Str)) (al:Al) (M:Mem) (H:Hp) (DD:DEnds) (DV:Ends):Prop where
 nx:PostS K Tb al M H DD.nx DV.nx
 rt:PostV K Tb al M H DD.rt DV.rt
 bk:PostS K Tb al M H DD.bk DV.bk
 ct:PostS K Tb al M H DD.ct DV.ct
theorem PostE.mono {K:PySem.W.Frag} {Tb:List (Addr×Str)} {al al1:Al} {M M1:Mem} {H H1:Hp} {DD:DEnds} {DV:Ends} (s:Stp al M H al1 M1 H1) (p:PostE K Tb al M H DD DV):PostE K Tb al1 M1 H1 DD DV :=
 ⟨p.nx.mono s,p.rt.mono s,p.bk.mono s,p.ct.mono s⟩
section
variable {K:PySem.W.Frag} {Tb:List (Addr×Str)} {al:Al} {M:Mem} {H:Hp} {p a:Addr}
theorem Wf.nohid (w:Wf K Tb al H M) (hp:H p=none):p ∉ al.h:=fun hm=>by
 obtain ⟨xs,h,_⟩:=w.hth p hm
 rw [hp] at h;cases h
theorem Wf.fresh (w:Wf K Tb al H M) (hp:H p=none):Fz al M p:=⟨w.nohid hp,fun i mo e _=>by
 obtain ⟨o,h,_⟩:=w.there i p e
 rw [hp] at h;cases h⟩
theorem RpM.mono {al':Al} {M':Mem} {H':Hp} {mo:MO} (s:Stp al M H al' M' H') (e:∀ o,H a=some o->H' a=some o) (h:RpM K al M H a mo):RpM K al' M' H' a mo:=by
 cases mo with
 | lst ds=>obtain ⟨xs,h1,h2⟩:=h;exact ⟨xs,e _ h1,h2.mono s⟩
 | dK kvs=>obtain ⟨xs,h1,h2⟩:=h;exact ⟨xs,e _ h1,h2.mono s⟩
 | dT ks ds=>obtain ⟨xs,h1,h2⟩:=h;exact ⟨xs,e _ h1,h2.mono s⟩
 | ins C fs=>obtain ⟨dx,xs,h1,h2⟩:=h;exact ⟨dx,xs,e _ h1,h2.mono s⟩
end
section
variable {X:Cx} {Tb:List (Addr×Str)} {EV:XK} {a b c:Expr} {ta tb tc:TED} {pos:Pos}
theorem Rps.nil {K:PySem.W.Frag} {al:Al} {M:Mem} {H:Hp}:Rps K al M H [] []:=rfl
end
mutual
def D.hb (n:Nat):D->Bool
 | .mt i=>decide (i < n)
 | .tup xs=>D.hbs n xs
 | .lst xs=>D.hbs n xs
 | .rol xs=>D.hbs n xs
 | .obj _ _ xs=>D.hbs n xs
 | .exc _ _ xs=>D.hbs n xs
 | .dk _ xs=>D.hbs n xs
 | .dt _ xs=>D.hbs n xs
 | _=>true
def D.hbs (n:Nat):List D->Bool
 | []=>true
 | x :: xs=>D.hb n x && D.hbs n xs
end
def MO.hb (n:Nat):MO->Bool
 | .lst xs=>D.hbs n xs
 | .dK kvs=>D.hbs n (kvs.map (·.2))
 | .dT _ xs=>D.hbs n xs
 | .ins _ fs=>D.hbs n (fs.map (·.2))
def okM (n:Nat) (M:Mem):Prop:=∀ (i:Nat) (mo:MO),i < n->M[i]?=some (some mo)->mo.hb n=true
section
variable {K:PySem.W.Frag} {Tb:List (Addr×Str)} {al:Al} {M:Mem} {H:Hp}
mutual
theorem Rp.hb:∀ {d:D} {v:V},Rp K al M H d v->D.hb al.a.length d=true
 | .mt i,_,h=>by
  obtain ⟨a,e,_⟩:=h
  exact decide_eq_true (List.getElem?_eq_some_iff.mp e).1
 | .tup xs,_,h=>by obtain ⟨_,_,_,_,r⟩:=h;exact Rps.hb r
 | .lst xs,_,h=>by obtain ⟨_,_,_,_,_,r⟩:=h;exact Rps.hb r
 | .rol xs,_,h=>by obtain ⟨_,_,_,_,r⟩:=h;exact Rps.hb r
 | .obj _ _ xs,_,h=>by obtain ⟨_,_,_,_,_,_,_,r⟩:=h;exact Rps.hb r
 | .exc _ _ xs,_,h=>by obtain ⟨_,_,_,_,_,_,_,_,_,r⟩:=h;exact Rps.hb r
 | .dk _ xs,_,h=>by obtain ⟨_,_,_,_,_,_,_,r⟩:=h;exact Rps.hb r
 | .dt _ xs,_,h=>by obtain ⟨_,_,_,_,_,_,_,r⟩:=h;exact Rps.hb r
 | .non,_,_=>rfl
 | .bl _,_,_=>rfl
 | .int _,_,_=>rfl
 | .str _,_,_=>rfl
 | .ty _,_,_=>rfl
 | .lam _ _,_,_=>rfl
 | .ref _,_,_=>rfl
theorem Rps.hb:∀ {ds:List D} {vs:List V},Rps K al M H ds vs->D.hbs al.a.length ds=true
 | [],_,_=>rfl
 | d :: ds,_,h=>by
  obtain ⟨_,_,_,r,t⟩:=h
  show (D.hb _ d && D.hbs _ ds)=true
  rw [Rp.hb r,Rps.hb t];rfl
end
end
def Cut (n:Nat) (Q:VD):VD:=fun d M'=>∃ m,n<=m/\d.hb m=true/\okM m M'/\Q d (M'.take m)
def CutX (n:Nat) (E:XD):XD:=fun x M'=>D.hbs n (x.fs.map (·.2))=true/\okM n M'/\E x (M'.take n)
theorem okM.set {n i:Nat} {M:Mem} {mo:MO} (ok:okM n M) (h:mo.hb n=true):okM n (M.set i (some mo)):=fun j m hj e=>by
 by_cases hij:i=j
 ·subst hij
  rw [List.getElem?_set] at e
  simp at e
  rw [<- e.2];exact h
 ·rw [List.getElem?_set_ne hij] at e
  exact ok j m hj e
theorem Cut.set {Q:VD} {d:D} {M:Mem} {i:Nat} {mo:MO} (h:d.hb M.length=true) (ok:okM M.length M) (hm:mo.hb M.length=true) (q:Q d (M.set i (some mo))):Cut M.length Q d (M.set i (some mo)) :=
 ⟨M.length,Nat.le_refl _,h,ok.set hm,by rw [List.take_of_length_le (by simp)];exact q⟩
abbrev DSp:=List D->Mem->VD->XD->Prop
def liftSp (K:PySem.W.Frag) (Tb:List (Addr×Str)) (dsp:DSp):Sp:=fun vs H QV EV=>∃ al M ds Q E,Wf K Tb al H M/\Rps K al M H ds vs/\dsp ds M Q E/\PostV K Tb al M H Q QV/\PostX K Tb al M H E EV
structure FnD (P:Program) (w:World) (K:PySem.W.Frag) (mg:Str->Option Value) (base:Heap) (Tb:List (Addr×Str)) (k:Nat) (f:Addr) (fd:FuncData) (ps:List Str) (dsp:DSp):Prop where
 ok:FnOk P w K mg base (L2.CX P w) k f fd ps (liftSp K Tb dsp)
theorem FnD.mono {P:Program} {w:World} {K:PySem.W.Frag} {mg:Str->Option Value} {base:Heap} {Tb:List (Addr×Str)} {j k:Nat} {f:Addr} {fd:FuncData} {ps:List Str} {dsp:DSp} (F:FnD P w K mg base Tb j f fd ps dsp) (h:j<=k):FnD P w K mg base Tb k f fd ps dsp:=⟨F.ok.mono h⟩
section
variable {K:PySem.W.Frag} {Tb:List (Addr×Str)} {al:Al} {M:Mem} {H:Hp}
def signsD (z:Str):List D:=z.cps.toList.map fun c=>D.str ⟨#[c]⟩
end
section
variable {X:Cx} {Tb:List (Addr×Str)} {EV:XK} {tg:Expr}
theorem Rps.one {K:PySem.W.Frag} {al:Al} {M:Mem} {H:Hp} {d:D} {vs:List V} (r:Rps K al M H [d] vs):∃ v,vs=[v]/\Rp K al M H d v:=by
 obtain ⟨v,w,rfl,r,e⟩:=r
 cases (show _=[] from e)
 exact ⟨v,rfl,r⟩
end
def noE:XD:=fun _ _=>False
def pick {α:Type} (is:List Nat) (xs:List α):List α:=is.filterMap (xs[·]?)
def CsD (K:PySem.W.Frag) (ds:List D) (vs:List V):Prop:=∀ al M H,Rps K al M H ds vs
theorem CsD.nil {K:PySem.W.Frag}:CsD K [] []:=fun _ _ _=>rfl
end DL
namespace Mt
def bs (n:Nat):Nat:=if n=0 then 0 else n.log2+1
theorem bs_lt (n:Nat):n < 2 ^ bs n:=by
 unfold bs
 split
 ·subst_vars;decide
 ·exact Nat.lt_log2_self
theorem bs_le {n k:Nat} (h:n < 2 ^ k):bs n<=k:=by
 unfold bs
 split
 ·omega
 ·rename_i e
  have:=(Nat.log2_lt e).mpr h
  omega
theorem bs_mono {a b:Nat} (h:a<=b):bs a<=bs b:=bs_le (Nat.lt_of_le_of_lt h (bs_lt b))
theorem bs_mul (a b:Nat):bs (a * b)<=bs a+bs b:=bs_le (by rw [Nat.pow_add];exact Nat.mul_lt_mul'' (bs_lt a) (bs_lt b))
theorem bs_add (a b:Nat):bs (a+b)<=max (bs a) (bs b)+1:=by
 refine bs_le ?_
 have h1:=bs_lt a
 have h2:=bs_lt b
 have h3:2 ^ bs a<=2 ^ max (bs a) (bs b):=Nat.pow_le_pow_right (by decide) (Nat.le_max_left ..)
 have h4:2 ^ bs b<=2 ^ max (bs a) (bs b):=Nat.pow_le_pow_right (by decide) (Nat.le_max_right ..)
 rw [Nat.pow_succ]
 omega
def bz (i:Int):Nat:=bs i.natAbs
theorem bi_mul (a b:Int):bz (a * b)<=bz a+bz b:=by unfold bz;rw [Int.natAbs_mul];exact bs_mul ..
theorem bi_add (a b:Int):bz (a+b)<=max (bz a) (bz b)+1:=by
 unfold bz
 exact Nat.le_trans (bs_mono (Int.natAbs_add_le a b)) (bs_add ..)
theorem bi_neg (a:Int):bz (-a)=bz a:=by unfold bz;rw [Int.natAbs_neg]
theorem bi_sub (a b:Int):bz (a - b)<=max (bz a) (bz b)+1:=by
 rw [Int.sub_eq_add_neg]
 have:=bi_add a (-b)
 rwa [bi_neg] at this
def qs (q:Rat):Nat:=max (bz q.num) (bs q.den)
theorem qs_num (q:Rat):bz q.num<=qs q:=Nat.le_max_left ..
theorem qs_den (q:Rat):bs q.den<=qs q:=Nat.le_max_right ..
theorem qs_den' (q:Rat):bz (q.den:Int)<=qs q:=qs_den q
theorem qs_divInt (a b:Int) (hb:b≠0):qs (Rat.divInt a b)<=max (bz a) (bz b):=by
 unfold qs
 refine Nat.max_le.mpr ⟨?_,?_⟩
 ·refine Nat.le_trans (bs_mono ?_) (Nat.le_max_left ..)
  rw [Rat.num_divInt]
  have h1:(b.sign * a).natAbs=a.natAbs:=by
   rw [Int.natAbs_mul]
   rcases Int.lt_or_gt_of_ne hb with h | h
   ·rw [Int.sign_eq_neg_one_of_neg h];simp
   ·rw [Int.sign_eq_one_of_pos h];simp
  rw [<- h1]
  have hg:(b.gcd a:Int) ∣ (b.sign * a):=Int.dvd_mul_of_dvd_right (Int.gcd_dvd_right ..)
  rw [Int.natAbs_ediv_of_dvd hg]
  exact Nat.div_le_self ..
 ·refine Nat.le_trans (bs_mono ?_) (Nat.le_max_right ..)
  rw [Rat.den_divInt,if_neg hb]
  exact Nat.div_le_self ..
theorem divInt_add (a b:Rat):Rat.divInt (a.num * b.den+b.num * a.den) (a.den * b.den)=a+b:=by
 rw [Rat.add_def']
 rw [show ((a.den:Int) * (b.den:Int))=((a.den * b.den:Nat):Int) from rfl,Rat.divInt_ofNat]
theorem divInt_sub (a b:Rat):Rat.divInt (a.num * b.den - b.num * a.den) (a.den * b.den)=a - b:=by
 rw [Rat.sub_def']
 rw [show ((a.den:Int) * (b.den:Int))=((a.den * b.den:Nat):Int) from rfl,Rat.divInt_ofNat]
theorem divInt_mul (a b:Rat):Rat.divInt (a.num * b.num) (a.den * b.den)=a * b:=by
 rw [Rat.mul_def']
 rw [show ((a.den:Int) * (b.den:Int))=((a.den * b.den:Nat):Int) from rfl,Rat.divInt_ofNat]
theorem divInt_div (a b:Rat) (h:b≠0):Rat.divInt (a.num * b.den) (a.den * b.num)=a / b:=by
 rw [Rat.div_def,Rat.inv_def]
 conv=>rhs;rw [<- Rat.num_divInt_den a]
 rw [Rat.divInt_mul_divInt]
theorem den_ne (a b:Rat):((a.den:Int) * (b.den:Int))≠0:=by
 have:=a.den_pos
 have:=b.den_pos
 exact Int.mul_ne_zero (by omega) (by omega)
theorem qs_add (a b:Rat):qs (a+b)<=qs a+qs b+1:=by
 rw [<- divInt_add]
 refine Nat.le_trans (qs_divInt _ _ (den_ne a b)) (Nat.max_le.mpr ⟨?_,?_⟩)
 ·have h1:=bi_add (a.num * b.den) (b.num * a.den)
  have h2:=bi_mul a.num b.den
  have h3:=bi_mul b.num a.den
  have:=qs_num a;have:=qs_num b;have:=qs_den' a;have:=qs_den' b
  omega
 ·have h2:=bi_mul a.den b.den
  have:=qs_den' a;have:=qs_den' b
  omega
theorem qs_sub (a b:Rat):qs (a - b)<=qs a+qs b+1:=by
 rw [<- divInt_sub]
 refine Nat.le_trans (qs_divInt _ _ (den_ne a b)) (Nat.max_le.mpr ⟨?_,?_⟩)
 ·have h1:=bi_sub (a.num * b.den) (b.num * a.den)
  have h2:=bi_mul a.num b.den
  have h3:=bi_mul b.num a.den
  have:=qs_num a;have:=qs_num b;have:=qs_den' a;have:=qs_den' b
  omega
 ·have h2:=bi_mul a.den b.den
  have:=qs_den' a;have:=qs_den' b
  omega
theorem qs_mul (a b:Rat):qs (a * b)<=qs a+qs b:=by
 rw [<- divInt_mul]
 refine Nat.le_trans (qs_divInt _ _ (den_ne a b)) (Nat.max_le.mpr ⟨?_,?_⟩)
 ·have h2:=bi_mul a.num b.num
  have:=qs_num a;have:=qs_num b
  omega
 ·have h2:=bi_mul a.den b.den
  have:=qs_den' a;have:=qs_den' b
  omega
theorem num_ne {b:Rat} (h:b≠0):b.num≠0:=fun z=>h (Rat.num_eq_zero.mp z)
theorem qs_div (a b:Rat):qs (a / b)<=qs a+qs b:=by
 by_cases h:b=0
 ·subst h
  have:a / 0=0:=by rw [Rat.div_def,Rat.inv_zero,Rat.mul_zero]
  rw [this]
  have:qs (0:Rat)=1:=by decide
  have h1:1<=bs a.den:=by
   unfold bs
   have:=a.den_pos
   split <;> omega
  have:=qs_den a
  omega
 ·rw [<- divInt_div a b h]
  have hne:((a.den:Int) * b.num)≠0:=Int.mul_ne_zero (by have:=a.den_pos;omega) (num_ne h)
  refine Nat.le_trans (qs_divInt _ _ hne) (Nat.max_le.mpr ⟨?_,?_⟩)
  ·have h2:=bi_mul a.num b.den
   have:=qs_num a;have:=qs_den' b
   omega
  ·have h2:=bi_mul a.den b.num
   have:=qs_den' a;have:=qs_num b
   omega
theorem qs_int (i:Int):qs (i:Rat)<=max (bz i) 1:=by
 unfold qs
 rw [Rat.num_intCast,Rat.den_intCast]
 exact Nat.le_refl _
end Mt
namespace DL
open PySem PySem.Spec PyProof.Rows L2 Mt
structure Rng where
 ns:List Int
 p:Int
 c:Int
 s:Int
 k:Int
def Rng.items (r:Rng):List D:=[.lst (r.ns.map D.int),.int r.p,.int r.c,.int r.s,.int r.k]
def Rng.mo (r:Rng):MO:=.lst r.items
structure Rng.Ok (r:Rng):Prop where
 p0:0<=r.p
 c0:0<=r.c
 s0:0<=r.s
 s1:r.s < 2147483647
 k0:0<=r.k
theorem hbs_ints (n:Nat):∀ ns:List Int,D.hbs n (ns.map D.int)=true
 | []=>rfl
 | _ :: r=>by show (true && D.hbs n (r.map D.int))=true;rw [hbs_ints n r];rfl
theorem Rng.hb (r:Rng) (n:Nat):r.mo.hb n=true:=by
 show (D.hbs n (r.ns.map D.int) && (true && (true && (true && (true && true)))))=true
 rw [hbs_ints];rfl
def RgAt (M:Mem) (i:Nat):Prop:=∃ r:Rng,M[i]?=some (some r.mo)/\r.Ok
def RgTo (M:Mem) (i:Nat) (M':Mem):Prop:=∃ r:Rng,r.Ok/\M'=M.set i (some r.mo)
theorem RgTo.at {M M':Mem} {i:Nat} (a:RgAt M i) (t:RgTo M i M'):RgAt M' i:=by
 obtain ⟨r,ok,rfl⟩:=t
 obtain ⟨q,e,_⟩:=a
 exact ⟨r,by rw [List.getElem?_set_self (List.getElem?_eq_some_iff.mp e).1],ok⟩
theorem RgTo.trans {M M1 M2:Mem} {i:Nat} (a:RgTo M i M1) (b:RgTo M1 i M2):RgTo M i M2:=by
 obtain ⟨r,ok,rfl⟩:=a
 obtain ⟨q,ok2,rfl⟩:=b
 exact ⟨q,ok2,by rw [List.set_set]⟩
theorem RgTo.len {M M':Mem} {i:Nat} (t:RgTo M i M'):M'.length=M.length:=by
 obtain ⟨r,_,rfl⟩:=t
 simp
def fr (a b:Int):D:=.tup [.int a,.int b]
def qD (q:Rat):D:=fr q.num q.den
mutual
theorem D.hb_mono {n m:Nat} (h:n<=m):∀ {d:D},D.hb n d=true->D.hb m d=true
 | .mt i,e=>decide_eq_true (Nat.lt_of_lt_of_le (of_decide_eq_true e) h)
 | .tup xs,e=>D.hbs_mono h (ds:=xs) e
 | .lst xs,e=>D.hbs_mono h (ds:=xs) e
 | .rol xs,e=>D.hbs_mono h (ds:=xs) e
 | .obj _ _ xs,e=>D.hbs_mono h (ds:=xs) e
 | .exc _ _ xs,e=>D.hbs_mono h (ds:=xs) e
 | .dk _ xs,e=>D.hbs_mono h (ds:=xs) e
 | .dt _ xs,e=>D.hbs_mono h (ds:=xs) e
 | .non,_=>rfl
 | .bl _,_=>rfl
 | .int _,_=>rfl
 | .str _,_=>rfl
 | .ty _,_=>rfl
 | .lam _ _,_=>rfl
 | .ref _,_=>rfl
theorem D.hbs_mono {n m:Nat} (h:n<=m):∀ {ds:List D},D.hbs n ds=true->D.hbs m ds=true
 | [],_=>rfl
 | d :: ds,e=>by
  have e:(D.hb n d && D.hbs n ds)=true:=e
  rw [Bool.and_eq_true] at e
  show (D.hb m d && D.hbs m ds)=true
  rw [D.hb_mono h e.1,D.hbs_mono h e.2];rfl
end
theorem MO.hb_mono {n m:Nat} (h:n<=m):∀ {o:MO},o.hb n=true->o.hb m=true
 | .lst xs,e=>D.hbs_mono h (ds:=xs) e
 | .dK kvs,e=>D.hbs_mono h (ds:=kvs.map Prod.snd) e
 | .dT _ xs,e=>D.hbs_mono h (ds:=xs) e
 | .ins _ fs,e=>D.hbs_mono h (ds:=fs.map Prod.snd) e
theorem okM.app {M:Mem} {o:MO} (ok:okM M.length M) (h:o.hb (M.length+1)=true):okM (M.length+1) (M ++ [some o]):=fun i mo hi e=>by
 by_cases q:i < M.length
 ·rw [List.getElem?_append_left q] at e
  exact MO.hb_mono (Nat.le_succ _) (ok i mo q e)
 ·have:i=M.length:=by omega
  subst this
  rw [List.getElem?_concat_length] at e
  cases e
  exact h
theorem Cut.app {Q:VD} {d:D} {M L:Mem} (h:d.hb M.length=true) (ok:okM M.length M) (q:Q d M):Cut M.length Q d (M ++ L) :=
 ⟨M.length,Nat.le_refl _,h,fun i mo hi e=>ok i mo hi (by rw [List.getElem?_append_left hi] at e;exact e),by rw [List.take_left'];exact q;rfl⟩
theorem RgTo.last {M M':Mem} {o:Option MO} (t:RgTo (M ++ [o]) M.length M'):∃ r:Rng,r.Ok/\M'=M ++ [some r.mo]:=by
 obtain ⟨r,ok,rfl⟩:=t
 exact ⟨r,ok,by rw [List.set_append_right _ _ (Nat.le_refl _)];simp⟩
theorem RgAt.last {M:Mem} {r:Rng} (ok:r.Ok):RgAt (M ++ [some r.mo]) M.length:=⟨r,List.getElem?_concat_length ..,ok⟩
abbrev Rg1 (M M':Mem):Prop:=∃ r:Rng,r.Ok/\M'=M ++ [some r.mo]
end DL
namespace DL
open PySem PySem.Spec PyProof.Rows L2
def oexB (K:PySem.W.Frag) (C:Addr):Bool:=(match K.lookup C with
 | some ⟨.type "type",_,.cls cd,sl⟩=>(match cd.mro,sl.toList with
  | .ref C' :: bm,[_,_,_,_,some (.builtin n),_]=>C' == C && (n == "ValueError.__new__" && (!cd.hasDel && (cd.hasDict && PySem.HandSPX.refsVE bm)))
  | _,_=>false)
 | _=>false) && (decide (PySem.W.findIn K (.ref C) "__setattr__"=some (some (.builtin "object.__setattr__"))) && (decide (PySem.W.subIn K (.ref C) (.type "BaseException")=some true) && (decide (PySem.W.typeIn K (.ref C)=some (.type "type")) && PySem.W.keepIn K (.ref C))))
inductive FSrc where
 | k (z:Str) | p (i:Nat)
def FSrc.v (ws:List V):FSrc->V
 | .k z=>.str z
 | .p i=>ws.getD i .non
abbrev FL:=List (Str×FSrc)
def FL.v (fl:FL) (ws:List V):List (Str×V):=fl.map fun q=>(q.1,q.2.v ws)
section
variable {K:PySem.W.Frag} {h:Heap} {mg:Str->Option Value}
def xfaB (K:PySem.W.Frag) (x:Str) (fs:List Str):Bool:=decide (PySem.W.exmAny K (.ref (He.ga K x)) [.ref (He.ga K "RoundError"),.ref (He.ga K "Missing"),.ref (He.ga K "NothingLeft")]=some true) && (xfB K (He.ga K x) && (("code":Str) :: fs).all fun f=>decide (PySem.W.findIn K (.ref (He.ga K x)) f=some none))
def xcB (K:PySem.W.Frag) (x:Str) (fs:List Str):Bool:=oexB K (He.ga K x) && (decide (PySem.W.typeIn K (.ref (He.ma K (He.ga K x) "__init__"))=some (.type "function")) && (decide (PySem.W.findIn K (.ref (He.ga K x)) "__init__"=some (some (.ref (He.ma K (He.ga K x) "__init__")))) && fs.all fun f=>decide (PySem.W.findIn K (.ref (He.ga K x)) f=some none)))
end
end DL
namespace DL
open PySem PySem.Spec PyProof.Rows L2 Mt
mutual
def pz:D->Bool
 | .non=>true
 | .bl _=>true
 | .int _=>true
 | .str x=>PyData.strOk x
 | .tup xs=>pzs xs
 | .lst xs=>pzs xs
 | .rol xs=>pzs xs
 | _=>false
def pzs:List D->Bool
 | []=>true
 | x :: xs=>pz x && pzs xs
end
end DL
namespace DL
open PySem PySem.Spec PyProof.Rows L2
def insOf (M:Mem):D->Option (Addr×List (Str×D))
 | .obj C ns xs=>some (C,ns.zip xs)
 | .mt i=>match M[i]? with
  | some (some (.ins C fs))=>some (C,fs)
  | _=>none
 | _=>none
section
variable {X:Cx} {k:Nat} {f C:Addr} {fd:FuncData} {ps:List Str} {sp:Sp} {pins:List (Addr×Obj)} {σ:L2.St} {H:Hp} {s:Shared} {Q:VK} {us:List Value} {vs:List V} {E':Value->Shared->Prop}
theorem cxF {P:Program} {w:World} {l:List Env} {H:Hp} {s:Shared} {e:Value} {s':Shared} (z:L2.CX P w l H s (fun _ _ _=>False) e s'):False:=by
 obtain ⟨_,_,_,_,_,_,_,_,_,_,_,_,z⟩:=z
 exact z
theorem run1 (F:FnOk X.prog X.w X.K X.mg X.base (L2.CX X.prog X.w) k f fd ps sp) (hr:Room (k+1) X.A) (hb:Binds X.K fd ps []) (I:Inv X pins σ H s) (r:Vals vs us) (h:sp vs H Q (fun _ _ _=>False)) :
  wpAny (model X.prog X.w) X.A.in1 (call (.ref f) us) (EP X pins σ Q) E' s:=by
 have hl:(us ++ []).length=ps.length:=by rw [List.append_nil,<- r.length];exact F.len _ _ _ _ h
 refine wpAny_call (codeAny_mono (F.run X.A.in1 X.stack s H ⟨us,[]⟩ us vs Q _ hr.in1 I.env0.in1 (by have:=hb s us I.kIn hl;rw [List.append_nil] at this;exact this) r h) fun r s' hq=>?_)
 cases r with
 | error e=>exact (cxF hq).elim
 | ok fl =>
  cases fl with
  | ret u=>exact I.after hq
  | next=>exact False.elim hq
  | brk=>exact False.elim hq
  | cont=>exact False.elim hq
end
end DL
namespace He
open PySem PySem.Spec PyProof.Rows L2
structure DefE where
 at_:PySem.W.Frag->Addr
 name:Str
 qual:Str
 params:Arguments
 body:List Stmt
 scope:Scope
 dfl:List Dv:=[]
 kwd:List (Str×Dv):=[]
def fnE (K:PySem.W.Frag) (a:Addr):FnW:=match K.lookup a with
 | some ⟨_,_,.func fd,_⟩=>some (fd.name,fd.qualname,fd.params,fd.body,fd.scope,fd.globals,fd.closure,fd.builtins)
 | _=>none
def DefE.val (d:DefE):FnW:=some (d.name,d.qual,d.params,.stmts d.body,d.scope,mainGlobals,[],builtinsNs)
def DefE.dvs (K:PySem.W.Frag) (d:DefE):List V:=d.dfl.map (Dv.v K)
def DefE.kws (K:PySem.W.Frag) (d:DefE):List (Str×V):=d.kwd.map fun q=>(q.1,q.2.v K)
def DefE.ok (K:PySem.W.Frag) (d:DefE):Bool:=PySem.W.keepIn K (.ref (d.at_ K)) && (match K.lookup (d.at_ K) with
 | some ⟨_,_,.func fd,_⟩=>PySem.W.codeIn K fd.code d.qual && (dflB K fd.defaults (d.dvs K) && kwdB K fd.kwdefaults (d.kws K))
 | _=>false)
abbrev AlY:Type:=Bool×List FnW
def obsYK (fa:List Fa) (fn:List DefE) (ex:PySem.W.Frag->Bool) (K:PySem.W.Frag):AlY:=((fa.all fun f=>f.ok K) && (fn.all (fun d=>d.ok K) && ex K),fn.map fun d=>fnE K (d.at_ K))
def valY (fn:List DefE):AlY:=(true,fn.map DefE.val)
structure SaysY (fa:List Fa) (fn:List DefE) (tf:List Defn) (ex:PySem.W.Frag->Bool) (h:Heap) (K:PySem.W.Frag):Prop where
 t:obsYK fa fn ex K=valY fn
 hd:∀ p∈tf,PySem.W.codeHdIn K (cT K p).1 (cT K p).2=true
 out:∀ p∈tf,K.lookup (cT K p).2=none
 empty:∀ p∈tf,h.get? (cT K p).2=some { cls:=.none,data:=.fields #[] }
abbrev AlYX:Type:=AlY×Bool
end He
namespace DL
open PySem PySem.Spec PyProof.Rows L2 Mt
theorem Rg1.ok {M M':Mem} (g:Rg1 M M') (ok:okM M.length M):okM M'.length M':=by
 obtain ⟨r,_,rfl⟩:=g
 have:=ok.app (o:=r.mo) (r.hb _)
 simpa using this
theorem Rg1.at {M M':Mem} (g:Rg1 M M'):RgAt M' M.length:=by
 obtain ⟨r,ok,rfl⟩:=g
 exact .last ok
end DL
namespace DL
open PySem PySem.Spec PyProof.Rows L2
def RgL (M L M':Mem):Prop:=∃ r:Rng,r.Ok/\M'=M ++ (some r.mo :: L)
theorem RgL.at {M L M':Mem} (g:RgL M L M'):RgAt M' M.length:=by
 obtain ⟨r,ok,rfl⟩:=g
 exact ⟨r,by simp,ok⟩
end DL
namespace DL
abbrev lkF (f:PySem.Str) (fs:List (PySem.Str×D)):Option D:=fs.lookup f
end DL
namespace DL
open PySem PySem.Spec PyProof.Rows L2 Mt
def bigQ (q:Rat):Bool:=decide (10 ^ 60<=(q.num.natAbs:Int)) || decide (10 ^ 60<=(q.den:Int))
theorem RgL.app {M L M':Mem} {o:Option MO} (g:RgL M L M'):RgL M (L ++ [o]) (M' ++ [o]):=by
 obtain ⟨r,ok,rfl⟩:=g
 exact ⟨r,ok,by simp⟩
theorem RgL.len {M L M':Mem} (g:RgL M L M'):M'.length=M.length+1+L.length:=by
 obtain ⟨r,ok,rfl⟩:=g
 simp;omega
theorem RgL.last {M L M':Mem} {o:Option MO} (g:RgL M (L ++ [o]) M'):M'[M.length+1+L.length]?=some o:=by
 obtain ⟨r,ok,rfl⟩:=g
 rw [List.getElem?_append_right (by omega)]
 have:M.length+1+L.length - M.length=L.length+1:=by omega
 rw [this,List.getElem?_cons_succ]
 simp
theorem RgL.set {M L M':Mem} {o o':Option MO} (g:RgL M (L ++ [o]) M'):RgL M (L ++ [o']) (M'.set (M.length+1+L.length) o'):=by
 obtain ⟨r,ok,rfl⟩:=g
 refine ⟨r,ok,?_⟩
 rw [List.set_append_right _ _ (by omega)]
 have:M.length+1+L.length - M.length=L.length+1:=by omega
 rw [this,List.set_cons_succ]
 simp
end DL
namespace ZN
open PySem PySem.Spec PyProof.Rows L2
open PySem.Sem (wp)
structure Sb where
 tp:Bool
 it:Addr
 l:Addr
def Sb.At (h:Heap) (k:Nat):Sb->Prop
 | ⟨true,it,l⟩=>h.IsTupleIter it l k
 | ⟨false,it,l⟩=>h.IsListIter it l k
theorem Sb.At.obj {h:Heap} {k:Nat} {b:Sb} (x:b.At h k):∃ o,h.get? b.it=some o/\∀ v,o.data≠.cell v:=by
 obtain ⟨tp,it,l⟩:=b
 cases tp
 ·obtain ⟨o,e,_,d⟩:=x
  exact ⟨o,e,fun v q=>by rw [d] at q;cases q⟩
 ·obtain ⟨o,e,_,d⟩:=x
  exact ⟨o,e,fun v q=>by rw [d] at q;cases q⟩
section
variable {prog:Program} {w:World} {A:Around} {E:Value->Shared->Prop} {s:Shared}
structure Apart (z TI TO:Addr) (bs:List (Sb×Array Value)):Prop where
 TIz:TI≠z
 TOz:TO≠z
 TITO:TI≠TO
 nd:(bs.map (·.1.it)).Nodup
 itz:∀ p∈bs,p.1.it≠z
 itTI:∀ p∈bs,p.1.it≠TI
 itTO:∀ p∈bs,p.1.it≠TO
 lz:∀ p∈bs,p.1.l≠z
 lTO:∀ p∈bs,p.1.l≠TO
 lit:∀ p∈bs,∀ q∈bs,p.1.l≠q.1.it
theorem Apart.head {z TI TO:Addr} {p:Sb×Array Value} {bs:List (Sb×Array Value)} (D:Apart z TI TO (p :: bs)):∀ q∈bs,q.1.it≠p.1.it:=fun q h e =>
 (List.nodup_cons.mp D.nd).1 (List.mem_map.mpr ⟨q,h,e⟩)
inductive Hds (k:Nat):List (Sb×Array Value)->List Value->Prop
 | nil:Hds k [] []
 | cons {p:Sb×Array Value} {u:Value} {bs:List (Sb×Array Value)} {us:List Value}:p.2[k]?=some u->Hds k bs us->Hds k (p :: bs) (u :: us)
theorem Hds.len {k:Nat}:∀ {bs:List (Sb×Array Value)} {us:List Value},Hds k bs us->us.length=bs.length
 | _,_,.nil=>rfl
 | _,_,.cons _ h=>by simp [h.len]
end
end ZN
namespace ZN
open PySem PySem.Spec PyProof.Rows L2
def SqX (K:PySem.W.Frag) (H:Hp) (xs:List V):Bool×Addr->Prop
 | (true,a)=>SqT K H a xs
 | (false,a)=>SqL K H a xs
inductive Sqs (K:PySem.W.Frag) (H:Hp):List (Bool×Addr)->List (List V)->Prop
 | nil:Sqs K H [] []
 | cons {t:Bool×Addr} {r:List V} {ts:List (Bool×Addr)} {rs:List (List V)}:SqX K H r t->Sqs K H ts rs->Sqs K H (t :: ts) (r :: rs)
inductive Col (i:Nat):List (List V)->List V->Prop
 | nil:Col i [] []
 | cons {r:List V} {u:V} {rs:List (List V)} {us:List V}:r[i]?=some u->Col i rs us->Col i (r :: rs) (u :: us)
section
variable {X:Cx} {pins:List (Addr×Obj)} {σ:L2.St} {H:Hp} {s:Shared}
def key (b:Sb):Bool×Addr:=(b.tp,b.l)
end
theorem Col.len {i:Nat}:∀ {rows:List (List V)} {us:List V},Col i rows us->us.length=rows.length
 | _,_,.nil=>rfl
 | _,_,.cons _ h=>by simp [h.len]
theorem Sqs.len {K:PySem.W.Frag} {H:Hp}:∀ {ts:List (Bool×Addr)} {rows:List (List V)},Sqs K H ts rows->rows.length=ts.length
 | _,_,.nil=>rfl
 | _,_,.cons _ h=>by simp [h.len]
def BaseK (h:Heap) (xs:Array Value):Bool×Addr->Prop
 | (true,l)=>h.IsTuple l xs
 | (false,l)=>h.IsList l xs
theorem BaseK.lt {h:Heap} {xs:Array Value} {t:Bool×Addr} (x:BaseK h xs t):t.2 < h.objs.size:=by
 obtain ⟨tp,l⟩:=t
 cases tp
 ·obtain ⟨o,e,_⟩:=x;exact Heap.lt_size e
 ·obtain ⟨o,e,_⟩:=x;exact Heap.lt_size e
end ZN
namespace DL
open PySem PySem.Spec PyProof.Rows L2 ZN
def asS:D->Option (List D)
 | .tup xs=>some xs
 | .lst xs=>some xs
 | .rol xs=>some xs
 | _=>none
end DL
namespace DL
structure Pt where
 a:Rat
 l:Rat
 v:Rat
 r:Rat
deriving DecidableEq
def Pt.mv (q:Pt) (t p r:Rat):Pt:=⟨q.a+t * p,q.l+t * r,q.v+t * r,q.r+t * r⟩
def slB (q q':Pt):Rat:=(q'.l - q.r) / (q'.a - q.a)
def nextPts (p r:Rat):List Pt->List Pt
 | []=>[]
 | q :: qs=>qs ++ [q.mv 1 p r]
structure okPt (p:Rat) (q:Pt):Prop where
 lo:¬ q.a < 0
 hi:q.a < p
 lv:¬ q.v < q.l
 vr:¬ q.r < q.v
structure okPr (x:Pt×Pt):Prop where
 lt:x.1.a < x.2.a
 le:¬ x.2.l < x.1.r
structure okPts (p r:Rat) (pts:List Pt):Prop where
 p0:0 < p
 r0:0 < r
 pt:∀ q∈pts,okPt p q
 pr:∀ x∈pts.zip (nextPts p r pts),okPr x
def isTrue3 (x:Pt×Pt×Pt):Bool:=(!decide (x.2.1.l=x.2.1.r)) || !decide (slB x.1 x.2.1=slB x.2.1 x.2.2)
def rowAt (p r:Rat) (row:List Pt) (k:Int):Pt:=((row[(k % row.length).toNat]?).getD ⟨0,0,0,0⟩).mv (k / row.length:Int) p r
structure Trk (S:Int->Pt):Prop where
 up:∀ k,(S k).a < (S (k+1)).a
 lv:∀ k,(S k).l<=(S k).v
 vr:∀ k,(S k).v<=(S k).r
 ri:∀ k,(S k).r<=(S (k+1)).l
 hi:∀ x:Rat,∃ k,x < (S k).a
 lo:∀ x:Rat,∃ k,(S k).a < x
theorem Trk.upN {S:Int->Pt} (h:Trk S) (k:Int):∀ n:Nat,(S k).a < (S (k+n+1)).a
 | 0=>by simpa using h.up k
 | n+1=>by
  have h1:=h.upN k n
  have h2:=h.up (k+n+1)
  have e:k+((n+1:Nat):Int)+1=k+n+1+1:=by omega
  rw [e]
  exact Std.lt_trans h1 h2
theorem Trk.lt {S:Int->Pt} (h:Trk S) {i j:Int} (hij:i < j):(S i).a < (S j).a:=by
 have:=h.upN i (j - i - 1).toNat
 rw [show i+((j - i - 1).toNat:Int)+1=j from by omega] at this
 exact this
theorem Trk.inj {S:Int->Pt} (h:Trk S) {i j:Int} (e:(S i).a=(S j).a):i=j:=by
 rcases Int.lt_trichotomy i j with g | g | g
 ·have:=h.lt g;grind
 ·exact g
 ·have:=h.lt g;grind
theorem slB_mul {q q':Pt} (h:q.a < q'.a):slB q q' * (q'.a - q.a)=q'.l - q.r:=by
 unfold slB
 rw [Rat.div_mul_cancel]
 intro z
 grind
theorem Pt.mv_mv (q:Pt) (s t p r:Rat):(q.mv s p r).mv t p r=q.mv (s+t) p r:=by
 unfold Pt.mv
 simp only [Pt.mk.injEq]
 refine ⟨?_,?_,?_,?_⟩ <;> grind
theorem Pt.mv_0 (q:Pt) (p r:Rat):q.mv 0 p r=q:=by
 unfold Pt.mv
 cases q
 simp only [Pt.mk.injEq]
 refine ⟨?_,?_,?_,?_⟩ <;> grind
section
variable {p r:Rat} {row:List Pt}
theorem rowAt_nat (j:Nat) (hj:j < row.length):rowAt p r row j=row[j]:=by
 unfold rowAt
 have h1:((j:Int) % (row.length:Int))=j:=Int.emod_eq_of_lt (by omega) (by omega)
 have h2:((j:Int) / (row.length:Int))=0:=Int.ediv_eq_zero_of_lt (by omega) (by omega)
 rw [h1,h2,Int.toNat_natCast,List.getElem?_eq_getElem hj]
 exact Pt.mv_0 ..
theorem rowAt_add (hn:row≠[]) (k t:Int):rowAt p r row (k+t * row.length)=(rowAt p r row k).mv t p r:=by
 have hl:(row.length:Int)≠0:=by have:=List.length_pos_iff.mpr hn;omega
 unfold rowAt
 rw [Int.add_mul_emod_self_right,Int.add_mul_ediv_right _ _ hl,Pt.mv_mv,Rat.intCast_add]
theorem rowAt_wrap (hn:row≠[]):rowAt p r row row.length=(row.head hn).mv 1 p r:=by
 have h:=rowAt_add (p:=p) (r:=r) hn 0 1
 have hl:=List.length_pos_iff.mpr hn
 rw [show (0:Int)+1 * row.length=row.length from by omega] at h
 rw [h,show ((0:Int))=((0:Nat):Int) from rfl,rowAt_nat 0 hl,List.head_eq_getElem]
 rfl
theorem rowAt_split (hn:row≠[]) (k:Int):∃ (j:Nat) (t:Int),j < row.length/\k=j+t * row.length:=by
 have hl:=List.length_pos_iff.mpr hn
 refine ⟨(k % row.length).toNat,k / row.length,?_,?_⟩
 ·have:=Int.emod_lt_of_pos k (show (0:Int) < row.length by omega)
  have:=Int.emod_nonneg k (show (row.length:Int)≠0 by omega)
  omega
 ·have:=Int.emod_nonneg k (show (row.length:Int)≠0 by omega)
  have:=Int.emod_add_mul_ediv k row.length
  rw [Int.mul_comm] at this
  omega
theorem nextPts_get (j:Nat) (hj:j < row.length):(nextPts p r row)[j]?=some (rowAt p r row (j+1)):=by
 cases row with
 | nil=>simp at hj
 | cons q qs =>
  unfold nextPts
  simp only [List.length_cons] at hj
  by_cases h:j < qs.length
  ·rw [List.getElem?_append_left h,show ((j:Int)+1)=((j+1:Nat):Int) from rfl,rowAt_nat (j+1) (by simp;omega),List.getElem?_eq_getElem h]
   rfl
  ·have:j=qs.length:=by omega
   subst this
   rw [List.getElem?_append_right (by omega),show ((qs.length:Int)+1)=((q :: qs).length:Int) from by simp,rowAt_wrap (by simp)]
   simp
end
end DL
namespace DL
def isT (S:Int->Pt) (k:Int):Bool:=isTrue3 (S (k - 1),S k,S (k+1))
theorem isT_no {S:Int->Pt} {k:Int} (h:isT S k=false):(S k).l=(S k).r/\slB (S (k - 1)) (S k)=slB (S k) (S (k+1)):=by
 unfold isT isTrue3 at h
 simpa using h
structure Sub (S S':Int->Pt) (f:Int->Int):Prop where
 eq:∀ j,S' j=S (f j)
 up:∀ j,f j < f (j+1)
 no:∀ j k,f j < k->k < f (j+1)->isT S k=false
theorem Trk.run {S:Int->Pt} (h:Trk S) {i j:Int} (hij:i < j) (no:∀ k,i < k->k < j->isT S k=false) (m:Int) (h1:i<=m) (h2:m < j) :
  slB (S m) (S (m+1))=slB (S i) (S (i+1))/\(S (m+1)).l=(S i).r+slB (S i) (S (i+1)) * ((S (m+1)).a - (S i).a)/\(S m).r=(S i).r+slB (S i) (S (i+1)) * ((S m).a - (S i).a):=by
 have:∀ n:Nat,i+n < j->slB (S (i+n)) (S (i+n+1))=slB (S i) (S (i+1))/\(S (i+n+1)).l=(S i).r+slB (S i) (S (i+1)) * ((S (i+n+1)).a - (S i).a)/\(S (i+n)).r=(S i).r+slB (S i) (S (i+1)) * ((S (i+n)).a - (S i).a):=by
  intro n
  induction n with
  | zero =>
   intro _
   have:=slB_mul (h.up i)
   simp only [Int.natCast_zero,Int.add_zero]
   refine ⟨trivial,?_,?_⟩ <;> grind
  | succ n ih =>
   intro hn
   obtain ⟨a1,a2,a3⟩:=ih (by omega)
   have hno:=isT_no (no (i+n+1) (by omega) (by omega))
   rw [show i+(n:Int)+1 - 1=i+n from by omega] at hno
   have hm:=slB_mul (h.up (i+n+1))
   rw [show i+((n+1:Nat):Int)=i+n+1 from by omega]
   obtain ⟨b1,b2⟩:=hno
   have c1:slB (S (i+n+1)) (S (i+n+1+1))=slB (S i) (S (i+1)):=by rw [<- b2];exact a1
   rw [c1] at hm
   refine ⟨c1,?_,?_⟩ <;> grind
 have:=this (m - i).toNat (by omega)
 rw [show i+((m - i).toNat:Int)=m from by omega] at this
 exact this
theorem Sub.sl {S S':Int->Pt} {f:Int->Int} (s:Sub S S' f) (h:Trk S) (j m:Int) (h1:f j<=m) (h2:m < f (j+1)):slB (S' j) (S' (j+1))=slB (S m) (S (m+1)):=by
 have r1:=h.run (s.up j) (s.no j) m h1 h2
 have r2:=h.run (s.up j) (s.no j) (f (j+1) - 1) (by omega) (by omega)
 rw [show f (j+1) - 1+1=f (j+1) from by omega] at r2
 rw [r1.1,s.eq,s.eq]
 have lt:=h.lt (s.up j)
 show (_ - _) / (_ - _)=_
 rw [r2.2.1]
 have:(S (f (j+1))).a - (S (f j)).a≠0:=by grind
 generalize slB (S (f j)) (S (f j+1))=z
 rw [show (S (f j)).r+z * ((S (f (j+1))).a - (S (f j)).a) - (S (f j)).r=z * ((S (f (j+1))).a - (S (f j)).a) from by grind,Rat.mul_div_cancel this]
structure Crv where
 p:Rat
 r:Rat
 row:List Pt
 s:Rat
 b:Rat
def Crv.at (c:Crv) (k:Int):Pt:=rowAt c.p c.r c.row k
structure Crv.Ok (c:Crv):Prop where
 p0:0 < c.p
 r0:0 < c.r
 s:c.s=c.r / c.p
 p1:c.row=[]->c.p=1
 ok:c.row≠[]->okPts c.p c.r c.row
end DL
namespace DL
def lrepA (p r:Rat) (row:List Pt) (n:Nat):Prop:=∀ j:Nat,j+n < row.length->rowAt p r row ((j:Int)+n)=(rowAt p r row j).mv 1 (p / ((row.length / n:Nat):Rat)) (r / ((row.length / n:Nat):Rat))
structure Crv.Nf (c:Crv):Prop where
 t:c.row≠[]->∀ k,isT c.at k=true
 n:∀ n,0 < n->n < c.row.length->c.row.length % n=0->¬ lrepA c.p c.r c.row n
end DL
namespace DL
open PySem PySem.Spec PyProof.Rows L2 Mt
def ptD (q:Pt):D:=.tup [qD q.a,qD q.l,qD q.v,qD q.r]
structure Pt.sz (q:Pt) (B:Nat):Prop where
 a:qs q.a<=B
 l:qs q.l<=B
 v:qs q.v<=B
 r:qs q.r<=B
theorem Pt.sz.mono {q:Pt} {B C:Nat} (h:q.sz B) (e:B<=C):q.sz C:=⟨Nat.le_trans h.a e,Nat.le_trans h.l e,Nat.le_trans h.v e,Nat.le_trans h.r e⟩
theorem Pt.sz.mv {q:Pt} {B C n:Nat} {t:Int} {p r:Rat} (h:q.sz B) (ht:bz t<=n) (hp:qs p<=B) (hr:qs r<=B) (e:2 * B+n+3<=C):(q.mv t p r).sz C:=by
 have h1:=qs_mul t p
 have h2:=qs_mul t r
 have h3:=qs_int t
 have h4:=qs_add q.a (t * p)
 have h5:=qs_add q.l (t * r)
 have h6:=qs_add q.v (t * r)
 have h7:=qs_add q.r (t * r)
 have:=h.a
 have:=h.l
 have:=h.v
 have:=h.r
 constructor <;> (show qs (_+_)<=C) <;> omega
structure Crv.Sz (c:Crv) (B:Nat):Prop where
 p:c.row≠[]->qs c.p<=B
 r:c.row≠[]->qs c.r<=B
 s:qs c.s<=2 * B
 b:qs c.b<=6 * B
 pt:∀ q∈c.row,q.sz B
 len:c.row.length < 10000
theorem bz_ediv (a b:Int):bz (a / b)<=bz a:=bs_mono (Int.natAbs_ediv_le_natAbs a b)
theorem Crv.Sz.at {c:Crv} {B n:Nat} (h:c.Sz B) (hn:c.row≠[]) {k:Int} (hk:bz k<=n):(c.at k).sz (2 * B+n+3):=by
 have hl:=List.length_pos_iff.mpr hn
 unfold Crv.at rowAt
 have h1:(k % (c.row.length:Int)).toNat < c.row.length:=by
  have:=Int.emod_lt_of_pos k (show (0:Int) < c.row.length by omega)
  have:=Int.emod_nonneg k (show (c.row.length:Int)≠0 by omega)
  omega
 rw [List.getElem?_eq_getElem h1]
 exact Pt.sz.mv (h.pt _ (List.getElem_mem h1)) (Nat.le_trans (bz_ediv ..) hk) (h.p hn) (h.r hn) (by omega)
theorem Crv.sl_per {c:Crv} (hn:c.row≠[]) (k t:Int):slB (c.at (k+t * c.row.length)) (c.at (k+t * c.row.length+1))=slB (c.at k) (c.at (k+1)):=by
 unfold Crv.at
 rw [show k+t * (c.row.length:Int)+1=k+1+t * c.row.length from by omega,rowAt_add hn,rowAt_add hn]
 unfold slB Pt.mv
 simp only []
 congr 1 <;> grind
theorem qs_slB {x y:Pt} {A B:Nat} (hx:x.sz A) (hy:y.sz B):qs (slB x y)<=2 * A+2 * B+2:=by
 unfold slB
 have h1:=qs_div (y.l - x.r) (y.a - x.a)
 have h2:=qs_sub y.l x.r
 have h3:=qs_sub y.a x.a
 have:=hx.r;have:=hx.a;have:=hy.l;have:=hy.a
 omega
theorem Crv.Sz.sl {c:Crv} {B:Nat} (h:c.Sz B) (hn:c.row≠[]) (k:Int):qs (slB (c.at k) (c.at (k+1)))<=8 * B+80:=by
 obtain ⟨j,t,hj,rfl⟩:=rowAt_split hn k
 rw [Crv.sl_per hn]
 have hb:∀ i:Nat,i<=c.row.length->bz (i:Int)<=14:=fun i hi=>bs_le (by have:=h.len;show i < 2 ^ 14;omega)
 have h1:=h.at hn (hb j (by omega))
 have h2:=h.at hn (k:=(j:Int)+1) (hb (j+1) (by omega))
 have:=qs_slB h1 h2
 omega
structure CrvX (K:PySem.W.Frag) (M:Mem) (x:D) (c:Crv) (fs:List (Str×D)):Prop where
 ins:insOf M x=some (He.ga K "Curve",fs)
 p:lkF "period" fs=some (qD c.p)
 r:lkF "rise" fs=some (qD c.r)
 row:lkF "row" fs=some (.tup (c.row.map ptD))
 s:lkF "slope" fs=some (qD c.s)
 b:lkF "base" fs=some (qD c.b)
 m1:lkF "point_at" fs=none
 m2:lkF "place_from" fs=none
 m3:lkF "slope_behind" fs=none
 m4:lkF "around" fs=none
 m5:lkF "value" fs=none
def Crv.nums (c:Crv):List Rat:=[c.p,c.r,if c.row=[] then c.b else 0] ++ c.row.flatMap fun q=>[q.a,q.l,q.v,q.r]
def Crv.long (c:Crv):Bool:=c.nums.any bigQ
def Crv.Eq' (c d:Crv):Prop:=c.p=d.p/\c.r=d.r/\c.row=d.row/\(if c.row=[] then c.b else 0)=(if d.row=[] then d.b else 0)
instance (c d:Crv):Decidable (Crv.Eq' c d):=inferInstanceAs (Decidable (c.p=d.p/\c.r=d.r/\c.row=d.row/\(if c.row=[] then c.b else 0)=(if d.row=[] then d.b else 0)))
theorem insOf_app {M L:Mem} {x:D} {v:Addr×List (Str×D)} (h:insOf M x=some v):insOf (M ++ L) x=some v:=by
 cases x <;> first | exact h | skip
 unfold insOf at h ⊢
 rename_i i
 cases e:M[i]? with
 | none=>simp only [e] at h;cases h
 | some o =>
  simp only [e] at h
  have e2:(M ++ L)[i]?=some o:=by rw [List.getElem?_append_left (List.getElem?_eq_some_iff.mp e).1];exact e
  simp only [e2]
  exact h
theorem CrvX.app {K:PySem.W.Frag} {M L:Mem} {x:D} {c:Crv} {fs:List (Str×D)} (h:CrvX K M x c fs):CrvX K (M ++ L) x c fs:=⟨insOf_app h.ins,h.p,h.r,h.row,h.s,h.b,h.m1,h.m2,h.m3,h.m4,h.m5⟩
theorem CutX.set {E:XD} {x:Exn} {M:Mem} {i:Nat} {mo:MO} (h:D.hbs M.length (x.fs.map (·.2))=true) (ok:okM M.length M) (hm:mo.hb M.length=true) (q:E x (M.set i (some mo))):CutX M.length E x (M.set i (some mo)):=by
 refine ⟨h,?_,?_⟩
 ·intro j m hj e
  by_cases z:i=j
  ·subst z
   rw [List.getElem?_set_self hj] at e
   cases e
   exact hm
  ·rw [List.getElem?_set_ne z] at e
   exact ok j m hj e
 ·rw [List.take_of_length_le (by rw [List.length_set];exact Nat.le_refl _)]
  exact q
theorem big_qs {q:Rat} (h:bigQ q=false):qs q<=200:=by
 unfold bigQ at h
 rw [Bool.or_eq_false_iff,decide_eq_false_iff_not,decide_eq_false_iff_not] at h
 have e:(10:Int) ^ 60 < 2 ^ 200:=by decide
 unfold qs
 refine Nat.max_le.mpr ⟨bs_le ?_,bs_le ?_⟩
 ·have:(q.num.natAbs:Int) < ((2 ^ 200:Nat):Int):=Int.lt_trans (Int.not_le.mp h.1) (by decide)
  exact Int.ofNat_lt.mp this
 ·have:(q.den:Int) < ((2 ^ 200:Nat):Int):=Int.lt_trans (Int.not_le.mp h.2) (by decide)
  exact Int.ofNat_lt.mp this
mutual
def D.nl:D->Bool
 | .lst _=>false
 | .rol _=>false
 | .tup xs=>D.nls xs
 | .obj _ _ xs=>D.nls xs
 | .exc _ _ xs=>D.nls xs
 | .dk _ _=>false
 | .dt _ xs=>D.nls xs
 | _=>true
def D.nls:List D->Bool
 | []=>true
 | d :: r=>d.nl && D.nls r
end
def MO.nl:MO->Bool
 | .lst xs=>D.nls xs
 | .dK kvs=>D.nls (kvs.map (·.2))
 | .dT _ xs=>D.nls xs
 | .ins _ fs=>D.nls (fs.map (·.2))
def MO.isL:MO->Bool
 | .lst _=>true
 | .dK _=>true
 | _=>false
structure More (al:Al) (M M':Mem) (H:Hp):Prop where
 at_:∀ (j:Nat) (b:Addr) (mo:MO),al.a[j]?=some b->M'[j]?=some (some mo)->M[j]?=some (some mo)\/(∃ xs,H b=some (.lst xs))\/∃ ys,H b=some (.dK ys)
theorem More.fz {al:Al} {M M':Mem} {H:Hp} (m:More al M M' H) {b:Addr} {o:HO} (h:H b=some o) (n:∀ xs,o≠.lst xs) (n2:∀ ys,o≠.dK ys) (f:Fz al M b):Fz al M' b :=
 ⟨f.1,fun j mo e1 e2=>(m.at_ j b mo e1 e2).elim (fun q=>f.2 j mo e1 q) fun z=>z.elim (fun ⟨xs,q⟩=>n xs (Option.some.inj (h.symm.trans q))) fun ⟨ys,q⟩=>n2 ys (Option.some.inj (h.symm.trans q))⟩
def dead (n:Nat) (M:Mem):Mem:=(M.take n).map (fun _=>none) ++ M.drop n
structure LendOk (n:Nat) (M M':Mem):Prop where
 len:n<=M'.length
 hd:M'.take n=(dead n M).take n
 tl:∀ (j:Nat) (mo:MO),n<=j->M'[j]?=some (some mo)->mo.nl=true
section
variable {K:PySem.W.Frag} {Tb:List (Addr×Str)} {al:Al} {M:Mem} {H:Hp} {n:Nat}
theorem dead_lt (h:n<=M.length) {j:Nat} (hj:j < n):(dead n M)[j]?=some none:=by
 unfold dead
 rw [List.getElem?_append_left (by rw [List.length_map,List.length_take];omega),List.getElem?_map,List.getElem?_take_of_lt hj,List.getElem?_eq_getElem (by omega)]
 rfl
theorem LendOk.lt {M':Mem} (k:LendOk n M M') (h:n<=M.length) {j:Nat} (hj:j < n):M'[j]?=some none:=by
 have:=congrArg (fun l:Mem=>l[j]?) k.hd
 simp only [List.getElem?_take_of_lt hj] at this
 rw [this,dead_lt h hj]
end
def tw (q:Rat) (n:Nat):Prop:=∃ m:Nat,m<=n/\q=(m:Rat) / 12
theorem tw.mono {a:Rat} {n m:Nat} (h:tw a n) (e:n<=m):tw a m:=let ⟨x,hx,q⟩:=h;⟨x,by omega,q⟩
theorem tw.pos {a:Rat} {n:Nat} (h:tw a n):0<=a:=by
 obtain ⟨x,hx,rfl⟩:=h
 have:(0:Rat)<=x:=by exact_mod_cast Nat.zero_le x
 grind
theorem tw.qs {a:Rat} {n k:Nat} (h:tw a n) (e:n < 2 ^ k) (hk:4<=k):Mt.qs a<=k:=by
 obtain ⟨x,hx,rfl⟩:=h
 have h1:=qs_divInt (x:Int) 12 (by decide)
 have e1:(x:Rat) / 12=Rat.divInt x 12:=by
  rw [<- Rat.intCast_natCast,show (12:Rat)=((12:Int):Rat) from rfl,<- Rat.divInt_eq_div]
 rw [e1]
 have h2:bz (x:Int)<=k:=bs_le (by show x < 2 ^ k;omega)
 have h3:bz (12:Int)=4:=by decide
 omega
structure Chn (L0 sp lv:Rat) (pts:List Pt):Prop where
 s0:0<=sp
 l0:L0<=lv
 pt:∀ q∈pts,0<=q.a/\q.a < sp/\q.l<=q.v/\q.v<=q.r/\q.r<=lv
 pw:pts.Pairwise fun x y=>x.a < y.a/\x.r<=y.l
 hd:pts.head?.map Pt.l=some L0\/(pts=[]/\lv=L0)
theorem Chn.nil {L0 sp:Rat} (h:0<=sp):Chn L0 sp L0 []:=⟨h,Rat.le_refl,(fun q hq=>nomatch hq),.nil,.inr ⟨rfl,rfl⟩⟩
theorem Chn.ok {L0 sp lv:Rat} {pts:List Pt} (c:Chn L0 sp lv pts) (hn:pts≠[]) {e:Rat} (h1:lv<=e) (h2:L0 < e):okPts sp (e - L0) pts:=by
 have p0:0 < sp:=by
  cases pts with
  | nil=>exact absurd rfl hn
  | cons q l =>
   obtain ⟨a1,a2,_⟩:=c.pt q (List.mem_cons_self ..)
   grind
 have hd:∀ h:pts≠[],(pts.head h).l=L0:=fun h=>by
  cases pts with
  | nil=>exact absurd rfl h
  | cons q l =>
   rcases c.hd with z | ⟨z,_⟩
   ·exact Option.some.inj z
   ·cases z
 refine ⟨p0,by grind,fun q hq=>?_,fun x hx=>?_⟩
 ·obtain ⟨a1,a2,a3,a4,a5⟩:=c.pt q hq
  exact ⟨by grind,a2,by grind,by grind⟩
 ·obtain ⟨j,hj⟩:=List.mem_iff_getElem?.mp hx
  obtain ⟨g1,g2⟩:=List.getElem?_zip_eq_some.mp hj
  have hjl:j < pts.length:=(List.getElem?_eq_some_iff.mp g1).1
  rw [nextPts_get j hjl] at g2
  rw [List.getElem?_eq_getElem hjl] at g1
  obtain ⟨x1,x2⟩:=x
  simp only [Option.some.injEq] at g1 g2
  subst g1 g2
  by_cases hl:j+1 < pts.length
  ·have:=List.pairwise_iff_getElem.mp c.pw j (j+1) hjl hl (by omega)
   rw [show ((j:Int)+1)=((j+1:Nat):Int) from rfl,rowAt_nat (j+1) hl]
   exact ⟨this.1,by grind⟩
  ·have el:(j:Int)+1=pts.length:=by omega
   rw [el,rowAt_wrap hn]
   obtain ⟨a1,a2,a3,a4,a5⟩:=c.pt _ (List.getElem_mem hjl)
   obtain ⟨b1,b2,b3,b4,b5⟩:=c.pt _ (List.head_mem hn)
   have:=hd hn
   refine ⟨?_,?_⟩
   ·show pts[j].a < (pts.head hn).a+1 * sp
    grind
   ·show ¬ (pts.head hn).l+1 * (e - L0) < pts[j].r
    grind
def RgX (M:Mem) (i:Nat) (L M':Mem):Prop:=∃ M2,RgTo M i M2/\M'=M2 ++ L
theorem RgAt.lt {M:Mem} {i:Nat} (a:RgAt M i):i < M.length:=by
 obtain ⟨r,h,_⟩:=a
 exact (List.getElem?_eq_some_iff.mp h).1
section
variable {M M' M'' L:Mem} {i j:Nat} {o:Option MO}
theorem RgX.at (a:RgAt M i) (g:RgX M i L M'):RgAt M' i:=by
 obtain ⟨M2,t,rfl⟩:=g
 obtain ⟨r,h,ok⟩:=t.at a
 exact ⟨r,by rw [List.getElem?_append_left (List.getElem?_eq_some_iff.mp h).1];exact h,ok⟩
theorem RgX.len (g:RgX M i L M'):M'.length=M.length+L.length:=by
 obtain ⟨M2,t,rfl⟩:=g
 rw [List.length_append,t.len]
theorem RgX.app (g:RgX M i L M'):RgX M i (L ++ [o]) (M' ++ [o]):=by
 obtain ⟨M2,t,rfl⟩:=g
 exact ⟨M2,t,by simp⟩
theorem RgX.set (g:RgX M i L M') (j:Nat):RgX M i (L.set j o) (M'.set (M.length+j) o):=by
 obtain ⟨M2,t,rfl⟩:=g
 refine ⟨M2,t,?_⟩
 rw [List.set_append_right _ _ (by rw [t.len];omega),t.len]
 congr 2
 omega
end
def AllL (M:Mem):Prop:=∀ (j:Nat) (mo:MO),M[j]?=some (some mo)->mo.isL=true
theorem AllL.nil:AllL []:=fun j mo e=>by simp at e
theorem AllL.app {M L:Mem} (h:AllL M) (g:AllL L):AllL (M ++ L):=fun j mo e=>by
 by_cases hj:j < M.length
 ·rw [List.getElem?_append_left hj] at e;exact h j mo e
 ·rw [List.getElem?_append_right (by omega)] at e;exact g _ mo e
theorem AllL.one {xs:List D}:AllL [some (.lst xs)]:=fun j mo e=>by
 cases j with
 | zero=>simp at e;rw [<- e];rfl
 | succ j=>simp at e
theorem AllL.cons {xs:List D} {L:Mem} (g:AllL L):AllL (some (.lst xs) :: L):=AllL.app (M:=[some (.lst xs)]) .one g
def valE (L:Ents) (k:List Int):Option V:=(L.find? fun e=>decide (e.1=k)).map (·.2.2)
abbrev LR:Ents->List (List Int×Addr×Value)->Prop:=Paired fun p q=>p.1=q.1/\p.2.1=q.2.1/\RelV p.2.2 q.2.2
theorem LR.val {L:Ents} {xs:List (List Int×Addr×Value)} (r:LR L xs) (k:List Int):RelO (valE L k) ((atKey xs k).map (·.2)):=by
 induction r with
 | nil=>exact True.intro
 | @cons p q ps qs h t ih =>
  obtain ⟨h1,_,h2⟩:=h
  unfold valE atKey at ih ⊢
  by_cases e:p.1=k
  ·have e':q.1=k:=h1.symm.trans e
   simp [List.find?_cons,e,e'];exact h2
  ·have e':¬ q.1=k:=fun z=>e (h1.trans z)
   simp only [List.find?_cons,decide_eq_false e,decide_eq_false e']
   exact ih
theorem LR.any {L:Ents} {xs:List (List Int×Addr×Value)} (r:LR L xs) (k:List Int):(L.any fun e=>decide (e.1=k))=(atKey xs k).isSome:=by
 induction r with
 | nil=>rfl
 | @cons p q ps qs h t ih =>
  obtain ⟨h1,_,h2⟩:=h
  unfold atKey at ih ⊢
  by_cases e:p.1=k
  ·have e':q.1=k:=h1.symm.trans e
   simp [List.find?_cons,e,e']
  ·have e':¬ q.1=k:=fun z=>e (h1.trans z)
   simp only [List.find?_cons,List.any_cons,decide_eq_false e,decide_eq_false e',Bool.false_or]
   exact ih
end DL
namespace DL
open PySem PySem.Spec PyProof.Rows L2 Mt LamX
theorem SqT.ext {K:PySem.W.Frag} {H H2:Hp} {a:Addr} {xs:List V} (h:SqT K H a xs) (e:ExtN H H2):SqT K H2 a xs:=by
 rcases h with (h | ⟨o,h⟩) | h
 ·exact .inl (.inl (e _ _ h fun _ z=>by cases z))
 ·exact .inl (.inr ⟨o,e _ _ h fun _ z=>by cases z⟩)
 ·exact .inr h
abbrev Kvs:=List (List Int×D)
def valP (kvs:Kvs) (k:List Int):Option D:=(kvs.find? fun e=>decide (e.1=k)).map (·.2)
def flP' (kvs:Kvs):List D:=kvs.map (fun e=>kD e.1) ++ kvs.map (·.2)
def dtD (kvs:Kvs):D:=.dt (kvs.map (·.1)) (flP' kvs)
def kvsOf (ks:List (List Int)) (ds:List D):Kvs:=ks.zip (ds.drop ks.length)
theorem kvsOf_mk (kvs:Kvs):kvsOf (kvs.map (·.1)) (flP' kvs)=kvs:=by
 unfold kvsOf flP'
 rw [List.drop_left' (by simp)]
 induction kvs with
 | nil=>rfl
 | cons e r ih=>rw [List.map_cons,List.map_cons,List.zip_cons_cons,ih]
section
variable {K:PySem.W.Frag} {al:Al} {M:Mem} {H:Hp}
abbrev RP (K:PySem.W.Frag) (al:Al) (M:Mem) (H:Hp):Kvs->Ents->Prop:=Paired fun p e=>p.1=e.1/\Rp K al M H (kD p.1) (.ref e.2.1)/\Rp K al M H p.2 e.2.2
theorem RP.mono {al':Al} {M':Mem} {H':Hp} {kvs:Kvs} {L:Ents} (s:Stp al M H al' M' H') (h:RP K al M H kvs L):RP K al' M' H' kvs L:=Paired.mapP h fun _ _ z=>⟨z.1,z.2.1.mono s,z.2.2.mono s⟩
theorem RP.any {kvs:Kvs} {L:Ents} (h:RP K al M H kvs L) (k:List Int):(kvs.any fun e=>decide (e.1=k))=L.any fun e=>decide (e.1=k):=by
 induction h with
 | nil=>rfl
 | cons a _ ih=>rw [List.any_cons,List.any_cons,ih,a.1]
theorem RP.val {kvs:Kvs} {L:Ents} (h:RP K al M H kvs L) {k:List Int} {d:D} (e:valP kvs k=some d):∃ v,valE L k=some v/\Rp K al M H d v:=by
 induction h with
 | nil=>cases e
 | @cons p q ps qs a _ ih =>
  unfold valP at e ih
  unfold valE at ih ⊢
  by_cases c:p.1=k
  ·have c':q.1=k:=a.1.symm.trans c
   rw [List.find?_cons,decide_eq_true c] at e
   rw [List.find?_cons,decide_eq_true c']
   cases (Option.some.inj e)
   exact ⟨_,rfl,a.2.2⟩
  ·have c':¬ q.1=k:=fun z=>c (a.1.trans z)
   rw [List.find?_cons,decide_eq_false c] at e
   rw [List.find?_cons,decide_eq_false c']
   exact ih e
end
end DL
namespace Mt
def qk (q:Rat):List Int:=[q.num,(q.den:Int)]
end Mt
namespace DL
open PySem PySem.Spec PyProof.Rows L2 Mt
def OrdIn (x:D) (l:List Rat):Prop:=asS x=some (l.map qD)\/∃ kvs,x=dtD kvs/\kvs.map (·.1)=l.map qk
theorem OrdIn.it {P:D} {l:List Rat} (h:OrdIn P l) {M:Mem} {Q:List D->Mem->Prop} (q:Q (l.map qD) M):(match (generalizing:=false) P with
 | .lst xs=>Q xs M
 | .rol xs=>Q xs M
 | .tup xs=>Q xs M
 | .str z=>Q (signsD z) M
 | .dt ks ds=>Q ((kvsOf ks ds).map fun e=>kD e.1) M
 | _=>False):=by
 rcases h with h | ⟨kvs,rfl,h⟩
 ·cases P <;> first | (cases h;done) | (cases h;exact q)
 ·show Q ((kvsOf _ _).map fun e=>kD e.1) M
  rw [kvsOf_mk,show (fun e:List Int×D=>kD e.1)=kD ∘ (fun e:List Int×D=>e.1) from rfl,<- List.map_map,h,List.map_map]
  exact q
theorem AllL.set {M:Mem} {i:Nat} {xs:List D} (h:AllL M):AllL (M.set i (some (.lst xs))):=fun j mo e=>by
 by_cases hij:i=j
 ·subst hij
  rw [List.getElem?_set] at e
  simp at e
  rw [<- e.2];rfl
 ·rw [List.getElem?_set_ne hij] at e
  exact h j mo e
theorem RpS.at {K:PySem.W.Frag} {al:Al} {M:Mem} {H:Hp} {σ:L2.St} {rho:Rho} (h:RpS K al M H σ rho) (i:Nat) {d:D} {v:V} (hs:σ[i]?=some (some v)) (r:Rp K al M H d v):RpS K al M H σ (rho.set i (some d)):=by
 have:=h.set i r
 rw [show σ.set i (some v)=σ from by
  apply List.ext_getElem?
  intro j
  by_cases hj:i=j
  ·subst hj;rw [List.getElem?_set_self (List.getElem?_eq_some_iff.mp hs).1,hs]
  ·rw [List.getElem?_set_ne hj]] at this
 exact this
end DL
namespace He
open PySem PySem.Spec PyProof.Rows L2
def obsZ (as:List Addr) (fa:List Fa) (fn:List DefE) (tf:List Defn) (ex:PySem.W.Frag->Bool) (g:Addr->Option Obj):AlYX:=(obsYK fa fn ex (frT g as),tabsB g tf (frT g as))
theorem saysZ_of {as:List Addr} {fa:List Fa} {fn:List DefE} {tf:List Defn} {ex:PySem.W.Frag->Bool} {h:Heap} (e:obsZ as fa fn tf ex h.get?=(valY fn,true)):SaysY fa fn tf ex h (frT h.get? as):=by
 have e1:obsYK fa fn ex (frT h.get? as)=valY fn:=congrArg (fun z:AlYX=>z.1) e
 have e2:tabsB h.get? tf (frT h.get? as)=true:=congrArg (fun z:AlYX=>z.2) e
 have key:∀ p∈tf,PySem.W.codeHdIn (frT h.get? as) (cT (frT h.get? as) p).1 (cT (frT h.get? as) p).2=true/\∃ o,h.get? (cT (frT h.get? as) p).2=some o/\emptyTab o=true:=fun p hp=>by
  obtain ⟨h3,h4⟩:=ba (List.all_eq_true.mp e2 p hp)
  refine ⟨h3,?_⟩
  cases q:h.get? (cT (frT h.get? as) p).2 with
  | none=>rw [q] at h4;cases h4
  | some o=>rw [q] at h4;exact ⟨o,rfl,h4⟩
 exact ⟨e1,fun p hp=>(key p hp).1,fun p hp=>let ⟨_,_,q,z⟩:=key p hp;frT_none q z,fun p hp=>let ⟨_,_,q,z⟩:=key p hp;by rw [q,emptyTab_eq z]⟩
def hookZ (as:List Addr) (fa:List Fa) (fn:List DefE) (tf:List Defn) (ex:PySem.W.Frag->Bool):PySem.W.Hook where
 α:=AlYX
 obs:=fun s=>obsZ as fa fn tf ex s.heap.get?
 val:=fun _=>(valY fn,true)
 says:=fun _ h=>∃ K:PySem.W.Frag,K.In h/\SaysY fa fn tf ex h K
 of:=fun _ _ e=>⟨_,frT_in,saysZ_of e⟩
 keeps:=fun _ _ _ ⟨K,hK,c⟩ k=>⟨K,PySem.W.Frag.In.keeps hK k,⟨c.t,c.hd,c.out,fun p hp=>k _ _ (c.empty p hp)⟩⟩
def LookEq (r:PySem.W.OpenRow) (M:Nat) (w:World) {β:Type} (f:PySem.W.SharedT->β) (v:β):Prop :=
 ∀ os:OsState,(HandSHeadRun.endF (HandSHeadRun.stepQ (HandSHeadRun.denQ HandSHeadRun.tabQ) r.prog w) M r.prog w os).map f=some v
theorem LookEq.obsZ {r:PySem.W.OpenRow} {M:Nat} {w:World} {as:List Addr} {fa:List Fa} {fn:List DefE} {tf:List Defn} {ex:PySem.W.Frag->Bool}
  (h1:LookEq r M w (fun s=>(fa.all fun f=>f.ok (frT (HandSHeadRun.getT s) as)) && tabsB (HandSHeadRun.getT s) tf (frT (HandSHeadRun.getT s) as)) true)
  (h2:LookEq r M w (fun s=>((fn.all fun d=>d.ok (frT (HandSHeadRun.getT s) as)),fn.map fun d=>fnE (frT (HandSHeadRun.getT s) as) (d.at_ (frT (HandSHeadRun.getT s) as)))) (true,fn.map DefE.val))
  (h3:LookEq r M w (fun s=>ex (frT (HandSHeadRun.getT s) as)) true):LookEq r M w (fun s=>He.obsZ as fa fn tf ex (HandSHeadRun.getT s)) (valY fn,true):=fun os=>by
 have h1:=h1 os
 have h2:=h2 os
 have h3:=h3 os
 generalize HandSHeadRun.endF _ _ _ _ _=x at h1 h2 h3
 cases x with
 | none=>cases h1
 | some s =>
  simp only [Option.map_some,Option.some.injEq,Prod.mk.injEq,Bool.and_eq_true] at h1 h2 h3 ⊢
  unfold He.obsZ obsYK valY
  rw [h1.1,h1.2,h2.1,h2.2,h3]
  rfl
end He
namespace DL
open PySem PySem.Spec PySem.Calls PyProof.Rows L2
inductive Capts:List Pattern->List Str->Prop where
 | nil:Capts [] []
 | cons {n:Str} {p:Pos} {ps:List Pattern} {ns:List Str}:Capts ps ns->Capts (.MatchAs none (some n) p :: ps) (n :: ns)
inductive NSl (X:Cx):List Str->List Nat->Prop where
 | nil:NSl X [] []
 | cons {n:Str} {i:Nat} {ns:List Str} {is:List Nat}:X.N[i]?=some n->Loc X.env.scope n->(X.fn n=true\/X.env.scope.names.lookup n=some .local)->NSl X ns is->NSl X (n :: ns) (i :: is)
theorem Capts.len {ps:List Pattern} {ns:List Str} (c:Capts ps ns):ps.length=ns.length:=by induction c with
 | nil=>rfl
 | cons _ ih=>simp [ih]
section
variable {X:Cx} {Tb:List (Addr×Str)} {EV:XK} {pos:Pos}
theorem NSl.len {ns:List Str} {is:List Nat} (c:NSl X ns is):ns.length=is.length:=by induction c with
 | nil=>rfl
 | cons _ _ _ _ ih=>simp [ih]
end
open SX (S S_tl S_len)
abbrev cl (z:Str):List Nat:=z.cps.toList
end DL
namespace DL
open PySem PySem.Spec PyProof.Rows L2 Mt
inductive PStep (nm:Str->Prop) (P:D->Prop):D->Prop where
 | shift {a:Rat}:qs a<=39->PStep nm P (.tup [.str "shift",qD a])
 | scale {a:Rat}:qs a<=39->0 < a->PStep nm P (.tup [.str "scale",qD a])
 | use {z:Str}:nm z->PStep nm P (.tup [.str "use",.str z])
 | floor {u o:Rat}:qs u<=39->0 < u->qs o<=39->PStep nm P (.tup [.str "floor",qD u,qD o])
 | ceiling {u o:Rat}:qs u<=39->0 < u->qs o<=39->PStep nm P (.tup [.str "ceiling",qD u,qD o])
 | nearest {u o:Rat} {t:Str}:qs u<=39->0 < u->qs o<=39->(t="up"\/t="down"\/t="even")->PStep nm P (.tup [.str "nearest",qD u,qD o,.str t])
 | join {w:Str} {ps:List D}:(w="sum"\/w="least"\/w="greatest")->2<=ps.length->ps.length<=4->(∀ p∈ps,P p)->PStep nm P (.tup (.str w :: ps))
def PPipe (nm:Str->Prop):Nat->D->Prop
 | 0,_=>False
 | n+1,d=>∃ ss,d = .tup ss/\ss.length<=12/\∀ s∈ss,PStep nm (PPipe nm n) s
theorem PStep.mono {nm nm':Str->Prop} {P P':D->Prop} (hn:∀ z,nm z->nm' z) (hP:∀ d,P d->P' d) {d:D} (h:PStep nm P d):PStep nm' P' d:=by
 cases h with
 | shift a=>exact .shift a
 | scale a b=>exact .scale a b
 | use a=>exact .use (hn _ a)
 | floor a b c=>exact .floor a b c
 | ceiling a b c=>exact .ceiling a b c
 | nearest a b c d=>exact .nearest a b c d
 | join a b c d=>exact .join a b c fun p hp=>hP p (d p hp)
theorem PPipe.up {nm:Str->Prop}:∀ {n:Nat} {d:D},PPipe nm n d->PPipe nm (n+1) d
 | n+1,d,⟨ss,e,l,h⟩=>⟨ss,e,l,fun s hs=>(h s hs).mono (fun _ z=>z) fun _ q=>PPipe.up q⟩
theorem PPipe.mono {nm:Str->Prop} {n m:Nat} {d:D} (h:PPipe nm n d) (hm:n<=m):PPipe nm m d:=by
 induction hm with
 | refl=>exact h
 | step _ ih=>exact ih.up
structure Un (u:Rat):Prop where
 pos:0 < u
 i:∃ z:Int,12 * u=z
 j:∃ z:Int,12 * (1 / u)=z
 hi:u<=4
 lo:1<=4 * u
structure Of (o:Rat):Prop where
 qs:Mt.qs o<=8
 i:∃ z:Int,12 * o=z
 lo:-6<=o
 hi:o<=6
inductive GStep (nm:Str->Prop) (P:D->Prop):D->Rat->Prop where
 | shift {a:Rat}:Of a->GStep nm P (.tup [.str "shift",qD a]) 1
 | scale {a:Rat}:qs a<=3->Un a->GStep nm P (.tup [.str "scale",qD a]) a
 | use {z:Str}:nm z->GStep nm P (.tup [.str "use",.str z]) 1
 | floor {u o:Rat}:qs u<=3->Un u->Of o->GStep nm P (.tup [.str "floor",qD u,qD o]) 1
 | ceiling {u o:Rat}:qs u<=3->Un u->Of o->GStep nm P (.tup [.str "ceiling",qD u,qD o]) 1
 | nearest {u o:Rat} {t:Str}:qs u<=3->Un u->Of o->(t="up"\/t="down"\/t="even")->GStep nm P (.tup [.str "nearest",qD u,qD o,.str t]) 1
 | sum {ps:List D}:2<=ps.length->ps.length<=4->(∀ p∈ps,P p)->GStep nm P (.tup (.str "sum" :: ps)) ps.length
 | pick {w:Str} {ps:List D}:(w="least"\/w="greatest")->2<=ps.length->ps.length<=4->(∀ p∈ps,P p)->GStep nm P (.tup (.str w :: ps)) 1
theorem qs_small (n:Nat) (h:n<=4):qs ((n:Nat):Rat)<=3:=by
 have:n=0\/n=1\/n=2\/n=3\/n=4:=by omega
 rcases this with rfl | rfl | rfl | rfl | rfl <;> decide +kernel
theorem GStep.mono {nm nm':Str->Prop} {P P':D->Prop} (hn:∀ z,nm z->nm' z) (hP:∀ d,P d->P' d) {d:D} {r:Rat} (h:GStep nm P d r):GStep nm' P' d r:=by
 cases h with
 | shift a=>exact .shift a
 | scale a b=>exact .scale a b
 | use a=>exact .use (hn _ a)
 | floor a b c=>exact .floor a b c
 | ceiling a b c=>exact .ceiling a b c
 | nearest a b c d=>exact .nearest a b c d
 | sum b c d=>exact .sum b c fun p hp=>hP p (d p hp)
 | pick a b c d=>exact .pick a b c fun p hp=>hP p (d p hp)
theorem GStep.ps {nm:Str->Prop} {P:D->Prop} {d:D} {r:Rat} (h:GStep nm P d r):PStep nm P d:=by
 cases h with
 | shift a=>exact .shift (by have:=a.qs;omega)
 | scale a b=>exact .scale (by omega) b.pos
 | use a=>exact .use a
 | floor a b c=>exact .floor (by omega) b.pos (by have:=c.qs;omega)
 | ceiling a b c=>exact .ceiling (by omega) b.pos (by have:=c.qs;omega)
 | nearest a b c d=>exact .nearest (by omega) b.pos (by have:=c.qs;omega) d
 | sum b c d=>exact .join (.inl rfl) b c d
 | pick a b c d=>exact .join (.inr a) b c d
theorem GStep.sl {nm:Str->Prop} {P:D->Prop} {d:D} {r:Rat} (h:GStep nm P d r):qs r<=3/\0 < r:=by
 have h1:qs 1<=3/\(0:Rat) < 1:=⟨by decide +kernel,by decide +kernel⟩
 cases h with
 | scale a b=>exact ⟨a,b.pos⟩
 | sum b c d =>
  refine ⟨qs_small _ c,?_⟩
  rename_i ps
  have:((0:Nat):Rat) < (ps.length:Rat):=Rat.natCast_lt_natCast.mpr (by omega)
  simpa using this
 | _=>exact h1
def slopeP:List (D×Rat)->Rat
 | []=>1
 | p :: r=>p.2 * slopeP r
def GPipe (nm:Str->Prop):Nat->Nat->D->Prop
 | 0,_,_=>False
 | n+1,m,d=>∃ ps:List (D×Rat),ps.length<=m/\m<=4/\(∀ p∈ps,GStep nm (GPipe nm n 2) p.1 p.2) /\
  ((slopeP ps=1/\d = .tup (ps.map (·.1)))\/(slopeP ps≠1/\d = .tup (ps.map (·.1) ++ [.tup [.str "scale",qD (1 / slopeP ps)]])))
theorem hbs_all {n:Nat}:∀ {l:List D},(∀ d∈l,D.hb n d=true)->D.hbs n l=true
 | [],_=>rfl
 | d :: r,h=>by
  show (D.hb n d && D.hbs n r)=true
  rw [h d (List.mem_cons_self ..),hbs_all (l:=r) fun x hx=>h x (List.mem_cons_of_mem _ hx)];rfl
theorem hbs_snoc {n:Nat} {l:List D} {d:D} (h:D.hbs n l=true) (hd:D.hb n d=true):D.hbs n (l ++ [d])=true:=by
 induction l with
 | nil=>show (D.hb n d && true)=true;rw [hd];rfl
 | cons x r ih =>
  have h':(D.hb n x && D.hbs n r)=true:=h
  rw [Bool.and_eq_true] at h'
  show (D.hb n x && D.hbs n (r ++ [d]))=true
  rw [h'.1,ih h'.2];rfl
theorem GStep.hb {nm:Str->Prop} {P:D->Prop} {n:Nat} (hP:∀ d,P d->D.hb n d=true) {d:D} {r:Rat} (h:GStep nm P d r):D.hb n d=true:=by
 cases h with
 | @sum ps b c e =>
  exact hbs_all (l:=.str "sum" :: ps) fun x hx=>by
   rcases List.mem_cons.mp hx with rfl | hx
   ·rfl
   ·exact hP x (e x hx)
 | @pick w ps a b c e =>
  exact hbs_all (l:=.str w :: ps) fun x hx=>by
   rcases List.mem_cons.mp hx with rfl | hx
   ·rfl
   ·exact hP x (e x hx)
 | _=>rfl
theorem GPipe.hb {nm:Str->Prop} {m:Nat}:∀ {n k:Nat} {d:D},GPipe nm n k d->D.hb m d=true
 | n+1,k,d,⟨ps,hl,hk,h,hd⟩=>by
  have hs:D.hbs m (ps.map (·.1))=true:=hbs_all fun x hx=>by
   obtain ⟨p,hp,rfl⟩:=List.mem_map.mp hx
   exact (h p hp).hb fun _ q=>GPipe.hb q
  rcases hd with ⟨_,rfl⟩ | ⟨_,rfl⟩
  ·exact hs
  ·exact hbs_snoc hs rfl
def starSp (n:Nat) (dsp:DSp):DSp:=fun ds M Q E=>∃ ws rest,ds=ws ++ rest/\ws.length=n/\rest.length<=sizeLine/\dsp (ws ++ [.tup rest]) M Q E
structure FnSD (P:Program) (w:World) (K:PySem.W.Frag) (mg:Str->Option Value) (base:Heap) (Tb:List (Addr×Str)) (k:Nat) (f:Addr) (n:Nat) (dsp:DSp):Prop where
 run:FnR P w K mg base (L2.CX P w) k f (liftSp K Tb (starSp n dsp))
theorem FnSD.mono {P:Program} {w:World} {K:PySem.W.Frag} {mg:Str->Option Value} {base:Heap} {Tb:List (Addr×Str)} {j k:Nat} {f:Addr} {n:Nat} {dsp:DSp} (F:FnSD P w K mg base Tb j f n dsp) (h:j<=k):FnSD P w K mg base Tb k f n dsp:=⟨F.run.mono h⟩
abbrev KD:=List (Key×D)
def valD (kvs:KD) (k:Key):Option D:=(kvs.find? fun kv=>decide (kv.1=k)).map (·.2)
section
variable {K:PySem.W.Frag} {al:Al} {M:Mem} {H:Hp}
theorem Rpk.any {k:Key}:∀ {kvs:KD} {ys:List (Key×V)},Rpk K al M H kvs ys->(kvs.any fun kv=>decide (kv.1=k))=(ys.any fun kv=>decide (kv.1=k))
 | [],[],_=>rfl
 | [],_ :: _,h=>by simp [Rpk] at h
 | (k',d) :: r,ys,h=>by
  obtain ⟨x,rs,rfl,_,t⟩:=h.cases
  rw [List.any_cons,List.any_cons,Rpk.any t]
theorem Rpk.val {k:Key}:∀ {kvs:KD} {ys:List (Key×V)},Rpk K al M H kvs ys->(valD kvs k=none/\valV ys k=none)\/∃ d v,valD kvs k=some d/\valV ys k=some v/\Rp K al M H d v
 | [],[],_=>.inl ⟨rfl,rfl⟩
 | [],_ :: _,h=>by simp [Rpk] at h
 | (k',d) :: r,ys,h=>by
  obtain ⟨x,rs,rfl,rd,t⟩:=h.cases
  by_cases e:k'=k
  ·exact .inr ⟨d,x,by simp [valD,List.find?_cons,e],by simp [valV,List.find?_cons,e],rd⟩
  ·have e1:valD ((k',d) :: r) k=valD r k:=by simp [valD,List.find?_cons,e]
   have e2:valV ((k',x) :: rs) k=valV rs k:=by simp [valV,List.find?_cons,e]
   rw [e1,e2]
   exact Rpk.val t
theorem Rpk.map {k:Key} {d:D} {v:V} (rd:Rp K al M H d v):∀ {kvs:KD} {ys:List (Key×V)},Rpk K al M H kvs ys->Rpk K al M H (kvs.map fun kv=>if kv.1=k then (kv.1,d) else kv) (ys.map fun kv=>if kv.1=k then (kv.1,v) else kv)
 | [],[],_=>Rpk.nil
 | [],_ :: _,h=>by simp [Rpk] at h
 | (k',d') :: r,ys,h=>by
  obtain ⟨x,rs,rfl,rd',t⟩:=h.cases
  rw [List.map_cons,List.map_cons]
  by_cases e:k'=k
  ·rw [if_pos e,if_pos e];exact Rpk.cons rd (Rpk.map rd t)
  ·rw [if_neg e,if_neg e];exact Rpk.cons rd' (Rpk.map rd t)
theorem Rpk.app {ks ls:KD} {xs ys:List (Key×V)} (h1:Rpk K al M H ks xs) (h2:Rpk K al M H ls ys):Rpk K al M H (ks ++ ls) (xs ++ ys):=⟨by simp [h1.1,h2.1],by rw [List.map_append,List.map_append];exact h1.2.append h2.2⟩
theorem Rpk.len {kvs:KD} {ys:List (Key×V)} (h:Rpk K al M H kvs ys):kvs.length=ys.length:=by have:=congrArg List.length h.1;simpa using this
end
end DL
namespace Gfr
open PySem
open PyProof.Rows (AllBare)
abbrev NGf (fs:List Frame):Prop:=splitAtGen fs=none
def Sus:GenState->Prop
 | .suspended _ _ _ _ _ _=>True
 | _=>False
def ng:GenState->Prop
 | .suspended _ _ _ _ fs _=>NGf fs
 | _=>True
def poison:GenState->GenState
 | .suspended _ l c p fs cl=>.suspended (fun _=>.unsupported "") l c p fs cl
 | x=>x
theorem poison_bare (x:GenState):(poison x).bare=x.bare:=by cases x <;> rfl
structure GRl (P:Nat->Prop) (Y:Nat->GenState) (gp G:Array GenState):Prop where
 sz:gp.size=G.size
 pz:∀ i,P i->gp[i]?=some (poison (Y i))/\G[i]?=some (Y i)
 eq:∀ i,¬ P i->gp[i]?=G[i]?
 ng:∀ i x,¬ P i->G[i]?=some x->ng x
section
variable {P:Nat->Prop} {Y:Nat->GenState} {gp G:Array GenState}
theorem GRl.set (h:GRl P Y gp G) {j:Nat} {x:GenState} (hj:¬ P j) (hx:Gfr.ng x):GRl P Y (gp.setIfInBounds j x) (G.setIfInBounds j x):=by
 refine ⟨by simp [h.sz],fun i hi=>?_,fun i hi=>?_,fun i y hi e=>?_⟩
 ·have:j≠i:=fun z=>hj (z ▸ hi)
  rw [Array.getElem?_setIfInBounds_ne this,Array.getElem?_setIfInBounds_ne this]
  exact h.pz i hi
 ·by_cases z:j=i
  ·subst z
   rw [Array.getElem?_setIfInBounds_self,Array.getElem?_setIfInBounds_self,h.sz]
  ·rw [Array.getElem?_setIfInBounds_ne z,Array.getElem?_setIfInBounds_ne z]
   exact h.eq i hi
 ·by_cases z:j=i
  ·subst z
   rw [Array.getElem?_setIfInBounds_self] at e
   split at e
   ·cases e;exact hx
   ·cases e
  ·rw [Array.getElem?_setIfInBounds_ne z] at e
   exact h.ng i y hi e
end
theorem GRl.bare {P:Nat->Prop} {Y:Nat->GenState} {gp G:Array GenState} (r:GRl P Y gp G) (hb:AllBare gp):AllBare G:=fun y hy=>by
 obtain ⟨i,hi,rfl⟩:=Array.mem_iff_getElem.mp hy
 have ei:G[i]?=some G[i]:=Array.getElem?_eq_getElem hi
 by_cases hp:P i
 ·obtain ⟨e1,e2⟩:=r.pz i hp
  have e3:some G[i]=some (Y i):=ei.symm.trans e2
  rw [Option.some.inj e3,<- poison_bare]
  exact hb _ (Array.mem_of_getElem? e1)
 ·exact hb _ (Array.mem_of_getElem? ((r.eq i hp).trans ei))
structure Like (s s' sp:Shared):Prop where
 ex:∃ G,s'={ sp with gens:=G }
 kp:∀ (i:Nat) (x:GenState),s.gens[i]?=some x->Sus x->s'.gens[i]?=some x
 br:AllBare sp.gens->AllBare s'.gens
 rl:∃ P Y G,(∀ i,P i->Sus (Y i))/\GRl P Y sp.gens G/\s'={ sp with gens:=G }
theorem Like.heap {s s' sp:Shared} (h:Like s s' sp):s'.heap=sp.heap:=by obtain ⟨⟨G,rfl⟩,_,_,_⟩:=h;rfl
end Gfr
namespace Gg
open PySem PySem.Spec PyProof.Rows L2 GenW DL
def Sg (M:Model) (A:Around) (c:Code) (t:Sem PySem.Fin) (fs:List PySem.Frame) (s:Shared) (Φ:PySem.End->Shared->Prop):Prop :=
 ∀ (Γ:PySem.Ctx) (p:Pos),Γ.code=c->Γ.Woken A->∃ e s',PySem.Runs M Γ p t fs s e s'/\Φ e s'
def cutH (h:Heap) (n:Nat):Heap:={ h with objs:=h.objs.extract 0 n }
abbrev noE:XK:=fun _ _ _=>False
structure Gf where
 P:Program
 w:World
 K:PySem.W.Frag
 mg:Str->Option Value
 base:Heap
 Tb:List (Addr×Str)
 N:List Str
 qual:Str
 scope:Scope
 f:Addr
 cd:Value
 A:Around
 outer:List Env
 a:Addr
 go:Obj
 nb:Nat
def Gf.env (G:Gf):Env:=envOfC G.qual G.scope G.nb G.f G.cd
def Gf.X (G:Gf) (s:Shared) (H:Hp):Cx :=
 { cxOf (L2.CX G.P G.w) G.P G.w G.K G.mg G.base G.N G.qual G.scope G.f G.cd G.A G.outer s H noE with pn:=[(G.a,G.go)],xe:=fun _ _=>False }
structure Tk where
 s:Shared
 H:Hp
 al:Al
 M:Mem
 pl:List (Addr×Obj)
structure GAt (G:Gf) (T:Tk) (al:Al) (σ:L2.St) (H:Hp) (rho:Rho) (M:Mem) (s:Shared):Prop where
 sz:T.s.heap.objs.size=G.nb
 inv:Inv (G.X T.s T.H) T.pl σ H s
 wf:Wf G.K G.Tb al H M
 sl:RpS G.K al M H σ rho
 st:Stp T.al T.M T.H al M H
structure FrOk (G:Gf) (T:Tk) (s:Shared):Prop where
 cut:T.s={ s with heap:=cutH s.heap G.nb }
 sz:G.nb<=s.heap.objs.size
 mod:Mod G.K G.mg G.base
 hd:G.A.handled=none
 fr:G.A.frames=some G.outer
 bs:∀ b o,G.base.get? b=some o->s.heap.get? b=some o/\T.H b=none
 bsz:G.base.objs.size<=G.nb
 funs:(cutH s.heap G.nb).FunFrames G.base G.outer
 frf:∀ b∈frs G.outer,T.H b=none
 hok:HOk G.P G.w T.H s.heap
 bare:AllBare s.gens
 nbf:T.H G.nb=none
 pin:∀ p∈(G.a,G.go) :: T.pl,s.heap.get? p.1=some p.2/\T.H p.1=none/\p.1≠G.nb/\p.1 ∉ frs G.outer/\∀ v,p.2.data≠.cell v
structure Stv (al:Al) (M:Mem) (H:Hp) (al':Al) (M':Mem) (H':Hp):Prop where
 pre:∀ (i:Nat) (a:Addr),al.a[i]?=some a->al'.a[i]?=some a
 fz:∀ a o,H a=some o->(∀ ps,o≠.tbl ps)->Fz al M a->H' a=some o/\Fz al' M' a
theorem Stv.trans {al al1 al2:Al} {M M1 M2:Mem} {H H1 H2:Hp} (a:Stv al M H al1 M1 H1) (b:Stv al1 M1 H1 al2 M2 H2):Stv al M H al2 M2 H2 :=
 ⟨fun i x h=>b.pre i x (a.pre i x h),fun x o h n f=>b.fz x o (a.fz x o h n f).1 n (a.fz x o h n f).2⟩
structure Lat (G:Gf) (T:Tk) (al:Al) (H:Hp) (s1:Shared) (T':Tk) (s2:Shared):Prop where
 st:Stv al T.M H T'.al T'.M T'.H
 wf:Wf G.K G.Tb T'.al T'.H T'.M
 fr:FrOk G T' s2
 loc:∀ o,s1.heap.get? G.nb=some o->s2.heap.get? G.nb=some o
def NoCell (sc:Scope):Prop:=(∀ n,cellsFrom n sc.names []=[])/\∀ x,sc.names.lookup x≠some .cell/\sc.names.lookup x≠some .free
def Phi (G:Gf):List D->Tk->PySem.End->Shared->Prop
 | [],T=>fun e s'=>match e with
  | .ret r=>(r = .ok (.ret .none)\/r = .ok .next)/\∃ al H σ rho,GAt G T al σ H rho T.M s'
  | .susp ..=>False
 | d :: ys,T=>fun e s'=>match e with
  | .susp v gd l k c p fs=>(PySem.End.susp v gd l k c p fs).quiet=true/\∃ al H σ rho x,GAt G T al σ H rho T.M s'/\RelV x v/\Rp G.K al T.M H d x/\∀ T' s'',Lat G T al H s' T' s''->Sg (model G.P G.w) G.A c (k (.send .none)) fs s'' (Phi G ys T')
  | .ret _=>False
end Gg
namespace Gg
open PySem PySem.Spec PyProof.Rows L2 GenW DL Gfr
abbrev GSpD:=List DL.D->(List DL.D->Prop)->Prop
structure GNew (P:Program) (w:World) (K:PySem.W.Frag) (mg:Str->Option Value) (base:Heap) (Tb:List (Addr×Str)) (k:Nat) (outer:List Env) (H:Hp) (s:Shared) (al:Al) (M:Mem) (ys:List DL.D) (N:List Str) (qual:Str) (scope:Scope) (f:Addr) (cd:Value) (a:Addr) (go:Obj) (g:Nat) (s':Shared):Prop where
 gc:∀ v,go.data≠.cell v
 os:s'.os=s.os
 bare:AllBare s'.gens
 keep:∀ b o,s.heap.get? b=some o->s'.heap.get? b=some o
 an:s.heap.objs.size < a
 at_:s'.heap.get? a=some go
 gen:s'.heap.IsGen a g
 loc:∃ ol,s'.heap.get? s.heap.objs.size=some ol/\∀ v,ol.data≠.cell v
 nc:NoCell scope
 run:∃ c,s'.gens[g]?=some (.fresh c)/\∀ Aw,Room k Aw->∀ T' s'',Stv al M H T'.al T'.M T'.H->Wf K Tb T'.al T'.H T'.M->FrOk ⟨P,w,K,mg,base,Tb,N,qual,scope,f,cd,Aw,outer,a,go,s.heap.objs.size⟩ T' s'' ->
  (∀ o,s'.heap.get? s.heap.objs.size=some o->s''.heap.get? s.heap.objs.size=some o)->Sg (model P w) Aw c ((model P w).den c) [] s'' (Phi ⟨P,w,K,mg,base,Tb,N,qual,scope,f,cd,Aw,outer,a,go,s.heap.objs.size⟩ ys T')
structure GFnD (P:Program) (w:World) (K:PySem.W.Frag) (mg:Str->Option Value) (base:Heap) (Tb:List (Addr×Str)) (k:Nat) (f:Addr) (fd:FuncData) (ps:List Str) (gsp:GSpD):Prop where
 len:∀ ds Q,gsp ds Q->ds.length=ps.length
 run:∀ (A:Around) (outer:List Env) (s:Shared) (H:Hp) (args:Args) (us:List Value) (vs:List V) (ds:List DL.D) (al:Al) (M:Mem) (Q:List DL.D->Prop),Room k A->Env0 P w K mg base A outer s H->BindsTo s fd args (ps.zip us)->Vals vs us->Rps K al M H ds vs->gsp ds Q ->
  codeAny (model P w) A (.call (.ref f) args) (fun r s'=>∃ N qual scope cd a go g ys,r = .ok (.ret (.ref a))/\Q ys/\GNew P w K mg base Tb k outer H s al M ys N qual scope f cd a go g s') s
theorem GFnD.mono {P:Program} {w:World} {K:PySem.W.Frag} {mg:Str->Option Value} {base:Heap} {Tb:List (Addr×Str)} {j k:Nat} {f:Addr} {fd:FuncData} {ps:List Str} {gsp:GSpD} (F:GFnD P w K mg base Tb j f fd ps gsp) (h:j<=k):GFnD P w K mg base Tb k f fd ps gsp :=
 ⟨F.len,fun A outer s H args us vs ds al M Q hr e0 hb r rr q=>codeAny_mono (F.run A outer s H args us vs ds al M Q (hr.mono h) e0 hb r rr q) fun r s' ⟨N,qual,scope,cd,a,go,g,ys,e,q,z⟩ =>
  ⟨N,qual,scope,cd,a,go,g,ys,e,q,⟨z.gc,z.os,z.bare,z.keep,z.an,z.at_,z.gen,z.loc,z.nc,let ⟨c,e,y⟩:=z.run;⟨c,e,fun Aw hr=>y Aw (hr.mono h)⟩⟩⟩⟩
end Gg
namespace DL
open PySem PySem.Spec PyProof.Rows L2 Mt
inductive CErr where
 | frac | inval | step | parts | many | long | unlike | equal | pipe | strch | text | name | cmd | unk (z:Str)
def CErr.ex (K:PySem.W.Frag):CErr->Exn
 | .frac=>⟨He.ga K "InvalidFraction",[("code",.str "InvalidFraction")]⟩
 | .inval=>⟨He.ga K "InvalidCurve",[("code",.str "InvalidCurve")]⟩
 | .step=>⟨He.ga K "InvalidStep",[("code",.str "InvalidStep")]⟩
 | .parts=>⟨He.ga K "InvalidParts",[("code",.str "InvalidParts")]⟩
 | .many=>⟨He.ga K "TooMany",[("limit",.int 60),("code",.str "TooMany")]⟩
 | .long=>⟨He.ga K "TooLong",[("limit",.int 60),("code",.str "TooLong")]⟩
 | .unlike=>⟨He.ga K "UnlikeSlopes",[("code",.str "UnlikeSlopes")]⟩
 | .equal=>⟨He.ga K "EqualSlopes",[("code",.str "EqualSlopes")]⟩
 | .pipe=>⟨He.ga K "InvalidPipeline",[("code",.str "InvalidPipeline")]⟩
 | .strch=>⟨He.ga K "InvalidStretch",[("code",.str "InvalidStretch")]⟩
 | .text=>⟨He.ga K "InvalidText",[("code",.str "InvalidText")]⟩
 | .name=>⟨He.ga K "InvalidName",[("code",.str "InvalidName")]⟩
 | .cmd=>⟨He.ga K "InvalidCommand",[("code",.str "InvalidCommand")]⟩
 | .unk z=>⟨He.ga K "UnknownName",[("name",.str z),("code",.str "UnknownName")]⟩
structure Crv.Gd (c:Crv):Prop where
 ok:c.Ok
 nf:c.Nf
 len:c.row.length<=60
 sh:c.long=false
 b:qs c.b<=100000
theorem Crv.small2 {c:Crv} (h:c.long=false):(qs c.p<=200/\qs c.r<=200)/\(∀ q∈c.row,q.sz 200)/\(c.row=[]->qs c.b<=200):=by
 have hs:∀ q∈c.nums,qs q<=200:=fun q hq=>big_qs (by
  unfold Crv.long at h
  rw [List.any_eq_false] at h
  simpa using h q hq)
 refine ⟨⟨hs c.p (by simp [Crv.nums]),hs c.r (by simp [Crv.nums])⟩,fun q hq=>?_,fun e=>hs c.b (by simp [Crv.nums,e])⟩
 have:∀ x∈[q.a,q.l,q.v,q.r],x∈c.nums:=fun x hx=>List.mem_append_right _ (List.mem_flatMap.mpr ⟨q,hq,hx⟩)
 exact ⟨hs _ (this _ (by simp)),hs _ (this _ (by simp)),hs _ (this _ (by simp)),hs _ (this _ (by simp))⟩
theorem Crv.Gd.sz {c:Crv} (g:c.Gd):c.Sz 20000:=by
 obtain ⟨⟨h1,h2⟩,h3,h4⟩:=Crv.small2 g.sh
 refine ⟨fun _=>by omega,fun _=>by omega,?_,Nat.le_trans g.b (by decide),fun q hq=>(h3 q hq).mono (by decide),by have:=g.len;omega⟩
 rw [g.ok.s]
 have:=qs_div c.r c.p
 omega
theorem Crv.Gd.sl {c:Crv} (g:c.Gd):qs c.s<=400:=by
 obtain ⟨⟨h1,h2⟩,_,_⟩:=Crv.small2 g.sh
 rw [g.ok.s]
 have:=qs_div c.r c.p
 omega
theorem Crv.Gd.sz0 {c:Crv} (g:c.Gd):Crv.Sz ⟨c.p,c.r,c.row,c.s,if c.row=[] then c.b else 0⟩ 200:=by
 obtain ⟨⟨h1,h2⟩,h3,h4⟩:=Crv.small2 g.sh
 refine ⟨fun _=>h1,fun _=>h2,g.sl,?_,h3,by have:=g.len;show c.row.length < 10000;omega⟩
 show qs (if c.row=[] then c.b else 0)<=_
 split
 ·rename_i e;have:=h4 e;omega
 ·have:qs (0:Rat)=1:=by decide
  omega
theorem Crv.Gd.p {c:Crv} (g:c.Gd):qs c.p<=200:=(Crv.small2 g.sh).1.1
theorem Crv.Gd.r {c:Crv} (g:c.Gd):qs c.r<=200:=(Crv.small2 g.sh).1.2
theorem Crv.Gd.at {c:Crv} (g:c.Gd) (hn:c.row≠[]) {k:Int} {n:Nat} (hk:bz k<=n):(c.at k).sz (403+n):=by
 have h:=g.sz0.at (c:=⟨c.p,c.r,c.row,c.s,if c.row=[] then c.b else 0⟩) hn hk
 exact Pt.sz.mono h (by omega)
theorem CErr.hb (K:PySem.W.Frag) (e:CErr) (n:Nat):D.hbs n ((e.ex K).fs.map (·.2))=true:=by cases e <;> rfl
end DL
namespace L2
open PySem PySem.Spec PyProof.Rows
abbrev leB:List Value:=[.type "LookupError",.type "Exception",.type "BaseException",.type "object"]
def oexlB (K:PySem.W.Frag) (C:Addr):Bool:=PySem.W.excInitIn K C leB "LookupError.__new__" && (PySem.W.excOver K C leB && (PySem.W.hasDictIn K C && (decide (PySem.W.findIn K (.ref C) "__setattr__"=some (some (.builtin "object.__setattr__"))) && (decide (PySem.W.subIn K (.ref C) (.type "BaseException")=some true) && (decide (PySem.W.typeIn K (.ref C)=some (.type "type")) && PySem.W.keepIn K (.ref C))))))
end L2
namespace DL
open PySem PySem.Spec PyProof.Rows L2
def xclB (K:PySem.W.Frag) (x:Str) (fs:List Str):Bool:=oexlB K (He.ga K x) && (decide (PySem.W.typeIn K (.ref (He.ma K (He.ga K x) "__init__"))=some (.type "function")) && (decide (PySem.W.findIn K (.ref (He.ga K x)) "__init__"=some (some (.ref (He.ma K (He.ga K x) "__init__")))) && fs.all fun f=>decide (PySem.W.findIn K (.ref (He.ga K x)) f=some none)))
def xiB (K:PySem.W.Frag) (C:Addr):Bool:=xfB K C && ((PySem.W.clsIn K C).isSome && (decide (PySem.W.findIn K (.ref C) "__class__"=some (some (.builtin "object.__class__"))) && (decide (PySem.W.specialIn K (.builtin "object.__class__") "__get__"=some (some (.builtin "getset_descriptor.__get__"))) &&
 (decide (PySem.W.takesIn K (.builtin "object.__class__")=some true) && decide (PySem.W.mroIn K C (.type "object")=some true)))))
end DL
namespace L2
open PySem PySem.Spec PyProof.Rows
abbrev ieB:List Value:=[.type "IndexError",.type "LookupError",.type "Exception",.type "BaseException",.type "object"]
def oexiB (K:PySem.W.Frag) (C:Addr):Bool:=PySem.W.excInitIn K C ieB "IndexError.__new__" && (PySem.W.excOver K C ieB && (PySem.W.hasDictIn K C && (decide (PySem.W.findIn K (.ref C) "__setattr__"=some (some (.builtin "object.__setattr__"))) && (decide (PySem.W.subIn K (.ref C) (.type "BaseException")=some true) && (decide (PySem.W.typeIn K (.ref C)=some (.type "type")) && PySem.W.keepIn K (.ref C))))))
end L2
namespace DL
open PySem PySem.Spec PyProof.Rows L2
def xciB (K:PySem.W.Frag) (x:Str) (fs:List Str):Bool:=oexiB K (He.ga K x) && (decide (PySem.W.typeIn K (.ref (He.ma K (He.ga K x) "__init__"))=some (.type "function")) && (decide (PySem.W.findIn K (.ref (He.ga K x)) "__init__"=some (some (.ref (He.ma K (He.ga K x) "__init__")))) && fs.all fun f=>decide (PySem.W.findIn K (.ref (He.ga K x)) f=some none)))
abbrev veB:List Value:=[.type "ValueError",.type "Exception",.type "BaseException",.type "object"]
def veNew (K:PySem.W.Frag) (x:Str):Bool:=PySem.W.excInitIn K (He.ga K x) veB "ValueError.__new__"
abbrev exNames:List Str:=["InvalidFraction","InvalidText","InvalidCurve","InvalidStep","InvalidParts","InvalidStretch","UnlikeSlopes","EqualSlopes","TooMany","TooLong","InvalidPipeline","InvalidName","InvalidCommand","Cycle","Full","InUse","Unfit","Stopped","InvalidLimit","ParseError","UnknownName","UnknownClaim","NothingLeft"]
def kitN (K:PySem.W.Frag) (C:Addr) (c:Str):Option Bool:=PySem.W.kitOne K (.ref C) (.ref (He.ga K c))
def kinL (K:PySem.W.Frag) (C:Addr):List (Option Bool):=[kitN K C "RoundError",PySem.W.kitOne K (.ref C) (.type "ValueError"),kitN K C "Missing",PySem.W.kitOne K (.ref C) (.type "IndexError"),PySem.W.kitOne K (.ref C) (.type "LookupError")]
def exiB (K:PySem.W.Frag) (x:Str) (i:Nat):Bool:=xiB K (He.ga K x) && (decide (exNames.map (kitN K (He.ga K x))=(List.range 23).map fun k=>some (decide (k=i))) && decide (kinL K (He.ga K x)=[some (decide (i < 20)),some (decide (i < 20)),some (decide (i=20\/i=21)),some (decide (i=22)),some (decide (19 < i))]))
end DL
namespace LW
open PySem PySem.Spec PyProof.Rows L2 DL Mt
def top (i:Nat):Stmt:=PySem.Challenge.pw_roundmaps_k05_errors_and_their_families.main.body.getD i (.Pass ⟨0,0,0,0⟩)
section
variable {P:Program} {w:World} {K:PySem.W.Frag} {mg:Str->Option Value} {base:Heap} {Tb:List (Addr×Str)}
abbrev s_InvalidStretchu_initu:Stmt:=inClass (top 7) 0
abbrev s_InvalidPartsu_initu:Stmt:=inClass (top 6) 0
abbrev s_InvalidStepu_initu:Stmt:=inClass (top 5) 0
abbrev s_InvalidCurveu_initu:Stmt:=inClass (top 4) 0
abbrev s_InvalidTextu_initu:Stmt:=inClass (top 3) 0
abbrev s_InvalidFractionu_initu:Stmt:=inClass (top 2) 0
abbrev s_InvalidNameu_initu:Stmt:=inClass (top 13) 0
abbrev s_InvalidPipelineu_initu:Stmt:=inClass (top 12) 0
abbrev s_TooLongu_initu:Stmt:=inClass (top 11) 0
abbrev s_TooManyu_initu:Stmt:=inClass (top 10) 0
abbrev s_EqualSlopesu_initu:Stmt:=inClass (top 9) 0
abbrev s_UnlikeSlopesu_initu:Stmt:=inClass (top 8) 0
abbrev s_Stoppedu_initu:Stmt:=inClass (top 19) 0
abbrev s_Unfitu_initu:Stmt:=inClass (top 18) 0
abbrev s_InUseu_initu:Stmt:=inClass (top 17) 0
abbrev s_Fullu_initu:Stmt:=inClass (top 16) 0
abbrev s_Cycleu_initu:Stmt:=inClass (top 15) 0
abbrev s_InvalidCommandu_initu:Stmt:=inClass (top 14) 0
abbrev s_NothingLeftu_initu:Stmt:=inClass (top 25) 0
abbrev s_UnknownClaimu_initu:Stmt:=inClass (top 24) 0
abbrev s_UnknownNameu_initu:Stmt:=inClass (top 23) 0
abbrev s_ParseErroru_initu:Stmt:=inClass (top 21) 0
abbrev s_InvalidLimitu_initu:Stmt:=inClass (top 20) 0
abbrev s__law_begin:Stmt:=top 27
abbrev s__law_draw:Stmt:=top 28
abbrev s__law_pick:Stmt:=top 29
abbrev s__law_word:Stmt:=top 32
abbrev s__law_errors:Stmt:=top 33
abbrev s__law_same:Stmt:=top 30
abbrev s__law_flags:Stmt:=top 35
abbrev s__law_fields:Stmt:=top 31
abbrev s__law_by_name:Stmt:=top 34
abbrev s_law:Stmt:=top 36
end
def dd__law_begin:He.DefE:=⟨fun K=>He.fAd K ("_law_begin",none),"_law_begin","_law_begin",defArgs s__law_begin,defBody s__law_begin,defScope s__law_begin,[],[]⟩
def dd__law_draw:He.DefE:=⟨fun K=>He.fAd K ("_law_draw",none),"_law_draw","_law_draw",defArgs s__law_draw,defBody s__law_draw,defScope s__law_draw,[],[]⟩
def dd__law_pick:He.DefE:=⟨fun K=>He.fAd K ("_law_pick",none),"_law_pick","_law_pick",defArgs s__law_pick,defBody s__law_pick,defScope s__law_pick,[],[]⟩
def dd__law_word:He.DefE:=⟨fun K=>He.fAd K ("_law_word",none),"_law_word","_law_word",defArgs s__law_word,defBody s__law_word,defScope s__law_word,[],[]⟩
def dd__law_errors:He.DefE:=⟨fun K=>He.fAd K ("_law_errors",none),"_law_errors","_law_errors",defArgs s__law_errors,defBody s__law_errors,defScope s__law_errors,[],[]⟩
def dd__law_same:He.DefE:=⟨fun K=>He.fAd K ("_law_same",none),"_law_same","_law_same",defArgs s__law_same,defBody s__law_same,defScope s__law_same,[],[]⟩
def dd__law_flags:He.DefE:=⟨fun K=>He.fAd K ("_law_flags",none),"_law_flags","_law_flags",defArgs s__law_flags,defBody s__law_flags,defScope s__law_flags,[],[]⟩
def dd__law_fields:He.DefE:=⟨fun K=>He.fAd K ("_law_fields",none),"_law_fields","_law_fields",defArgs s__law_fields,defBody s__law_fields,defScope s__law_fields,[],[]⟩
def dd__law_by_name:He.DefE:=⟨fun K=>He.fAd K ("_law_by_name",none),"_law_by_name","_law_by_name",defArgs s__law_by_name,defBody s__law_by_name,defScope s__law_by_name,[],[]⟩
def dd_law:He.DefE:=⟨fun K=>He.fAd K ("law",none),"law","law",defArgs s_law,defBody s_law,defScope s_law,[],[]⟩
def dd_InvalidStretchu_initu:He.DefE:=⟨fun K=>He.fAd K ("InvalidStretch",some "__init__"),"__init__","InvalidStretch.__init__",defArgs s_InvalidStretchu_initu,defBody s_InvalidStretchu_initu,defScope s_InvalidStretchu_initu,[],[]⟩
def dd_InvalidPartsu_initu:He.DefE:=⟨fun K=>He.fAd K ("InvalidParts",some "__init__"),"__init__","InvalidParts.__init__",defArgs s_InvalidPartsu_initu,defBody s_InvalidPartsu_initu,defScope s_InvalidPartsu_initu,[],[]⟩
def dd_InvalidStepu_initu:He.DefE:=⟨fun K=>He.fAd K ("InvalidStep",some "__init__"),"__init__","InvalidStep.__init__",defArgs s_InvalidStepu_initu,defBody s_InvalidStepu_initu,defScope s_InvalidStepu_initu,[],[]⟩
def dd_InvalidCurveu_initu:He.DefE:=⟨fun K=>He.fAd K ("InvalidCurve",some "__init__"),"__init__","InvalidCurve.__init__",defArgs s_InvalidCurveu_initu,defBody s_InvalidCurveu_initu,defScope s_InvalidCurveu_initu,[],[]⟩
def dd_InvalidTextu_initu:He.DefE:=⟨fun K=>He.fAd K ("InvalidText",some "__init__"),"__init__","InvalidText.__init__",defArgs s_InvalidTextu_initu,defBody s_InvalidTextu_initu,defScope s_InvalidTextu_initu,[],[]⟩
def dd_InvalidFractionu_initu:He.DefE:=⟨fun K=>He.fAd K ("InvalidFraction",some "__init__"),"__init__","InvalidFraction.__init__",defArgs s_InvalidFractionu_initu,defBody s_InvalidFractionu_initu,defScope s_InvalidFractionu_initu,[],[]⟩
def dd_InvalidNameu_initu:He.DefE:=⟨fun K=>He.fAd K ("InvalidName",some "__init__"),"__init__","InvalidName.__init__",defArgs s_InvalidNameu_initu,defBody s_InvalidNameu_initu,defScope s_InvalidNameu_initu,[],[]⟩
def dd_InvalidPipelineu_initu:He.DefE:=⟨fun K=>He.fAd K ("InvalidPipeline",some "__init__"),"__init__","InvalidPipeline.__init__",defArgs s_InvalidPipelineu_initu,defBody s_InvalidPipelineu_initu,defScope s_InvalidPipelineu_initu,[],[]⟩
def dd_TooLongu_initu:He.DefE:=⟨fun K=>He.fAd K ("TooLong",some "__init__"),"__init__","TooLong.__init__",defArgs s_TooLongu_initu,defBody s_TooLongu_initu,defScope s_TooLongu_initu,[],[]⟩
def dd_TooManyu_initu:He.DefE:=⟨fun K=>He.fAd K ("TooMany",some "__init__"),"__init__","TooMany.__init__",defArgs s_TooManyu_initu,defBody s_TooManyu_initu,defScope s_TooManyu_initu,[],[]⟩
def dd_EqualSlopesu_initu:He.DefE:=⟨fun K=>He.fAd K ("EqualSlopes",some "__init__"),"__init__","EqualSlopes.__init__",defArgs s_EqualSlopesu_initu,defBody s_EqualSlopesu_initu,defScope s_EqualSlopesu_initu,[],[]⟩
def dd_UnlikeSlopesu_initu:He.DefE:=⟨fun K=>He.fAd K ("UnlikeSlopes",some "__init__"),"__init__","UnlikeSlopes.__init__",defArgs s_UnlikeSlopesu_initu,defBody s_UnlikeSlopesu_initu,defScope s_UnlikeSlopesu_initu,[],[]⟩
def dd_Stoppedu_initu:He.DefE:=⟨fun K=>He.fAd K ("Stopped",some "__init__"),"__init__","Stopped.__init__",defArgs s_Stoppedu_initu,defBody s_Stoppedu_initu,defScope s_Stoppedu_initu,[],[]⟩
def dd_Unfitu_initu:He.DefE:=⟨fun K=>He.fAd K ("Unfit",some "__init__"),"__init__","Unfit.__init__",defArgs s_Unfitu_initu,defBody s_Unfitu_initu,defScope s_Unfitu_initu,[],[]⟩
def dd_InUseu_initu:He.DefE:=⟨fun K=>He.fAd K ("InUse",some "__init__"),"__init__","InUse.__init__",defArgs s_InUseu_initu,defBody s_InUseu_initu,defScope s_InUseu_initu,[],[]⟩
def dd_Fullu_initu:He.DefE:=⟨fun K=>He.fAd K ("Full",some "__init__"),"__init__","Full.__init__",defArgs s_Fullu_initu,defBody s_Fullu_initu,defScope s_Fullu_initu,[],[]⟩
def dd_Cycleu_initu:He.DefE:=⟨fun K=>He.fAd K ("Cycle",some "__init__"),"__init__","Cycle.__init__",defArgs s_Cycleu_initu,defBody s_Cycleu_initu,defScope s_Cycleu_initu,[],[]⟩
def dd_InvalidCommandu_initu:He.DefE:=⟨fun K=>He.fAd K ("InvalidCommand",some "__init__"),"__init__","InvalidCommand.__init__",defArgs s_InvalidCommandu_initu,defBody s_InvalidCommandu_initu,defScope s_InvalidCommandu_initu,[],[]⟩
def dd_NothingLeftu_initu:He.DefE:=⟨fun K=>He.fAd K ("NothingLeft",some "__init__"),"__init__","NothingLeft.__init__",defArgs s_NothingLeftu_initu,defBody s_NothingLeftu_initu,defScope s_NothingLeftu_initu,[],[]⟩
def dd_UnknownClaimu_initu:He.DefE:=⟨fun K=>He.fAd K ("UnknownClaim",some "__init__"),"__init__","UnknownClaim.__init__",defArgs s_UnknownClaimu_initu,defBody s_UnknownClaimu_initu,defScope s_UnknownClaimu_initu,[],[]⟩
def dd_UnknownNameu_initu:He.DefE:=⟨fun K=>He.fAd K ("UnknownName",some "__init__"),"__init__","UnknownName.__init__",defArgs s_UnknownNameu_initu,defBody s_UnknownNameu_initu,defScope s_UnknownNameu_initu,[],[]⟩
def dd_ParseErroru_initu:He.DefE:=⟨fun K=>He.fAd K ("ParseError",some "__init__"),"__init__","ParseError.__init__",defArgs s_ParseErroru_initu,defBody s_ParseErroru_initu,defScope s_ParseErroru_initu,[],[]⟩
def dd_InvalidLimitu_initu:He.DefE:=⟨fun K=>He.fAd K ("InvalidLimit",some "__init__"),"__init__","InvalidLimit.__init__",defArgs s_InvalidLimitu_initu,defBody s_InvalidLimitu_initu,defScope s_InvalidLimitu_initu,[],[]⟩
def tf:List He.Defn:=[]
def fn:List He.DefE:=[dd__law_begin,dd__law_draw,dd__law_pick,dd__law_word,dd__law_errors,dd__law_same,dd__law_flags,dd__law_fields,dd__law_by_name,dd_law,dd_InvalidStretchu_initu,dd_InvalidPartsu_initu,dd_InvalidStepu_initu,dd_InvalidCurveu_initu,dd_InvalidTextu_initu,dd_InvalidFractionu_initu,dd_InvalidNameu_initu,dd_InvalidPipelineu_initu,dd_TooLongu_initu,dd_TooManyu_initu,dd_EqualSlopesu_initu,dd_UnlikeSlopesu_initu,dd_Stoppedu_initu,dd_Unfitu_initu,dd_InUseu_initu,dd_Fullu_initu,dd_Cycleu_initu,dd_InvalidCommandu_initu,dd_NothingLeftu_initu,dd_UnknownClaimu_initu,dd_UnknownNameu_initu,dd_ParseErroru_initu,dd_InvalidLimitu_initu]
def fa:List He.Fa:=[.glo "_law_begin",.glo "_law_draw",.glo "_law_pick",.glo "_law_word",.glo "_law_errors",.glo "_law_same",.glo "_law_flags",.glo "_law_fields",.glo "_law_by_name",.glo "law",.free "list",.free "len",.free "range",.glo "InvalidStretch",.glo "InvalidParts",.glo "InvalidStep",.glo "InvalidCurve",.glo "InvalidText",.glo "InvalidFraction",.glo "InvalidName",.glo "InvalidPipeline",.glo "TooLong",.glo "TooMany",.glo "EqualSlopes",.glo "UnlikeSlopes",.glo "Stopped",.glo "Unfit",.glo "InUse",.glo "Full",.glo "Cycle",.glo "InvalidCommand",.glo "NothingLeft",.glo "UnknownClaim",.glo "UnknownName",.glo "ParseError",.glo "InvalidLimit",.free "tuple",.free "isinstance",.free "all",.free "int",.free "bool",.free "str",.free "IndexError",.free "ValueError",.free "LookupError",.glo "Missing",.glo "RoundError"]
def exl (K:PySem.W.Frag):List Bool:=[xcB K "InvalidStretch" ["code"],veNew K "InvalidStretch",xcB K "InvalidParts" ["code"],veNew K "InvalidParts",xcB K "InvalidStep" ["code"],veNew K "InvalidStep",xcB K "InvalidCurve" ["code"],veNew K "InvalidCurve",xcB K "InvalidText" ["code"],veNew K "InvalidText",xcB K "InvalidFraction" ["code"],veNew K "InvalidFraction",xcB K "InvalidName" ["code"],veNew K "InvalidName",xcB K "InvalidPipeline" ["code"],veNew K "InvalidPipeline",xcB K "TooLong" ["code","limit"],veNew K "TooLong",xcB K "TooMany" ["code","limit"],veNew K "TooMany",xcB K "EqualSlopes" ["code"],veNew K "EqualSlopes",xcB K "UnlikeSlopes" ["code"],veNew K "UnlikeSlopes",xcB K "Stopped" ["code","index","cause"],veNew K "Stopped",xcB K "Unfit" ["code","name","cause"],veNew K "Unfit",xcB K "InUse" ["code","by"],veNew K "InUse",xcB K "Full" ["code","limit"],veNew K "Full",xcB K "Cycle" ["code","name"],veNew K "Cycle",xcB K "InvalidCommand" ["code"],veNew K "InvalidCommand",xciB K "NothingLeft" ["code"],xclB K "UnknownClaim" ["code","number"],xclB K "UnknownName" ["code","name"],xcB K "ParseError" ["code","line"],veNew K "ParseError",xcB K "InvalidLimit" ["code","limit"],veNew K "InvalidLimit",xfaB K "TooMany" ["limit"],xfaB K "TooLong" ["limit"],xfaB K "Cycle" ["name"],xfaB K "Full" ["limit"],xfaB K "InUse" ["by"],xfaB K "Unfit" ["name","cause"],xfaB K "Stopped" ["index","cause"],xfaB K "InvalidLimit" ["limit"],xfaB K "ParseError" ["line"],xfaB K "UnknownName" ["name"],xfaB K "UnknownClaim" ["number"],exiB K "InvalidFraction" 0,exiB K "InvalidText" 1,exiB K "InvalidCurve" 2,exiB K "InvalidStep" 3,exiB K "InvalidParts" 4,exiB K "InvalidStretch" 5,exiB K "UnlikeSlopes" 6,exiB K "EqualSlopes" 7,exiB K "TooMany" 8,exiB K "TooLong" 9,exiB K "InvalidPipeline" 10,exiB K "InvalidName" 11,exiB K "InvalidCommand" 12,exiB K "Cycle" 13,exiB K "Full" 14,exiB K "InUse" 15,exiB K "Unfit" 16,exiB K "Stopped" 17,exiB K "InvalidLimit" 18,exiB K "ParseError" 19,exiB K "UnknownName" 20,exiB K "UnknownClaim" 21,exiB K "NothingLeft" 22,xfaB K "InvalidFraction" [],xfaB K "InvalidText" [],xfaB K "InvalidCurve" [],xfaB K "InvalidStep" [],xfaB K "InvalidParts" [],xfaB K "InvalidStretch" [],xfaB K "UnlikeSlopes" [],xfaB K "EqualSlopes" [],xfaB K "InvalidPipeline" [],xfaB K "InvalidName" [],xfaB K "InvalidCommand" [],xfaB K "NothingLeft" []]
def exB (K:PySem.W.Frag):Bool:=(exl K).all _root_.id
abbrev R:PySem.W.OpenRow:=PySem.W.OpenLaw.row PySem.Challenge.rw_roundmaps_k05_errors_and_their_families
def as_:List Addr:=[2,3,6,4,31,51,70,89,108,127,146,165,184,203,222,241,260,279,298,317,336,355,374,393,412,431,451,470,489,499,506,513,518,525,530,537,544,551,556,0,30,50,69,88,107,126,145,164,183,202] ++ [221,240,259,278,297,316,335,354,373,392,411,430,450,469,488,498,505,512,517,524,529,536,543,550,555,28,29,32,48,49,67,68,86,87,105,106,124,125,143,144,162,163,181,182,200,201,219,220,238,239] ++ [257,258,276,277,295,296,314,315,333,334,352,353,371,372,390,391,409,410,428,429,432,448,449,467,468,486,553,554,27,47,66,85,104,123,142,161,180,199,218,237,256,275,294,313,332,351,370,389,408,427] ++ [447,466,485,22,23,24]
abbrev hk:PySem.W.Hook:=He.hookZ as_ fa fn tf exB
def ob (s:PySem.W.SharedT):He.AlYX:=He.obsZ as_ fa fn tf exB (HandSHeadRun.getT s)
open PySem.W in
theorem run1 (w:World):He.LookEq R 8000 w (fun s=>(HandSHeadRun.looksF R.prog (boot_heap (w).params) s.abs,HandSHeadRun.seenQ (PySem.W.view R.prog [36]) ("_law_begin" :: "_law_draw" :: "_law_pick" :: "_law_same" :: "_law_fields" :: "_law_word" :: "_law_errors" :: "_law_by_name" :: "_law_flags" :: "RoundError" :: "InvalidFraction" :: "InvalidText" :: "InvalidCurve" :: "InvalidStep" :: "InvalidParts" :: "InvalidStretch" :: "UnlikeSlopes" :: "EqualSlopes" :: "TooMany" :: "TooLong" :: "InvalidPipeline" :: "InvalidName" :: "InvalidCommand" :: "Cycle" :: "Full" :: "InUse" :: "Unfit" :: "Stopped" :: "InvalidLimit" :: "ParseError" :: "Missing" :: "UnknownName" :: "UnknownClaim" :: "NothingLeft" :: []) (importedModules R.prog.main.body) (fun s=>xlAt (PySem.W.view R.prog [36]) [] s && recOk R.toRowW.records s) s.abs)) (true,openGood (PySem.W.view R.prog [36]) ("_law_begin" :: "_law_draw" :: "_law_pick" :: "_law_same" :: "_law_fields" :: "_law_word" :: "_law_errors" :: "_law_by_name" :: "_law_flags" :: "RoundError" :: "InvalidFraction" :: "InvalidText" :: "InvalidCurve" :: "InvalidStep" :: "InvalidParts" :: "InvalidStretch" :: "UnlikeSlopes" :: "EqualSlopes" :: "TooMany" :: "TooLong" :: "InvalidPipeline" :: "InvalidName" :: "InvalidCommand" :: "Cycle" :: "Full" :: "InUse" :: "Unfit" :: "Stopped" :: "InvalidLimit" :: "ParseError" :: "Missing" :: "UnknownName" :: "UnknownClaim" :: "NothingLeft" :: [])):=by
 intro os
 kernel_rfl
open PySem.W in
theorem run2a (w:World):He.LookEq R 8000 w (fun s=>(fa.all fun f=>f.ok (He.frT (HandSHeadRun.getT s) as_)) && He.tabsB (HandSHeadRun.getT s) tf (He.frT (HandSHeadRun.getT s) as_)) true:=by
 intro os
 kernel_rfl
open PySem.W in
theorem run2b (w:World):He.LookEq R 8000 w (fun s=>((fn.all fun d=>d.ok (He.frT (HandSHeadRun.getT s) as_)),fn.map fun d=>He.fnE (He.frT (HandSHeadRun.getT s) as_) (d.at_ (He.frT (HandSHeadRun.getT s) as_)))) (true,fn.map He.DefE.val):=by
 intro os
 kernel_rfl
open PySem.W in
theorem run2c (w:World):He.LookEq R 8000 w (fun s=>exB (He.frT (HandSHeadRun.getT s) as_)) true:=by
 intro os
 kernel_rfl
theorem run2 (w:World):He.LookEq R 8000 w ob (hk.val w):=He.LookEq.obsZ (run2a w) (run2b w) (run2c w)
theorem run (w:World):HandSHeadRun.RunEq R (PySem.W.view R.prog [36]) hk ob 8000 ("_law_begin" :: "_law_draw" :: "_law_pick" :: "_law_same" :: "_law_fields" :: "_law_word" :: "_law_errors" :: "_law_by_name" :: "_law_flags" :: "RoundError" :: "InvalidFraction" :: "InvalidText" :: "InvalidCurve" :: "InvalidStep" :: "InvalidParts" :: "InvalidStretch" :: "UnlikeSlopes" :: "EqualSlopes" :: "TooMany" :: "TooLong" :: "InvalidPipeline" :: "InvalidName" :: "InvalidCommand" :: "Cycle" :: "Full" :: "InUse" :: "Unfit" :: "Stopped" :: "InvalidLimit" :: "ParseError" :: "Missing" :: "UnknownName" :: "UnknownClaim" :: "NothingLeft" :: []) w:=by
 intro os
 have h1:=run1 w os
 have h2:=run2 w os
 generalize HandSHeadRun.endF _ _ _ _ _=x at h1 h2 ⊢
 cases x with
 | none=>cases h1
 | some s =>
  have h1:=Option.some.inj h1
  have h2:=Option.some.inj h2
  exact congrArg some (Prod.ext (Prod.mk.inj h1).1 (Prod.ext (Prod.mk.inj h1).2 h2))
end LW
open PySem PySem.W PySem.Calls PyProof.Rows
namespace DL
open PySem PySem.Spec PyProof.Rows L2
def Al.push (al:Al) (p:Addr):Al:=⟨al.a ++ [p],al.h⟩
def Al.cut (al:Al) (n:Nat):Al:=⟨al.a.take n,al.h⟩
theorem SqTz.sq {K:PySem.W.Frag} {al:Al} {M:Mem} {H:Hp} {a:Addr} {xs:List V} (h:SqTz K al M H a xs):SqT K H a xs:=by
 rcases h with ⟨h,_⟩ | h
 ·exact .inl (.inl h)
 ·rcases h with (h | ⟨o,h⟩) | h
  ·cases h
  ·cases h
  ·exact .inr h
theorem SqLz.sq {K:PySem.W.Frag} {al:Al} {M:Mem} {H:Hp} {a:Addr} {xs:List V} (h:SqLz K al M H a xs):SqL K H a xs:=by
 rcases h with ⟨h,_⟩ | h
 ·exact .inl h
 ·rcases h with (h | ⟨o,h⟩) | h
  ·cases h
  ·cases h
  ·exact .inr h
theorem Stp.refl (al:Al) (M:Mem) (H:Hp):Stp al M H al M H:=⟨fun _ _ h=>h,fun _ _ h _ f=>⟨h,f⟩,rfl,fun _ _=>rfl⟩
section
variable {K:PySem.W.Frag} {al:Al} {M:Mem} {H:Hp}
theorem Rps.get:∀ {ds:List D} {xs:List V} {i:Nat} {d:D},Rps K al M H ds xs->ds[i]?=some d->∃ x,xs[i]?=some x/\Rp K al M H d x
 | [],_,_,_,_,e=>by simp at e
 | d :: ds,_,0,_,h,e=>by
  obtain ⟨x,r,q,t,_⟩:=h
  subst q
  simp at e
  subst e
  exact ⟨x,rfl,t⟩
 | d :: ds,_,i+1,_,h,e=>by
  obtain ⟨x,r,q,_,t⟩:=h
  subst q
  obtain ⟨y,h1,h2⟩:=Rps.get (i:=i) t (by simpa using e)
  exact ⟨y,by simpa using h1,h2⟩
end
theorem RpS.wipe1 {K:PySem.W.Frag} {al:Al} {M:Mem} {H:Hp} {σ:L2.St} {rho:Rho} (h:RpS K al M H σ rho) (i:Nat) {v:Option V}:RpS K al M H (σ.set i v) (rho.set i none):=by
 refine ⟨by simpa using h.1,fun j e q=>?_⟩
 by_cases hj:i=j
 ·subst hj
  rw [List.getElem?_set] at q
  simp at q
 ·rw [List.getElem?_set_ne hj] at q ⊢
  exact h.2 j e q
abbrev TTD:=XD->Rho->Mem->(Bool->Mem->Prop)->Prop
abbrev TAD:=XD->Rho->Mem->(List D->Mem->Prop)->Prop
abbrev TSD:=XD->DEnds->Rho->Mem->Prop
def lift (K:PySem.W.Frag) (Tb:List (Addr×Str)) (EV:XK) (t:TED):TE:=fun σ H QV=>∃ al rho M E Q,At K Tb EV al σ H rho M E/\t E rho M Q/\PostV K Tb al M H Q QV
def liftT (K:PySem.W.Frag) (Tb:List (Addr×Str)) (EV:XK) (t:TTD):TT:=fun σ H QV=>∃ al rho M E Q,At K Tb EV al σ H rho M E/\t E rho M Q/\PostT K Tb al M H Q QV
def liftA (K:PySem.W.Frag) (Tb:List (Addr×Str)) (EV:XK) (t:TAD):TA:=fun σ H QV=>∃ al rho M E Q,At K Tb EV al σ H rho M E/\t E rho M Q/\PostA K Tb al M H Q QV
def liftS (K:PySem.W.Frag) (Tb:List (Addr×Str)) (EV:XK) (t:TSD):TS:=fun DV σ H=>∃ al rho M E DD,At K Tb EV al σ H rho M E/\t E DD rho M/\PostE K Tb al M H DD DV
section
variable {X:Cx} {Tb:List (Addr×Str)} {EV:XK}
abbrev PD (X:Cx) (Tb:List (Addr×Str)) (EV:XK) (e:Expr) (t:TED):Prop:=PE X e (lift X.K Tb EV t)
abbrev PDT (X:Cx) (Tb:List (Addr×Str)) (EV:XK) (e:Expr) (t:TTD):Prop:=PT X e (liftT X.K Tb EV t)
abbrev PDA (X:Cx) (Tb:List (Addr×Str)) (EV:XK) (es:List Expr) (t:TAD):Prop:=PA X es (liftA X.K Tb EV t)
abbrev PDS (X:Cx) (Tb:List (Addr×Str)) (EV:XK) (st:Stmt) (t:TSD):Prop:=PS X st (liftS X.K Tb EV t)
abbrev PDSs (X:Cx) (Tb:List (Addr×Str)) (EV:XK) (st:List Stmt) (t:TSD):Prop:=PSs X st (liftS X.K Tb EV t)
theorem pe_imp {e:Expr} {t t':TE} (h:PE X e t) (w:∀ σ H Q,t' σ H Q->t σ H Q):PE X e t':=⟨fun pins s σ H Q I q=>h.run pins s σ H Q I (w σ H Q q)⟩
theorem pt_imp {e:Expr} {t t':TT} (h:PT X e t) (w:∀ σ H Q,t' σ H Q->t σ H Q):PT X e t':=⟨fun pins s σ H Q I q=>h.run pins s σ H Q I (w σ H Q q)⟩
theorem pw_imp {e:Expr} {t t':TT} (h:PW X e t) (w:∀ σ H Q,t' σ H Q->t σ H Q):PW X e t':=⟨fun wh pins s σ H Q I q=>h.run wh pins s σ H Q I (w σ H Q q)⟩
theorem pa_imp {e:List Expr} {t t':TA} (h:PA X e t) (w:∀ σ H Q,t' σ H Q->t σ H Q):PA X e t':=⟨fun pos pins s σ H Q I q=>h.run pos pins s σ H Q I (w σ H Q q)⟩
theorem ps_imp {e:Stmt} {t t':TS} (h:PS X e t) (w:∀ D σ H,t' D σ H->t D σ H):PS X e t':=⟨fun pins s σ H D I q=>h.run pins s σ H D I (w D σ H q)⟩
theorem pss_imp {e:List Stmt} {t t':TS} (h:PSs X e t) (w:∀ D σ H,t' D σ H->t D σ H):PSs X e t':=⟨fun pins s σ H D I q=>h.run pins s σ H D I (w D σ H q)⟩
end
mutual
theorem hideRp {K:PySem.W.Frag} {al al':Al} {M:Mem} {H H':Hp} (fz:∀ b o,H b=some o->Fz al M b->Fz al' M b) (up:∀ b o,H b=some o->Fz al M b->H' b=some o) (ha:al'.a=al.a:=by rfl):∀ (d:D) (v:V),Rp K al M H d v->Rp K al' M H' d v
 | .non,_,h=>h
 | .bl _,_,h=>h
 | .int _,_,h=>h
 | .str _,_,h=>h
 | .ty _,_,h=>h
 | .lam _ _,_,h=>⟨h.1,fun x hx=>⟨up _ _ (h.2 x hx).1 (h.2 x hx).2,fz _ _ (h.2 x hx).1 (h.2 x hx).2⟩⟩
 | .ref _,_,h=>h
 | .mt i,_,h=>by
  obtain ⟨a,e,q⟩:=h
  exact ⟨a,by rw [ha];exact e,q⟩
 | .tup ds,_,h=>by
  obtain ⟨a,xs,e,q,r⟩:=h
  refine ⟨a,xs,e,?_,hideRps fz up ha _ _ r⟩
  rcases q with ⟨q,f⟩ | q
  ·exact .inl ⟨up _ _ q f,fz _ _ q f⟩
  ·exact .inr q
 | .rol ds,_,h=>by
  obtain ⟨a,xs,e,q,r⟩:=h
  refine ⟨a,xs,e,?_,hideRps fz up ha _ _ r⟩
  rcases q with ⟨q | ⟨o,q⟩,f⟩ | q
  ·exact .inl ⟨.inl (up _ _ q f),fz _ _ q f⟩
  ·exact .inl ⟨.inr ⟨o,up _ _ q f⟩,fz _ _ q f⟩
  ·exact .inr q
 | .lst ds,_,h=>by
  obtain ⟨a,xs,e,q,f,r⟩:=h
  exact ⟨a,xs,e,up _ _ q f,fz _ _ q f,hideRps fz up ha _ _ r⟩
 | .obj C ns ds,_,h=>by
  obtain ⟨a,dx,xs,e,q,f,l,r⟩:=h
  exact ⟨a,dx,xs,e,up _ _ q f,fz _ _ q f,l,hideRps fz up ha _ _ r⟩
 | .dk C ds,_,h=>by
  obtain ⟨a,dx,xs,e,q,f,l,r⟩:=h
  exact ⟨a,dx,xs,e,up _ _ q f,fz _ _ q f,l,hideRps fz up ha _ _ r⟩
 | .dt C ds,_,h=>by
  obtain ⟨a,dx,xs,e,q,f,l,r⟩:=h
  exact ⟨a,dx,xs,e,up _ _ q f,fz _ _ q f,l,hideRps fz up ha _ _ r⟩
 | .exc C ns ds,_,h=>by
  obtain ⟨a,dx,xs,e,q,f,q2,f2,l,r⟩:=h
  exact ⟨a,dx,xs,e,up _ _ q f,fz _ _ q f,up _ _ q2 f2,fz _ _ q2 f2,l,hideRps fz up ha _ _ r⟩
theorem hideRps {K:PySem.W.Frag} {al al':Al} {M:Mem} {H H':Hp} (fz:∀ b o,H b=some o->Fz al M b->Fz al' M b) (up:∀ b o,H b=some o->Fz al M b->H' b=some o) (ha:al'.a=al.a:=by rfl):∀ (d:List D) (v:List V),Rps K al M H d v->Rps K al' M H' d v
 | [],_,h=>h
 | d :: ds,_,h=>by
  obtain ⟨x,r,e,q,t⟩:=h
  exact ⟨x,r,e,hideRp fz up ha d x q,hideRps fz up ha ds r t⟩
end
section
variable {K:PySem.W.Frag} {Tb:List (Addr×Str)} {al:Al} {M:Mem} {H:Hp} {p a:Addr}
theorem stp_new (w:Wf K Tb al H M) (hp:H p=none) (u:HO):Stp al M H al M (upd H p u) :=
 ⟨fun _ _ h=>h,fun b o h _ f=>⟨by rw [upd_ne (ne_of_none h hp)];exact h,f⟩,rfl,fun b hb=>upd_ne fun z=>w.nohid hp (z ▸ hb)⟩
theorem wf_new (w:Wf K Tb al H M) (hp:H p=none) (u:HO):Wf K Tb al (upd H p u) M :=
 ⟨w.len,w.nd,fun i b mo h1 h2=>(w.rep i b mo h1 h2).mono (stp_new w hp u) fun o h=>by rw [upd_ne (ne_of_none h hp)];exact h,
  fun i b h=>let ⟨o,h1,h2⟩:=w.there i b h;⟨o,by rw [upd_ne (ne_of_none h1 hp)];exact h1,h2⟩,w.tb.ext fun b o h=>by rw [upd_ne (ne_of_none h hp)];exact h,
  fun b hb=>let ⟨xs,h,z⟩:=w.hth b hb;⟨xs,by rw [upd_ne (ne_of_none h hp)];exact h,z⟩,w.hdis⟩
theorem rp_tup (w:Wf K Tb al H M) (hp:H p=none) {ds:List D} {xs:List V} (r:Rps K al M H ds xs):Rp K al M (upd H p (.tup xs)) (.tup ds) (.ref p) :=
 ⟨p,xs,rfl,.inl ⟨upd_same,w.fresh hp⟩,r.mono (stp_new w hp _)⟩
theorem rp_lst (w:Wf K Tb al H M) (hp:H p=none) {ds:List D} {xs:List V} (r:Rps K al M H ds xs):Rp K al M (upd H p (.lst xs)) (.lst ds) (.ref p) :=
 ⟨p,xs,rfl,upd_same,w.fresh hp,r.mono (stp_new w hp _)⟩
theorem stp_mut (w:Wf K Tb al H M) (hp:H p=none) (u:HO) (mo:MO):Stp al M H (al.push p) (M ++ [some mo]) (upd H p u):=by
 refine ⟨fun i b h=>by show (al.a ++ [p])[i]?=_;rw [List.getElem?_append_left (List.getElem?_eq_some_iff.mp h).1];exact h,fun b o h _ f=>⟨by rw [upd_ne (ne_of_none h hp)];exact h,f.1,fun i m e1 e2=>?_⟩,rfl,fun b hb=>upd_ne fun z=>w.nohid hp (z ▸ hb)⟩
 have e1:(al.a ++ [p])[i]?=some b:=e1
 by_cases hi:i < al.a.length
 ·rw [List.getElem?_append_left hi] at e1
  rw [List.getElem?_append_left (by rw [<- w.len];exact hi)] at e2
  exact f.2 i m e1 e2
 ·rw [List.getElem?_append_right (by omega)] at e1
  have:b=p:=by
   cases hk:i - al.a.length with
   | zero=>rw [hk] at e1;simpa using e1.symm
   | succ k=>rw [hk] at e1;simp at e1
  subst this
  rw [hp] at h;cases h
theorem push_cases {i:Nat} {b:Addr} (e:(al.push p).a[i]?=some b):(i < al.a.length/\al.a[i]?=some b)\/(i=al.a.length/\b=p):=by
 have e:(al.a ++ [p])[i]?=some b:=e
 by_cases hi:i < al.a.length
 ·rw [List.getElem?_append_left hi] at e
  exact .inl ⟨hi,e⟩
 ·have hi':i=al.a.length:=by
   have:=(List.getElem?_eq_some_iff.mp e).1
   simp at this;omega
  subst hi'
  simp at e
  exact .inr ⟨rfl,e.symm⟩
theorem wf_mut (w:Wf K Tb al H M) (hp:H p=none) {u:HO} {mo:MO} (hu:∀ ps,u≠.tbl ps) (r:RpM K (al.push p) (M ++ [some mo]) (upd H p u) p mo):Wf K Tb (al.push p) (upd H p u) (M ++ [some mo]):=by
 have hn:p ∉ al.a:=fun hm=>by
  obtain ⟨i,hi⟩:=List.getElem?_of_mem hm
  obtain ⟨o,h,_⟩:=w.there i p hi
  rw [hp] at h;cases h
 refine ⟨by simp [w.len,Al.push],?_,fun i b m e1 e2=>?_,fun i b e1=>?_,w.tb.ext fun b o h=>by rw [upd_ne (ne_of_none h hp)];exact h,fun b hb=>?_,fun i b m e1 e2=>?_⟩
 ·show (al.a ++ [p]).Nodup
  rw [List.nodup_append]
  exact ⟨w.nd,by simp,fun x hx y hy=>by simp at hy;subst hy;exact fun z=>hn (z ▸ hx)⟩
 ·rcases push_cases e1 with ⟨hi,e1⟩ | ⟨hi,rfl⟩
  ·rw [List.getElem?_append_left (by rw [<- w.len];exact hi)] at e2
   exact (w.rep i b m e1 e2).mono (stp_mut w hp u mo) fun o h=>by rw [upd_ne (ne_of_none h hp)];exact h
  ·subst hi
   rw [w.len] at e2
   simp at e2
   subst e2
   exact r
 ·rcases push_cases e1 with ⟨hi,e1⟩ | ⟨hi,rfl⟩
  ·obtain ⟨o,h1,h2⟩:=w.there i b e1
   exact ⟨o,by rw [upd_ne (ne_of_none h1 hp)];exact h1,h2⟩
  ·exact ⟨u,upd_same,hu⟩
 ·obtain ⟨xs,h,z⟩:=w.hth b hb
  exact ⟨xs,by rw [upd_ne (ne_of_none h hp)];exact h,z⟩
 ·rcases push_cases e1 with ⟨hi,e1⟩ | ⟨hi,rfl⟩
  ·rw [List.getElem?_append_left (by rw [<- w.len];exact hi)] at e2
   exact w.hdis i b m e1 e2
  ·exact w.nohid hp
theorem al_last (w:Wf K Tb al H M):(al.push p).a[M.length]?=some p:=by show (al.a ++ [p])[M.length]?=some p;rw [<- w.len];simp
theorem stp_set (w:Wf K Tb al H M) {i:Nat} {mo mo':MO} (hi:al.a[i]?=some a) (hm:M[i]?=some (some mo)) (u:HO):Stp al M H al (M.set i (some mo')) (upd H a u):=by
 refine ⟨fun _ _ h=>h,fun b o h _ f=>?_,rfl,fun b hb=>upd_ne fun z=>w.hdis i a mo hi hm (z ▸ hb)⟩
 have hb:b≠a:=fun z=>by subst z;exact f.2 i mo hi hm
 refine ⟨by rw [upd_ne hb];exact h,f.1,fun j m e1 e2=>?_⟩
 by_cases hj:i=j
 ·subst hj
  rw [hi] at e1
  exact hb (Option.some.inj e1).symm
 ·rw [List.getElem?_set_ne hj] at e2
  exact f.2 j m e1 e2
theorem wf_set (w:Wf K Tb al H M) {i:Nat} {mo mo':MO} (hi:al.a[i]?=some a) (hm:M[i]?=some (some mo)) {u:HO} (hu:∀ ps,u≠.tbl ps) (r:RpM K al (M.set i (some mo')) (upd H a u) a mo') (ht:∀ c q,H a≠some (LamX.CodeO c q)) :
  Wf K Tb al (upd H a u) (M.set i (some mo')):=by
 obtain ⟨oa,hoa,hoa'⟩:=w.there i a hi
 refine ⟨by simp [w.len],w.nd,fun j b m e1 e2=>?_,fun j b e1=>?_,fun q hq=>?_,fun b hb=>?_,fun j b m e1 e2=>?_⟩
 ·by_cases hj:i=j
  ·subst hj
   rw [hi] at e1;cases e1
   rw [List.getElem?_set_self (List.getElem?_eq_some_iff.mp hm).1] at e2
   cases e2
   exact r
  ·rw [List.getElem?_set_ne hj] at e2
   have hb:b≠a:=fun z=>by
    subst z
    exact hj ((List.getElem?_inj (List.getElem?_eq_some_iff.mp hi).1 w.nd).mp (hi.trans e1.symm))
   exact (w.rep j b m e1 e2).mono (stp_set w hi hm u) fun o h=>by rw [upd_ne hb];exact h
 ·by_cases hb:b=a
  ·subst hb;exact ⟨u,upd_same,hu⟩
  ·obtain ⟨o,h1,h2⟩:=w.there j b e1
   exact ⟨o,by rw [upd_ne hb];exact h1,h2⟩
 ·obtain ⟨ps,h1,h2,h3⟩:=w.tb q hq
  refine ⟨ps,?_,h2,fun pos cv hc=>?_⟩
  ·rw [upd_ne fun z=>?_]
   ·exact h1
   ·rw [z,hoa] at h1
    exact hoa' ps (Option.some.inj h1)
  ·obtain ⟨c,e1,e2⟩:=h3 pos cv hc
   refine ⟨c,e1,?_⟩
   rw [upd_ne fun z=>?_]
   ·exact e2
   ·rw [z] at e2
    exact ht _ _ e2
 ·obtain ⟨xs,h,hz⟩:=w.hth b hb
  exact ⟨xs,by rw [upd_ne (fun (z:b=a)=>w.hdis i a mo hi hm (z ▸ hb))];exact h,hz⟩
 ·by_cases hj:i=j
  ·subst hj
   rw [hi] at e1;cases e1
   exact w.hdis _ _ _ hi hm
  ·rw [List.getElem?_set_ne hj] at e2
   exact w.hdis j b m e1 e2
def Al.hide (al:Al) (p:Addr):Al:=⟨al.a,p :: al.h⟩
theorem hide_stp (w:Wf K Tb al H M) (hp:H p=none) (u:HO) (hu:HidO p u):Wf K Tb (al.hide p) (upd H p u) M/\(∀ (d:D) (v:V),Rp K al M H d v->Rp K (al.hide p) M (upd H p u) d v):=by
 have fz':∀ b o,H b=some o->Fz al M b->Fz (al.hide p) M b:=fun b o h f=>⟨fun hm=>by
  rcases List.mem_cons.mp hm with z | z
  ·exact absurd (z ▸ h) (by rw [hp];intro q;cases q)
  ·exact f.1 z,f.2⟩
 have up:∀ b o,H b=some o->upd H p u b=some o:=fun b o h=>by rw [upd_ne (ne_of_none h hp)];exact h
 have all:(∀ (d:D) (v:V),Rp K al M H d v->Rp K (al.hide p) M (upd H p u) d v):=hideRp fz' fun b o h _=>up b o h
 have alls:(∀ (d:List D) (v:List V),Rps K al M H d v->Rps K (al.hide p) M (upd H p u) d v):=hideRps fz' fun b o h _=>up b o h
 refine ⟨⟨w.len,w.nd,fun i b mo e1 e2=>?_,fun i b e=>?_,w.tb.ext up,fun b hb=>?_,fun i b mo e1 e2 hm=>?_⟩,all⟩
 ·have r:=w.rep i b mo e1 e2
  cases mo with
  | lst ds=>obtain ⟨ys,h1,h2⟩:=r;exact ⟨ys,up _ _ h1,alls _ _ h2⟩
  | dK kvs=>obtain ⟨ys,h1,h2⟩:=r;exact ⟨ys,up _ _ h1,h2.1,alls _ _ h2.2⟩
  | dT ks ds=>obtain ⟨ys,h1,h2⟩:=r;exact ⟨ys,up _ _ h1,h2.1,alls _ _ h2.2⟩
  | ins C fs=>obtain ⟨dx,ys,h1,h2⟩:=r;exact ⟨dx,ys,up _ _ h1,h2.1,alls _ _ h2.2⟩
 ·obtain ⟨o,h1,h2⟩:=w.there i b e
  exact ⟨o,up _ _ h1,h2⟩
 ·rcases List.mem_cons.mp hb with z | z
  ·exact ⟨u,by rw [z];exact upd_same,z ▸ hu⟩
  ·obtain ⟨ys,h,q⟩:=w.hth b z
   exact ⟨ys,up _ _ h,q⟩
 ·rcases List.mem_cons.mp hm with z | z
  ·obtain ⟨o,h,_⟩:=w.there i b e1
   rw [z,hp] at h;cases h
  ·exact w.hdis i b mo e1 e2 z
end
section
variable {K:PySem.W.Frag} {Tb:List (Addr×Str)} {EV:XK} {al:Al} {σ:L2.St} {H:Hp} {rho:Rho} {M:Mem} {E:XD}
theorem seq1 {ta:TED} {R:VD} {RV:VK} (a:At K Tb EV al σ H rho M E) (h:ta E rho M R)
  (k:∀ al1 x M1 vx H1,Stp al M H al1 M1 H1->At K Tb EV al1 σ H1 rho M1 E->Rp K al1 M1 H1 x vx->R x M1->RV vx H1):lift K Tb EV ta σ H RV :=
 ⟨al,rho,M,E,R,a,h,fun al' d M' v H' s w r q=>k al' d M' v H' s (a.go s w) r q⟩
theorem seqT {ta:TTD} {R:Bool->Mem->Prop} {RV:Bool->Hp->Prop} (a:At K Tb EV al σ H rho M E) (h:ta E rho M R)
  (k:∀ al1 b M1 H1,Stp al M H al1 M1 H1->At K Tb EV al1 σ H1 rho M1 E->R b M1->RV b H1):liftT K Tb EV ta σ H RV :=
 ⟨al,rho,M,E,R,a,h,fun al' d M' H' s w q=>k al' d M' H' s (a.go s w) q⟩
theorem seqA {ta:TAD} {R:List D->Mem->Prop} {RV:List V->Hp->Prop} (a:At K Tb EV al σ H rho M E) (h:ta E rho M R)
  (k:∀ al1 x M1 vx H1,Stp al M H al1 M1 H1->At K Tb EV al1 σ H1 rho M1 E->Rps K al1 M1 H1 x vx->R x M1->RV vx H1):liftA K Tb EV ta σ H RV :=
 ⟨al,rho,M,E,R,a,h,fun al' d M' v H' s w r q=>k al' d M' v H' s (a.go s w) r q⟩
end
def dVar (i:Nat):TED:=fun _ rho M Q=>match rho[i]? with
 | some (some d)=>Q d M
 | _=>False
abbrev dC (d:D):TED:=fun _ _ M Q=>Q d M
section
variable {X:Cx} {Tb:List (Addr×Str)} {EV:XK}
theorem dv_var (i:Nat) {x:Str} {pos:Pos} (hN:X.N[i]?=some x:=by rfl) (hv:Vis X.env.scope x:=by first | exact Or.inl rfl | exact Or.inr (Or.inl rfl) | exact Or.inr (Or.inr rfl)) (hd:(x == ("__debug__":Str))=false:=by decide)
  (hcd:(x == ("__classdict__":Str))=false:=by decide):PD X Tb EV (.Name x pos) (dVar i):=pe_imp (pe_var (i:=i) hN hv hd hcd) fun σ H QV h=>by
 obtain ⟨al,rho,M,E,Q,a,t,p⟩:=h
 unfold dVar at t
 split at t
 ·rename_i d e
  obtain ⟨v,e1,r⟩:=a.sl.2 i d e
  exact ⟨v,e1,p al d M v H (Stp.refl ..) a.wf r t⟩
 ·exact t.elim
theorem dv_of_tC {e:Expr} {v:V} {d:D} (h:PE X e (tC v)) (r:∀ al M H,Rp X.K al M H d v):PD X Tb EV e (dC d):=pe_imp h fun σ H QV q=>by
 obtain ⟨al,rho,M,E,Q,a,t,p⟩:=q
 exact p al d M v H (Stp.refl ..) a.wf (r _ _ _) t
theorem dv_int {i:Int} {j pos}:PD X Tb EV (.Constant (.int i) j pos) (dC (.int i)):=dv_of_tC pe_int fun _ _ _=>rfl
theorem dv_bl {b:Bool} {j pos}:PD X Tb EV (.Constant (.bool b) j pos) (dC (.bl b)):=dv_of_tC pe_bl fun _ _ _=>rfl
theorem dv_non {j pos}:PD X Tb EV (.Constant .none j pos) (dC .non):=dv_of_tC pe_non fun _ _ _=>rfl
theorem dv_str {x:Str} {j pos}:PD X Tb EV (.Constant (.str x) j pos) (dC (.str x)):=dv_of_tC pe_str fun _ _ _=>rfl
theorem dv_glob {x:Str} {v:V} {u:Value} {d:D} {pos:Pos} (hg:Gl X x) (hm:X.mg x=some u) (rv:RelV v u) (r:∀ al M H,Rp X.K al M H d v) (hd:(x == ("__debug__":Str))=false:=by decide):PD X Tb EV (.Name x pos) (dC d):=dv_of_tC (pe_glob hg hm rv hd) r
theorem dv_bltn {x:Str} {v:V} {u:Value} {d:D} {pos:Pos} (hg:Gl X x) (hm:X.mg x=none) (hv:bootBuiltins x=some u) (rv:RelV v u) (r:∀ al M H,Rp X.K al M H d v) (hn:x≠"__name__":=by decide) (hd:(x == ("__debug__":Str))=false:=by decide):PD X Tb EV (.Name x pos) (dC d):=dv_of_tC (pe_bltn hg hm hv rv hn hd) r
end
abbrev RD2:=D->D->Mem->VD->Prop
def RefOp (K:PySem.W.Frag) (Tb:List (Addr×Str)) (r:R2) (rD:RD2):Prop :=
 ∀ al M H x y dx dy Q QV,Wf K Tb al H M->Rp K al M H dx x->Rp K al M H dy y->rD dx dy M Q->PostV K Tb al M H Q QV->r x y H QV
abbrev dOp (rD:RD2) (ta tb:TED):TED:=fun E rho M Q=>ta E rho M fun x M1=>tb E rho M1 fun y M2=>rD x y M2 Q
section
variable {X:Cx} {Tb:List (Addr×Str)} {EV:XK} {a b c:Expr} {ta tb tc:TED} {pos:Pos}
theorem op_lift {r:R2} {rD:RD2} (hr:RefOp X.K Tb r rD) {σ:L2.St} {H:Hp} {QV:VK} (h:lift X.K Tb EV (dOp rD ta tb) σ H QV):tOp r (lift X.K Tb EV ta) (lift X.K Tb EV tb) σ H QV:=by
 obtain ⟨al,rho,M,E,Q,a,t,p⟩:=h
 refine seq1 a t fun al1 x M1 vx H1 s1 a1 r1 q1=>seq1 a1 q1 fun al2 y M2 vy H2 s2 a2 r2 q2=>?_
 exact hr al2 M2 H2 vx vy x y Q QV a2.wf (r1.mono s2) r2 q2 (p.mono (s1.trans s2))
theorem dv_op {op:Operator} {r:R2} {rD:RD2} (ho:OpR X (binaryOp op) r) (hr:RefOp X.K Tb r rD) (ha:PD X Tb EV a ta) (hb:PD X Tb EV b tb):PD X Tb EV (.BinOp a op b pos) (dOp rD ta tb) :=
 pe_imp (pe_op ho ha hb) fun _ _ _ h=>op_lift hr h
theorem dv_cmp {op:CmpOp} {r:R2} {rD:RD2} (ho:OpR X (compareOp op) r) (hr:RefOp X.K Tb r rD) (ha:PD X Tb EV a ta) (hb:PD X Tb EV b tb) (hm:behindInMarks op b=false):PD X Tb EV (.Compare a [op] [b] pos) (dOp rD ta tb) :=
 pe_imp (pe_cmpR ho ha hb hm) fun _ _ _ h=>op_lift hr h
abbrev dB (t:TED):TTD:=fun E rho M Q=>t E rho M fun x M1=>match x with
 | .bl k=>Q k M1
 | _=>False
theorem dt_cmp {op:CmpOp} {r:R2} {rD:RD2} (ho:OpR X (compareOp op) r) (hr:RefOp X.K Tb r rD) (ha:PD X Tb EV a ta) (hb:PD X Tb EV b tb) (hm:behindInMarks op b=false):PDT X Tb EV (.Compare a [op] [b] pos) (dB (dOp rD ta tb)) :=
 pt_imp (pt_cmpR ho ha hb hm) fun σ H QV h=>by
  obtain ⟨al,rho,M,E,Q,a,t,p⟩:=h
  refine op_lift hr ⟨al,rho,M,E,_,a,t,fun al' d M' v H' s w r q=>?_⟩
  cases d with
  | bl k=>exact ⟨k,r,p _ _ _ _ s w q⟩
  | _=>exact (show False from q).elim
end
def CDivX (j:Int):Prop:=j≠0/\j.natAbs.log2 < 9000
theorem op_fdivX {X:Cx}:OpR X (binaryOp .FloorDiv) (rI (fun _ j=>CDivX j) fun i j=>.int (i.fdiv j)):=opI fun _ _ _ _ _ _ _ hc q=>floordiv_int hc.1 q (.inl (PyProof.noPylong_of_log2 hc.2))
theorem op_mulO {X:Cx}:OpR X (binaryOp .Mult) (rI IntMulOk fun i j=>.int (i * j)):=opI fun _ _ _ _ _ _ _ hc q=>mul_int q hc
def rIntD (C:Int->Int->Prop) (g:Int->Int->D):RD2:=fun x y M Q=>match x,y with
 | .int i,.int j=>C i j/\Q (g i j) M
 | _,_=>False
abbrev rInt0D (g:Int->Int->D):RD2:=fun x y M Q=>match x,y with
 | .int i,.int j=>Q (g i j) M
 | _,_=>False
section
variable {X:Cx} {Tb:List (Addr×Str)} {K:PySem.W.Frag}
theorem ref_int {C:Int->Int->Prop} {g:Int->Int->V} {gD:Int->Int->D} (hg:∀ i j al M H,Rp K al M H (gD i j) (g i j)):RefOp K Tb (rI C g) (rIntD C gD):=by
 intro al M H x y dx dy Q QV w rx ry h p
 unfold rIntD at h
 split at h
 ·rename_i i j
  exact ⟨i,j,rx,ry,h.1,p al _ M _ H (Stp.refl ..) w (hg i j al M H) h.2⟩
 ·exact h.elim
theorem ref_int0 {g:Int->Int->V} {gD:Int->Int->D} (hg:∀ i j al M H,Rp K al M H (gD i j) (g i j)):RefOp K Tb (rI0 g) (rInt0D gD):=by
 intro al M H x y dx dy Q QV w rx ry h p
 unfold rInt0D at h
 split at h
 ·rename_i i j
  exact ⟨i,j,rx,ry,p al _ M _ H (Stp.refl ..) w (hg i j al M H) h⟩
 ·exact h.elim
end
abbrev rMul_:RD2:=rIntD IntMulOk fun i j=>.int (i * j)
abbrev rDiv_:RD2:=rIntD (fun _ j=>CDivX j) fun i j=>.int (i.fdiv j)
abbrev rMod_:RD2:=rIntD (fun _ j=>j≠0) fun i j=>.int (i.fmod j)
abbrev rPow_:RD2:=rIntD CPow fun i j=>.int (i ^ j.toNat)
abbrev rLt_:RD2:=rInt0D fun i j=>.bl (decide (i < j))
abbrev rGt_:RD2:=rInt0D fun i j=>.bl (decide (j < i))
abbrev rGe_:RD2:=rInt0D fun i j=>.bl (decide (j<=i))
section
variable {X:Cx} {Tb:List (Addr×Str)} {EV:XK} {a b c:Expr} {ta tb tc:TED} {pos:Pos}
theorem dv_mul (ha:PD X Tb EV a ta) (hb:PD X Tb EV b tb):PD X Tb EV (.BinOp a .Mult b pos) (dOp rMul_ ta tb):=dv_op op_mulO (ref_int fun _ _ _ _ _=>rfl) ha hb
theorem dv_fdiv (ha:PD X Tb EV a ta) (hb:PD X Tb EV b tb):PD X Tb EV (.BinOp a .FloorDiv b pos) (dOp rDiv_ ta tb):=dv_op op_fdivX (ref_int fun _ _ _ _ _=>rfl) ha hb
theorem dv_mod (ha:PD X Tb EV a ta) (hb:PD X Tb EV b tb):PD X Tb EV (.BinOp a .Mod b pos) (dOp rMod_ ta tb):=dv_op op_modN (ref_int fun _ _ _ _ _=>rfl) ha hb
theorem dv_pow (ha:PD X Tb EV a ta) (hb:PD X Tb EV b tb):PD X Tb EV (.BinOp a .Pow b pos) (dOp rPow_ ta tb):=dv_op op_pow (ref_int fun _ _ _ _ _=>rfl) ha hb
theorem dt_lt (ha:PD X Tb EV a ta) (hb:PD X Tb EV b tb):PDT X Tb EV (.Compare a [.Lt] [b] pos) (dB (dOp rLt_ ta tb)):=dt_cmp op_lt (ref_int0 fun _ _ _ _ _=>rfl) ha hb (nomark _)
theorem dt_gt (ha:PD X Tb EV a ta) (hb:PD X Tb EV b tb):PDT X Tb EV (.Compare a [.Gt] [b] pos) (dB (dOp rGt_ ta tb)):=dt_cmp op_gt (ref_int0 fun _ _ _ _ _=>rfl) ha hb (nomark _)
theorem dt_ge (ha:PD X Tb EV a ta) (hb:PD X Tb EV b tb):PDT X Tb EV (.Compare a [.GtE] [b] pos) (dB (dOp rGe_ ta tb)):=dt_cmp op_ge (ref_int0 fun _ _ _ _ _=>rfl) ha hb (nomark _)
theorem dv_lt (ha:PD X Tb EV a ta) (hb:PD X Tb EV b tb):PD X Tb EV (.Compare a [.Lt] [b] pos) (dOp rLt_ ta tb):=dv_cmp op_lt (ref_int0 fun _ _ _ _ _=>rfl) ha hb (nomark _)
theorem dv_gt (ha:PD X Tb EV a ta) (hb:PD X Tb EV b tb):PD X Tb EV (.Compare a [.Gt] [b] pos) (dOp rGt_ ta tb):=dv_cmp op_gt (ref_int0 fun _ _ _ _ _=>rfl) ha hb (nomark _)
abbrev dNot (t:TTD):TTD:=fun E rho M Q=>t E rho M fun k M1=>Q (!k) M1
abbrev dAnd (t u:TTD):TTD:=fun E rho M Q=>t E rho M fun k M1=>if k=true then u E rho M1 Q else Q false M1
abbrev dOr (t u:TTD):TTD:=fun E rho M Q=>t E rho M fun k M1=>if k=true then Q true M1 else u E rho M1 Q
variable {tA tB':TTD} {rest:List Expr}
abbrev PDW (X:Cx) (Tb:List (Addr×Str)) (EV:XK) (e:Expr) (t:TTD):Prop:=PW X e (liftT X.K Tb EV t)
theorem dt_not (h:PDT X Tb EV a tA):PDT X Tb EV (.UnaryOp .Not a pos) (dNot tA):=pt_imp (pt_not h) fun σ H QV h=>by
 obtain ⟨al,rho,M,E,Q,a,t,p⟩:=h
 exact seqT a t fun al1 k M1 H1 s1 a1 q1=>p _ _ _ _ s1 a1.wf q1
theorem dw_and1 (h:PDT X Tb EV a tA):PDW X Tb EV (.BoolOp .And [a] pos) tA:=pw_and1 h
theorem dw_or1 (h:PDT X Tb EV a tA):PDW X Tb EV (.BoolOp .Or [a] pos) tA:=pw_or1 h
theorem dw_and (ha:PDT X Tb EV a tA) (hb:PDW X Tb EV (.BoolOp .And (b :: rest) pos) tB'):PDW X Tb EV (.BoolOp .And (a :: b :: rest) pos) (dAnd tA tB'):=pw_imp (pw_and ha hb) fun σ H QV h=>by
 obtain ⟨al,rho,M,E,Q,a,t,p⟩:=h
 refine seqT a t fun al1 k M1 H1 s1 a1 q1=>?_
 cases k with
 | true=>exact ⟨al1,rho,M1,E,Q,a1,q1,p.mono s1⟩
 | false=>exact p _ _ _ _ s1 a1.wf q1
theorem dw_or (ha:PDT X Tb EV a tA) (hb:PDW X Tb EV (.BoolOp .Or (b :: rest) pos) tB'):PDW X Tb EV (.BoolOp .Or (a :: b :: rest) pos) (dOr tA tB'):=pw_imp (pw_or ha hb) fun σ H QV h=>by
 obtain ⟨al,rho,M,E,Q,a,t,p⟩:=h
 refine seqT a t fun al1 k M1 H1 s1 a1 q1=>?_
 cases k with
 | true=>exact p _ _ _ _ s1 a1.wf q1
 | false=>exact ⟨al1,rho,M1,E,Q,a1,q1,p.mono s1⟩
theorem dt_w {e:Expr} (h:PDW X Tb EV e tA):PDT X Tb EV e tA:=h.pt
abbrev dAndV (t u:TED):TED:=fun E rho M Q=>t E rho M fun x M1=>match x with
 | .bl k=>if k=true then u E rho M1 Q else Q (.bl false) M1
 | _=>False
theorem dv_one {op} (h:PD X Tb EV a ta):PD X Tb EV (.BoolOp op [a] pos) ta:=pe_one h
theorem dv_and (ha:PD X Tb EV a ta) (hb:PD X Tb EV (.BoolOp .And (b :: rest) pos) tb):PD X Tb EV (.BoolOp .And (a :: b :: rest) pos) (dAndV ta tb):=pe_imp (pe_and ha hb) fun σ H QV h=>by
 obtain ⟨al,rho,M,E,Q,a,t,p⟩:=h
 refine seq1 a t fun al1 x M1 vx H1 s1 a1 r1 q1=>?_
 cases x with
 | bl k =>
  refine ⟨k,r1,?_⟩
  cases k with
  | true=>exact ⟨al1,rho,M1,E,Q,a1,q1,p.mono s1⟩
  | false=>exact p _ (.bl false) _ _ _ s1 a1.wf rfl q1
 | _=>exact (show False from q1).elim
abbrev dIf (t:TTD) (ta tb:TED):TED:=fun E rho M Q=>t E rho M fun k M1=>if k=true then ta E rho M1 Q else tb E rho M1 Q
theorem dv_if (hc:PDT X Tb EV c tA) (ha:PD X Tb EV a ta) (hb:PD X Tb EV b tb):PD X Tb EV (.IfExp c a b pos) (dIf tA ta tb):=pe_imp (pe_ifExp hc ha hb) fun σ H QV h=>by
 obtain ⟨al,rho,M,E,Q,a,t,p⟩:=h
 refine seqT a t fun al1 k M1 H1 s1 a1 q1=>?_
 cases k with
 | true=>exact ⟨al1,rho,M1,E,Q,a1,q1,p.mono s1⟩
 | false=>exact ⟨al1,rho,M1,E,Q,a1,q1,p.mono s1⟩
def dChain (r r':RD2) (ta tb tc:TED):TED:=fun E rho M Q=>ta E rho M fun x M1=>tb E rho M1 fun y M2=>r x y M2 fun z M3=>match z with
 | .bl k=>if k=true then tc E rho M3 fun w M4=>r' y w M4 Q else Q (.bl false) M3
 | _=>False
end
theorem ifd {p:Prop} [Decidable p] {A B:Prop} (h1:p->A) (h2:¬ p->B):if decide p=true then A else B:=by
 by_cases h:p
 ·rw [decide_eq_true h];exact h1 h
 ·rw [decide_eq_false h];exact h2 h
theorem ifn {p:Prop} [Decidable p] {A B:Prop} (h1:¬ p->A) (h2:p->B):if (!decide p)=true then A else B:=by
 by_cases h:p
 ·rw [decide_eq_true h];exact h2 h
 ·rw [decide_eq_false h];exact h1 h
theorem ifb {b:Bool} {A B:Prop} (h1:b=true->A) (h2:b=false->B):if b=true then A else B:=by
 cases b
 ·exact h2 rfl
 ·exact h1 rfl
def memL (M:Mem) (i:Nat):Option (List D):=match M[i]? with
 | some (some (.lst xs))=>some xs
 | _=>none
def asL (M:Mem):D->Option (List D)
 | .lst xs=>some xs
 | .mt i=>memL M i
 | _=>none
def seqD (M:Mem):D->Option (List D)
 | .tup xs=>some xs
 | .lst xs=>some xs
 | .rol xs=>some xs
 | .mt i=>memL M i
 | _=>none
section
variable {K:PySem.W.Frag} {Tb:List (Addr×Str)} {al:Al} {M:Mem} {H:Hp}
theorem memL_ok (w:Wf K Tb al H M) {i:Nat} {ds:List D} (h:memL M i=some ds) {v:V} (r:Rp K al M H (.mt i) v):∃ a xs,v = .ref a/\al.a[i]?=some a/\M[i]?=some (some (.lst ds))/\H a=some (.lst xs)/\Rps K al M H ds xs:=by
 obtain ⟨a,e,rfl⟩:=r
 unfold memL at h
 split at h
 ·rename_i xs e2
  cases h
  obtain ⟨ys,h1,h2⟩:=w.rep i a _ e e2
  exact ⟨a,ys,rfl,e,e2,h1,h2⟩
 ·cases h
theorem asL_ok (w:Wf K Tb al H M) {d:D} {ds:List D} (h:asL M d=some ds) {v:V} (r:Rp K al M H d v):∃ a xs,v = .ref a/\H a=some (.lst xs)/\Rps K al M H ds xs:=by
 cases d with
 | lst xs =>
  cases h
  obtain ⟨a,ys,e,h1,_,h2⟩:=r
  exact ⟨a,ys,e,h1,h2⟩
 | mt i =>
  obtain ⟨a,xs,e,_,_,h1,h2⟩:=memL_ok w h r
  exact ⟨a,xs,e,h1,h2⟩
 | _=>cases h
theorem seqD_ok (w:Wf K Tb al H M) {d:D} {ds:List D} (h:seqD M d=some ds) {v:V} (r:Rp K al M H d v):∃ a xs,v = .ref a/\(SqL K H a xs\/SqT K H a xs)/\Rps K al M H ds xs:=by
 cases d with
 | tup xs =>
  cases h
  obtain ⟨a,ys,e,h1,h2⟩:=r
  exact ⟨a,ys,e,.inr h1.sq,h2⟩
 | lst xs =>
  cases h
  obtain ⟨a,ys,e,h1,_,h2⟩:=r
  exact ⟨a,ys,e,.inl (SqL.of h1),h2⟩
 | rol xs =>
  cases h
  obtain ⟨a,ys,e,h1,h2⟩:=r
  exact ⟨a,ys,e,.inl h1.sq,h2⟩
 | mt i =>
  obtain ⟨a,xs,e,_,_,h1,h2⟩:=memL_ok w h r
  exact ⟨a,xs,e,.inl (SqL.of h1),h2⟩
 | _=>cases h
theorem Rps.atI {ds:List D} {xs:List V} {i:Int} {d:D} (r:Rps K al M H ds xs) (h:L2.atI ds i=some d):∃ v,L2.atI xs i=some v/\Rp K al M H d v:=by
 unfold L2.atI at h ⊢
 rw [r.length] at h
 cases e:ixN xs.length i with
 | none=>rw [e] at h;cases h
 | some j =>
  rw [e] at h
  exact r.get h
end
abbrev dNil:TAD:=fun _ _ M Q=>Q [] M
abbrev dCons (t:TED) (u:TAD):TAD:=fun E rho M Q=>t E rho M fun x M1=>u E rho M1 fun xs M2=>Q (x :: xs) M2
abbrev dTup (t:TAD):TED:=fun E rho M Q=>t E rho M fun xs M1=>xs.length<=sizeLine/\Q (.tup xs) M1
abbrev dLst (t:TAD):TED:=fun E rho M Q=>t E rho M fun xs M1=>xs.length<=sizeLine/\Q (.lst xs) M1
abbrev dLstM (t:TAD):TED:=fun E rho M Q=>t E rho M fun xs M1=>xs.length<=sizeLine/\Q (.mt M1.length) (M1 ++ [some (.lst xs)])
section
variable {X:Cx} {Tb:List (Addr×Str)} {EV:XK} {e:Expr} {es:List Expr} {te:TED} {t:TAD} {pos:Pos}
theorem da_nil:PDA X Tb EV [] dNil:=pa_imp pa_nil fun σ H QV h=>by
 obtain ⟨al,rho,M,E,Q,a,t,p⟩:=h
 exact p _ [] _ _ _ (Stp.refl ..) a.wf rfl t
theorem da_cons (ha:PD X Tb EV e te) (hr:PDA X Tb EV es t) (hs:starEach (e :: es) X.env=(false,eval e X.env) :: starEach es X.env:=by rfl):PDA X Tb EV (e :: es) (dCons te t):=pa_imp (pa_cons ha hr hs) fun σ H QV h=>by
 obtain ⟨al,rho,M,E,Q,a,t,p⟩:=h
 refine seq1 a t fun al1 x M1 vx H1 s1 a1 r1 q1=>seqA a1 q1 fun al2 xs M2 vs H2 s2 a2 r2 q2=>?_
 exact p _ (x :: xs) _ _ _ (s1.trans s2) a2.wf ⟨vx,vs,rfl,r1.mono s2,r2⟩ q2
theorem dv_tup {x1} (h:PDA X Tb EV es t):PD X Tb EV (.Tuple es x1 pos) (dTup t):=pe_imp (pe_tup h) fun σ H QV h=>by
 obtain ⟨al,rho,M,E,Q,a,t,p⟩:=h
 refine seqA a t fun al1 xs M1 vs H1 s1 a1 r1 q1=>⟨by rw [<- r1.length];exact q1.1,fun b hb=>?_⟩
 exact p _ _ _ _ _ (s1.trans (stp_new a1.wf hb _)) (wf_new a1.wf hb _) (rp_tup a1.wf hb r1) q1.2
theorem dv_lst (h:PDA X Tb EV es t):PD X Tb EV (.List es pos) (dLst t):=pe_imp (pe_lst h) fun σ H QV h=>by
 obtain ⟨al,rho,M,E,Q,a,t,p⟩:=h
 refine seqA a t fun al1 xs M1 vs H1 s1 a1 r1 q1=>⟨by rw [<- r1.length];exact q1.1,fun b hb=>?_⟩
 exact p _ _ _ _ _ (s1.trans (stp_new a1.wf hb _)) (wf_new a1.wf hb _) (rp_lst a1.wf hb r1) q1.2
theorem mut_lst {K:PySem.W.Frag} {al:Al} {M:Mem} {H:Hp} {p:Addr} {ds:List D} {xs:List V} (w:Wf K Tb al H M) (hp:H p=none) (r:Rps K al M H ds xs) :
  Stp al M H (al.push p) (M ++ [some (.lst ds)]) (upd H p (.lst xs))/\Wf K Tb (al.push p) (upd H p (.lst xs)) (M ++ [some (.lst ds)])/\Rp K (al.push p) (M ++ [some (.lst ds)]) (upd H p (.lst xs)) (.mt M.length) (.ref p) :=
 have s:=stp_mut w hp (.lst xs) (.lst ds)
 ⟨s,wf_mut w hp (fun _ z=>by cases z) ⟨xs,upd_same,r.mono s⟩,⟨p,al_last w,rfl⟩⟩
theorem dv_lstM (h:PDA X Tb EV es t):PD X Tb EV (.List es pos) (dLstM t):=pe_imp (pe_lst h) fun σ H QV h=>by
 obtain ⟨al,rho,M,E,Q,a,t,p⟩:=h
 refine seqA a t fun al1 xs M1 vs H1 s1 a1 r1 q1=>⟨by rw [<- r1.length];exact q1.1,fun b hb=>?_⟩
 obtain ⟨h1,h2,h3⟩:=mut_lst a1.wf hb r1
 exact p _ _ _ _ _ (s1.trans h1) h2 h3 q1.2
end
def rAdd_:RD2:=fun x y M Q=>match x,y with
 | .int i,.int j=>Q (.int (i+j)) M
 | .str i,.str j=>i.length+j.length<=sizeLine/\Q (.str (i ++ j)) M
 | .tup xs,.tup ys=>xs.length+ys.length<=sizeLine/\Q (.tup (xs ++ ys)) M
 | x,y=>match asL M x,asL M y with
  | some xs,some ys=>xs.length+ys.length<=sizeLine/\Q (.lst (xs ++ ys)) M
  | _,_=>False
section
variable {X:Cx} {Tb:List (Addr×Str)} {EV:XK} {a b c:Expr} {ta tb tc:TED} {pos:Pos}
theorem Rps.nil_of {K:PySem.W.Frag} {al:Al} {M:Mem} {H:Hp} {ds:List D} {xs:List V} (r:Rps K al M H ds xs):ds=[] ↔ xs=[]:=by
 have:=r.length
 constructor
 ·rintro rfl;cases xs with | nil=>rfl | cons=>simp at this
 ·rintro rfl;cases ds with | nil=>rfl | cons=>simp at this
theorem ref_add:RefOp X.K Tb (fun x y H Q=>(rI0 fun i j=>V.int (i+j)) x y H Q\/(∃ i j,x = .str i/\y = .str j/\i.length+j.length<=sizeLine/\Q (.str (i ++ j)) H)\/rCatA X.K x y H Q\/rCat x y H Q) rAdd_:=by
 intro al M H x y dx dy Q QV w rx ry h p
 unfold rAdd_ at h
 split at h
 ·rename_i i j
  exact .inl ⟨i,j,rx,ry,p al (.int (i+j)) M _ H (Stp.refl ..) w rfl h⟩
 ·rename_i i j
  exact .inr (.inl ⟨i,j,rx,ry,h.1,p al (.str (i ++ j)) M _ H (Stp.refl ..) w rfl h.2⟩)
 ·rename_i xs ys
  obtain ⟨a,us,rfl,h1,h2⟩:=rx
  obtain ⟨b,ws,rfl,h3,h4⟩:=ry
  refine .inr (.inr (.inl ⟨a,b,us,ws,rfl,rfl,h1.sq,h3.sq,by rw [<- h2.length,<- h4.length];exact h.1,fun e=>?_,fun _ e=>?_,fun _ _ q hq=>?_⟩))
  ·have e':=h2.nil_of.mpr e
   subst e'
   exact p al (.tup ys) M _ H (Stp.refl ..) w ⟨b,ws,rfl,h3,h4⟩ (by simpa using h.2)
  ·have e':=h4.nil_of.mpr e
   subst e'
   exact p al (.tup xs) M _ H (Stp.refl ..) w ⟨a,us,rfl,h1,h2⟩ (by simpa using h.2)
  ·exact p _ _ _ _ _ (stp_new w hq _) (wf_new w hq _) (rp_tup w hq (h2.append h4)) h.2
 ·split at h
  ·rename_i xs ys e1 e2
   obtain ⟨a,us,rfl,h1,h2⟩:=asL_ok w e1 rx
   obtain ⟨b,ws,rfl,h3,h4⟩:=asL_ok w e2 ry
   exact .inr (.inr (.inr ⟨a,b,us,ws,rfl,rfl,h1,h3,by rw [<- h2.length,<- h4.length];exact h.1,fun q hq=>p _ _ _ _ _ (stp_new w hq _) (wf_new w hq _) (rp_lst w hq (h2.append h4)) h.2⟩))
  ·exact h.elim
theorem dv_add (ha:PD X Tb EV a ta) (hb:PD X Tb EV b tb):PD X Tb EV (.BinOp a .Add b pos) (dOp rAdd_ ta tb):=dv_op (op_add.or (op_add_str.or (op_catA.or op_cat))) ref_add ha hb
def rIx_:RD2:=fun x y M Q=>match y with
 | .int i=>match seqD M x with
  | some ds=>(match L2.atI ds i with
   | some d=>Q d M
   | none=>False)
  | none=>match x with
   | .str z=>z.length<=sizeLine/\(match L2.atI z.cps.toList i with
    | some c=>Q (.str ⟨#[c]⟩) M
    | none=>False)
   | _=>False
 | _=>False
theorem ref_ix:RefOp X.K Tb (rIx X.K) rIx_:=by
 intro al M H x y dx dy Q QV w rx ry h p
 unfold rIx_ at h
 split at h
 ·rename_i i
  split at h
  ·rename_i ds e
   split at h
   ·rename_i d e2
    obtain ⟨a,xs,rfl,hq,r⟩:=seqD_ok w e rx
    obtain ⟨v,e3,rv⟩:=r.atI e2
    rcases hq with hq | hq
    ·exact .inl ⟨a,xs,i,v,rfl,ry,hq,e3,p _ _ _ _ _ (Stp.refl ..) w rv h⟩
    ·exact .inr (.inl ⟨a,xs,i,v,rfl,ry,hq,e3,p _ _ _ _ _ (Stp.refl ..) w rv h⟩)
   ·exact h.elim
  ·split at h
   ·rename_i z _
    obtain ⟨h1,h⟩:=h
    split at h
    ·rename_i c e2
     exact .inr (.inr ⟨z,i,c,rx,ry,h1,e2,p _ (.str ⟨#[c]⟩) _ _ _ (Stp.refl ..) w rfl h⟩)
    ·exact h.elim
   ·exact h.elim
 ·exact h.elim
theorem dv_ix (ha:PD X Tb EV a ta) (hb:PD X Tb EV b tb) (hs:PlainIx b:=by intro _ _;rfl):PD X Tb EV (.Subscript a b pos) (dOp rIx_ ta tb):=pe_imp (pe_ix ix_seq ha hb hs) fun _ _ _ h=>op_lift ref_ix h
end
abbrev TOD:=XD->Rho->Mem->(Option Int->Mem->Prop)->Prop
def liftO (K:PySem.W.Frag) (Tb:List (Addr×Str)) (EV:XK) (t:TOD):TO:=fun σ H QV=>∃ al rho M E Q,At K Tb EV al σ H rho M E/\t E rho M Q/\∀ al' o M' H',Stp al M H al' M' H'->Wf K Tb al' H' M'->Q o M'->QV o H'
abbrev oNone:TOD:=fun _ _ M Q=>Q none M
abbrev oSome (t:TED):TOD:=fun E rho M Q=>t E rho M fun x M1=>match x with
 | .int i=>Q (some i) M1
 | _=>False
def cutL {α:Type} (xs:List α) (lo hi:Option Int):List α:=(xs.drop (HT.sIx xs.length 0 lo)).take (HT.sIx xs.length xs.length hi - HT.sIx xs.length 0 lo)
theorem Rps.cut {K:PySem.W.Frag} {al:Al} {M:Mem} {H:Hp} {ds:List D} {xs:List V} (r:Rps K al M H ds xs) (lo hi:Option Int):Rps K al M H (cutL ds lo hi) (cutV xs lo hi):=by
 unfold cutL cutV
 rw [r.length]
 exact (r.drop _).take _
def rSl_ (x:D) (lo hi:Option Int) (M:Mem) (Q:VD):Prop:=match x with
 | .str z=>z.length<=sizeLine/\Q (.str (cutS z lo hi)) M
 | .tup xs=>Q (.tup (cutL xs lo hi)) M
 | .rol xs=>Q (.lst (cutL xs lo hi)) M
 | x=>match asL M x with
  | some xs=>Q (.lst (cutL xs lo hi)) M
  | none=>False
abbrev dSl (te:TED) (tl th:TOD):TED:=fun E rho M Q=>te E rho M fun x M1=>tl E rho M1 fun l M2=>th E rho M2 fun u M3=>rSl_ x l u M3 Q
section
variable {X:Cx} {Tb:List (Addr×Str)} {EV:XK} {e:Expr} {lo hi:Option Expr} {te:TED} {tl th:TOD} {pos p2:Pos}
theorem do_none:PO X none (liftO X.K Tb EV oNone):=⟨fun pins s σ H Q I h=>by
 obtain ⟨al,rho,M,E,Q',a,t,p⟩:=h
 exact po_none.run pins s σ H Q I (p _ _ _ _ (Stp.refl ..) a.wf t)⟩
theorem do_some (h:PD X Tb EV e te):PO X (some e) (liftO X.K Tb EV (oSome te)):=⟨fun pins s σ H Q I q=>by
 obtain ⟨al,rho,M,E,Q',a,t,p⟩:=q
 refine (po_some h).run pins s σ H Q I (seq1 a t fun al1 x M1 vx H1 s1 a1 r1 q1=>?_)
 cases x with
 | int i=>exact ⟨i,r1,p _ _ _ _ s1 a1.wf q1⟩
 | _=>exact (show False from q1).elim⟩
theorem dv_slice (he:PD X Tb EV e te) (hl:PO X lo (liftO X.K Tb EV tl)) (hu:PO X hi (liftO X.K Tb EV th)):PD X Tb EV (.Subscript e (.Slice lo hi none p2) pos) (dSl te tl th) :=
 pe_imp (pe_slice (sl_list.or (sl_tupA.or sl_str)) he hl hu) fun σ H QV h=>by
  obtain ⟨al,rho,M,E,Q,a,t,p⟩:=h
  refine seq1 a t fun al1 x M1 vx H1 s1 a1 r1 q1=>⟨al1,rho,M1,E,_,a1,q1,fun al2 l M2 H2 s2 w2 q2=>⟨al2,rho,M2,E,_,a1.go s2 w2,q2,fun al3 u M3 H3 s3 w3 q3=>?_⟩⟩
  have r3:=r1.mono (s2.trans s3)
  have p3:=p.mono (s1.trans (s2.trans s3))
  unfold rSl_ at q3
  split at q3
  ·rename_i z
   exact .inr (.inr ⟨z,r3,q3.1,p3 _ (.str (cutS z l u)) _ _ _ (Stp.refl ..) w3 rfl q3.2⟩)
  ·rename_i xs
   obtain ⟨b,ys,rfl,h1,h2⟩:=r3
   refine .inr (.inl ⟨b,ys,rfl,h1.sq,fun hw=>?_,fun hw q hq=>p3 _ _ _ _ _ (stp_new w3 hq _) (wf_new w3 hq _) (rp_tup w3 hq (h2.cut l u)) q3⟩)
   have e:cutL xs l u=xs:=by
    unfold cutL
    rw [h2.length,hw.1,hw.2]
    simp [<- h2.length]
   rw [e] at q3
   exact p3 _ (.tup xs) _ _ _ (Stp.refl ..) w3 ⟨b,ys,rfl,h1,h2⟩ q3
  ·rename_i xs
   obtain ⟨b,ys,rfl,h1,h2⟩:=r3
   exact .inl ⟨b,ys,rfl,h1.sq,fun q hq=>p3 _ _ _ _ _ (stp_new w3 hq _) (wf_new w3 hq _) (rp_lst w3 hq (h2.cut l u)) q3⟩
  ·split at q3
   ·rename_i xs e1
    obtain ⟨b,ys,rfl,h1,h2⟩:=asL_ok w3 e1 r3
    exact .inl ⟨b,ys,rfl,SqL.of h1,fun q hq=>p3 _ _ _ _ _ (stp_new w3 hq _) (wf_new w3 hq _) (rp_lst w3 hq (h2.cut l u)) q3⟩
   ·exact q3.elim
end
mutual
def toPy:D->Option PyData
 | .non=>some .none
 | .bl b=>some (.bool b)
 | .int i=>some (.int i)
 | .str x=>some (.str x)
 | .tup xs=>(toPys xs).map .tuple
 | .lst xs=>(toPys xs).map .list
 | .rol xs=>(toPys xs).map .list
 | _=>none
def toPys:List D->Option (List PyData)
 | []=>some []
 | x :: xs=>match toPy x,toPys xs with
  | some p,some ps=>some (p :: ps)
  | _,_=>none
end
def toPyM (M:Mem):D->Option PyData
 | .mt i=>match memL M i with
  | some xs=>(toPys xs).map .list
  | none=>none
 | d=>toPy d
section
variable {K:PySem.W.Frag} {Tb:List (Addr×Str)} {al:Al} {M:Mem} {H:Hp}
mutual
theorem toPy_ok:∀ {d:D} {p:PyData} {v:V},toPy d=some p->Rp K al M H d v->Dp K H v p
 | .non,_,_,e,r=>by cases e;cases (show _=_ from r);exact .non
 | .bl b,_,_,e,r=>by cases e;cases (show _=_ from r);exact .bl b
 | .int i,_,_,e,r=>by cases e;cases (show _=_ from r);exact .int i
 | .str x,_,_,e,r=>by cases e;cases (show _=_ from r);exact .str x
 | .tup xs,_,_,e,r=>by
  obtain ⟨a,ys,rfl,h1,h2⟩:=r
  unfold toPy at e
  cases q:toPys xs with
  | none=>rw [q] at e;cases e
  | some ps=>rw [q] at e;cases e;exact .tup h1.sq (toPys_ok q h2)
 | .lst xs,_,_,e,r=>by
  obtain ⟨a,ys,rfl,h1,_,h2⟩:=r
  unfold toPy at e
  cases q:toPys xs with
  | none=>rw [q] at e;cases e
  | some ps=>rw [q] at e;cases e;exact .lst (SqL.of h1) (toPys_ok q h2)
 | .rol xs,_,_,e,r=>by
  obtain ⟨a,ys,rfl,h1,h2⟩:=r
  unfold toPy at e
  cases q:toPys xs with
  | none=>rw [q] at e;cases e
  | some ps=>rw [q] at e;cases e;exact .lst h1.sq (toPys_ok q h2)
 | .ty _,_,_,e,_=>by cases e
 | .obj _ _ _,_,_,e,_=>by cases e
 | .exc _ _ _,_,_,e,_=>by cases e
 | .dk _ _,_,_,e,_=>by cases e
 | .dt _ _,_,_,e,_=>by cases e
 | .ref _,_,_,e,_=>by cases e
 | .lam _ _,_,_,e,_=>by cases e
 | .mt _,_,_,e,_=>by cases e
theorem toPys_ok:∀ {ds:List D} {ps:List PyData} {xs:List V},toPys ds=some ps->Rps K al M H ds xs->DpAll K H xs ps
 | [],_,_,e,r=>by cases e;cases (show _=[] from r);exact .nil
 | d :: ds,_,_,e,r=>by
  obtain ⟨x,xs,rfl,h1,h2⟩:=r
  unfold toPys at e
  split at e
  ·rename_i p ps e1 e2
   cases e
   exact .cons (toPy_ok e1 h1) (toPys_ok e2 h2)
  ·cases e
end
theorem toPyM_ok (w:Wf K Tb al H M) {d:D} {p:PyData} {v:V} (e:toPyM M d=some p) (r:Rp K al M H d v):Dp K H v p:=by
 unfold toPyM at e
 split at e
 ·rename_i i
  split at e
  ·rename_i xs e1
   obtain ⟨a,ys,rfl,_,_,h1,h2⟩:=memL_ok w e1 r
   cases q:toPys xs with
   | none=>rw [q] at e;cases e
   | some ps=>rw [q] at e;cases e;exact .lst (SqL.of h1) (toPys_ok q h2)
  ·cases e
 ·exact toPy_ok e r
end
def scalD:D->D->Option Bool
 | .int i,.int j=>some (decide (i=j))
 | .str x,.str y=>some (decide (x=y))
 | .bl a,.bl b=>some (decide (a=b))
 | .non,.non=>some true
 | .non,.int _=>some false | .int _,.non=>some false | .non,.bl _=>some false | .bl _,.non=>some false | .non,.str _=>some false | .str _,.non=>some false
 | .int _,.str _=>some false | .str _,.int _=>some false | .bl _,.str _=>some false | .str _,.bl _=>some false
 | _,_=>none
theorem scalD_ok {K:PySem.W.Frag} {al:Al} {M:Mem} {H:Hp} {dx dy:D} {x y:V} {b:Bool} (e:scalD dx dy=some b) (rx:Rp K al M H dx x) (ry:Rp K al M H dy y):scal x y=true/\decide (x=y)=b:=by
 cases dx <;> cases dy <;> first | (cases (show (none:Option Bool)=some b from e)) | skip
 all_goals
  cases (show _=_ from rx)
  cases (show _=_ from ry)
  have e':=Option.some.inj e
  subst e'
  exact ⟨rfl,by simp⟩
def rEq_:RD2:=fun x y M Q=>match scalD x y with
 | some b=>Q (.bl b) M
 | none=>match toPyM M x,toPyM M y with
  | some p,some q=>SeqAt.shaped p=true/\SeqAt.shaped q=true/\Q (.bl (PyData.eqv p q)) M
  | _,_=>False
def rNe_:RD2:=fun x y M Q=>match scalD x y with
 | some b=>Q (.bl (!b)) M
 | none=>match toPyM M x,toPyM M y with
  | some p,some q=>SeqAt.shaped p=true/\SeqAt.shaped q=true/\Q (.bl (!PyData.eqv p q)) M
  | _,_=>False
section
variable {X:Cx} {Tb:List (Addr×Str)} {EV:XK} {a b c:Expr} {ta tb tc:TED} {pos:Pos}
theorem ref_eq:RefOp X.K Tb (fun x y H Q=>rEq x y H Q\/L2.rEqD X.K x y H Q) rEq_:=by
 intro al M H x y dx dy Q QV w rx ry h p
 unfold rEq_ at h
 split at h
 ·rename_i b e
  obtain ⟨h1,h2⟩:=scalD_ok e rx ry
  exact .inl ⟨h1,by rw [h2];exact p _ (.bl b) _ _ _ (Stp.refl ..) w rfl (by simpa using h)⟩
 ·split at h
  ·rename_i p1 p2 e1 e2
   exact .inr ⟨p1,p2,toPyM_ok w e1 rx,toPyM_ok w e2 ry,h.1,h.2.1,p _ (.bl _) _ _ _ (Stp.refl ..) w rfl (by simpa using h.2.2)⟩
  ·exact h.elim
theorem ref_ne:RefOp X.K Tb (fun x y H Q=>rNe x y H Q\/L2.rNeD X.K x y H Q) rNe_:=by
 intro al M H x y dx dy Q QV w rx ry h p
 unfold rNe_ at h
 split at h
 ·rename_i b e
  obtain ⟨h1,h2⟩:=scalD_ok e rx ry
  exact .inl ⟨h1,by rw [h2];exact p _ (.bl (!b)) _ _ _ (Stp.refl ..) w rfl (by simpa using h)⟩
 ·split at h
  ·rename_i p1 p2 e1 e2
   exact .inr ⟨p1,p2,toPyM_ok w e1 rx,toPyM_ok w e2 ry,h.1,h.2.1,p _ (.bl _) _ _ _ (Stp.refl ..) w rfl (by simpa using h.2.2)⟩
  ·exact h.elim
theorem dv_eq (hu:X.A.units+64 < cLine) (ha:PD X Tb EV a ta) (hb:PD X Tb EV b tb):PD X Tb EV (.Compare a [.Eq] [b] pos) (dOp rEq_ ta tb):=dv_cmp (op_eq.or (op_eqD hu)) ref_eq ha hb (nomark _)
theorem dt_eq (hu:X.A.units+64 < cLine) (ha:PD X Tb EV a ta) (hb:PD X Tb EV b tb):PDT X Tb EV (.Compare a [.Eq] [b] pos) (dB (dOp rEq_ ta tb)):=dt_cmp (op_eq.or (op_eqD hu)) ref_eq ha hb (nomark _)
theorem dt_ne (hu:X.A.units+64 < cLine) (ha:PD X Tb EV a ta) (hb:PD X Tb EV b tb):PDT X Tb EV (.Compare a [.NotEq] [b] pos) (dB (dOp rNe_ ta tb)):=dt_cmp (op_ne.or (op_neD hu)) ref_ne ha hb (nomark _)
def isNon:D->Bool
 | .non=>true
 | _=>false
def rIs_:RD2:=fun x y M Q=>match y with
 | .non=>Q (.bl (isNon x)) M
 | _=>False
def rIsNot_:RD2:=fun x y M Q=>match y with
 | .non=>Q (.bl (!isNon x)) M
 | _=>False
theorem isNon_ok {K:PySem.W.Frag} {al:Al} {M:Mem} {H:Hp} {d:D} {v:V} (r:Rp K al M H d v):decide (v = .non)=isNon d:=by
 cases d with
 | non=>cases (show _=_ from r);rfl
 | bl=>cases (show _=_ from r);rfl
 | int=>cases (show _=_ from r);rfl
 | str=>cases (show _=_ from r);rfl
 | ty=>cases (show _=_ from r);rfl
 | ref=>cases (show _=_ from r);rfl
 | tup=>obtain ⟨_,_,rfl,_⟩:=r;rfl
 | lst=>obtain ⟨_,_,rfl,_⟩:=r;rfl
 | rol=>obtain ⟨_,_,rfl,_⟩:=r;rfl
 | obj=>obtain ⟨_,_,_,rfl,_⟩:=r;rfl
 | dk=>obtain ⟨_,_,_,rfl,_⟩:=r;rfl
 | dt=>obtain ⟨_,_,_,rfl,_⟩:=r;rfl
 | exc=>obtain ⟨_,_,_,rfl,_⟩:=r;rfl
 | lam=>obtain ⟨rfl,_⟩:=r;rfl
 | mt=>obtain ⟨_,_,rfl⟩:=r;rfl
theorem ref_is:RefOp X.K Tb (fun x y H Q=>y = .non/\Q (.bl (decide (x = .non))) H) rIs_:=by
 intro al M H x y dx dy Q QV w rx ry h p
 unfold rIs_ at h
 split at h
 ·exact ⟨ry,by rw [isNon_ok rx];exact p _ (.bl _) _ _ _ (Stp.refl ..) w rfl (by simpa using h)⟩
 ·exact h.elim
theorem dt_is (ha:PD X Tb EV a ta) (hb:PD X Tb EV b tb):PDT X Tb EV (.Compare a [.Is] [b] pos) (dB (dOp rIs_ ta tb)):=dt_cmp op_isN ref_is ha hb (nomark _)
theorem dv_is (ha:PD X Tb EV a ta) (hb:PD X Tb EV b tb):PD X Tb EV (.Compare a [.Is] [b] pos) (dOp rIs_ ta tb):=dv_cmp op_isN ref_is ha hb (nomark _)
abbrev truD (x:D) (M:Mem) (Q:Bool->Mem->Prop):Prop:=match x with
 | .bl k=>Q k M
 | .int i=>Q (i != 0) M
 | .non=>Q false M
 | .str z=>z.length<=sizeLine/\Q ((z.length:Int) != 0) M
 | x=>match seqD M x with
  | some xs=>Q (!xs.isEmpty) M
  | none=>False
abbrev dTru (t:TED):TTD:=fun E rho M Q=>t E rho M fun x M1=>truD x M1 Q
theorem dt_tru (ha:PD X Tb EV a ta) (he:∀ whole,isTrue a X.env whole=(do let v <- whole;standAt a.pos;holding [v] (truthy v)):=by intro _;rfl):PDT X Tb EV a (dTru ta):=pt_imp (pt_truth ha he) fun σ H QV h=>by
 obtain ⟨al,rho,M,E,Q,a,t,p⟩:=h
 refine seq1 a t fun al1 x M1 vx H1 s1 a1 r1 q1=>?_
 unfold truD at q1
 split at q1
 ·rename_i k;cases (show _=_ from r1);exact ⟨k,rfl,p _ _ _ _ s1 a1.wf q1⟩
 ·rename_i i;cases (show _=_ from r1);exact ⟨_,rfl,p _ _ _ _ s1 a1.wf q1⟩
 ·cases (show _=_ from r1);exact ⟨_,rfl,p _ _ _ _ s1 a1.wf q1⟩
 ·rename_i z;cases (show _=_ from r1);exact ⟨_,⟨q1.1,rfl⟩,p _ _ _ _ s1 a1.wf q1.2⟩
 ·split at q1
  ·rename_i xs e
   obtain ⟨b,ys,rfl,hq,r⟩:=seqD_ok a1.wf e r1
   have hz:(!ys.isEmpty)=!xs.isEmpty:=by
    have:=r.length
    cases xs <;> cases ys <;> simp_all
   refine ⟨!ys.isEmpty,?_,by rw [hz];exact p _ _ _ _ s1 a1.wf q1⟩
   rcases hq with hq | hq
   ·exact .inl ⟨ys,hq,rfl⟩
   ·exact .inr (.inl ⟨ys,hq,rfl⟩)
  ·exact q1.elim
end
section
variable {K:PySem.W.Frag} {Tb:List (Addr×Str)} {al:Al} {M:Mem} {H:Hp}
theorem Wf.okM (w:Wf K Tb al H M):okM M.length M:=fun i mo hi e=>by
 obtain ⟨a,ha⟩:∃ a,al.a[i]?=some a:=by rw [List.getElem?_eq_some_iff.mpr ⟨by rw [w.len];exact hi,rfl⟩];exact ⟨_,rfl⟩
 have r:=w.rep i a mo ha e
 rw [<- w.len]
 cases mo with
 | lst xs=>obtain ⟨_,_,r⟩:=r;exact r.hb
 | dK kvs=>obtain ⟨_,_,r⟩:=r;exact r.2.hb
 | dT ks ds=>obtain ⟨_,_,r⟩:=r;exact r.2.hb
 | ins C fs=>obtain ⟨_,_,_,r⟩:=r;exact r.2.hb
theorem cut_lt {n i:Nat} {a:Addr} (e:(al.cut n).a[i]?=some a):i < n/\al.a[i]?=some a:=by
 have e:(al.a.take n)[i]?=some a:=e
 have hi:i < n:=by
  have:=(List.getElem?_eq_some_iff.mp e).1
  simp at this;omega
 rw [List.getElem?_take_of_lt hi] at e
 exact ⟨hi,e⟩
theorem lt_cut {n i:Nat} {a:Addr} (hi:i < n) (e:al.a[i]?=some a):(al.cut n).a[i]?=some a:=by
 show (al.a.take n)[i]?=some a
 rw [List.getElem?_take_of_lt hi];exact e
theorem Fz.cut {n:Nat} {a:Addr} (f:Fz al M a):Fz (al.cut n) (M.take n) a:=⟨f.1,fun i mo e1 e2=>by
 obtain ⟨hi,e1⟩:=cut_lt e1
 rw [List.getElem?_take_of_lt hi] at e2
 exact f.2 i mo e1 e2⟩
mutual
theorem Rp.cutH {n:Nat}:∀ {d:D} {v:V},Rp K al M H d v->D.hb n d=true->Rp K (al.cut n) (M.take n) H d v
 | .mt i,_,h,b=>by
  obtain ⟨a,e,q⟩:=h
  have hi:i < n:=of_decide_eq_true b
  exact ⟨a,lt_cut hi e,q⟩
 | .tup xs,_,h,b=>by
  obtain ⟨a,ys,e,q,r⟩:=h
  refine ⟨a,ys,e,?_,Rps.cutH r b⟩
  rcases q with ⟨q,f⟩ | q
  ·exact .inl ⟨q,f.cut⟩
  ·exact .inr q
 | .lst xs,_,h,b=>by
  obtain ⟨a,ys,e,q,f,r⟩:=h
  exact ⟨a,ys,e,q,f.cut,Rps.cutH r b⟩
 | .rol xs,_,h,b=>by
  obtain ⟨a,ys,e,q,r⟩:=h
  refine ⟨a,ys,e,?_,Rps.cutH r b⟩
  rcases q with ⟨q,f⟩ | q
  ·exact .inl ⟨q,f.cut⟩
  ·exact .inr q
 | .obj _ _ xs,_,h,b=>by
  obtain ⟨a,dx,ys,e,q,f,l,r⟩:=h
  exact ⟨a,dx,ys,e,q,f.cut,l,Rps.cutH r b⟩
 | .dk _ xs,_,h,b=>by
  obtain ⟨a,dx,ys,e,q,f,l,r⟩:=h
  exact ⟨a,dx,ys,e,q,f.cut,l,Rps.cutH r b⟩
 | .dt _ xs,_,h,b=>by
  obtain ⟨a,dx,ys,e,q,f,l,r⟩:=h
  exact ⟨a,dx,ys,e,q,f.cut,l,Rps.cutH r b⟩
 | .exc _ _ xs,_,h,b=>by
  obtain ⟨a,dx,ys,e,q,f,q2,f2,l,r⟩:=h
  exact ⟨a,dx,ys,e,q,f.cut,q2,f2.cut,l,Rps.cutH r b⟩
 | .non,_,h,_=>h
 | .bl _,_,h,_=>h
 | .int _,_,h,_=>h
 | .str _,_,h,_=>h
 | .ty _,_,h,_=>h
 | .lam _ _,_,h,_=>⟨h.1,fun x hx=>⟨(h.2 x hx).1,(h.2 x hx).2.cut⟩⟩
 | .ref _,_,h,_=>h
theorem Rps.cutH {n:Nat}:∀ {ds:List D} {vs:List V},Rps K al M H ds vs->D.hbs n ds=true->Rps K (al.cut n) (M.take n) H ds vs
 | [],_,h,_=>h
 | d :: ds,_,h,b=>by
  obtain ⟨x,r,e,q,t⟩:=h
  have b':(D.hb n d && D.hbs n ds)=true:=b
  rw [Bool.and_eq_true] at b'
  exact ⟨x,r,e,Rp.cutH q b'.1,Rps.cutH t b'.2⟩
end
theorem Rpk.cutH {κ:Type} {n:Nat} {ds:List (κ×D)} {xs:List (κ×V)} (h:Rpk K al M H ds xs) (b:D.hbs n (ds.map (·.2))=true):Rpk K (al.cut n) (M.take n) H ds xs:=⟨h.1,h.2.cutH b⟩
theorem Rpd.cutH {n:Nat} {ks:List (List Int)} {ds:List D} {L:Ents} (h:Rpd K al M H ks ds L) (b:D.hbs n ds=true):Rpd K (al.cut n) (M.take n) H ks ds L:=⟨h.1,h.2.cutH b⟩
theorem wf_cut {n:Nat} (w:Wf K Tb al H M) (ok:DL.okM n M):Wf K Tb (al.cut n) H (M.take n):=by
 refine ⟨by simp [w.len,Al.cut],w.nd.sublist (List.take_sublist _ _),fun i a mo e1 e2=>?_,fun i a e1=>?_,w.tb,w.hth,fun i a mo e1 e2=>?_⟩
 ·obtain ⟨hi,e1⟩:=cut_lt e1
  rw [List.getElem?_take_of_lt hi] at e2
  have r:=w.rep i a mo e1 e2
  have b:=ok i mo hi e2
  cases mo with
  | lst xs=>obtain ⟨ys,h1,h2⟩:=r;exact ⟨ys,h1,h2.cutH b⟩
  | dK kvs=>obtain ⟨ys,h1,h2⟩:=r;exact ⟨ys,h1,h2.cutH b⟩
  | dT ks ds=>obtain ⟨ys,h1,h2⟩:=r;exact ⟨ys,h1,h2.cutH b⟩
  | ins C fs=>obtain ⟨dx,ys,h1,h2⟩:=r;exact ⟨dx,ys,h1,h2.cutH b⟩
 ·obtain ⟨hi,e1⟩:=cut_lt e1
  exact w.there i a e1
 ·obtain ⟨hi,e1⟩:=cut_lt e1
  rw [List.getElem?_take_of_lt hi] at e2
  exact w.hdis i a mo e1 e2
theorem stp_cut {al':Al} {M':Mem} {H':Hp} {m:Nat} (w:Wf K Tb al H M) (hm:M.length<=m) (s:Stp al M H al' M' H'):Stp al M H (al'.cut m) (M'.take m) H' :=
 ⟨fun i a e=>lt_cut (Nat.lt_of_lt_of_le (by rw [<- w.len];exact (List.getElem?_eq_some_iff.mp e).1) hm) (s.pre i a e),fun a o h n f=>⟨(s.fz a o h n f).1,(s.fz a o h n f).2.cut⟩,s.hh,s.hid⟩
end
theorem Cut.same {Q:VD} {d:D} {M:Mem} (h:d.hb M.length=true) (ok:okM M.length M) (q:Q d M):Cut M.length Q d M:=⟨M.length,Nat.le_refl _,h,ok,by rw [List.take_length];exact q⟩
abbrev dCall (dsp:DSp) (t:TAD):TED:=fun E rho M Q=>t E rho M fun ds M1=>dsp ds M1 Q E
section
variable {X:Cx} {Tb:List (Addr×Str)} {EV:XK} {k:Nat} {f:Addr} {fd:FuncData} {ps:List Str} {dsp:DSp} {x:Str} {p pos:Pos} {e:Expr} {es:List Expr} {t:TAD}
theorem call_lift {σ:L2.St} {H:Hp} {QV:VK} (h:lift X.K Tb EV (dCall dsp t) σ H QV):tCall (liftSp X.K Tb dsp) [] EV (liftA X.K Tb EV t) σ H QV:=by
 obtain ⟨al,rho,M,E,Q,a,t,p⟩:=h
 refine seqA a t fun al1 ds M1 vs H1 s1 a1 r1 q1=>?_
 rw [List.append_nil]
 exact ⟨al1,M1,ds,Q,E,a1.wf,r1,q1,p.mono s1,a1.ex⟩
theorem dv_call (F:FnD X.prog X.w X.K X.mg X.base Tb k f fd ps dsp) (hr:Room k X.A) (hg:Gl X x) (hm:X.mg x=some (.ref f)) (hk:PySem.W.keepIn X.K (.ref f)=true) (hb:Binds X.K fd ps []) (hx:Passes (L2.CX X.prog X.w) X EV)
  (ha:PDA X Tb EV (e :: es) t) (hdb:(x == ("__debug__":Str))=false:=by decide) (he:starEach (e :: es) X.env=(false,eval e X.env) :: starEach es X.env:=by rfl) (hpl:(backTo pos (starEach es X.env)).any (·.1)=false:=by rfl) :
  PD X Tb EV (.Call (.Name x p) (e :: es) [] pos) (dCall dsp t):=pe_imp (pe_call F.ok hr hg hm hk hb .nil hx ha hdb he hpl) fun _ _ _ h=>call_lift h
end
def startD (N:List Str) (ds:List D):Rho:=ds.map some ++ List.replicate (N.length - ds.length) none
theorem start_ok {K:PySem.W.Frag} {al:Al} {M:Mem} {H:Hp} {N:List Str} {ds:List D} {vs:List V} (r:Rps K al M H ds vs):RpS K al M H (L2.start N vs) (startD N ds):=by
 have hl:=r.length
 unfold L2.start startD
 refine ⟨by simp [hl],fun i d e=>?_⟩
 by_cases hi:i < ds.length
 ·rw [List.getElem?_append_left (by simpa using hi),List.getElem?_map] at e
  cases q:ds[i]? with
  | none=>rw [q] at e;cases e
  | some d' =>
   rw [q] at e;cases e
   obtain ⟨v,e2,rv⟩:=r.get q
   exact ⟨v,by rw [List.getElem?_append_left (by rw [List.length_map,<- hl];exact hi),List.getElem?_map,e2];rfl,rv⟩
 ·rw [List.getElem?_append_right (by simpa using hi),List.getElem?_replicate] at e
  split at e <;> cases e
section
variable {P:Program} {w:World} {K:PySem.W.Frag} {mg:Str->Option Value} {base:Heap} {Tb:List (Addr×Str)}
theorem fnD_of {x qual:Str} {params:Arguments} {body:List Stmt} {scope:Scope} {dvs:List V} {kws:List (Str×V)} {f:Addr} {fd:FuncData} {N ps:List Str} {k:Nat} {dsp:DSp} (tb:TSD) (F:FunD K x qual params body scope dvs kws f fd) (S:FnScope N ps scope)
  (len:∀ ds M Q E,dsp ds M Q E->ds.length=ps.length)
  (hbody:∀ (cdv:Value) (A:Around) (outer:List Env) (s:Shared) (H:Hp) (EV:XK),Room k (A.deeper (envOfC qual scope s.heap.objs.size f cdv))->PDSs (cxOf (L2.CX P w) P w K mg base N qual scope f cdv A outer s H EV) Tb EV body tb)
  (hq:∀ ds M Q E,okM M.length M->D.hbs M.length ds=true->dsp ds M Q E->tb (CutX M.length E) { nx:=fun _ M'=>Cut M.length Q .non M',rt:=Cut M.length Q } (startD N ds) M):FnD P w K mg base Tb (k+1) f fd ps dsp:=by
 refine ⟨F.ok S (fun vs H Q E h=>?_) fun cdv A outer s H vs QV EV hr h=>?_⟩
 ·obtain ⟨al,M,ds,Q,E,wf,r,q,_⟩:=h
  rw [<- r.length];exact len _ _ _ _ q
 ·obtain ⟨al,M,ds,Q,E,wf,r,q,p,px⟩:=h
  have pv:PostV K Tb al M H (Cut M.length Q) QV:=fun al' d M' v H' s' w' r' q' =>
   let ⟨m,hm,q1,q2,q3⟩:=q';p _ _ _ _ _ (stp_cut wf hm s') (wf_cut w' q2) (r'.cutH q1) q3
  refine ⟨_,hbody cdv A outer s H EV hr,al,startD N ds,M,CutX M.length E,_,⟨wf,start_ok r,fun al' y M' cls dct H' s' w' r' q'=>?_⟩,hq ds M Q E wf.okM (by rw [<- wf.len];exact r.hb) q,?_⟩
  ·obtain ⟨e1,dx,ys,e2,h1,h2⟩:=r'
   exact px _ y _ cls dct _ (stp_cut wf (Nat.le_refl _) s') (wf_cut w' q'.2.1) ⟨e1,dx,ys,e2,h1,h2.cutH q'.1⟩ q'.2.2
  ·refine ⟨fun al' rho' M' σ' H' s' w' _ q'=>?_,pv,fun _ _ _ _ _ _ _ _ q'=>q'.elim,fun _ _ _ _ _ _ _ _ q'=>q'.elim⟩
   exact pv al' .non M' .non H' s' w' rfl q'
end
abbrev dNext:TSD:=fun _ DD rho M=>DD.nx rho M
def dSeq (t u:TSD):TSD:=fun E DD rho M=>t E { DD with nx:=u E DD } rho M
abbrev dRet (te:TED):TSD:=fun E DD rho M=>te E rho M DD.rt
abbrev dIfS (c:TTD) (t u:TSD):TSD:=fun E DD rho M=>c E rho M fun b M1=>if b=true then t E DD rho M1 else u E DD rho M1
section
variable {X:Cx} {Tb:List (Addr×Str)} {EV:XK} {st:Stmt} {rest:List Stmt} {t u:TSD} {e:Expr} {te:TED} {pos:Pos}
theorem ds_nil:PDSs X Tb EV [] dNext:=pss_imp pss_nil fun DV σ H h=>by
 obtain ⟨al,rho,M,E,DD,a,t,p⟩:=h
 exact p.nx _ _ _ _ _ (Stp.refl ..) a.wf a.sl t
theorem ds_cons (h1:PDS X Tb EV st t) (h2:PDSs X Tb EV rest u):PDSs X Tb EV (st :: rest) (dSeq t u):=pss_imp (pss_cons h1 h2) fun DV σ H h=>by
 obtain ⟨al,rho,M,E,DD,a,t,p⟩:=h
 exact ⟨al,rho,M,E,_,a,t,⟨fun al' rho' M' σ' H' s w r q=>⟨al',rho',M',E,DD,⟨w,r,a.ex.mono s⟩,q,p.mono s⟩,p.rt,p.bk,p.ct⟩⟩
theorem ds_one (h1:PDS X Tb EV st t):PDSs X Tb EV [st] t:=pss_one h1
theorem dp_ret (he:PD X Tb EV e te):PDS X Tb EV (.Return (some e) pos) (dRet te):=ps_imp (ps_ret he) fun DV σ H h=>by
 obtain ⟨al,rho,M,E,DD,a,t,p⟩:=h
 exact ⟨al,rho,M,E,DD.rt,a,t,p.rt⟩
theorem dp_if {c:Expr} {ss us:List Stmt} {tc:TTD} (hc:PDT X Tb EV c tc) (ha:PDSs X Tb EV ss t) (hb:PDSs X Tb EV us u):PDS X Tb EV (.If c ss us pos) (dIfS tc t u):=ps_imp (ps_if hc ha hb) fun DV σ H h=>by
 obtain ⟨al,rho,M,E,DD,a,t,p⟩:=h
 refine seqT a t fun al1 k M1 H1 s1 a1 q1=>?_
 cases k with
 | true=>exact ⟨al1,rho,M1,E,DD,a1,q1,p.mono s1⟩
 | false=>exact ⟨al1,rho,M1,E,DD,a1,q1,p.mono s1⟩
end
abbrev TGD:=D->XD->Rho->Mem->(Rho->Mem->Prop)->Prop
abbrev TGsD:=List D->XD->Rho->Mem->(Rho->Mem->Prop)->Prop
def liftG (K:PySem.W.Frag) (Tb:List (Addr×Str)) (EV:XK) (t:TGD):TG:=fun v σ H QS=>∃ al rho M E d Q,At K Tb EV al σ H rho M E/\Rp K al M H d v/\t d E rho M Q/\PostS K Tb al M H Q QS
abbrev PDG (X:Cx) (Tb:List (Addr×Str)) (EV:XK) (e:Expr) (t:TGD):Prop:=PG X e (liftG X.K Tb EV t)
abbrev hName (i:Nat):TGD:=fun d _ rho M Q=>Q (rho.set i (some d)) M
def hTup (n:Nat) (t:TGsD):TGD:=fun d E rho M Q=>match d with
 | .tup xs=>xs.length=n/\t xs E rho M Q
 | _=>False
abbrev dAsg (te:TED) (g:TGD):TSD:=fun E DD rho M=>te E rho M fun x M1=>g x E rho M1 DD.nx
section
variable {X:Cx} {Tb:List (Addr×Str)} {EV:XK} {pos:Pos}
theorem dg_name (i:Nat) {x:Str} (hN:X.N.Nodup) (hi:X.N[i]?=some x:=by rfl) (hx:Loc X.env.scope x:=by first | exact Or.inl rfl | exact Or.inr rfl) (hf:X.fn x=true\/X.env.scope.names.lookup x=some .local:=by first | exact .inl rfl | exact .inr rfl | assumption):PDG X Tb EV (.Name x pos) (hName i):=by
 refine ⟨fun pins s σ H v u Q I r h=>(pg_name hN hi hx hf).run pins s σ H v u Q I r ?_⟩
 obtain ⟨al,rho,M,E,d,Q',a,rd,t,p⟩:=h
 exact p _ _ _ _ _ (Stp.refl ..) a.wf (a.sl.set i rd) t
theorem dp_asg {tg e:Expr} {te:TED} {g:TGD} (he:PD X Tb EV e te) (hg:PDG X Tb EV tg g) (hs:swapsWithSole [tg] e pos.line X.env=pure false:=by rfl) (hw:swappedStores [tg] e X.env=pure none:=by rfl)
  (h1:(assignEach [tg] X.env).map (·.2)=[assign tg X.env]:=by rfl):PDS X Tb EV (.Assign [tg] e pos) (dAsg te g):=ps_imp (ps_asg he hg hs hw h1) fun DV σ H h=>by
 obtain ⟨al,rho,M,E,DD,a,t,p⟩:=h
 exact seq1 a t fun al1 x M1 vx H1 s1 a1 r1 q1=>⟨al1,rho,M1,E,x,_,a1,r1,q1,p.nx.mono s1⟩
theorem dp_set (i:Nat) {x:Str} {e:Expr} {te:TED} {pos':Pos} (hN:X.N.Nodup) (he:PD X Tb EV e te) (hi:X.N[i]?=some x:=by rfl) (hx:Loc X.env.scope x:=by first | exact Or.inl rfl | exact Or.inr rfl) (hs:swapsWith e (some (.Name x pos')) pos.line X.env=pure false:=by rfl) (hf:X.fn x=true\/X.env.scope.names.lookup x=some .local:=by first | exact .inl rfl | exact .inr rfl | assumption) :
  PDS X Tb EV (.Assign [.Name x pos'] e pos) (dAsg te (hName i)):=ps_imp (ps_set hN hi hx he hs hf) fun DV σ H h=>by
 obtain ⟨al,rho,M,E,DD,a,t,p⟩:=h
 exact seq1 a t fun al1 x M1 vx H1 s1 a1 r1 q1=>p.nx _ _ _ _ _ s1 a1.wf (a1.sl.set i r1) q1
abbrev dPar (i j:Nat) (ta:TAD):TSD:=fun E DD rho M=>ta E rho M fun ds M1=>match ds with
 | [d,d']=>DD.nx ((rho.set i (some d)).set j (some d')) M1
 | _=>False
theorem dp_par (i j:Nat) {x y:Str} {a b:Expr} {ta:TAD} {px py pt:Pos} {kt k2 pt2} (hc:X.calm=true) (hN:X.N.Nodup) (ha:PDA X Tb EV [a,b] ta)
  (hw:swappedStores [.Tuple [.Name x px,.Name y py] kt pt] (.Tuple [a,b] k2 pt2) X.env=pure (some [x,y])) (hi:X.N[i]?=some x:=by rfl) (hj:X.N[j]?=some y:=by rfl) (hij:i≠j:=by decide)
  (hx:X.env.scope.names.lookup x=some .local:=by rfl) (hy:X.env.scope.names.lookup y=some .local:=by rfl)
  (hs:swapsWithSole [.Tuple [.Name x px,.Name y py] kt pt] (.Tuple [a,b] k2 pt2) pos.line X.env=pure false:=by rfl) :
  PDS X Tb EV (.Assign [.Tuple [.Name x px,.Name y py] kt pt] (.Tuple [a,b] k2 pt2) pos) (dPar i j ta):=ps_imp (ps_par hc hN hi hj hij hx hy ha hw hs) fun DV σ H h=>by
 obtain ⟨al,rho,M,E,DD,a,t,p⟩:=h
 refine seqA a t fun al1 ds M1 vs H1 s1 a1 r1 q1=>?_
 split at q1
 ·rename_i d d'
  obtain ⟨v,r,rfl,rv,v',r',rfl,rv',e⟩:=r1
  cases (show _=[] from e)
  exact ⟨v,v',rfl,p.nx _ _ _ _ _ s1 a1.wf ((a1.sl.set i rv).set j rv') q1⟩
 ·exact q1.elim
def dAug (i:Nat) (te:TED) (r:RD2):TSD:=fun E DD rho M=>match rho[i]? with
 | some (some x)=>te E rho M fun y M1=>r x y M1 fun z M2=>DD.nx (rho.set i (some z)) M2
 | _=>False
def hSub (to ti:TED):TGD:=fun d E rho M Q=>to E rho M fun o M1=>ti E rho M1 fun i M2=>match o,i with
 | .mt n,.int k=>match memL M2 n with
  | some xs=>(match ixN xs.length k with
   | some j=>Q rho (M2.set n (some (.lst (xs.set j d))))
   | none=>False)
  | none=>False
 | _,_=>False
theorem lst_not_code {xs:List V} {c:Addr} {q:Str}:HO.lst xs≠LamX.CodeO c q:=fun z=>by unfold LamX.CodeO at z;cases z
theorem set_lst {K:PySem.W.Frag} {al:Al} {M:Mem} {H:Hp} {a:Addr} {n:Nat} {ds:List D} {xs ys:List V} {es:List D} (w:Wf K Tb al H M) (hi:al.a[n]?=some a) (hm:M[n]?=some (some (.lst ds))) (hH:H a=some (.lst xs)) (r:Rps K al M H es ys) :
  Stp al M H al (M.set n (some (.lst es))) (upd H a (.lst ys))/\Wf K Tb al (upd H a (.lst ys)) (M.set n (some (.lst es))) :=
 have s:Stp al M H al (M.set n (some (.lst es))) (upd H a (.lst ys)):=stp_set w hi hm _
 ⟨s,wf_set w hi hm (fun _ z=>by cases z) ⟨ys,upd_same,r.mono s⟩ fun c q z=>lst_not_code (Option.some.inj (hH.symm.trans z))⟩
theorem dg_sub {o i:Expr} {to ti:TED} (ho:PD X Tb EV o to) (hi:PD X Tb EV i ti)
  (ha:∀ v,assign (.Subscript o i pos) X.env v=(do
   let ov <- holding [v] (eval o X.env)
   let iv <- holding [v,ov] (eval i X.env)
   standAt pos
   holding [v,ov,iv] (setItem ov iv v)
   release [v,ov,iv] []):=by intro _;rfl):PDG X Tb EV (.Subscript o i pos) (hSub to ti):=by
 refine ⟨fun pins s σ H v u Q I r h=>(pg_sub ho hi set_list ha).run pins s σ H v u Q I r ?_⟩
 obtain ⟨al,rho,M,E,d,Q',a,rd,t,p⟩:=h
 refine seq1 a t fun al1 o M1 vo H1 s1 a1 r1 q1=>seq1 a1 q1 fun al2 i M2 vi H2 s2 a2 r2 q2=>?_
 split at q2
 ·rename_i n k
  split at q2
  ·rename_i xs e1
   split at q2
   ·rename_i j e2
    obtain ⟨b,ys,rfl,hb,hm,hH,rr⟩:=memL_ok a2.wf e1 (r1.mono s2)
    obtain ⟨g1,g2⟩:=set_lst a2.wf hb hm hH (rr.set j (rd.mono (s1.trans s2)))
    exact ⟨b,ys,k,j,rfl,r2,hH,by rw [<- rr.length];exact e2,p _ _ _ _ _ ((s1.trans s2).trans g1) g2 (a2.sl.mono g1) q2⟩
   ·exact q2.elim
  ·exact q2.elim
 ·exact q2.elim
end
structure Stw (al:Al) (M:Mem) (H:Hp) (al':Al) (M':Mem) (H':Hp):Prop where
 pre:∀ (i:Nat) (a:Addr),al.a[i]?=some a->al'.a[i]?=some a
 fz:∀ a o,H a=some o->(∀ ps,o≠.tbl ps)->Fz al M a->H' a=some o/\Fz al' M' a
 hid:∀ a∈al.h,a∈al'.h/\H' a=H a
theorem Stp.stw {al al':Al} {M M':Mem} {H H':Hp} (s:Stp al M H al' M' H'):Stw al M H al' M' H':=⟨s.pre,s.fz,fun a ha=>⟨by rw [s.hh];exact ha,s.hid a ha⟩⟩
theorem Stw.stp {al al1 al2:Al} {M M1 M2:Mem} {H H1 H2:Hp} (a:Stw al M H al1 M1 H1) (b:Stp al1 M1 H1 al2 M2 H2):Stw al M H al2 M2 H2 :=
 ⟨fun i x h=>b.pre i x (a.pre i x h),fun x o h n f=>b.fz x o (a.fz x o h n f).1 n (a.fz x o h n f).2,fun x hx=>⟨by rw [b.hh];exact (a.hid x hx).1,(b.hid x (a.hid x hx).1).trans (a.hid x hx).2⟩⟩
theorem SqTz.monow {K:PySem.W.Frag} {al al':Al} {M M':Mem} {H H':Hp} {a:Addr} {xs:List V} (s:Stw al M H al' M' H') (h:SqTz K al M H a xs):SqTz K al' M' H' a xs:=by
 rcases h with ⟨h,f⟩ | h
 ·exact .inl ⟨(s.fz _ _ h (fun _ z=>by cases z) f).1,(s.fz _ _ h (fun _ z=>by cases z) f).2⟩
 ·exact .inr h
theorem SqLz.monow {K:PySem.W.Frag} {al al':Al} {M M':Mem} {H H':Hp} {a:Addr} {xs:List V} (s:Stw al M H al' M' H') (h:SqLz K al M H a xs):SqLz K al' M' H' a xs:=by
 rcases h with ⟨h | ⟨o,h⟩,f⟩ | h
 ·exact .inl ⟨.inl (s.fz _ _ h (fun _ z=>by cases z) f).1,(s.fz _ _ h (fun _ z=>by cases z) f).2⟩
 ·exact .inl ⟨.inr ⟨o,(s.fz _ _ h (fun _ z=>by cases z) f).1⟩,(s.fz _ _ h (fun _ z=>by cases z) f).2⟩
 ·exact .inr h
mutual
theorem Rp.monow {K:PySem.W.Frag} {al al':Al} {M M':Mem} {H H':Hp} (s:Stw al M H al' M' H'):∀ {d:D} {v:V},Rp K al M H d v->Rp K al' M' H' d v
 | .non,_,h=>h
 | .bl _,_,h=>h
 | .int _,_,h=>h
 | .str _,_,h=>h
 | .ty _,_,h=>h
 | .tup ds,_,h=>by
  obtain ⟨a,xs,e,q,r⟩:=h
  exact ⟨a,xs,e,q.monow s,Rps.monow s r⟩
 | .lst ds,_,h=>by
  obtain ⟨a,xs,e,q,f,r⟩:=h
  exact ⟨a,xs,e,(s.fz _ _ q (fun _ z=>by cases z) f).1,(s.fz _ _ q (fun _ z=>by cases z) f).2,Rps.monow s r⟩
 | .rol ds,_,h=>by
  obtain ⟨a,xs,e,q,r⟩:=h
  exact ⟨a,xs,e,q.monow s,Rps.monow s r⟩
 | .obj C ns ds,_,h=>by
  obtain ⟨a,dx,xs,e,q,f,l,r⟩:=h
  exact ⟨a,dx,xs,e,(s.fz _ _ q (fun _ z=>by cases z) f).1,(s.fz _ _ q (fun _ z=>by cases z) f).2,l,Rps.monow s r⟩
 | .dk C ds,_,h=>by
  obtain ⟨a,dx,xs,e,q,f,l,r⟩:=h
  exact ⟨a,dx,xs,e,(s.fz _ _ q (fun _ z=>by cases z) f).1,(s.fz _ _ q (fun _ z=>by cases z) f).2,l,Rps.monow s r⟩
 | .dt C ds,_,h=>by
  obtain ⟨a,dx,xs,e,q,f,l,r⟩:=h
  exact ⟨a,dx,xs,e,(s.fz _ _ q (fun _ z=>by cases z) f).1,(s.fz _ _ q (fun _ z=>by cases z) f).2,l,Rps.monow s r⟩
 | .exc C ns ds,_,h=>by
  obtain ⟨a,dx,xs,e,q,f,q2,f2,l,r⟩:=h
  exact ⟨a,dx,xs,e,(s.fz _ _ q (fun _ z=>by cases z) f).1,(s.fz _ _ q (fun _ z=>by cases z) f).2,(s.fz _ _ q2 (fun _ z=>by cases z) f2).1,(s.fz _ _ q2 (fun _ z=>by cases z) f2).2,l,Rps.monow s r⟩
 | .lam _ _,_,h=>⟨h.1,fun x hx=>s.fz _ _ (h.2 x hx).1 (fun _ z=>by cases z) (h.2 x hx).2⟩
 | .ref _,_,h=>h
 | .mt i,_,h=>by
  obtain ⟨a,e,q⟩:=h
  exact ⟨a,s.pre _ _ e,q⟩
theorem Rps.monow {K:PySem.W.Frag} {al al':Al} {M M':Mem} {H H':Hp} (s:Stw al M H al' M' H'):∀ {ds:List D} {xs:List V},Rps K al M H ds xs->Rps K al' M' H' ds xs
 | [],_,h=>h
 | d :: ds,_,h=>by
  obtain ⟨x,r,e,q,t⟩:=h
  exact ⟨x,r,e,Rp.monow s q,Rps.monow s t⟩
end
structure ItOk (K:PySem.W.Frag) (Tb:List (Addr×Str)) (al:Al) (M:Mem) (H:Hp) (J:It) (ds:List D):Prop where
 stop:∀ al1 M1 H1,Stw al M H al1 M1 H1->Wf K Tb al1 H1 M1->J.stop ds.length H1
 go:∀ al1 M1 H1,Stw al M H al1 M1 H1->Wf K Tb al1 H1 M1->∀ (i:Nat) (d:D),ds[i]?=some d->J.go i H1
 yld:∀ al1 M1 H1,Stw al M H al1 M1 H1->Wf K Tb al1 H1 M1->∀ (i:Nat) (d:D) x H2,ds[i]?=some d->J.yld i H1 x H2->Stp al1 M1 H1 al1 M1 H2/\Wf K Tb al1 H2 M1/\Rp K al1 M1 H2 d x
abbrev TID:=XD->Rho->Mem->(List D->Mem->Prop)->Prop
def liftI (K:PySem.W.Frag) (Tb:List (Addr×Str)) (EV:XK) (t:TID):TI:=fun σ H R=>∃ al rho M E Q,At K Tb EV al σ H rho M E/\t E rho M Q /\
 ∀ al' ds M' H' J,Stp al M H al' M' H'->Wf K Tb al' H' M'->ItOk K Tb al' M' H' J ds->Q ds M'->R J H'
abbrev PDI (X:Cx) (Tb:List (Addr×Str)) (EV:XK) (tg iter:Expr) (t:TID):Prop:=PI X tg iter (liftI X.K Tb EV t)
section
variable {K:PySem.W.Frag} {Tb:List (Addr×Str)} {al:Al} {M:Mem} {H:Hp}
theorem it_list {a:Addr} {ds:List D} {xs:List V} (h:SqLz K al M H a xs) (r:Rps K al M H ds xs):ItOk K Tb al M H (Itl K a) ds where
 stop:=fun al1 M1 H1 s w=>⟨xs,(h.monow s).sq,by rw [r.length];exact Nat.le_refl _⟩
 go:=fun al1 M1 H1 s w i d e=>by
  obtain ⟨x,ex,_⟩:=r.get e
  exact ⟨xs,x,(h.monow s).sq,ex⟩
 yld:=fun al1 M1 H1 s w i d x H2 e y=>by
  obtain ⟨rfl,y⟩:=y
  obtain ⟨z,ez,rz⟩:=r.get e
  have:=(y xs (h.monow s).sq).symm.trans ez
  cases this
  exact ⟨Stp.refl ..,w,rz.monow s⟩
theorem it_tup {a:Addr} {ds:List D} {xs:List V} (h:SqTz K al M H a xs) (r:Rps K al M H ds xs):ItOk K Tb al M H (Itt K a) ds where
 stop:=fun al1 M1 H1 s w=>⟨xs,(h.monow s).sq,by rw [r.length];exact Nat.le_refl _⟩
 go:=fun al1 M1 H1 s w i d e=>by
  obtain ⟨x,ex,_⟩:=r.get e
  exact ⟨xs,x,(h.monow s).sq,ex⟩
 yld:=fun al1 M1 H1 s w i d x H2 e y=>by
  obtain ⟨rfl,y⟩:=y
  obtain ⟨z,ez,rz⟩:=r.get e
  have:=(y xs (h.monow s).sq).symm.trans ez
  cases this
  exact ⟨Stp.refl ..,w,rz.monow s⟩
def rangeD (lo:Int) (n:Nat):List D:=(List.range n).map fun i=>D.int (lo+(i:Nat))
theorem it_range {lo:Int} {n:Nat}:ItOk K Tb al M H (Itr lo n) (rangeD lo n) where
 stop:=fun al1 M1 H1 s w=>by show n<=(rangeD lo n).length;simp [rangeD]
 go:=fun al1 M1 H1 s w i d e=>by
  have:=(List.getElem?_eq_some_iff.mp e).1
  show i < n
  simpa [rangeD] using this
 yld:=fun al1 M1 H1 s w i d x H2 e y=>by
  obtain ⟨rfl,rfl⟩:=y
  refine ⟨Stp.refl ..,w,?_⟩
  have hi:=(List.getElem?_eq_some_iff.mp e).1
  simp [rangeD] at hi
  simp [rangeD,hi] at e
  subst e
  rfl
theorem it_str {z:Str}:ItOk K Tb al M H (Its z) (signsD z) where
 stop:=fun al1 M1 H1 s w=>by show z.cps.size<=(signsD z).length;simp [signsD]
 go:=fun al1 M1 H1 s w i d e=>by
  have:=(List.getElem?_eq_some_iff.mp e).1
  show i < z.cps.size
  simpa [signsD] using this
 yld:=fun al1 M1 H1 s w i d x H2 e y=>by
  obtain ⟨rfl,c,ec,rfl⟩:=y
  refine ⟨Stp.refl ..,w,?_⟩
  simp [signsD,ec] at e
  subst e
  rfl
end
abbrev iSeq (t:TED):TID:=fun E rho M Q=>t E rho M fun x M1=>match x with
 | .lst xs=>Q xs M1
 | .rol xs=>Q xs M1
 | .tup xs=>Q xs M1
 | .str z=>Q (signsD z) M1
 | _=>False
def iRange1 (t:TAD):TID:=fun E rho M Q=>t E rho M fun ds M1=>match ds with
 | [.int j]=>(-(2 ^ 62)<=j/\j < 2 ^ 62)/\Q (rangeD 0 j.toNat) M1
 | _=>False
section
variable {X:Cx} {Tb:List (Addr×Str)} {EV:XK} {tg:Expr}
theorem di_seq {l:Expr} {tl:TED} (hl:PD X Tb EV l tl):PDI X Tb EV tg l (iSeq tl):=by
 refine ⟨fun pins s σ H R I h=>?_⟩
 obtain ⟨al,rho,M,E,Q,a,t,p⟩:=h
 refine thn (hl.run pins s σ H _ I (seq1 a t fun al1 x M1 vx H1 s1 a1 r1 q1=>(show (∃ z,vx = .str z/\R (Its z) H1)\/∃ a,vx = .ref a/\(((∃ xs,SqL X.K H1 a xs)/\R (Itl X.K a) H1)\/((∃ xs,SqT X.K H1 a xs)/\R (Itt X.K a) H1)) from ?_))) fun v s1 ⟨x,H1,I1,r1,q1⟩=>?_
 ·split at q1
  ·obtain ⟨b,ys,rfl,h1,h2,h3⟩:=r1
   exact .inr ⟨b,rfl,.inl ⟨⟨ys,SqL.of h1⟩,p _ _ _ _ _ s1 a1.wf (it_list (.inl ⟨.inl h1,h2⟩) h3) q1⟩⟩
  ·obtain ⟨b,ys,rfl,h1,h3⟩:=r1
   exact .inr ⟨b,rfl,.inl ⟨⟨ys,h1.sq⟩,p _ _ _ _ _ s1 a1.wf (it_list h1 h3) q1⟩⟩
  ·obtain ⟨b,ys,rfl,h1,h3⟩:=r1
   exact .inr ⟨b,rfl,.inr ⟨⟨ys,h1.sq⟩,p _ _ _ _ _ s1 a1.wf (it_tup h1 h3) q1⟩⟩
  ·rename_i z
   exact .inl ⟨z,r1,p _ _ _ _ _ s1 a1.wf it_str q1⟩
  ·exact q1.elim
 ·rcases q1 with ⟨z,e,q⟩ | ⟨a,e,⟨⟨xs,hq⟩,q⟩ | ⟨⟨xs,hq⟩,q⟩⟩
  ·subst e
   obtain ⟨t,rfl⟩:=r1
   cases ha:z.cps.all (· < 128)
   ·exact wpAny_pyIter_wide ha (pi_one (tk:=s1.toks) I1 _ (turn_str _ z t "str_iterator" (.inr rfl)) ⟨_,Heap.get?_push_size _ rfl,rfl,rfl⟩ q)
   ·exact wpAny_pyIter_ascii ha (pi_one (tk:=s1.toks) I1 _ (turn_str _ z t "str_ascii_iterator" (.inl rfl)) ⟨_,Heap.get?_push_size _ rfl,rfl,rfl⟩ q)
  ·subst e
   cases r1
   obtain ⟨its,rv,p,hz⟩:=I1.list hq
   refine wpAny_pyIter_list p.isList ?_
   refine ⟨s1.heap.objs.size,[s1.heap.objs.size],_,_,H1,rfl,I1.kept (t':=s1.toks) fun b o e=>Heap.get?_push_of_some _ e,turn_list a _,⟨_,Heap.get?_push_size _ rfl,rfl,rfl⟩,fun b hb=>?_,q⟩
   have e:b=s1.heap.objs.size:=by simpa using hb
   subst e
   exact I1.fpOk (Nat.le_refl _) (I1.hok.fresh (Nat.le_refl _))
  ·subst e
   cases r1
   obtain ⟨its,rv,p,hz⟩:=I1.tuple hq
   refine wpAny_pyIter_tuple (show s1.heap.IsTuple a its.toArray from p) ?_
   refine ⟨s1.heap.objs.size,[s1.heap.objs.size],_,_,H1,rfl,I1.kept (t':=s1.toks) fun b o e=>Heap.get?_push_of_some _ e,turn_tuple a _,⟨_,Heap.get?_push_size _ rfl,rfl,rfl⟩,fun b hb=>?_,q⟩
   have e:b=s1.heap.objs.size:=by simpa using hb
   subst e
   exact I1.fpOk (Nat.le_refl _) (I1.hok.fresh (Nat.le_refl _))
theorem pi_imp {iter:Expr} {t t':TI} (h:PI X tg iter t) (w:∀ σ H R,t' σ H R->t σ H R):PI X tg iter t':=⟨fun pins s σ H R I q=>h.run pins s σ H R I (w σ H R q)⟩
theorem Rps.two {K:PySem.W.Frag} {al:Al} {M:Mem} {H:Hp} {d d':D} {vs:List V} (r:Rps K al M H [d,d'] vs):∃ v v',vs=[v,v']/\Rp K al M H d v/\Rp K al M H d' v':=by
 obtain ⟨v,w,rfl,r,r2⟩:=r
 obtain ⟨v',rfl,r3⟩:=r2.one
 exact ⟨v,v',rfl,r,r3⟩
theorem di_range1 {a:Expr} {ta:TAD} {p pos:Pos} (hg:Gl X "range") (hm:X.mg "range"=none) (ha:PDA X Tb EV [a] ta) (hs:starEach [a] X.env=[(false,eval a X.env)]:=by rfl):PDI X Tb EV tg (.Call (.Name "range" p) [a] [] pos) (iRange1 ta) :=
 pi_imp (pi_range1 hg hm ha hs) fun σ H R h=>by
  obtain ⟨al,rho,M,E,Q,a,t,p⟩:=h
  refine seqA a t fun al1 ds M1 vs H1 s1 a1 r1 q1=>?_
  split at q1
  ·rename_i j
   obtain ⟨v,rfl,rfl⟩:=r1.one
   exact ⟨j,rfl,q1.1.1,q1.1.2,p _ _ _ _ _ s1 a1.wf it_range q1.2⟩
  ·exact q1.elim
end
def forU (g:TGD) (tb:TSD):List D->TSD
 | []=>fun _ DD rho M=>DD.nx rho M
 | d :: r=>fun E DD rho M=>g d E rho M fun rho' M'=>tb E { DD with nx:=forU g tb r E DD,ct:=forU g tb r E DD,bk:=DD.nx } rho' M'
abbrev dFor (it:TID) (g:TGD) (tb:TSD):TSD:=fun E DD rho M=>it E rho M fun ds M1=>forU g tb ds E DD rho M1
theorem dp_for {X:Cx} {Tb:List (Addr×Str)} {EV:XK} {tg iter:Expr} {body:List Stmt} {it:TID} {g:TGD} {tb:TSD} {pos:Pos} (hp:PassesOwn (model X.prog X.w) X.A X.env X.xe) (hc:X.calm=true) (hi:PDI X Tb EV tg iter it) (hg:PDG X Tb EV tg g) (hb:PDSs X Tb EV body tb)
  (hs:∀ x,foldedSetIterable iter X.env x=pure x:=by intro _;rfl):PDS X Tb EV (.For tg iter body [] pos) (dFor it g tb):=ps_imp (ps_for hp hc hi hg hb hs) fun DV σ H h=>by
 obtain ⟨al,rho,M,E,DD,a,t,p⟩:=h
 refine ⟨al,rho,M,E,_,a,t,fun al0 ds M0 H0 J s0 w0 ok q=>?_⟩
 refine ⟨fun i m σ1 H1=>m=ds.length - i/\i<=ds.length/\∃ al1 rho1 M1,Stp al0 M0 H0 al1 M1 H1/\At X.K Tb EV al1 σ1 H1 rho1 M1 E/\forU g tb (ds.drop i) E DD rho1 M1,⟨ds.length,by simp,Nat.zero_le _,al0,rho,M0,Stp.refl ..,a.go s0 w0,by simpa using q⟩,?_⟩
 rintro i m σ1 H1 ⟨rfl,hi,al1,rho1,M1,s1,a1,t1⟩
 by_cases hlt:i < ds.length
 ·have e:ds[i]?=some ds[i]:=by simp [hlt]
  have ed:ds.drop i=ds[i] :: ds.drop (i+1):=List.drop_eq_getElem_cons hlt
  rw [ed] at t1
  refine .inr ⟨ok.go _ _ _ s1.stw a1.wf i _ e,fun σ2 H2=>∃ al2 rho2 M2,Stp al0 M0 H0 al2 M2 H2/\At X.K Tb EV al2 σ2 H2 rho2 M2 E/\forU g tb (ds.drop (i+1)) E DD rho2 M2,fun σ2 H2 h2=>⟨ds.length - (i+1),by omega,rfl,hlt,h2⟩,fun x H2 y=>?_⟩
  obtain ⟨s2,w2,r2⟩:=ok.yld _ _ _ s1.stw a1.wf i _ x H2 e y
  have a2:=a1.go s2 w2
  have st:=s0.trans (s1.trans s2)
  refine ⟨al1,rho1,M1,E,_,_,a2,r2,t1,fun al3 rho3 M3 σ3 H3 s3 w3 r3 q3=>⟨al3,rho3,M3,E,_,⟨w3,r3,a2.ex.mono s3⟩,q3,?_⟩⟩
  have st3:=st.trans s3
  exact ⟨fun al4 rho4 M4 σ4 H4 s4 w4 r4 q4=>⟨al4,rho4,M4,(s1.trans s2).trans (s3.trans s4),⟨w4,r4,(a2.ex.mono s3).mono s4⟩,q4⟩,p.rt.mono st3,p.nx.mono st3,fun al4 rho4 M4 σ4 H4 s4 w4 r4 q4=>⟨al4,rho4,M4,(s1.trans s2).trans (s3.trans s4),⟨w4,r4,(a2.ex.mono s3).mono s4⟩,q4⟩⟩
 ·have e:i=ds.length:=by omega
  subst e
  refine .inl ⟨ok.stop _ _ _ s1.stw a1.wf,?_⟩
  simp [forU] at t1
  exact p.nx _ _ _ _ _ (s0.trans s1) a1.wf a1.sl t1
def wipeD (rho:Rho):List Nat->Rho
 | []=>rho
 | v :: vs=>(wipeD rho vs).set v none
theorem wipe_ok {K:PySem.W.Frag} {al:Al} {M:Mem} {H:Hp} {σ:L2.St} {rho:Rho} (h:RpS K al M H σ rho):∀ vs:List Nat,RpS K al M H (wipe σ vs) (wipeD rho vs)
 | []=>h
 | v :: vs=>by
  show RpS K al M H ((wipe σ vs).set v none) ((wipeD rho vs).set v none)
  exact (wipe_ok h vs).wipe1 v
theorem wipe_in {σ:L2.St} {i:Nat}:∀ {vs:List Nat},i∈vs->i < σ.length->(wipe σ vs)[i]?=some none
 | v :: vs,h,hl=>by
  show ((wipe σ vs).set v none)[i]?=some none
  by_cases e:v=i
  ·subst e
   rw [List.getElem?_set_self (by rw [wipe_length];exact hl)]
  ·rw [List.getElem?_set_ne e]
   exact wipe_in ((List.mem_cons.mp h).resolve_left fun z=>e z.symm) hl
theorem wipe_set {σ:L2.St} {i:Nat} {v:Option V} {vs:List Nat} (hi:i∈vs):wipe (σ.set i v) vs=wipe σ vs:=by
 apply List.ext_getElem?
 intro j
 by_cases hj:j∈vs
 ·by_cases hl:j < σ.length
  ·rw [wipe_in hj (by simpa using hl),wipe_in hj hl]
  ·rw [List.getElem?_eq_none (by rw [wipe_length];simp;omega),List.getElem?_eq_none (by rw [wipe_length];omega)]
 ·rw [wipe_out hj,wipe_out hj,List.getElem?_set_ne (fun (z:i=j)=>hj (z ▸ hi))]
theorem wipe_wipe {σ:L2.St}:∀ {vs ws:List Nat},(∀ i∈ws,i∈vs)->wipe (wipe σ ws) vs=wipe σ vs
 | vs,[],_=>rfl
 | vs,w :: ws,h=>by
  show wipe ((wipe σ ws).set w none) vs=wipe σ vs
  rw [wipe_set (h w (by simp)),wipe_wipe fun i hi=>h i (by simp [hi])]
def TgN (K:PySem.W.Frag) (gV:TG) (gD:TGD) (vs:List Nat):Prop:=∀ al rho M E d x σ H Q QS,RpS K al M H σ rho->Rp K al M H d x->gD d E rho M Q->(∀ σ' rho',wipe σ' vs=wipe σ vs->RpS K al M H σ' rho'->Q rho' M->QS σ' H)->gV x σ H QS
theorem tgn_name {K:PySem.W.Frag} {i:Nat} {vs:List Nat} (hi:i∈vs):TgN K (gName i) (hName i) vs:=fun al rho M E d x σ H Q QS a r t k =>
 k _ _ (wipe_set hi) (a.set i r) t
def lcU (g:TGD) (tt:TTD) (te:TED) (vs:List Nat):List D->List D->Rho->Mem->VD->Prop
 | [],acc=>fun _ M Q=>Q (.lst acc) M
 | d :: r,acc=>fun rho M Q=>g d noE (wipeD rho vs) M fun rho' M1=>tt noE rho' M1 fun b M2=>if b=true then te noE rho' M2 (fun y M3=>acc.length < sizeLine/\lcU g tt te vs r (acc ++ [y]) rho M3 Q) else lcU g tt te vs r acc rho M2 Q
abbrev dLc (it:TID) (g:TGD) (tt:TTD) (te:TED) (vs:List Nat):TED:=fun E rho M Q=>it E rho M fun ds M1=>lcU g tt te vs ds [] rho M1 Q
abbrev dYes:TTD:=fun _ _ M Q=>Q true M
section
variable {K:PySem.W.Frag} {Tb:List (Addr×Str)} {al:Al} {M:Mem} {H:Hp} {D0:Addr}
theorem Al.eta {al:Al} {p:Addr} {l:List Addr} (h:al.h=p :: l):al=Al.hide ⟨al.a,l⟩ p:=by
 obtain ⟨a,h'⟩:=al
 cases h
 rfl
theorem fz_unhide {a:Addr} (f:Fz (al.hide D0) M a):a≠D0/\Fz al M a:=⟨fun z=>f.1 (by rw [z];exact List.mem_cons_self),fun hm=>f.1 (List.mem_cons_of_mem _ hm),f.2⟩
theorem hid_set (w:Wf K Tb (al.hide D0) H M) (u:HO) (hu:HidO D0 u):Wf K Tb (al.hide D0) (upd H D0 u) M/\(∀ (d:D) (v:V),Rp K (al.hide D0) M H d v->Rp K (al.hide D0) M (upd H D0 u) d v)/\(∀ (d:List D) (v:List V),Rps K (al.hide D0) M H d v->Rps K (al.hide D0) M (upd H D0 u) d v):=by
 obtain ⟨xs0,hD,hz⟩:=w.hth D0 List.mem_cons_self
 have up:∀ b o,H b=some o->Fz (al.hide D0) M b->upd H D0 u b=some o:=fun b o h f=>by rw [upd_ne (fz_unhide f).1];exact h
 have all:=hideRp (K:=K) (al:=al.hide D0) (al':=al.hide D0) (M:=M) (fun _ _ _ f=>f) up
 have alls:=hideRps (K:=K) (al:=al.hide D0) (al':=al.hide D0) (M:=M) (fun _ _ _ f=>f) up
 have live:∀ (i:Nat) (b:Addr) (mo:MO),al.a[i]?=some b->M[i]?=some (some mo)->b≠D0:=fun i b mo e1 e2 z=>w.hdis i b mo e1 e2 (by rw [z];exact List.mem_cons_self)
 refine ⟨⟨w.len,w.nd,fun i b mo e1 e2=>?_,fun i b e=>?_,fun q hq=>?_,fun b hb=>?_,w.hdis⟩,all,alls⟩
 ·have r:=w.rep i b mo e1 e2
  have ne:=live i b mo e1 e2
  cases mo with
  | lst ds=>obtain ⟨zs,h1,h2⟩:=r;exact ⟨zs,by rw [upd_ne ne];exact h1,alls _ _ h2⟩
  | dK kvs=>obtain ⟨zs,h1,h2⟩:=r;exact ⟨zs,by rw [upd_ne ne];exact h1,h2.1,alls _ _ h2.2⟩
  | dT ks ds=>obtain ⟨zs,h1,h2⟩:=r;exact ⟨zs,by rw [upd_ne ne];exact h1,h2.1,alls _ _ h2.2⟩
  | ins C fs=>obtain ⟨dx,zs,h1,h2⟩:=r;exact ⟨dx,zs,by rw [upd_ne ne];exact h1,h2.1,alls _ _ h2.2⟩
 ·by_cases hb:b=D0
  ·exact ⟨_,by rw [hb];exact upd_same,hu.tbl⟩
  ·obtain ⟨o,h1,h2⟩:=w.there i b e
   exact ⟨o,by rw [upd_ne hb];exact h1,h2⟩
 ·obtain ⟨ps,h1,h2,h3⟩:=w.tb q hq
  refine ⟨ps,?_,h2,fun pos cv hc=>?_⟩
  ·rw [upd_ne (fun (z:q.1=D0)=>by rw [z,hD] at h1;exact hz.tbl _ (Option.some.inj h1))]
   exact h1
  ·obtain ⟨c,e1,e2⟩:=h3 pos cv hc
   refine ⟨c,e1,?_⟩
   rw [upd_ne (fun (z:c=D0)=>by rw [z,hD] at e2;exact hz.code _ _ (Option.some.inj e2))]
   exact e2
 ·by_cases hbD:b=D0
  ·exact ⟨u,by rw [hbD];exact upd_same,hbD ▸ hu⟩
  ·obtain ⟨zs,h,q⟩:=w.hth b hb
   exact ⟨zs,by rw [upd_ne hbD];exact h,q⟩
theorem unhide (w:Wf K Tb (al.hide D0) H M):Wf K Tb al H M/\(∀ (d:D) (v:V),Rp K (al.hide D0) M H d v->Rp K al M H d v)/\(∀ (d:List D) (v:List V),Rps K (al.hide D0) M H d v->Rps K al M H d v):=by
 have all:=hideRp (K:=K) (al:=al.hide D0) (al':=al) (M:=M) (H:=H) (H':=H) (fun _ _ _ f=>(fz_unhide f).2) fun _ _ h _=>h
 have alls:=hideRps (K:=K) (al:=al.hide D0) (al':=al) (M:=M) (H:=H) (H':=H) (fun _ _ _ f=>(fz_unhide f).2) fun _ _ h _=>h
 refine ⟨⟨w.len,w.nd,fun i b mo e1 e2=>?_,w.there,w.tb,fun b hb=>w.hth b (List.mem_cons_of_mem _ hb),fun i b mo e1 e2 hm=>w.hdis i b mo e1 e2 (List.mem_cons_of_mem _ hm)⟩,all,alls⟩
 have r:=w.rep i b mo e1 e2
 cases mo with
 | lst ds=>obtain ⟨zs,h1,h2⟩:=r;exact ⟨zs,h1,alls _ _ h2⟩
 | dK kvs=>obtain ⟨zs,h1,h2⟩:=r;exact ⟨zs,h1,h2.1,alls _ _ h2.2⟩
 | dT ks ds=>obtain ⟨zs,h1,h2⟩:=r;exact ⟨zs,h1,h2.1,alls _ _ h2.2⟩
 | ins C fs=>obtain ⟨dx,zs,h1,h2⟩:=r;exact ⟨dx,zs,h1,h2.1,alls _ _ h2.2⟩
end
theorem lc_lift {K:PySem.W.Frag} {Tb:List (Addr×Str)} {EV:XK} {it:TID} {gV:TG} {g:TGD} {tt:TTD} {te:TED} {vs:List Nat} (hN:TgN K gV g vs) {σ:L2.St} {H:Hp} {QV:VK} (h:lift K Tb EV (dLc it g tt te vs) σ H QV) :
  tLc (liftI K Tb EV it) gV (liftT K Tb E0 tt) (lift K Tb E0 te) vs σ H QV:=by
 obtain ⟨al,rho,M,E,Q,a,t,p⟩:=h
 refine ⟨al,rho,M,E,_,a,t,fun al0 ds M0 H0 J s0 w0 ok q D0 hD0=>?_⟩
 have a0:=a.go s0 w0
 refine ⟨fun i m H1=>m=ds.length - i/\i<=ds.length/\∃ (l1:List Addr) (M1:Mem) (acc:List D) (ys:List V),Stw al0 M0 H0 (Al.hide ⟨l1,al0.h⟩ D0) M1 H1/\Wf K Tb (Al.hide ⟨l1,al0.h⟩ D0) H1 M1/\RpS K (Al.hide ⟨l1,al0.h⟩ D0) M1 H1 σ rho /\
   Rps K (Al.hide ⟨l1,al0.h⟩ D0) M1 H1 acc ys/\H1 D0=some (.lst ys)/\lcU g tt te vs (ds.drop i) acc rho M1 Q,⟨ds.length,by simp,Nat.zero_le _,al0.a,M0,[],[],?_⟩,?_⟩
 ·obtain ⟨w1,r1⟩:=hide_stp w0 hD0 (.lst []) (.inl ⟨_,rfl⟩)
  refine ⟨⟨fun _ _ h=>h,fun b o h _ f=>⟨by rw [upd_ne (ne_of_none h hD0)];exact h,fun hm=>?_,f.2⟩,fun b hb=>⟨List.mem_cons_of_mem _ hb,upd_ne fun z=>w0.nohid hD0 (z ▸ hb)⟩⟩,w1,⟨a0.sl.1,fun i d e=>let ⟨v,e1,r⟩:=a0.sl.2 i d e;⟨v,e1,r1 _ _ r⟩⟩,rfl,upd_same,by simpa using q⟩
  rcases List.mem_cons.mp hm with z | z
  ·exact absurd (z ▸ h) (by rw [hD0];intro q;cases q)
  ·exact f.1 z
 ·rintro i m H1 ⟨rfl,hi,l1,M1,acc,ys,s1,w1,sl1,racc,hD1,t1⟩
  by_cases hlt:i < ds.length
  ·have e:ds[i]?=some ds[i]:=by simp [hlt]
   have ed:ds.drop i=ds[i] :: ds.drop (i+1):=List.drop_eq_getElem_cons hlt
   rw [ed] at t1
   refine .inr ⟨ok.go _ _ _ s1 w1 i _ e,fun H2=>∃ (l2:List Addr) (M2:Mem) (acc:List D) (ys:List V),Stw al0 M0 H0 (Al.hide ⟨l2,al0.h⟩ D0) M2 H2/\Wf K Tb (Al.hide ⟨l2,al0.h⟩ D0) H2 M2/\RpS K (Al.hide ⟨l2,al0.h⟩ D0) M2 H2 σ rho /\
    Rps K (Al.hide ⟨l2,al0.h⟩ D0) M2 H2 acc ys/\H2 D0=some (.lst ys)/\lcU g tt te vs (ds.drop (i+1)) acc rho M2 Q,fun H2 h2=>⟨ds.length - (i+1),by omega,rfl,hlt,h2⟩,fun x H2 y=>?_⟩
   obtain ⟨s2,w2,r2⟩:=ok.yld _ _ _ s1 w1 i _ x H2 e y
   have sl2:=sl1.mono s2
   refine hN _ _ _ _ _ _ _ _ _ _ (wipe_ok sl2 vs) r2 t1 fun σ' rho' ew sl' t2=>⟨by rw [ew];exact wipe_wipe fun _ h=>h,?_⟩
   have aB:At K Tb E0 (Al.hide ⟨l1,al0.h⟩ D0) σ' H2 rho' M1 noE:=⟨w2,sl',fun _ _ _ _ _ _ _ _ _ z=>z⟩
   have hD2:H2 D0=some (.lst ys):=(s2.hid D0 List.mem_cons_self).trans hD1
   refine seqT aB t2 fun al3 b M3 H3 s3 a3 q3=>?_
   have hh3:al3=Al.hide ⟨al3.a,al0.h⟩ D0:=Al.eta (show al3.h=D0 :: al0.h from s3.hh)
   have hD3:H3 D0=some (.lst ys):=(s3.hid D0 List.mem_cons_self).trans hD2
   cases b with
   | false =>
    rw [if_neg Bool.false_ne_true]
    refine ⟨al3.a,M3,acc,ys,?_,?_,?_,?_,hD3,q3⟩
    ·rw [<- hh3];exact (s1.stp s2).stp s3
    ·rw [<- hh3];exact a3.wf
    ·rw [<- hh3];exact sl2.mono s3
    ·rw [<- hh3];exact (racc.mono s2).mono s3
   | true =>
    rw [if_pos rfl]
    refine seq1 a3 q3 fun al4 d4 M4 v4 H4 s4 a4 r4 q4=>?_
    have hh4:al4=Al.hide ⟨al4.a,al0.h⟩ D0:=Al.eta (show al4.h=D0 :: al0.h from s4.hh.trans s3.hh)
    have hm3:D0∈al3.h:=by rw [hh3];exact List.mem_cons_self
    have hD4:H4 D0=some (.lst ys):=(s4.hid D0 hm3).trans hD3
    have S4:=((s1.stp s2).stp s3).stp s4
    have W4:=a4.wf
    have L4:=(sl2.mono s3).mono s4
    have R4:=((racc.mono s2).mono s3).mono s4
    rw [hh4] at S4 W4 L4 R4 r4
    obtain ⟨w5,u1,u2⟩:=hid_set W4 (.lst (ys ++ [v4])) (.inl ⟨_,rfl⟩)
    refine ⟨ys,hD4,by rw [<- racc.length];exact q4.1,al4.a,M4,acc ++ [d4],ys ++ [v4],⟨S4.pre,fun b o h n f=>⟨?_,(S4.fz b o h n f).2⟩,fun b hb=>⟨(S4.hid b hb).1,?_⟩⟩,w5,⟨L4.1,fun i d e=>let ⟨v,e1,r⟩:=L4.2 i d e;⟨v,e1,u1 _ _ r⟩⟩,u2 _ _ (R4.append ⟨v4,[],rfl,r4,rfl⟩),upd_same,q4.2⟩
    ·rw [upd_ne (ne_of_none h hD0)];exact (S4.fz b o h n f).1
    ·rw [upd_ne (fun (z:b=D0)=>w0.nohid hD0 (z ▸ hb))];exact (S4.hid b hb).2
  ·have e:i=ds.length:=by omega
   subst e
   refine .inl ⟨ok.stop _ _ _ s1 w1,?_⟩
   simp [lcU] at t1
   obtain ⟨w2,u1,u2⟩:=unhide w1
   refine p ⟨l1,al0.h⟩ (.lst acc) M1 _ H1 (s0.trans ⟨s1.pre,fun b o h n f=>⟨(s1.fz b o h n f).1,(fz_unhide (s1.fz b o h n f).2).2⟩,rfl,fun b hb=>(s1.hid b hb).2⟩) w2 ⟨D0,ys,rfl,hD1,⟨fun hm=>?_,fun j mo e1 e2=>w1.hdis j D0 mo e1 e2 List.mem_cons_self⟩,u2 _ _ racc⟩ t1
   exact w0.nohid hD0 hm
section
variable {X:Cx} {Tb:List (Addr×Str)} {EV:XK} {elt tg iter:Expr} {ifs:List Expr} {scope:Scope} {own:List (Str×Nat)} {pos:Pos} {it:TID} {gV:TG} {g:TGD} {tt:TTD} {te:TED}
theorem dv_lc (hc:X.calm=true) (hN:X.N.Nodup) (hi:PDI X Tb EV tg iter it) (ok:BlkOk X.N X.env.scope scope own) (hT:TgN X.K gV g (own.map (·.2)))
  (hg:∀ (s:Shared) (H:Hp) (C:Addr) (cl:List (Str×Addr)) (fp:List Addr),PG (X.blk s H scope (compEnvC scope cl C X.env) fp) tg gV) (ht:∀ (s:Shared) (H:Hp) (C:Addr) (cl:List (Str×Addr)) (fp:List Addr),PTs (X.blk s H scope (compEnvC scope cl C X.env) fp) ifs (liftT X.K Tb E0 tt))
  (he:∀ (s:Shared) (H:Hp) (C:Addr) (cl:List (Str×Addr)) (fp:List Addr),PD (X.blk s H scope (compEnvC scope cl C X.env) fp) Tb E0 elt te) (hs:∀ x,foldedSetIterable iter X.env x=pure x:=by intro _;rfl) :
  PD X Tb EV (.ListComp elt [⟨tg,iter,ifs,0⟩] scope pos) (dLc it g tt te (own.map (·.2))):=pe_imp (pe_lc hc hN hi ok hg ht he hs) fun _ _ _ h=>lc_lift hT h
theorem dts_nil {X:Cx} {K:PySem.W.Frag} {EV:XK}:PTs X [] (liftT K Tb EV dYes):=⟨fun pins s σ H Q I h=>pts_nil.run pins s σ H Q I (by
 obtain ⟨al,rho,M,E,Q',a,t,p⟩:=h
 exact p _ _ _ _ (Stp.refl ..) a.wf t)⟩
end
abbrev RDC:=List D->Mem->VD->Prop
def RefC (K:PySem.W.Frag) (Tb:List (Addr×Str)) (r:List V->Hp->VK->Prop) (rD:RDC):Prop :=
 ∀ al M H xs ds Q QV,Wf K Tb al H M->Rps K al M H ds xs->rD ds M Q->PostV K Tb al M H Q QV->r xs H QV
abbrev dCB (rD:RDC) (t:TAD):TED:=fun E rho M Q=>t E rho M fun ds M1=>rD ds M1 Q
section
variable {X:Cx} {Tb:List (Addr×Str)} {EV:XK} {x:Str} {p pos:Pos} {e:Expr} {es:List Expr} {t:TAD} {id T:String} {r:List V->Hp->VK->Prop} {rD:RDC}
theorem cb_lift (hr:RefC X.K Tb r rD) {σ:L2.St} {H:Hp} {QV:VK} (h:lift X.K Tb EV (dCB rD t) σ H QV):tCB r (liftA X.K Tb EV t) σ H QV:=by
 obtain ⟨al,rho,M,E,Q,a,t,p⟩:=h
 exact seqA a t fun al1 ds M1 vs H1 s1 a1 r1 q1=>hr _ _ _ _ _ _ _ a1.wf r1 q1 (p.mono s1)
theorem dv_callB (hc:CallR X (.builtin id) r) (hr:RefC X.K Tb r rD) (hg:Gl X x) (hm:X.mg x=none) (hv:bootBuiltins x=some (.builtin id)) (ha:PDA X Tb EV (e :: es) t) (hn:x≠"__name__":=by decide) (hdb:(x == ("__debug__":Str))=false:=by decide)
  (he:starEach (e :: es) X.env=(false,eval e X.env) :: starEach es X.env:=by rfl) (hpl:(backTo pos (starEach es X.env)).any (·.1)=false:=by rfl):PD X Tb EV (.Call (.Name x p) (e :: es) [] pos) (dCB rD t):=pe_imp (pe_callB hc hg hm hv ha hn hdb he hpl) fun _ _ _ h=>cb_lift hr h
theorem dv_callTy (hc:CallR X (.type T) r) (hr:RefC X.K Tb r rD) (hg:Gl X x) (hm:X.mg x=none) (hv:bootBuiltins x=some (.type T)) (ha:PDA X Tb EV (e :: es) t) (hn:x≠"__name__":=by decide) (hdb:(x == ("__debug__":Str))=false:=by decide)
  (he:starEach (e :: es) X.env=(false,eval e X.env) :: starEach es X.env:=by rfl) (hpl:(backTo pos (starEach es X.env)).any (·.1)=false:=by rfl):PD X Tb EV (.Call (.Name x p) (e :: es) [] pos) (dCB rD t):=pe_imp (pe_callTy hc hg hm hv ha hn hdb he hpl) fun _ _ _ h=>cb_lift hr h
end
def rLen_:RDC:=fun ds M Q=>match ds with
 | [x]=>(match seqD M x with
  | some xs=>Q (.int xs.length) M
  | none=>match x with
   | .str z=>z.length<=sizeLine/\Q (.int z.length) M
   | _=>False)
 | _=>False
def rAbs_:RDC:=fun ds M Q=>match ds with
 | [.int i]=>Q (.int i.natAbs) M
 | _=>False
def rList_:RDC:=fun ds M Q=>match ds with
 | [x]=>(match seqD M x with
  | some xs=>Q (.lst xs) M
  | none=>False)
 | _=>False
def rTuple_:RDC:=fun ds M Q=>match ds with
 | [x]=>(match seqD M x with
  | some xs=>Q (.tup xs) M
  | none=>False)
 | _=>False
def rInt_:RDC:=fun ds M Q=>match ds with
 | [.int i]=>Q (.int i) M
 | [.bl k]=>Q (.int (if k then 1 else 0)) M
 | [.str a]=>(match PySem.intText? a with
  | some n=>a.length<=640/\Q (.int n) M
  | none=>False)
 | _=>False
def bls:List D->Option (List Bool)
 | []=>some []
 | .bl b :: r=>(bls r).map (b :: ·)
 | _=>none
def rAll_:RDC:=fun ds M Q=>match ds with
 | [x]=>(match asL M x with
  | some xs=>(match bls xs with
   | some bs=>Q (.bl (bs.all _root_.id)) M
   | none=>False)
  | none=>False)
 | _=>False
section
variable {K:PySem.W.Frag} {Tb:List (Addr×Str)} {al:Al} {M:Mem} {H:Hp}
theorem bls_ok:∀ {ds:List D} {bs:List Bool} {xs:List V},bls ds=some bs->Rps K al M H ds xs->xs=bs.map V.bl
 | [],_,_,e,r=>by cases e;exact r
 | .bl b :: ds,_,_,e,r=>by
  obtain ⟨x,ys,rfl,rx,ry⟩:=r
  unfold bls at e
  cases q:bls ds with
  | none=>rw [q] at e;cases e
  | some bs' =>
   rw [q] at e;cases e
   cases (show x = .bl b from rx)
   rw [bls_ok q ry];rfl
 | .non :: _,_,_,e,_=>by cases e
 | .int _ :: _,_,_,e,_=>by cases e
 | .str _ :: _,_,_,e,_=>by cases e
 | .ty _ :: _,_,_,e,_=>by cases e
 | .tup _ :: _,_,_,e,_=>by cases e
 | .lst _ :: _,_,_,e,_=>by cases e
 | .rol _ :: _,_,_,e,_=>by cases e
 | .obj _ _ _ :: _,_,_,e,_=>by cases e
 | .exc _ _ _ :: _,_,_,e,_=>by cases e
 | .dk _ _ :: _,_,_,e,_=>by cases e
 | .dt _ _ :: _,_,_,e,_=>by cases e
 | .ref _ :: _,_,_,e,_=>by cases e
 | .lam _ _ :: _,_,_,e,_=>by cases e
 | .mt _ :: _,_,_,e,_=>by cases e
theorem ref_len {X:Cx}:RefC X.K Tb (fun xs H Q=>∃ x n,xs=[x]/\LenV X.K x H n/\Q (.int n) H) rLen_:=by
 intro al M H xs ds Q QV w r h p
 unfold rLen_ at h
 split at h
 ·rename_i x
  obtain ⟨v,rfl,rv⟩:=r.one
  split at h
  ·rename_i ys e
   obtain ⟨a,zs,rfl,hq,rz⟩:=seqD_ok w e rv
   refine ⟨_,ys.length,rfl,?_,p _ (.int ys.length) _ _ _ (Stp.refl ..) w rfl h⟩
   rcases hq with hq | hq
   ·exact .inl ⟨zs,hq,rz.length⟩
   ·exact .inr ⟨zs,hq,rz.length⟩
  ·split at h
   ·rename_i z _
    cases (show _=_ from rv)
    exact ⟨_,z.length,rfl,⟨h.1,rfl⟩,p _ (.int z.length) _ _ _ (Stp.refl ..) w rfl h.2⟩
   ·exact h.elim
 ·exact h.elim
theorem ref_list {X:Cx}:RefC X.K Tb (fun xs H Q=>∃ p ys,xs=[.ref p]/\(SqL X.K H p ys\/SqT X.K H p ys)/\∀ l,H l=none->Q (.ref l) (upd H l (.lst ys))) rList_:=by
 intro al M H xs ds Q QV w r h p
 unfold rList_ at h
 split at h
 ·obtain ⟨v,rfl,rv⟩:=r.one
  split at h
  ·rename_i ys e
   obtain ⟨a,zs,rfl,hq,rz⟩:=seqD_ok w e rv
   exact ⟨a,zs,rfl,hq,fun l hl=>p _ _ _ _ _ (stp_new w hl _) (wf_new w hl _) (rp_lst w hl rz) h⟩
  ·exact h.elim
 ·exact h.elim
theorem ref_all {X:Cx}:RefC X.K Tb (L2.rAll X.K) rAll_:=by
 intro al M H xs ds Q QV w r h p
 unfold rAll_ at h
 split at h
 ·obtain ⟨v,rfl,rv⟩:=r.one
  split at h
  ·rename_i ys e
   split at h
   ·rename_i bs e2
    obtain ⟨a,zs,rfl,h1,h2⟩:=asL_ok w e rv
    have:=bls_ok e2 h2
    subst this
    exact ⟨a,bs,rfl,SqL.of h1,p _ (.bl _) _ _ _ (Stp.refl ..) w rfl h⟩
   ·exact h.elim
  ·exact h.elim
 ·exact h.elim
end
def tyM:Option (Option MO)->Option String
 | some (some (.lst _))=>some "list"
 | some (some (.dK _))=>some "dict"
 | _=>none
def tyN (M:Mem):D->Option String
 | .non=>some "NoneType"
 | .bl _=>some "bool"
 | .int _=>some "int"
 | .str _=>some "str"
 | .tup _=>some "tuple"
 | .lst _=>some "list"
 | .rol _=>some "list"
 | .mt i=>tyM M[i]?
 | _=>none
theorem tyN_ok {K:PySem.W.Frag} {Tb:List (Addr×Str)} {al:Al} {M:Mem} {H:Hp} (w:Wf K Tb al H M) {d:D} {v:V} {n:String} (e:tyN M d=some n) (r:Rp K al M H d v):TyX K H v (.type n):=by
 cases d with
 | non=>cases e;cases (show _=_ from r);exact .base .non
 | bl b=>cases e;cases (show _=_ from r);exact .base (.bl b)
 | int i=>cases e;cases (show _=_ from r);exact .base (.int i)
 | str x=>cases e;cases (show _=_ from r);exact .base (.str x)
 | tup xs =>
  cases e
  obtain ⟨a,ys,rfl,h,_⟩:=r
  rcases h with ⟨h,_⟩ | (h | ⟨o,h⟩) | ⟨o,its,n,h1,h2,_⟩
  ·exact .base (.tup h)
  ·cases h
  ·cases h
  ·exact .kTuple h1 h2
 | lst xs =>
  cases e
  obtain ⟨a,ys,rfl,h,_⟩:=r
  exact .base (.lst h)
 | rol xs =>
  cases e
  obtain ⟨a,ys,rfl,h,_⟩:=r
  rcases h with ⟨h | ⟨o,h⟩,_⟩ | (h | ⟨o,h⟩) | ⟨o,its,n,h1,h2,_⟩
  ·exact .base (.lst h)
  ·exact .base (.frz h)
  ·cases h
  ·cases h
  ·exact .kList h1 h2
 | mt i =>
  obtain ⟨a,ea,rfl⟩:=r
  have e:tyM M[i]?=some n:=e
  unfold tyM at e
  split at e
  ·rename_i xs em
   cases e
   obtain ⟨ys,h,_⟩:=w.rep i a _ ea em
   exact .base (.lst h)
  ·rename_i xs em
   cases e
   obtain ⟨ys,h,_⟩:=w.rep i a _ ea em
   exact .base (.dK h)
  ·cases e
 | _=>cases e
def tyTab:List String:=["NoneType","bool","int","str","tuple","list","dict"]
def isTab (t u:String):Bool:=t == u || (t == "bool" && u == "int")
theorem kit_tab:(tyTab.all fun t=>["bool","int","str","tuple","list","dict"].all fun u=>kitB t u == some (isTab t u))=true:=by decide +kernel
theorem tyN_tab {M:Mem} {d:D} {n:String} (e:tyN M d=some n):n∈tyTab:=by
 cases d with
 | mt i =>
  have e:tyM M[i]?=some n:=e
  unfold tyM at e
  split at e <;> first | (cases e;decide) | cases e
 | _=>first | (cases e;decide) | cases e
def clTab:List String:=["bool","int","str","tuple","list","dict"]
theorem kit_at {K:PySem.W.Frag} {t u:String} (ht:t∈tyTab) (hu:clTab.contains u=true):PySem.W.kitOne K (.type t) (.type u)=some (isTab t u):=by
 have h:=List.all_eq_true.mp (List.all_eq_true.mp kit_tab t ht) u (List.contains_iff_mem.mp hu)
 exact kit_ty (by simpa using h)
def tyNames:List D->Option (List String)
 | []=>some []
 | .ty n :: r=>(tyNames r).map (n :: ·)
 | _=>none
def rIsi_:RDC:=fun ds M Q=>match ds with
 | [x,.ty u]=>(match tyN M x with
  | some t=>clTab.contains u=true/\Q (.bl (isTab t u)) M
  | none=>False)
 | [x,.tup cs]=>(match tyN M x,tyNames cs with
  | some t,some us=>us.all clTab.contains=true/\Q (.bl (us.any (isTab t))) M
  | _,_=>False)
 | _=>False
theorem tyNames_ok {K:PySem.W.Frag} {al:Al} {M:Mem} {H:Hp}:∀ {ds:List D} {us:List String} {xs:List V},tyNames ds=some us->Rps K al M H ds xs->xs=us.map V.ty
 | [],_,_,e,r=>by cases e;exact r
 | .ty b :: ds,_,_,e,r=>by
  obtain ⟨x,ys,rfl,rx,ry⟩:=r
  unfold tyNames at e
  cases q:tyNames ds with
  | none=>rw [q] at e;cases e
  | some bs' =>
   rw [q] at e;cases e
   cases (show x = .ty b from rx)
   rw [tyNames_ok q ry];rfl
 | .non :: _,_,_,e,_=>by cases e
 | .int _ :: _,_,_,e,_=>by cases e
 | .str _ :: _,_,_,e,_=>by cases e
 | .bl _ :: _,_,_,e,_=>by cases e
 | .tup _ :: _,_,_,e,_=>by cases e
 | .lst _ :: _,_,_,e,_=>by cases e
 | .rol _ :: _,_,_,e,_=>by cases e
 | .obj _ _ _ :: _,_,_,e,_=>by cases e
 | .exc _ _ _ :: _,_,_,e,_=>by cases e
 | .dk _ _ :: _,_,_,e,_=>by cases e
 | .dt _ _ :: _,_,_,e,_=>by cases e
 | .ref _ :: _,_,_,e,_=>by cases e
 | .lam _ _ :: _,_,_,e,_=>by cases e
 | .mt _ :: _,_,_,e,_=>by cases e
theorem clsV_all:∀ us:List String,Paired ClsV (us.map V.ty) (us.map Value.type)
 | []=>.nil
 | u :: us=>.cons (.ty u) (clsV_all us)
theorem kitAny_tab {K:PySem.W.Frag} {t:String} (ht:t∈tyTab):∀ us:List String,us.all clTab.contains=true->PySem.W.kitAny K (.type t) (us.map Value.type)=some (us.any (isTab t))
 | [],_=>kitAny_nil
 | u :: us,h=>by
  simp only [List.all_cons,Bool.and_eq_true] at h
  refine kitAny_cons (kit_at ht h.1) (fun e=>?_) fun e=>?_
  ·rw [kitAny_tab ht us h.2]
   simp [e]
  ·simp [e]
theorem ref_isi {X:Cx} {Tb:List (Addr×Str)}:RefC X.K Tb (fun xs H Q=>L2.rIsi X.K xs H Q\/L2.rIsiT X.K xs H Q\/L2.rIsiK X.K xs H Q) rIsi_:=by
 intro al M H xs ds Q QV w r h p
 unfold rIsi_ at h
 split at h
 ·rename_i x u
  obtain ⟨v,v',rfl,rv,rfl⟩:=r.two
  split at h
  ·rename_i t e
   exact .inl ⟨v,.ty u,.type t,.type u,isTab t u,rfl,.ty u,tyN_ok w e rv,kit_at (tyN_tab e) h.1,p _ (.bl _) _ _ _ (Stp.refl ..) w rfl h.2⟩
  ·exact h.elim
 ·rename_i x cs
  obtain ⟨v,v',rfl,rv,rt⟩:=r.two
  split at h
  ·rename_i t us e1 e2
   obtain ⟨a,ys,rfl,hq,ry⟩:=rt
   have ey:=tyNames_ok e2 ry
   subst ey
   have K1:=kitAny_tab (K:=X.K) (tyN_tab e1) us h.1
   rcases hq with ⟨hq,_⟩ | (hq | ⟨o,hq⟩) | ⟨o,its,n,h1,h2,h3,h4,h5⟩
   ·exact .inr (.inl ⟨v,a,us.map V.ty,.type t,us.map Value.type,_,rfl,hq,clsV_all us,tyN_ok w e1 rv,K1,p _ (.bl _) _ _ _ (Stp.refl ..) w rfl h.2⟩)
   ·cases hq
   ·cases hq
   ·have ei:=ClsV.all (clsV_all us) h5
    obtain ⟨oc,od,dt,sl⟩:=o
    simp only at h2 h3
    subst h2 h3
    have ej:its=(us.map Value.type).toArray:=by rw [<- ei]
    subst ej
    exact .inr (.inr ⟨v,a,od,us.map Value.type,n,sl,.type t,_,rfl,h1,tyN_ok w e1 rv,K1,p _ (.bl _) _ _ _ (Stp.refl ..) w rfl h.2⟩)
  ·exact h.elim
 ·exact h.elim
def vOf:D->Option V
 | .non=>some .non
 | .bl b=>some (.bl b)
 | .int i=>some (.int i)
 | .str z=>some (.str z)
 | _=>none
def vsOf:List D->Option (List V)
 | []=>some []
 | d :: r=>match vOf d,vsOf r with
  | some v,some vs=>some (v :: vs)
  | _,_=>none
theorem vOf_ok {K:PySem.W.Frag} {al:Al} {M:Mem} {H:Hp} {d:D} {v u:V} (e:vOf d=some u) (r:Rp K al M H d v):v=u/\L2.flatV u=true:=by
 cases d <;> first | (cases e;exact ⟨r,rfl⟩) | cases e
theorem vsOf_ok {K:PySem.W.Frag} {al:Al} {M:Mem} {H:Hp}:∀ {ds:List D} {vs us:List V},vsOf ds=some us->Rps K al M H ds vs->vs=us/\us.all L2.flatV=true
 | [],_,_,e,r=>by cases e;exact ⟨r,rfl⟩
 | d :: ds,_,_,e,r=>by
  obtain ⟨x,ys,rfl,rx,ry⟩:=r
  unfold vsOf at e
  split at e
  ·rename_i v vs h1 h2
   cases e
   obtain ⟨rfl,f1⟩:=vOf_ok h1 rx
   obtain ⟨rfl,f2⟩:=vsOf_ok h2 ry
   exact ⟨rfl,by simp [f1,f2]⟩
  ·cases e
def rInX (neg:Bool):RD2:=fun x y M Q=>match x,y with
 | .str c,.str z=>(match c.cps.toList with
  | [k]=>Q (.bl (if neg then !decide (k∈z.cps.toList) else decide (k∈z.cps.toList))) M
  | _=>False)
 | x,y=>(match seqD M y with
  | some ds=>(match vOf x,vsOf ds with
   | some v,some vs=>Q (.bl (if neg then !L2.inV v vs else L2.inV v vs)) M
   | _,_=>False)
  | none=>False)
abbrev rIn_:RD2:=rInX false
section
variable {X:Cx} {Tb:List (Addr×Str)} {EV:XK} {a b c:Expr} {ta tb tc:TED} {pos:Pos}
theorem str_one {c:Str} {k:Nat} (h:c.cps.toList=[k]):c=⟨#[k]⟩:=by
 obtain ⟨⟨l⟩⟩:=c
 have:l=[k]:=h
 subst this
 rfl
theorem ref_inX {neg:Bool}:RefOp X.K Tb (fun x y H Q=>(∃ (c:Nat) (z:Str),x = .str ⟨#[c]⟩/\y = .str z/\Q (.bl (if neg then !decide (c∈z.cps.toList) else decide (c∈z.cps.toList))) H)\/L2.rIn X.K neg x y H Q) (rInX neg):=by
 intro al M H x y dx dy Q QV w rx ry h p
 unfold rInX at h
 split at h
 ·rename_i c z
  split at h
  ·rename_i k e
   rw [str_one e] at rx
   exact .inl ⟨k,z,rx,ry,p _ (.bl _) _ _ _ (Stp.refl ..) w rfl (by simpa using h)⟩
  ·exact h.elim
 ·split at h
  ·rename_i ds e
   split at h
   ·rename_i v vs h1 h2
    obtain ⟨a,xs,rfl,hq,r⟩:=seqD_ok w e ry
    obtain ⟨rfl,f1⟩:=vOf_ok h1 rx
    obtain ⟨rfl,f2⟩:=vsOf_ok h2 r
    exact .inr ⟨a,_,rfl,hq,f1,f2,p _ (.bl _) _ _ _ (Stp.refl ..) w rfl h⟩
   ·exact h.elim
  ·exact h.elim
theorem dv_in (ha:PD X Tb EV a ta) (hb:PD X Tb EV b tb) (hm:behindInMarks .In b=false:=by rfl):PD X Tb EV (.Compare a [.In] [b] pos) (dOp rIn_ ta tb):=dv_cmp (op_in_sign.or op_in_seq) (ref_inX (neg:=false)) ha hb hm
theorem dt_in (ha:PD X Tb EV a ta) (hb:PD X Tb EV b tb) (hm:behindInMarks .In b=false:=by rfl):PDT X Tb EV (.Compare a [.In] [b] pos) (dB (dOp rIn_ ta tb)):=dt_cmp (op_in_sign.or op_in_seq) (ref_inX (neg:=false)) ha hb hm
end
def strsD:List D->Option (List Str)
 | []=>some []
 | .str z :: r=>(strsD r).map (z :: ·)
 | _=>none
theorem strsD_ok {K:PySem.W.Frag} {al:Al} {M:Mem} {H:Hp}:∀ {ds:List D} {us:List Str} {xs:List V},strsD ds=some us->Rps K al M H ds xs->xs=us.map V.str
 | [],_,_,e,r=>by cases e;exact r
 | .str b :: ds,_,_,e,r=>by
  obtain ⟨x,ys,rfl,rx,ry⟩:=r
  unfold strsD at e
  cases q:strsD ds with
  | none=>rw [q] at e;cases e
  | some bs' =>
   rw [q] at e;cases e
   cases (show x = .str b from rx)
   rw [strsD_ok q ry];rfl
 | .non :: _,_,_,e,_=>by cases e
 | .int _ :: _,_,_,e,_=>by cases e
 | .ty _ :: _,_,_,e,_=>by cases e
 | .bl _ :: _,_,_,e,_=>by cases e
 | .tup _ :: _,_,_,e,_=>by cases e
 | .lst _ :: _,_,_,e,_=>by cases e
 | .rol _ :: _,_,_,e,_=>by cases e
 | .obj _ _ _ :: _,_,_,e,_=>by cases e
 | .exc _ _ _ :: _,_,_,e,_=>by cases e
 | .dk _ _ :: _,_,_,e,_=>by cases e
 | .dt _ _ :: _,_,_,e,_=>by cases e
 | .ref _ :: _,_,_,e,_=>by cases e
 | .lam _ _ :: _,_,_,e,_=>by cases e
 | .mt _ :: _,_,_,e,_=>by cases e
def tyB (T:String) (M:Mem):D->Bool
 | .str _=>T == "str"
 | .int _=>T == "int"
 | .lst _=>T == "list"
 | .rol _=>T == "list"
 | .mt i=>tyM M[i]? == some T
 | _=>false
abbrev RDM:=D->List D->Mem->VD->Prop
def RefM (K:PySem.W.Frag) (Tb:List (Addr×Str)) (r:V->List V->Hp->VK->Prop) (rD:RDM):Prop :=
 ∀ al M H x xs d ds Q QV,Wf K Tb al H M->Rp K al M H d x->Rps K al M H ds xs->rD d ds M Q->PostV K Tb al M H Q QV->r x xs H QV
abbrev dBM (T:String) (rD:RDM) (to:TED) (t:TAD):TED:=fun E rho M Q=>to E rho M fun x M1=>tyB T M1 x=true/\t E rho M1 fun ds M2=>rD x ds M2 Q
theorem tyB_ok {K:PySem.W.Frag} {Tb:List (Addr×Str)} {al:Al} {M:Mem} {H:Hp} (w:Wf K Tb al H M) {T:String} {d:D} {v:V} (h:tyB T M d=true) (r:Rp K al M H d v):tyV K T v H:=by
 cases d with
 | str z=>cases (show _=_ from r);exact eq_of_beq h
 | int z=>cases (show _=_ from r);exact eq_of_beq h
 | lst xs=>obtain ⟨a,ys,rfl,h1,_⟩:=r;exact .inl ⟨eq_of_beq h,ys,SqL.of h1⟩
 | rol xs=>obtain ⟨a,ys,rfl,h1,_⟩:=r;exact .inl ⟨eq_of_beq h,ys,h1.sq⟩
 | mt i =>
  obtain ⟨a,ea,rfl⟩:=r
  have e:tyM M[i]?=some T:=eq_of_beq h
  unfold tyM at e
  split at e
  ·rename_i xs em
   cases e
   obtain ⟨ys,h,_⟩:=w.rep i a _ ea em
   exact .inl ⟨rfl,ys,SqL.of h⟩
  ·rename_i xs em
   cases e
   obtain ⟨ys,h,_⟩:=w.rep i a _ ea em
   exact .inr (.inr (.inl ⟨rfl,.inl ⟨ys,h⟩⟩))
  ·cases e
 | _=>cases h
section
variable {X:Cx} {Tb:List (Addr×Str)} {EV:XK} {o e:Expr} {es:List Expr} {to:TED} {t:TAD} {name:Str} {apos cpos:Pos} {T id:String} {r:V->List V->Hp->VK->Prop} {rD:RDM}
theorem dv_bm (pa:PlainAttrs T) (slot:Slot T name id) (hty:typeOf (.builtin id)=pure (.type "method_descriptor")) (hm:MtR X id r) (hr:RefM X.K Tb r rD) (ho:PD X Tb EV o to) (ha:PDA X Tb EV (e :: es) t)
  (hbase:attributeBase o name X.env (eval o X.env)=eval o X.env:=by rfl)
  (hfew:((backTo cpos (starEach (e :: es) X.env)).all (fun x=>!x.1) && (backToKw cpos (keywordEach [] X.env)).all (fun x=>x.1.isSome)
   && decide ((e :: es).length+([]:List Keyword).length+(if ([]:List Keyword).isEmpty then 0 else 1) < 30))=true:=by rfl)
  (hline:(apos.endLine == cpos.line)=true:=by rfl) (hs:starEach (e :: es) X.env=(false,eval e X.env) :: starEach es X.env:=by rfl) (hplain:(backTo cpos (starEach es X.env)).any (·.1)=false:=by rfl) :
  PD X Tb EV (.Call (.Attribute o name apos) (e :: es) [] cpos) (dBM T rD to t):=pe_imp (pe_bm pa slot hty hm ho ha hbase hfew hline hs hplain) fun σ H QV h=>by
 obtain ⟨al,rho,M,E,Q,a,t,p⟩:=h
 refine seq1 a t fun al1 x M1 vx H1 s1 a1 r1 q1=>⟨tyB_ok a1.wf q1.1 r1,seqA a1 q1.2 fun al2 ds M2 vs H2 s2 a2 r2 q2=>?_⟩
 exact hr _ _ _ _ _ _ _ _ _ a2.wf (r1.mono s2) r2 q2 (p.mono (s1.trans s2))
end
def rJoin_:RDM:=fun x ds M Q=>match x,ds with
 | .str a,[y]=>(match seqD M y with
  | some ds=>(match strsD ds with
   | some ys=>(ys.map (·.length)).sum+ys.length * a.length<=16777216/\Q (.str (Txt.join a ys)) M
   | none=>False)
  | none=>False)
 | _,_=>False
section
variable {X:Cx} {Tb:List (Addr×Str)} {EV:XK} {o e:Expr} {to te:TED} {t:TAD} {pos apos:Pos}
theorem ref_join:RefM X.K Tb (fun x xs H Q=>∃ a p,∃ ys:List Str,x = .str a/\xs=[.ref p]/\(SqL X.K H p (ys.map V.str)\/SqT X.K H p (ys.map V.str))/\(ys.map (·.length)).sum+ys.length * a.length<=16777216/\Q (.str (Txt.join a ys)) H) rJoin_:=by
 intro al M H x xs d ds Q QV w rx rs h p
 unfold rJoin_ at h
 split at h
 ·rename_i a y
  obtain ⟨v,rfl,rv⟩:=rs.one
  split at h
  ·rename_i zs e1
   split at h
   ·rename_i ys e2
    obtain ⟨b,us,rfl,hq,ru⟩:=seqD_ok w e1 rv
    have:=strsD_ok e2 ru
    subst this
    exact ⟨a,b,ys,rx,rfl,hq,h.1,p _ (.str _) _ _ _ (Stp.refl ..) w rfl h.2⟩
   ·exact h.elim
  ·exact h.elim
 ·exact h.elim
end
theorem pick_cons {α:Type} (i:Nat) (is:List Nat) (xs:List α):pick (i :: is) xs=match xs[i]? with
 | some x=>x :: pick is xs
 | none=>pick is xs:=by
 unfold pick
 rw [List.filterMap_cons]
 cases xs[i]? <;> rfl
theorem pick_vals {vs:List V} {us:List Value} (r:Vals vs us):∀ is:List Nat,Vals (pick is vs) (pick is us)
 | []=>.nil
 | i :: is=>by
  rw [pick_cons,pick_cons]
  cases e:vs[i]? with
  | none=>rw [r.none_of e];exact pick_vals r is
  | some v =>
   obtain ⟨u,e2,rv⟩:=r.get e
   rw [e2]
   exact .cons rv (pick_vals r is)
theorem pick_rps {K:PySem.W.Frag} {al:Al} {M:Mem} {H:Hp} {ds:List D} {vs:List V} (r:Rps K al M H ds vs):∀ is:List Nat,Rps K al M H (pick is ds) (pick is vs)
 | []=>rfl
 | i :: is=>by
  rw [pick_cons,pick_cons]
  cases e:ds[i]? with
  | none =>
   have:vs[i]?=none:=by
    rw [List.getElem?_eq_none_iff] at e ⊢
    rw [<- r.length];exact e
   rw [this];exact pick_rps r is
  | some d =>
   obtain ⟨v,e2,rv⟩:=r.get e
   rw [e2]
   exact ⟨v,_,rfl,rv,pick_rps r is⟩
def KBp (K:PySem.W.Frag) (fd:FuncData) (ps:List Str) (n:Nat) (ks:List Str) (is:List Nat) (dvs:List V):Prop :=
 ∃ dfl:List Value,Vals dvs dfl/\∀ (s:Shared) (us ws:List Value),K.In s.heap->us.length=n->ws.length=ks.length->BindsTo s fd ⟨us,ks.zip ws⟩ (ps.zip (pick is (us ++ dfl ++ ws)))
theorem KBp.kbn {K:PySem.W.Frag} {fd:FuncData} {ps:List Str} {n:Nat} {ks:List Str} {is:List Nat} {dvs:List V} (h:KBp K fd ps n ks is dvs):∃ g,KBn K fd ps n ks g (fun vs zs=>pick is (vs ++ dvs ++ zs)):=by
 obtain ⟨dfl,hd,h⟩:=h
 exact ⟨fun us ws=>pick is (us ++ dfl ++ ws),h,fun r1 r2=>pick_vals ((r1.append hd).append r2) is⟩
section
variable {K:PySem.W.Frag} {x qual:Str} {params:Arguments} {body:List Stmt} {scope:Scope} {dvs:List V} {kws:List (Str×V)} {f:Addr} {fd:FuncData} {ps:List Str}
theorem kbp_plain (F:FunD K x qual params body scope [] kws f fd) (n:Nat) (ks:List Str) (is:List Nat)
  (h:∀ (kV doc pm:Value) (an:Option Addr) (cdv ct:Value) (us ws:List Value),us.length=n->ws.length=ks.length->bindArgs (PySem.W.fnOf x qual params body scope .none kV doc pm an cdv ct) ⟨us,ks.zip ws⟩=pure (ps.zip (pick is (us ++ [] ++ ws)))):KBp K fd ps n ks is []:=by
 obtain ⟨oc,od,dV,kV,doc,pm,an,cdv,ct,osl,rfl,lk,hcd,hD,hK⟩:=F.ex
 rcases hD with ⟨_,rfl⟩ | ⟨e,_⟩
 ·exact ⟨[],.nil,fun s us ws _ l1 l2=>.of_eq (h kV doc pm an cdv ct us ws l1 l2)⟩
 ·exact absurd rfl e
end
abbrev PDK (X:Cx) (Tb:List (Addr×Str)) (EV:XK) (kws:List Keyword) (t:TAD):Prop:=PK X kws (liftA X.K Tb EV t)
section
variable {X:Cx} {Tb:List (Addr×Str)} {EV:XK} {k n:Nat} {f:Addr} {fd:FuncData} {ps ks:List Str} {dsp:DSp} {x:Str} {p pos kpos:Pos} {e:Expr} {es:List Expr} {t tk:TAD} {te:TED} {kws:List Keyword} {nm:Option Str} {is:List Nat} {dvs:List V} {dds:List D}
theorem dk_nil:PDK X Tb EV [] dNil:=⟨fun pos pins s σ H Q I h=>pk_nil.run pos pins s σ H Q I (by
 obtain ⟨al,rho,M,E,Q',a,t,p⟩:=h
 exact p _ [] _ _ _ (Stp.refl ..) a.wf rfl t)⟩
theorem dk_cons (ha:PD X Tb EV e te) (hr:PDK X Tb EV kws t):PDK X Tb EV (⟨nm,e,kpos⟩ :: kws) (dCons te t):=⟨fun pos pins s σ H Q I h=>(pk_cons ha hr).run pos pins s σ H Q I (by
 obtain ⟨al,rho,M,E,Q',a,t,p⟩:=h
 refine seq1 a t fun al1 x M1 vx H1 s1 a1 r1 q1=>seqA a1 q1 fun al2 xs M2 vs H2 s2 a2 r2 q2=>?_
 exact p _ (x :: xs) _ _ _ (s1.trans s2) a2.wf ⟨vx,vs,rfl,r1.mono s2,r2⟩ q2)⟩
end
structure Cal (P:Program) (w:World) (K:PySem.W.Frag) (mg:Str->Option Value) (base:Heap) (Tb:List (Addr×Str)) (x qual:Str) (st:Stmt) (dvs:List V) (kws:List (Str×V)) (k:Nat) (ps:List Str) (dsp:DSp) where
 f:Addr
 fd:FuncData
 F:FunD K x qual (defArgs st) (defBody st) (defScope st) dvs kws f fd
 fn:FnD P w K mg base Tb k f fd ps dsp
 mgx:mg x=some (.ref f)
theorem hxF {P:Program} {w:World} {K:PySem.W.Frag} {mg:Str->Option Value} {base:Heap} {N:List Str} {qual:Str} {scope:Scope} {f:Addr} {cdv:Value} {A:Around} {outer:List Env} {s:Shared} {H:Hp} {EV:XK} :
  Passes (L2.CX P w) (cxOf (L2.CX P w) P w K mg base N qual scope f cdv A outer s H EV) EV:=passes_call (takes_of rfl rfl rfl rfl) fun _ _ _ _ h=>h
theorem boot_list:bootBuiltins "list"=some (.type "list"):=by decide +kernel
theorem boot_tuple:bootBuiltins "tuple"=some (.type "tuple"):=by decide +kernel
theorem boot_int:bootBuiltins "int"=some (.type "int"):=by decide +kernel
theorem boot_str:bootBuiltins "str"=some (.type "str"):=by decide +kernel
theorem boot_bool:bootBuiltins "bool"=some (.type "bool"):=by decide +kernel
theorem for_inv {g:TGD} {tb:TSD} {E:XD} {DD:DEnds} (Pv:List D->Rho->Mem->Prop)
  (hs:∀ d r rho M (N:Rho->Mem->Prop),Pv (d :: r) rho M->(∀ rho' M',Pv r rho' M'->N rho' M')->g d E rho M fun rho' M'=>tb E { DD with nx:=N,ct:=N,bk:=DD.nx } rho' M')
  (hd:∀ rho M,Pv [] rho M->DD.nx rho M):∀ ds rho M,Pv ds rho M->forU g tb ds E DD rho M
 | [],rho,M,h=>hd rho M h
 | d :: r,rho,M,h=>hs d r rho M _ h fun rho' M' h'=>for_inv Pv hs hd r rho' M' h'
theorem lc_inv {g:TGD} {tt:TTD} {te:TED} {vs:List Nat} {rho:Rho} {Q:VD} (Pv:List D->List D->Mem->Prop)
  (hs:∀ d r acc M (N:List D->Mem->Prop),Pv (d :: r) acc M->(∀ acc' M',Pv r acc' M'->N acc' M')->g d noE (wipeD rho vs) M fun rho' M1=>tt noE rho' M1 fun b M2=>if b=true then te noE rho' M2 (fun y M3=>acc.length < sizeLine/\N (acc ++ [y]) M3) else N acc M2)
  (hd:∀ acc M,Pv [] acc M->Q (.lst acc) M):∀ ds acc M,Pv ds acc M->lcU g tt te vs ds acc rho M Q
 | [],acc,M,h=>hd acc M h
 | d :: r,acc,M,h=>hs d r acc M (fun acc M=>lcU g tt te vs r acc rho M Q) h fun acc' M' h'=>lc_inv Pv hs hd r acc' M' h'
def CcD (K:PySem.W.Frag) (mg:Str->Option Value) (x:Str) (d:D):Prop:=∃ (v:V) (u:Value),mg x=some u/\RelV v u/\∀ al M H,Rp K al M H d v
theorem dv_gl {X:Cx} {Tb:List (Addr×Str)} {EV:XK} {x:Str} {d:D} {pos:Pos} (c:CcD X.K X.mg x d) (hg:Gl X x) (hd:(x == ("__debug__":Str))=false:=by decide):PD X Tb EV (.Name x pos) (dC d):=by
 obtain ⟨v,u,hm,rv,r⟩:=c
 exact dv_glob hg hm rv r hd
end DL
namespace DL
open PySem PySem.Spec PyProof.Rows L2 Mt
theorem mok_r {i j:Int} (h1:-(2 ^ 64) < j) (h2:j < 2 ^ 64):IntMulOk i j:=.of_right (intBits_le_64 h1 h2)
theorem mok_l {i j:Int} (h1:-(2 ^ 64) < i) (h2:i < 2 ^ 64):IntMulOk i j:=.of_left (intBits_le_64 h1 h2)
theorem log2_bs (n:Nat):n.log2<=bs n:=by
 unfold bs
 split
 ·subst_vars;decide
 ·omega
theorem cdx {j:Int} (h:j≠0) (hb:bz j<=8900):CDivX j:=⟨h,by
 have:=log2_bs j.natAbs
 unfold bz at hb
 omega⟩
theorem cdx_small {j:Int} (h:0 < j) (h2:j < 2 ^ 8000):CDivX j:=cdx (by omega) (by
 have:bz j<=8000:=bs_le (by
  have h3:((j.natAbs:Nat):Int) < ((2 ^ 8000:Nat):Int):=by
   rw [Int.natCast_pow]
   have:(j.natAbs:Int)=j:=by omega
   rw [this]
   exact h2
  exact Int.ofNat_lt.mp h3)
 omega)
theorem cpow {i j:Int} (h0:0<=j) (h1:j<=1000000) (h2:-(2 ^ 64) < i) (h3:i < 2 ^ 64):CPow i j:=⟨h0,h1,by omega⟩
theorem RgTo.okM {M M':Mem} {i:Nat} (t:RgTo M i M') (ok:okM M.length M):DL.okM M.length M':=by
 obtain ⟨r,_,rfl⟩:=t
 exact ok.set (r.hb _)
theorem Cut.rg {Q:VD} {d:D} {M M':Mem} {i:Nat} (t:RgTo M i M') (h:d.hb M.length=true) (ok:okM M.length M) (q:Q d M'):Cut M.length Q d M' :=
 ⟨M.length,Nat.le_refl _,h,t.okM ok,by rw [List.take_of_length_le (by rw [t.len];exact Nat.le_refl _)];exact q⟩
theorem fmod_pos {a b:Int} (h:0 < b):0<=a.fmod b/\a.fmod b < b:=⟨Int.fmod_nonneg_of_pos a h,Int.fmod_lt_of_pos a h⟩
def hSubC (o j:D):TGD:=hSub (dC o) (dC j)
section
variable {E:XD} {DD:DEnds} {rho:Rho} {M:Mem} {Q:VD} {ta tb tc:TED} {t u:TSD} {c c':TTD} {aa:TAD} {rD rD':RD2} {R:Bool->Mem->Prop} {N:Rho->Mem->Prop} {L:List D->Mem->Prop} {d d':D} {i n:Nat} {k k':Int} {xs ys:List D} {r:RDC}
theorem e_seq (h:t E { DD with nx:=u E DD } rho M):dSeq t u E DD rho M:=h
theorem e_var (e:rho[i]?=some (some d)) (h:Q d M):dVar i E rho M Q:=by
 unfold dVar;rw [e];exact h
theorem e_int {C:Int->Int->Prop} {g:Int->Int->D} (h1:C k k') (h2:Q (g k k') M):rIntD C g (.int k) (.int k') M Q:=⟨h1,h2⟩
theorem e_add (h:Q (.int (k+k')) M):rAdd_ (.int k) (.int k') M Q:=h
theorem e_ix (h1:seqD M d=some xs) (h2:L2.atI xs k=some d') (h:Q d' M):rIx_ d (.int k) M Q:=by
 unfold rIx_;simp only [h1,h2];exact h
theorem e_eqi (h:Q (.bl (decide (k=k'))) M):rEq_ (.int k) (.int k') M Q:=h
theorem e_nei (h:Q (.bl (!decide (k=k'))) M):rNe_ (.int k) (.int k') M Q:=h
theorem e_len (h1:seqD M d=some xs) (h:Q (.int xs.length) M):rLen_ [d] M Q:=by
 unfold rLen_;simp only [h1];exact h
theorem e_sub (h:ta E rho M fun o M1=>tb E rho M1 fun j M2=>hSubC o j d E rho M2 N):hSub ta tb d E rho M N:=h
theorem e_subc {j:Nat} (h1:M[i]?=some (some (.lst xs))) (h2:ixN xs.length k=some j) (h:∀ M',M'=M.set i (some (.lst (xs.set j d)))->M'[i]?=some (some (.lst (xs.set j d)))->N rho M'):hSubC (.mt i) (.int k) d E rho M N:=by
 show (match memL M i with
  | some xs=>(match ixN xs.length k with
   | some j=>N rho (M.set i (some (.lst (xs.set j d))))
   | none=>False)
  | none=>False)
 unfold memL
 rw [h1]
 simp only [h2]
 exact h _ rfl (by rw [List.getElem?_set_self (List.getElem?_eq_some_iff.mp h1).1])
theorem memL_at (h:M[i]?=some (some (.lst xs))):memL M i=some xs:=by unfold memL;rw [h]
theorem seq_at (h:M[i]?=some (some (.lst xs))):seqD M (.mt i)=some xs:=memL_at h
end
theorem Cut.new {Q:VD} {M:Mem} {o:MO} (ok:okM M.length M) (h:o.hb (M.length+1)=true) (q:Q (.mt M.length) (M ++ [some o])):Cut M.length Q (.mt M.length) (M ++ [some o]) :=
 ⟨M.length+1,Nat.le_succ _,decide_eq_true (Nat.lt_succ_self _),ok.app h,by rw [List.take_of_length_le (by simp)];exact q⟩
end DL
namespace DL
theorem nz {j:Int} (h:j≠0):j≠0:=h
end DL
namespace DL
theorem e_cut {t u:TSD} {E:XD} {DD:DEnds} {rho:Rho} {M:Mem} (I:Rho->Mem->Prop) (h2:∀ rho M,I rho M->u E DD rho M) (h1:∀ N:Rho->Mem->Prop,(∀ rho M,I rho M->N rho M)->t E { DD with nx:=N } rho M):dSeq t u E DD rho M:=h1 _ h2
end DL
namespace DL
theorem RgTo.same {M:Mem} {i:Nat} {o:Option MO} (e:M[i]?=some o):M=M.set i o:=by
 apply List.ext_getElem?
 intro j
 by_cases h:i=j
 ·subst h
  rw [List.getElem?_set_self (List.getElem?_eq_some_iff.mp e).1,e]
 ·rw [List.getElem?_set_ne h]
end DL
namespace DL
theorem cdx_d {j:Int} (h:(0 < j/\j < 1000000000000)):CDivX j:=cdx_small h.1 (Int.lt_trans h.2 (by decide +kernel))
end DL
namespace DL
open PySem PySem.Spec PyProof.Rows L2 Mt
theorem at_pos {α:Type} {xs:List α} {p:Int} (h0:0<=p) (h1:p < xs.length):L2.atI xs p=xs[p.toNat]?:=by
 unfold L2.atI L2.ixN
 rw [if_pos h0,if_pos h1]
 rfl
theorem at_ex {α:Type} {xs:List α} {p:Int} (h0:0<=p) (h1:p < xs.length):∃ x,L2.atI xs p=some x/\x∈xs:=by
 rw [at_pos h0 h1]
 have h:p.toNat < xs.length:=by omega
 exact ⟨xs[p.toNat],List.getElem?_eq_getElem h,List.getElem_mem h⟩
section
variable {E:XD} {DD:DEnds} {rho:Rho} {M:Mem} {Q:VD} {ta tb tc:TED} {t u:TSD} {c c':TTD} {aa:TAD} {rD rD':RD2} {R:Bool->Mem->Prop} {N:Rho->Mem->Prop} {L:List D->Mem->Prop} {d d':D} {i n:Nat} {k k':Int} {xs ys:List D} {r:RDC} {b b':Bool}
theorem e_is (h:Q (.bl (isNon d)) M):rIs_ d .non M Q:=h
theorem e_isn (h:Q (.bl (!isNon d)) M):rIsNot_ d .non M Q:=h
theorem e_eqb (h:Q (.bl (decide (b=b'))) M):rEq_ (.bl b) (.bl b') M Q:=h
theorem e_neb (h:Q (.bl (!decide (b=b'))) M):rNe_ (.bl b) (.bl b') M Q:=h
theorem e_rg1 {I:List D->Mem->Prop} (h:aa E rho M fun ds M1=>match ds with
 | [.int j]=>(-(2 ^ 62)<=j/\j < 2 ^ 62)/\I (rangeD 0 j.toNat) M1
 | _=>False):iRange1 aa E rho M I:=h
end
mutual
def smD:D->D->Bool
 | .tup xs,.tup ys=>smDs xs ys
 | .lst xs,.lst ys=>smDs xs ys
 | .lst xs,.rol ys=>smDs xs ys
 | .rol xs,.lst ys=>smDs xs ys
 | .rol xs,.rol ys=>smDs xs ys
 | .int i,.int j=>decide (i=j)
 | .str x,.str y=>decide (x=y)
 | .bl a,.bl b=>decide (a=b)
 | .non,.non=>true
 | _,_=>false
def smDs:List D->List D->Bool
 | [],[]=>true
 | x :: xs,y :: ys=>smD x y && smDs xs ys
 | _,_=>false
end
mutual
def dp:D->Nat
 | .tup xs=>dps xs+1
 | .lst xs=>dps xs+1
 | .rol xs=>dps xs+1
 | _=>0
def dps:List D->Nat
 | []=>0
 | x :: xs=>max (dp x) (dps xs)
end
mutual
def pu:D->Bool
 | .non=>true
 | .bl _=>true
 | .int _=>true
 | .str _=>true
 | .tup xs=>decide (xs.length<=sizeLine) && pus xs
 | .lst xs=>decide (xs.length<=sizeLine) && pus xs
 | .rol xs=>decide (xs.length<=sizeLine) && pus xs
 | _=>false
def pus:List D->Bool
 | []=>true
 | x :: xs=>pu x && pus xs
end
mutual
theorem smD_refl:∀ {d:D},pu d=true->smD d d=true
 | .non,_=>rfl
 | .bl _,_=>decide_eq_true rfl
 | .int _,_=>decide_eq_true rfl
 | .str _,_=>decide_eq_true rfl
 | .tup xs,h=>smDs_refl (ds:=xs) (by have h:(decide (xs.length<=sizeLine) && pus xs)=true:=h;rw [Bool.and_eq_true] at h;exact h.2)
 | .lst xs,h=>smDs_refl (ds:=xs) (by have h:(decide (xs.length<=sizeLine) && pus xs)=true:=h;rw [Bool.and_eq_true] at h;exact h.2)
 | .rol xs,h=>smDs_refl (ds:=xs) (by have h:(decide (xs.length<=sizeLine) && pus xs)=true:=h;rw [Bool.and_eq_true] at h;exact h.2)
theorem smDs_refl:∀ {ds:List D},pus ds=true->smDs ds ds=true
 | [],_=>rfl
 | x :: xs,h=>by
  have h:(pu x && pus xs)=true:=h
  rw [Bool.and_eq_true] at h
  show (smD x x && smDs xs xs)=true
  rw [smD_refl h.1,smDs_refl h.2];rfl
end
theorem pus_at:∀ {xs:List D} {j:Nat} {x:D},pus xs=true->xs[j]?=some x->pu x=true
 | [],_,_,_,e=>by simp at e
 | y :: ys,j,x,h,e=>by
  have h:(pu y && pus ys)=true:=h
  rw [Bool.and_eq_true] at h
  cases j with
  | zero=>simp at e;subst e;exact h.1
  | succ j=>exact pus_at h.2 (by simpa using e)
theorem dps_at:∀ {xs:List D} {j:Nat} {x:D},xs[j]?=some x->dp x<=dps xs
 | [],_,_,e=>by simp at e
 | y :: ys,j,x,e=>by
  show dp x<=max (dp y) (dps ys)
  cases j with
  | zero=>simp at e;subst e;omega
  | succ j=>have:=dps_at (xs:=ys) (j:=j) (x:=x) (by simpa using e);omega
theorem smDs_len:∀ {xs ys:List D},smDs xs ys=true->xs.length=ys.length
 | [],[],_=>rfl
 | x :: xs,y :: ys,h=>by
  have h:(smD x y && smDs xs ys)=true:=h
  rw [Bool.and_eq_true] at h
  simp [smDs_len h.2]
 | [],_ :: _,h=>by cases h
 | _ :: _,[],h=>by cases h
theorem smDs_zip:∀ {xs ys:List D},xs.length=ys.length->smDs xs ys=(List.zipWith smD xs ys).all _root_.id
 | [],[],_=>rfl
 | x :: xs,y :: ys,h=>by
  show (smD x y && smDs xs ys)=(smD x y && (List.zipWith smD xs ys).all _root_.id)
  rw [smDs_zip (by simpa using h)]
 | [],_ :: _,h=>by simp at h
 | _ :: _,[],h=>by simp at h
def isLst:D->Bool
 | .lst _=>true
 | .rol _=>true
 | _=>false
def isTup:D->Bool
 | .tup _=>true
 | _=>false
def isBl:D->Bool
 | .bl _=>true
 | _=>false
def isInt:D->Bool
 | .int _=>true
 | .bl _=>true
 | _=>false
def isStr:D->Bool
 | .str _=>true
 | _=>false
theorem isi_of {u:String} {b:Bool} {d:D} {M:Mem} {Q:VD} (t:String) (h1:tyN M d=some t) (h2:clTab.contains u=true) (h3:isTab t u=b) (h:Q (.bl b) M):rIsi_ [d,.ty u] M Q:=by
 unfold rIsi_;simp only [h1];exact ⟨h2,by rw [h3];exact h⟩
section
variable {d:D} {M:Mem} {Q:VD} (p:pu d=true)
include p
theorem isi_l (h:Q (.bl (isLst d)) M):rIsi_ [d,.ty "list"] M Q:=by
 cases d with
 | mt i=>cases p
 | obj _ _ _=>cases p
 | exc _ _ _=>cases p
 | dk _ _=>cases p
 | dt _ _=>cases p
 | ref _=>cases p
 | lam _ _=>cases p
 | ty _=>cases p
 | _=>first | exact isi_of (b:=false) _ rfl (by decide +kernel) (by decide +kernel) h | exact isi_of (b:=true) _ rfl (by decide +kernel) (by decide +kernel) h
theorem isi_t (h:Q (.bl (isTup d)) M):rIsi_ [d,.ty "tuple"] M Q:=by
 cases d with
 | mt i=>cases p
 | obj _ _ _=>cases p
 | exc _ _ _=>cases p
 | dk _ _=>cases p
 | dt _ _=>cases p
 | ref _=>cases p
 | lam _ _=>cases p
 | ty _=>cases p
 | _=>first | exact isi_of (b:=false) _ rfl (by decide +kernel) (by decide +kernel) h | exact isi_of (b:=true) _ rfl (by decide +kernel) (by decide +kernel) h
theorem isi_b (h:Q (.bl (isBl d)) M):rIsi_ [d,.ty "bool"] M Q:=by
 cases d with
 | mt i=>cases p
 | obj _ _ _=>cases p
 | exc _ _ _=>cases p
 | dk _ _=>cases p
 | dt _ _=>cases p
 | ref _=>cases p
 | lam _ _=>cases p
 | ty _=>cases p
 | _=>first | exact isi_of (b:=false) _ rfl (by decide +kernel) (by decide +kernel) h | exact isi_of (b:=true) _ rfl (by decide +kernel) (by decide +kernel) h
theorem isi_i (h:Q (.bl (isInt d)) M):rIsi_ [d,.ty "int"] M Q:=by
 cases d with
 | mt i=>cases p
 | obj _ _ _=>cases p
 | exc _ _ _=>cases p
 | dk _ _=>cases p
 | dt _ _=>cases p
 | ref _=>cases p
 | lam _ _=>cases p
 | ty _=>cases p
 | _=>first | exact isi_of (b:=false) _ rfl (by decide +kernel) (by decide +kernel) h | exact isi_of (b:=true) _ rfl (by decide +kernel) (by decide +kernel) h
theorem isi_s (h:Q (.bl (isStr d)) M):rIsi_ [d,.ty "str"] M Q:=by
 cases d with
 | mt i=>cases p
 | obj _ _ _=>cases p
 | exc _ _ _=>cases p
 | dk _ _=>cases p
 | dt _ _=>cases p
 | ref _=>cases p
 | lam _ _=>cases p
 | ty _=>cases p
 | _=>first | exact isi_of (b:=false) _ rfl (by decide +kernel) (by decide +kernel) h | exact isi_of (b:=true) _ rfl (by decide +kernel) (by decide +kernel) h
theorem isi_lt (h:Q (.bl (isLst d || isTup d)) M):rIsi_ [d,.tup [.ty "list",.ty "tuple"]] M Q:=by
 have key:∀ (t:String) (b:Bool),tyN M d=some t->(["list","tuple"].any (isTab t))=b->Q (.bl b) M->rIsi_ [d,.tup [.ty "list",.ty "tuple"]] M Q:=by
  intro t b h1 h3 h
  show (match tyN M d,tyNames [.ty "list",.ty "tuple"] with
   | some t,some us=>us.all clTab.contains=true/\Q (.bl (us.any (isTab t))) M
   | _,_=>False)
  rw [h1]
  exact ⟨by decide +kernel,by rw [h3];exact h⟩
 cases d with
 | mt i=>cases p
 | obj _ _ _=>cases p
 | exc _ _ _=>cases p
 | dk _ _=>cases p
 | dt _ _=>cases p
 | ref _=>cases p
 | lam _ _=>cases p
 | ty _=>cases p
 | _=>first | exact key _ false rfl (by decide +kernel) h | exact key _ true rfl (by decide +kernel) h
end
theorem bls_map:∀ bs:List Bool,bls (bs.map D.bl)=some bs
 | []=>rfl
 | b :: r=>by show (bls (r.map D.bl)).map (b :: ·)=_;rw [bls_map r];rfl
theorem e_all {bs:List Bool} {M:Mem} {Q:VD} (h:Q (.bl (bs.all _root_.id)) M):rAll_ [.lst (bs.map D.bl)] M Q:=by
 show (match bls (bs.map D.bl) with
   | some bs=>Q (.bl (bs.all _root_.id)) M
   | none=>False)
 rw [bls_map];exact h
theorem range_drop {n j:Nat} (h:j < n):(rangeD 0 n).drop j = .int (j:Int) :: (rangeD 0 n).drop (j+1):=by
 have hl:j < (rangeD 0 n).length:=by simp [rangeD];exact h
 rw [List.drop_eq_getElem_cons hl]
 congr 1
 simp [rangeD]
theorem lc_range {g:TGD} {tt:TTD} {te:TED} {vs:List Nat} {rho:Rho} {Q:VD} {n:Nat} {M:Mem} (Pv:Nat->List D->Mem->Prop) (h0:Pv 0 [] M)
  (hs:∀ j acc M (N:List D->Mem->Prop),j < n->Pv j acc M->(∀ acc' M',Pv (j+1) acc' M'->N acc' M')->g (.int (j:Int)) noE (wipeD rho vs) M fun rho' M1=>tt noE rho' M1 fun b M2=>if b=true then te noE rho' M2 (fun y M3=>acc.length < sizeLine/\N (acc ++ [y]) M3) else N acc M2)
  (hd:∀ acc M,Pv n acc M->Q (.lst acc) M):lcU g tt te vs (rangeD 0 n) [] rho M Q:=by
 refine lc_inv (fun ds acc M=>∃ j,j<=n/\ds=(rangeD 0 n).drop j/\Pv j acc M) ?_ ?_ _ _ _ ⟨0,Nat.zero_le _,rfl,h0⟩
 ·rintro d r acc M N ⟨j,hj,e,p⟩ hN
  have hj':j < n:=by
   rcases Nat.lt_or_ge j n with h | h
   ·exact h
   ·have:(rangeD 0 n).drop j=[]:=List.drop_of_length_le (by simp [rangeD];exact h)
    rw [this] at e;cases e
  rw [range_drop hj'] at e
  cases e
  exact hs j acc M N hj' p fun acc' M' q=>hN _ _ ⟨j+1,hj',rfl,q⟩
 ·rintro acc M ⟨j,hj,e,p⟩
  have:j=n:=by
   rcases Nat.lt_or_ge j n with h | h
   ·rw [range_drop h] at e;cases e
   ·omega
  subst this
  exact hd _ _ p
theorem for_range {g:TGD} {tb:TSD} {E:XD} {DD:DEnds} {n:Nat} {rho:Rho} {M:Mem} (Pv:Nat->Rho->Mem->Prop) (h0:Pv 0 rho M)
  (hs:∀ j rho M (N:Rho->Mem->Prop),j < n->Pv j rho M->(∀ rho' M',Pv (j+1) rho' M'->N rho' M')->g (.int (j:Int)) E rho M fun rho' M'=>tb E { DD with nx:=N,ct:=N,bk:=DD.nx } rho' M')
  (hd:∀ rho M,Pv n rho M->DD.nx rho M):forU g tb (rangeD 0 n) E DD rho M:=by
 refine for_inv (fun ds rho M=>∃ j,j<=n/\ds=(rangeD 0 n).drop j/\Pv j rho M) ?_ ?_ _ _ _ ⟨0,Nat.zero_le _,rfl,h0⟩
 ·rintro d r rho M N ⟨j,hj,e,p⟩ hN
  have hj':j < n:=by
   rcases Nat.lt_or_ge j n with h | h
   ·exact h
   ·have:(rangeD 0 n).drop j=[]:=List.drop_of_length_le (by simp [rangeD];exact h)
    rw [this] at e;cases e
  rw [range_drop hj'] at e
  cases e
  exact hs j rho M N hj' p fun rho' M' q=>hN _ _ ⟨j+1,hj',rfl,q⟩
 ·rintro rho M ⟨j,hj,e,p⟩
  have:j=n:=by
   rcases Nat.lt_or_ge j n with h | h
   ·rw [range_drop h] at e;cases e
   ·omega
  subst this
  exact hd _ _ p
theorem at_nat {α:Type} {xs:List α} {j:Nat} (h:j < xs.length):L2.atI xs (j:Int)=some xs[j]:=by
 rw [at_pos (by omega) (by omega)]
 simp [h]
theorem hbs_mem {n:Nat}:∀ {xs:List D} {d:D},D.hbs n xs=true->d∈xs->d.hb n=true
 | [],_,_,h=>by cases h
 | x :: xs,d,e,h=>by
  have e:(D.hb n x && D.hbs n xs)=true:=e
  rw [Bool.and_eq_true] at e
  cases h with
  | head=>exact e.1
  | tail _ h=>exact hbs_mem e.2 h
theorem seq_hb {n:Nat} {x:D} {xs:List D} (h:∀ M,seqD M x=some xs) (hx:x.hb n=true):∀ d∈xs,d.hb n=true:=fun d hd=>by
 cases x with
 | mt i=>have:=h [];cases this
 | tup ys=>cases h [];exact hbs_mem (xs:=xs) hx hd
 | lst ys=>cases h [];exact hbs_mem (xs:=xs) hx hd
 | rol ys=>cases h [];exact hbs_mem (xs:=xs) hx hd
 | _=>cases h []
theorem bi_lt {i:Int} {k:Nat} (h1:-(2 ^ k:Int) < i) (h2:i < (2 ^ k:Int)):bz i<=k:=bs_le (by
 have:((2 ^ k:Nat):Int)=(2:Int) ^ k:=by simp
 omega)
theorem e_sz {xs:List D} {p:Prop} (h:Nat.ble xs.length sizeLine=true) (q:p):xs.length<=sizeLine/\p:=⟨Nat.le_of_ble_eq_true h,q⟩
theorem pu_seq {xs:List D} (h:(decide (xs.length<=sizeLine) && pus xs)=true):xs.length<=sizeLine/\pus xs=true:=by
 rw [Bool.and_eq_true] at h;exact ⟨of_decide_eq_true h.1,h.2⟩
theorem seq_case {f d:D} (pf:pu f=true) (pd:pu d=true) (h0:(isLst d || isTup d)=true) (h1:isLst f=isLst d) (h2:isTup f=isTup d) :
  ∃ xs ys:List D,(∀ M,seqD M f=some xs)/\(∀ M,seqD M d=some ys)/\pus xs=true/\pus ys=true/\xs.length<=sizeLine/\ys.length<=sizeLine/\dp d=dps ys+1/\smD f d=smDs xs ys:=by
 cases d with
 | tup ys =>
  cases f with
  | tup xs=>exact ⟨xs,ys,fun _=>rfl,fun _=>rfl,(pu_seq pf).2,(pu_seq pd).2,(pu_seq pf).1,(pu_seq pd).1,rfl,rfl⟩
  | _=>first | (cases h1;done) | (cases h2;done)
 | lst ys =>
  cases f with
  | lst xs=>exact ⟨xs,ys,fun _=>rfl,fun _=>rfl,(pu_seq pf).2,(pu_seq pd).2,(pu_seq pf).1,(pu_seq pd).1,rfl,rfl⟩
  | rol xs=>exact ⟨xs,ys,fun _=>rfl,fun _=>rfl,(pu_seq pf).2,(pu_seq pd).2,(pu_seq pf).1,(pu_seq pd).1,rfl,rfl⟩
  | _=>first | (cases h1;done) | (cases h2;done)
 | rol ys =>
  cases f with
  | lst xs=>exact ⟨xs,ys,fun _=>rfl,fun _=>rfl,(pu_seq pf).2,(pu_seq pd).2,(pu_seq pf).1,(pu_seq pd).1,rfl,rfl⟩
  | rol xs=>exact ⟨xs,ys,fun _=>rfl,fun _=>rfl,(pu_seq pf).2,(pu_seq pd).2,(pu_seq pf).1,(pu_seq pd).1,rfl,rfl⟩
  | _=>first | (cases h1;done) | (cases h2;done)
 | _=>cases h0
theorem sm_l {f d:D} (h:¬ isLst f=isLst d):smD f d=false:=by
 cases f <;> cases d <;> first | rfl | exact absurd rfl h
theorem sm_t {f d:D} (h:¬ isTup f=isTup d):smD f d=false:=by
 cases f <;> cases d <;> first | rfl | exact absurd rfl h
theorem sm_b {f d:D} (h:¬ isBl d=isBl f):smD f d=false:=by
 cases f <;> cases d <;> first | rfl | exact absurd rfl h
theorem sm_i {f d:D} (h:¬ isInt d=isInt f):smD f d=false:=by
 cases f <;> cases d <;> first | rfl | exact absurd rfl h
theorem sm_s {f d:D} (h:¬ isStr d=isStr f):smD f d=false:=by
 cases f <;> cases d <;> first | rfl | exact absurd rfl h
theorem sm_n1 {f d:D} (h1:isNon f=true) (h2:isNon d=true):smD f d=true:=by
 cases f <;> cases d <;> first | rfl | (cases h1;done) | (cases h2;done)
theorem sm_n2 {f d:D} (h1:isNon f=true) (h2:isNon d=false):smD f d=false:=by
 cases f <;> cases d <;> first | rfl | (cases h1;done) | (cases h2;done)
theorem sm_n3 {f d:D} (h1:isNon f=false) (h2:isNon d=true):smD f d=false:=by
 cases f <;> cases d <;> first | rfl | (cases h1;done) | (cases h2;done)
theorem sm_eq {f d:D} {M:Mem} {Q:VD} (pf:pu f=true) (pd:pu d=true) (h0:(isLst d || isTup d)=false) (n1:isNon f=false) (n2:isNon d=false) (h1:isBl d=isBl f) (h2:isInt d=isInt f) (h3:isStr d=isStr f) (h:Q (.bl (smD f d)) M):rEq_ f d M Q:=by
 cases f <;> cases d <;> first | exact h | (cases pf;done) | (cases pd;done) | (cases h0;done) | (cases n1;done) | (cases n2;done) | (cases h1;done) | (cases h2;done) | (cases h3;done)
def sm_sp (n:Nat):DSp:=fun ds M Q E=>∃ f d,ds=[f,d]/\pu f=true/\pu d=true/\dp d < n/\Q (.bl (smD f d)) M
end DL
namespace DL
theorem e_ift {A B:Prop} (h:A):if true=true then A else B:=h
theorem e_iff {A B:Prop} (h:B):if false=true then A else B:=h
end DL
namespace DL
open PySem PySem.Spec PyProof.Rows L2 Mt
theorem e_int1 {A B:Prop} (h:B):if (!true)=true then A else B:=h
theorem e_int2 {A B:Prop} (h:A):if (!false)=true then A else B:=h
theorem e_ib {k:Bool} {M:Mem} {Q:VD} (h:Q (.int (if k then 1 else 0)) M):rInt_ [.bl k] M Q:=h
theorem e_ii {k:Int} {M:Mem} {Q:VD} (h:Q (.int k) M):rInt_ [.int k] M Q:=h
def PkD (x:D) (xs:List D):Prop:=(∀ M,seqD M x=some xs)\/∃ z:Str,x = .str z/\z.length<=sizeLine/\xs=signsD z
theorem signs_len (z:Str):(signsD z).length=z.length:=by simp [signsD];rfl
theorem pk_len {x:D} {xs:List D} {M:Mem} {Q:VD} (h:PkD x xs) (q:Q (.int xs.length) M):rLen_ [x] M Q:=by
 rcases h with h | ⟨z,rfl,hz,rfl⟩
 ·exact e_len (h M) q
 ·rw [signs_len] at q
  exact ⟨hz,q⟩
theorem pk_ix {x d:D} {xs:List D} {M:Mem} {Q:VD} {k:Int} (h:PkD x xs) (e:L2.atI xs k=some d) (q:Q d M):rIx_ x (.int k) M Q:=by
 rcases h with h | ⟨z,rfl,hz,rfl⟩
 ·exact e_ix (h M) e q
 ·refine ⟨hz,?_⟩
  unfold signsD L2.atI at e
  rw [List.length_map] at e
  cases q2:L2.ixN z.cps.toList.length k with
  | none=>rw [q2] at e;cases e
  | some j =>
   rw [q2] at e
   have e:(z.cps.toList.map fun c=>D.str ⟨#[c]⟩)[j]?=some d:=e
   rw [List.getElem?_map] at e
   cases q3:z.cps.toList[j]? with
   | none=>rw [q3] at e;cases e
   | some c =>
    rw [q3] at e
    cases e
    have:L2.atI z.cps.toList k=some c:=by unfold L2.atI;rw [q2];exact q3
    rw [this]
    exact q
theorem pk_hb {n:Nat} {x:D} {xs:List D} (h:PkD x xs) (hx:x.hb n=true):∀ d∈xs,d.hb n=true:=by
 rcases h with h | ⟨z,rfl,hz,rfl⟩
 ·exact seq_hb h hx
 ·intro d hd
  obtain ⟨c,_,rfl⟩:=List.mem_map.mp hd
  rfl
theorem sign_ex {z:Str} {d:D} (h:d∈signsD z):∃ c∈z.cps.toList,d = .str ⟨#[c]⟩:=by
 obtain ⟨c,hc,rfl⟩:=List.mem_map.mp h
 exact ⟨c,hc,rfl⟩
section
variable {E:XD} {DD:DEnds} {rho:Rho} {M:Mem} {Q:VD} {ta tb tc to:TED} {aa:TAD} {r r':RD2} {tl th:TOD} {O:Option Int->Mem->Prop}
theorem e_chain (h:ta E rho M fun x M1=>tb E rho M1 fun y M2=>r x y M2 fun z M3=>match z with
 | .bl k=>if k=true then tc E rho M3 fun w M4=>r' y w M4 Q else Q (.bl false) M3
 | _=>False):dChain r r' ta tb tc E rho M Q:=h
theorem e_in {c:Nat} {z:Str} (h:Q (.bl (decide (c∈z.cps.toList))) M):rIn_ (.str ⟨#[c]⟩) (.str z) M Q:=h
theorem e_lenS {z:Str} (h0:z.length<=sizeLine) (h:Q (.int z.length) M):rLen_ [.str z] M Q:=⟨h0,h⟩
end
theorem lc_map {α:Type} {g:TGD} {te:TED} {vs:List Nat} {rho:Rho} {Q:VD} {M:Mem} (e f:α->D) (cs:List α) (hl:cs.length<=sizeLine)
  (h:∀ c∈cs,∀ N:VD,N (f c) M->g (e c) noE (wipeD rho vs) M fun rho' M1=>te noE rho' M1 N) (hq:Q (.lst (cs.map f)) M):lcU g dYes te vs (cs.map e) [] rho M Q:=by
 have key:∀ (r a:List α),cs=a ++ r->lcU g dYes te vs (r.map e) (a.map f) rho M Q:=by
  intro r
  induction r with
  | nil=>intro a ha;rw [List.append_nil] at ha;subst ha;exact hq
  | cons c r ih =>
   intro a ha
   refine h c (by rw [ha];simp) (fun y M3=>(a.map f).length < sizeLine/\lcU g dYes te vs (r.map e) (a.map f ++ [y]) rho M3 Q) ⟨?_,?_⟩
   ·rw [ha] at hl;simp at hl ⊢;omega
   ·have:=ih (a ++ [c]) (by rw [ha];simp)
    simpa using this
 exact key cs [] rfl
theorem strsD_map:∀ ys:List Str,strsD (ys.map D.str)=some ys
 | []=>rfl
 | y :: r=>by show (strsD (r.map D.str)).map (y :: ·)=_;rw [strsD_map r];rfl
theorem e_join {a:Str} {ys:List Str} {M:Mem} {Q:VD} (h0:(ys.map (·.length)).sum+ys.length * a.length<=16777216) (h:Q (.str (Txt.join a ys)) M):rJoin_ (.str a) [.lst (ys.map D.str)] M Q:=by
 show (match strsD (ys.map D.str) with
   | some ys=>(ys.map (·.length)).sum+ys.length * a.length<=16777216/\Q (.str (Txt.join a ys)) M
   | none=>False)
 rw [strsD_map];exact ⟨h0,h⟩
theorem joinL_chars:∀ cs:List Nat,TL.joinL [] (cs.map fun c=>[c])=cs
 | []=>rfl
 | [c]=>rfl
 | c :: d :: r=>by
  show [c] ++ ([] ++ TL.joinL [] ((d :: r).map fun c=>[c]))=_
  rw [joinL_chars (d :: r)];rfl
theorem join_chars (cs:List Nat):Txt.join "" (cs.map fun c=>⟨#[c]⟩)=SX.S cs:=by
 have:=SX.join_S [] (cs.map fun c=>[c])
 rw [joinL_chars] at this
 rw [<- this,List.map_map]
 rfl
theorem e_sls {z:Str} {lo hi:Option Int} {M:Mem} {Q:VD} (h0:z.length<=sizeLine) (h:Q (.str (cutS z lo hi)) M):rSl_ (.str z) lo hi M Q:=⟨h0,h⟩
theorem sum_ones (cs:List Nat):((cs.map fun c=>(⟨#[c]⟩:Str)).map (·.length)).sum=cs.length:=by
 induction cs with
 | nil=>rfl
 | cons c r ih=>simp at ih ⊢;rw [ih];show 1+_=_;omega
theorem e_tyS {z:Str} {M:Mem} {p:Prop} (h:p):tyB "str" M (.str z)=true/\p:=⟨by show ("str" == "str")=true;decide +kernel,h⟩
def drawSp:DSp:=fun ds M Q E=>∃ (i:Nat) (m:Int),ds=[.mt i,.int m]/\RgAt M i/\0 < m/\m < 2 ^ 8000/\∀ (k:Int) (M':Mem),RgTo M i M'->0<=k->k < m->Q (.int k) M'
def pickSp:DSp:=fun ds M Q E=>∃ (i:Nat) (x:D) (xs:List D),ds=[.mt i,x]/\RgAt M i/\PkD x xs/\xs≠[]/\xs.length<=sizeLine/\∀ (d:D) (M':Mem),RgTo M i M'->d∈xs->Q d M'
def lawSp:DSp:=fun ds M Q E=>∃ ns:List Int,ns.length<=63/\ds=[.rol (ns.map D.int)]/\Q (.bl true) M
theorem rps_ints {K:PySem.W.Frag} {al:Al} {M:Mem} {H:Hp}:∀ ns:List Int,Rps K al M H (ns.map D.int) (ns.map V.int)
 | []=>rfl
 | n :: r=>⟨_,_,rfl,rfl,rps_ints r⟩
theorem cx_false {P:Program} {w:World} (H:Hp) (s:Shared) (e:Value) (s':Shared) (h:L2.CX P w [] H s (fun _ _ _=>False) e s'):False:=by
 obtain ⟨_,_,_,_,_,_,_,_,_,_,_,_,z⟩:=h
 exact z
end DL
namespace DL
open PySem PySem.Spec PyProof.Rows L2
theorem exs_at {P:Program} {w:World} {H:Hp} {h:Heap} {a:Addr} {cls:Value} {d:Option Addr} (hok:HOk P w H h) (e:H a=some (exs a cls d)):∃ (oe:Obj) (vs:Array Value),h.get? a=some oe/\Zc cls d oe/\oe.data = .fields vs:=(hok a _ e).1
def tXs (K:PySem.W.Frag) (f:Str) (te:TE):TE:=fun σ H Q=>te σ H fun x H1=>∃ (a C dd:Addr) (fs:List (Str×V)) (v:V),x = .ref a/\H1 a=some (exs a (.ref C) (some dd))/\XfC K C/\PySem.W.findIn K (.ref C) f=some none/\H1 dd=some (.xd fs)/\fs.lookup f=some v/\Q v H1
theorem pe_xs {X:Cx} {e:Expr} {te:TE} {pos:Pos} {n:Str} (he:PE X e te) (hb:attributeBase e n X.env (eval e X.env)=eval e X.env:=by rfl):PE X (.Attribute e n pos) (tXs X.K n te):=by
 refine ⟨fun pins s σ H Q I h=>?_⟩
 refine attr_of hb (thn (he.run pins s σ H _ I h) fun u s1 hh=>?_)
 obtain ⟨x,H1,I1,rx,a,C,dd,fs,v,ex,e1,T,hno,ea,l,q⟩:=hh
 subst ex
 obtain rfl:u=Value.ref a:=rx
 obtain ⟨oe,vs,ha,hz,hd⟩:=exs_at I1.hok e1
 have hx:ObjOk X.prog X.w H1 s1.heap dd (.xd fs):=I1.hok dd _ ea
 obtain ⟨mA,hns,hr⟩:=hx
 obtain ⟨od,ho,hl⟩:=lookIn_ns hns
 obtain ⟨u,hu,ru⟩:=RelO.some_of (v:=v) (o:=mA n) (by rw [<- l];exact hr n)
 have J:PySem.W.InstAt s1.heap a oe C (some od):=⟨ha,hz.1,by unfold PySem.W.notCls;rw [hd] <;> rfl,by rw [hz.2];exact ho⟩
 exact HandSPX.exc_get I1.kIn J T.ga T.gg T.exC (PySem.W.findObj_own T.hdC hno rfl (by rw [hl,hu])) (handed_of ru) ⟨v,H1,I1.tok _,ru,q⟩
theorem oexB_ok {K:PySem.W.Frag} {C:Addr} (h:oexB K C=true):OexC K C:=by
 unfold oexB at h
 simp only [Bool.and_eq_true] at h
 obtain ⟨h0,h1,h2,h3,h4⟩:=h
 refine ⟨?_,of_decide_eq_true h1,of_decide_eq_true h2,of_decide_eq_true h3,h4⟩
 split at h0
 ·rename_i dd cd sl ho
  split at h0
  ·rename_i C' bm k0 k1 k2 k3 n k5 hm hs
   simp only [Bool.and_eq_true,beq_iff_eq,Bool.not_eq_true'] at h0
   obtain ⟨rfl,rfl,hdel,hdi,ht⟩:=h0
   obtain ⟨nm,bs,mro,ns,qn,hd,sn,sub,ab,col,del⟩:=cd
   dsimp only at hm hdel hdi
   subst hm hdel hdi
   have hsl:sl=#[k0,k1,k2,k3,some (.builtin "ValueError.__new__"),k5]:=by
    obtain ⟨l⟩:=sl
    simp only at hs
    rw [hs]
   subst hsl
   exact ⟨nm,qn,ns,bs,bm,sn,sub,ab,col,dd,k0,k1,k2,k3,k5,ho,ht⟩
  ·cases h0
 ·cases h0
def FSrc.d (ds:List D):FSrc->D
 | .k z=>.str z
 | .p i=>ds.getD i .non
def FL.d (fl:FL) (ds:List D):List (Str×D):=fl.map fun q=>(q.1,q.2.d ds)
theorem getD_rp {K:PySem.W.Frag} {al:Al} {M:Mem} {H:Hp}:∀ {ds:List D} {ws:List V} (i:Nat),Rps K al M H ds ws->Rp K al M H (ds.getD i .non) (ws.getD i .non)
 | [],_,_,h=>by cases (show _=[] from h);rfl
 | d :: ds,_,0,h=>by obtain ⟨x,r,rfl,q,t⟩:=h;exact q
 | d :: ds,_,i+1,h=>by obtain ⟨x,r,rfl,q,t⟩:=h;exact getD_rp (ds:=ds) (ws:=r) i t
theorem fl_rpk {K:PySem.W.Frag} {al:Al} {M:Mem} {H:Hp} {ds:List D} {ws:List V} (h:Rps K al M H ds ws):∀ fl:FL,Rpk K al M H (fl.d ds) (fl.v ws)
 | []=>Rpk.nil
 | (f,.k z) :: r=>Rpk.cons rfl (fl_rpk h r)
 | (f,.p i) :: r=>Rpk.cons (getD_rp i h) (fl_rpk h r)
def xH (H:Hp) (a C dx:Addr) (fs:List (Str×V)):Hp:=upd (upd H dx (exd dx fs)) a (exo a C (some dx))
def spX (C:Addr) (fl:FL) (n:Nat):Sp:=fun vs H Q E=>∃ a ws,vs = .ref a :: ws/\ws.length=n/\H a=some (exo a C none)/\∀ dx,H dx=none->dx≠a->Q .non (xH H a C dx (fl.v ws))
def EvT (σ:L2.St) (te:TE) (y:V):Prop:=∀ (H:Hp) (Q:VK),Q y H->te σ H Q
theorem ev_c {σ:L2.St} {v:V}:EvT σ (tC v) v:=fun _ _ h=>h
theorem ev_var {σ:L2.St} {i:Nat} {v:V} (h:σ[i]?=some (some v)):EvT σ (tVar i) v:=fun _ _ q=>⟨v,h,q⟩
section
variable {K:PySem.W.Frag} {C a dx:Addr} {f:Str} {to te:TE} {D:Ends} {σ:L2.St} {H:Hp} {y:V} {fs:List (Str×V)}
theorem init_first (T:OexC K C) (hf:PySem.W.findIn K (.ref C) f=some none) (h0:H a=some (exo a C none)) (ev:EvT σ te y) (es:EvT σ to (.ref a)) (k:∀ dx,H dx=none->dx≠a->D.nx σ (xH H a C dx [(f,y)])):tOst K f to te D σ H :=
 ev _ _ (es _ _ ⟨a,C,rfl,T,hf,.inl ⟨h0,k⟩⟩)
theorem init_next (T:OexC K C) (hf:PySem.W.findIn K (.ref C) f=some none) (hne:dx≠a) (hl:fs.length<=900) (ev:EvT σ te y) (es:EvT σ to (.ref a)) (k:D.nx σ (xH H a C dx ((f,y) :: fs))):tOst K f to te D σ (xH H a C dx fs) :=
 ev _ _ (es _ _ ⟨a,C,rfl,T,hf,.inr ⟨dx,fs,upd_same,by unfold xH;rw [upd_ne hne,upd_same],hl,by
  have e:upd (xH H a C dx fs) dx (exd dx ((f,y) :: fs))=xH H a C dx ((f,y) :: fs):=by
   funext b
   unfold xH
   by_cases h1:b=dx
   ·subst h1;rw [upd_same,upd_ne hne,upd_same]
   ·rw [upd_ne h1]
    by_cases h2:b=a
    ·subst h2;rw [upd_same,upd_same]
    ·rw [upd_ne h2,upd_ne h1,upd_ne h2,upd_ne h1]
  rw [e];exact k⟩⟩)
end
def dXf (K:PySem.W.Frag) (f:Str) (t:TED):TED:=fun E rho M Q=>t E rho M fun x M1=>match x with
 | .exc C ns xs=>XfC K C/\PySem.W.findIn K (.ref C) f=some none/\(match (ns.zip xs).lookup f with
  | some d=>Q d M1
  | none=>False)
 | _=>False
theorem rps_lookup {K:PySem.W.Frag} {al:Al} {M:Mem} {H:Hp} {f:Str}:∀ {ns:List Str} {ds:List D} {vs:List V} {d:D},Rps K al M H ds vs->(ns.zip ds).lookup f=some d->∃ v,(ns.zip vs).lookup f=some v/\Rp K al M H d v
 | [],_,_,_,_,e=>by simp at e
 | n :: ns,[],_,_,_,e=>by simp at e
 | n :: ns,d' :: ds,_,d,r,e=>by
  obtain ⟨x,ys,rfl,rx,ry⟩:=r
  rw [List.zip_cons_cons,List.lookup_cons] at e ⊢
  split at e
  ·cases e;exact ⟨x,rfl,rx⟩
  ·exact rps_lookup ry e
theorem dv_xf {X:Cx} (K:PySem.W.Frag) {Tb:List (Addr×Str)} {EV:XK} {e:Expr} {te:TED} {pos:Pos} {f:Str} (he:PD X Tb EV e te) (hK:X.K=K:=by rfl) (hb:attributeBase e f X.env (eval e X.env)=eval e X.env:=by rfl):PD X Tb EV (.Attribute e f pos) (dXf K f te):=pe_imp (pe_xs he hb) fun σ H QV h=>by
 subst hK
 obtain ⟨al,rho,M,E,Q,a,t,p⟩:=h
 refine seq1 a t fun al1 x M1 vx H1 s1 a1 r1 q1=>?_
 cases x with
 | exc C ns xs =>
  obtain ⟨b,dx,vs,rfl,h1,f1,h2,f2,hl,r⟩:=r1
  obtain ⟨T,hn,q⟩:=q1
  split at q
  ·rename_i d e
   obtain ⟨v,ev,rv⟩:=rps_lookup r e
   exact ⟨b,C,dx,ns.zip vs,v,rfl,h1,T,hn,h2,ev,p _ _ _ _ _ s1 a1.wf rv q⟩
  ·exact q.elim
 | _=>exact (show False from q1).elim
end DL
namespace DL
open PySem PySem.Spec PyProof.Rows L2 LamX
def Exn.d (x:Exn):D:=.exc x.C (x.fs.map (·.1)) (x.fs.map (·.2))
theorem zip_unzip {α β:Type}:∀ l:List (α×β),(l.map (·.1)).zip (l.map (·.2))=l
 | []=>rfl
 | (a,b) :: r=>by rw [List.map_cons,List.map_cons,List.zip_cons_cons,zip_unzip r]
theorem rp_exn {K:PySem.W.Frag} {Tb:List (Addr×Str)} {al:Al} {M:Mem} {H:Hp} {x:Exn} {cls:Value} {d:Option Addr} {a:Addr} (w:Wf K Tb al H M) (r:RpX K al M H x cls d) (ha:H a=none) :
  Rp K al M (upd H a (exs a cls d)) x.d (.ref a):=by
 obtain ⟨rfl,dx,ys,rfl,h1,h2⟩:=r
 have hne:dx≠a:=ne_of_none h1 ha
 have fz:Fz al M dx:=by
  refine ⟨fun hm=>?_,fun i mo e1 e2=>?_⟩
  ·obtain ⟨xs,e,z⟩:=w.hth dx hm
   rw [h1] at e;exact z.xd _ (Option.some.inj e).symm
  ·have q:=w.rep i dx mo e1 e2
   cases mo with
   | lst xs=>obtain ⟨_,e,_⟩:=q;rw [h1] at e;cases e
   | dK kvs=>obtain ⟨_,e,_⟩:=q;rw [h1] at e;cases e
   | dT ks ds=>obtain ⟨_,e,_⟩:=q;rw [h1] at e;cases e
   | ins C fs=>obtain ⟨_,_,e,_⟩:=q;rw [h1] at e;cases e
 have hk:x.fs.map (·.1)=ys.map (·.1):=h2.1
 refine ⟨a,dx,ys.map (·.2),rfl,upd_same,w.fresh ha,?_,fz,?_,h2.2.mono (stp_new w ha _)⟩
 ·rw [upd_ne hne,hk,zip_unzip];exact h1
 ·have:=congrArg List.length hk;simpa using this
section
variable {X:Cx} {Tb:List (Addr×Str)}
theorem tkF {P:Program} {w:World} {K:PySem.W.Frag} {mg:Str->Option Value} {base:Heap} {N:List Str} {qual:Str} {scope:Scope} {f:Addr} {cdv:Value} {A:Around} {outer:List Env} {s:Shared} {H:Hp} {EV:XK} :
  Takes (cxOf (L2.CX P w) P w K mg base N qual scope f cdv A outer s H EV) (fun cls d _ H=>EV cls d H):=takes_of rfl rfl rfl rfl
theorem hxN {P:Program} {w:World} {K:PySem.W.Frag} {mg:Str->Option Value} {base:Heap} {N:List Str} {qual:Str} {scope:Scope} {f:Addr} {cdv:Value} {A:Around} {outer:List Env} {s:Shared} {H:Hp} {EV:XK} :
  Passes (L2.CX P w) (cxOf (L2.CX P w) P w K mg base N qual scope f cdv A outer s H EV) (fun _ _ _=>False):=passes_call tkF fun _ _ _ _ h=>h.elim
end
end DL
namespace DL
open PySem PySem.Spec PyProof.Rows L2
def xfields (z:Str):List Str:=if L2.inV (.str z) [.str "TooMany",.str "TooLong",.str "Full",.str "InvalidLimit"]=true then ["limit"] else if L2.inV (.str z) [.str "Cycle",.str "UnknownName"]=true then ["name"]
 else if decide (z="Unfit")=true then ["name","cause"] else if decide (z="Stopped")=true then ["index","cause"] else if decide (z="InUse")=true then ["by"] else if decide (z="ParseError")=true then ["line"] else if decide (z="UnknownClaim")=true then ["number"] else []
def fieldsSp (K:PySem.W.Frag):DSp:=fun ds M Q E=>∃ (C:Addr) (ns:List Str) (xs:List D) (z:Str) (ys:List D),ds=[.exc C ns xs]/\XfC K C/\(∀ f∈("code":Str) :: xfields z,PySem.W.findIn K (.ref C) f=some none)/\(ns.zip xs).lookup ("code":Str)=some (.str z)/\(xfields z).map (fun f=>(ns.zip xs).lookup f)=ys.map some/\Q (.tup ys) M
theorem e_xf0 {K:PySem.W.Frag} {f:Str} {C:Addr} {ns:List Str} {xs:List D} {d:D} {E:XD} {r:Rho} {M:Mem} {Q:VD} (T:XfC K C) (hn:PySem.W.findIn K (.ref C) f=some none) (hl:(ns.zip xs).lookup f=some d) (h:Q d M):dXf K f (dVar 0) E (some (.exc C ns xs) :: r) M Q:=by
 refine ⟨T,hn,?_⟩
 rw [hl];exact h
theorem map1 {α β:Type} {f:α->Option β} {a:α} {ys:List β} (h:[a].map f=ys.map some):∃ y,f a=some y/\ys=[y]:=by
 match ys,h with
 | [],h=>simp at h
 | [y],h=>exact ⟨y,(List.cons.inj h).1,rfl⟩
 | _ :: _ :: _,h=>simp at h
theorem map2 {α β:Type} {f:α->Option β} {a b:α} {ys:List β} (h:[a,b].map f=ys.map some):∃ y z,f a=some y/\f b=some z/\ys=[y,z]:=by
 match ys,h with
 | [],h=>simp at h
 | [_],h=>simp at h
 | _ :: _ :: _ :: _,h=>simp at h
 | [y,z],h=>exact ⟨y,z,(List.cons.inj h).1,(List.cons.inj (List.cons.inj h).2).1,rfl⟩
theorem map0 {α β:Type} {f:α->Option β} {ys:List β} (h:([]:List α).map f=ys.map some):ys=[]:=by
 match ys,h with
 | [],_=>rfl
 | _ :: _,h=>simp at h
end DL
namespace DL
theorem zip_hb {n:Nat} {f:PySem.Str}:∀ {ns:List PySem.Str} {xs:List D} {d:D},D.hbs n xs=true->(ns.zip xs).lookup f=some d->d.hb n=true
 | [],_,_,_,e=>by simp at e
 | _ :: _,[],_,_,e=>by simp at e
 | m :: ns,x :: xs,d,h,e=>by
  have h:(D.hb n x && D.hbs n xs)=true:=h
  rw [Bool.and_eq_true] at h
  rw [List.zip_cons_cons,List.lookup_cons] at e
  split at e
  ·cases e;exact h.1
  ·exact zip_hb h.2 e
end DL
namespace DL
open PySem PySem.Spec PyProof.Rows L2
structure XFa (K:PySem.W.Frag) (x:Str) (fs:List Str):Prop where
 exm:PySem.W.exmAny K (.ref (He.ga K x)) [.ref (He.ga K "RoundError"),.ref (He.ga K "Missing"),.ref (He.ga K "NothingLeft")]=some true
 xf:XfC K (He.ga K x)
 no:∀ f∈("code":Str) :: fs,PySem.W.findIn K (.ref (He.ga K x)) f=some none
section
variable {E:XD} {rho:Rho} {M:Mem} {N:Rho->Mem->Prop} {xs:List D} {d:D} {n:Nat} {t:TGsD} {g:TGD}
theorem e_ht (h0:xs.length=n) (h:t xs E rho M N):hTup n t (.tup xs) E rho M N:=⟨h0,h⟩
end
theorem law_startT {K:PySem.W.Frag} {dsp:DSp} (hl:∀ ds Q E,lawSp ds [] Q E->dsp ds [] Q E) {Tb:List (Addr×Str)} {H:Hp} {a:Addr} {ns:List Int} (l:ns.length<=63) (h:SqL K H a (ns.map V.int)) (ht:LamX.Tabs Tb H) :
  liftSp K Tb dsp [.ref a] H (fun v _=>v = .bl true) fun _ _ _=>False:=by
 refine ⟨⟨[],[]⟩,[],[.rol (ns.map D.int)],fun d _=>d = .bl true,fun _ _=>False,⟨rfl,List.nodup_nil,(fun i a mo e=>by simp at e),(fun i a e=>by simp at e),ht,(fun a h=>by cases h),(fun i a mo e=>by simp at e)⟩,⟨_,_,rfl,⟨a,ns.map V.int,rfl,?_,rps_ints ns⟩,rfl⟩,hl _ _ _ ⟨ns,l,rfl,rfl⟩,?_,?_⟩
 ·rcases h with h | h
  ·exact .inl ⟨h,⟨(fun h=>by cases h),(fun i mo e=>by simp at e)⟩⟩
  ·exact .inr (.inr h)
 ·intro al' d M' v H' s w r q
  subst q
  exact r
 ·intro al' y M' cls dct H' s w r q
  exact q
theorem bool_at {l:List Bool} (h:l.all _root_.id=true) (i:Nat) {b:Bool} (e:l[i]?=some b:=by rfl):b=true:=List.all_eq_true.mp h b (List.mem_of_getElem? e)
section
variable {K:PySem.W.Frag} {h:Heap} {mg:Str->Option Value}
theorem xfaB_ok {x:Str} {fs:List Str} (h:xfaB K x fs=true):XFa K x fs:=by
 unfold xfaB at h
 simp only [Bool.and_eq_true] at h
 exact ⟨of_decide_eq_true h.1,xfB_ok h.2.1,fun f hf=>of_decide_eq_true (List.all_eq_true.mp h.2.2 f hf)⟩
theorem xcB_ok {x:Str} {fs:List Str} (h:xcB K x fs=true):OexC K (He.ga K x)/\PySem.W.typeIn K (.ref (He.ma K (He.ga K x) "__init__"))=some (.type "function")/\PySem.W.findIn K (.ref (He.ga K x)) "__init__"=some (some (.ref (He.ma K (He.ga K x) "__init__")))/\∀ f∈fs,PySem.W.findIn K (.ref (He.ga K x)) f=some none:=by
 unfold xcB at h
 simp only [Bool.and_eq_true] at h
 exact ⟨oexB_ok h.1,of_decide_eq_true h.2.1,of_decide_eq_true h.2.2.1,fun f hf=>of_decide_eq_true (List.all_eq_true.mp h.2.2.2 f hf)⟩
end
end DL
namespace DL
open PySem PySem.Spec PyProof.Rows L2 Mt
mutual
theorem pz_ok:∀ {d:D},pz d=true->∃ p,toPy d=some p/\p.canLay0=true/\p.depth=dp d
 | .non,_=>⟨_,rfl,rfl,rfl⟩
 | .bl _,_=>⟨_,rfl,rfl,rfl⟩
 | .int _,_=>⟨_,rfl,rfl,rfl⟩
 | .str x,h=>⟨_,rfl,h,rfl⟩
 | .tup xs,h=>by
  obtain ⟨ps,e,h1,h2⟩:=pzs_ok (ds:=xs) h
  exact ⟨.tuple ps,by show (toPys xs).map _=_;rw [e];rfl,h1,by show PyData.depthAll ps+1=dps xs+1;rw [h2]⟩
 | .lst xs,h=>by
  obtain ⟨ps,e,h1,h2⟩:=pzs_ok (ds:=xs) h
  exact ⟨.list ps,by show (toPys xs).map _=_;rw [e];rfl,h1,by show PyData.depthAll ps+1=dps xs+1;rw [h2]⟩
 | .rol xs,h=>by
  obtain ⟨ps,e,h1,h2⟩:=pzs_ok (ds:=xs) h
  exact ⟨.list ps,by show (toPys xs).map _=_;rw [e];rfl,h1,by show PyData.depthAll ps+1=dps xs+1;rw [h2]⟩
 | .ty _,h=>by cases h
 | .obj _ _ _,h=>by cases h
 | .exc _ _ _,h=>by cases h
 | .dk _ _,h=>by cases h
 | .dt _ _,h=>by cases h
 | .ref _,h=>by cases h
 | .lam _ _,h=>by cases h
 | .mt _,h=>by cases h
theorem pzs_ok:∀ {ds:List D},pzs ds=true->∃ ps,toPys ds=some ps/\PyData.canLayAll0 ps=true/\PyData.depthAll ps=dps ds
 | [],_=>⟨[],rfl,rfl,rfl⟩
 | d :: ds,h=>by
  have h:(pz d && pzs ds)=true:=h
  rw [Bool.and_eq_true] at h
  obtain ⟨p,e1,a1,b1⟩:=pz_ok h.1
  obtain ⟨ps,e2,a2,b2⟩:=pzs_ok h.2
  refine ⟨p :: ps,by unfold toPys;rw [e1,e2],?_,?_⟩
  ·show (p.canLay0 && PyData.canLayAll0 ps)=true
   rw [a1,a2];rfl
  ·show max p.depth (PyData.depthAll ps)=max (dp d) (dps ds)
   rw [b1,b2]
end
def pyEq (x y:D):Bool:=match toPy x,toPy y with
 | some p,some q=>PyData.eqv p q
 | _,_=>false
theorem scal_eq {x y:D} {b:Bool} (h:scalD x y=some b):b=pyEq x y:=by
 cases x <;> cases y <;> first | (cases (show (none:Option Bool)=some b from h)) | skip
 all_goals
  have e':=Option.some.inj h
  subst e'
  first | rfl | (unfold pyEq toPy;simp [PyData.eqv];done) | skip
 all_goals
  show decide _=(_ == _)
  rw [Bool.eq_iff_iff];simp
theorem toPyM_pz {M:Mem} {d:D} (h:pz d=true):toPyM M d=toPy d:=by
 cases d with
 | mt i=>cases h
 | _=>rfl
theorem shaped_of {p:PyData} {d:D} (h1:p.canLay0=true) (h2:p.depth=dp d) (h3:dp d<=64):SeqAt.shaped p=true:=by
 unfold SeqAt.shaped
 rw [h1,decide_eq_true (by omega)];rfl
theorem e_eqP {x y:D} {M:Mem} {Q:VD} (hx:pz x=true) (hy:pz y=true) (dx:dp x<=64) (dy:dp y<=64) (h:Q (.bl (pyEq x y)) M):rEq_ x y M Q:=by
 unfold rEq_
 split
 ·rename_i b e
  rw [scal_eq e];exact h
 ·obtain ⟨p,e1,a1,b1⟩:=pz_ok hx
  obtain ⟨q,e2,a2,b2⟩:=pz_ok hy
  rw [toPyM_pz hx,toPyM_pz hy,e1,e2]
  refine ⟨shaped_of a1 b1 dx,shaped_of a2 b2 dy,?_⟩
  unfold pyEq at h
  rw [e1,e2] at h
  exact h
theorem e_neP {x y:D} {M:Mem} {Q:VD} (hx:pz x=true) (hy:pz y=true) (dx:dp x<=64) (dy:dp y<=64) (h:Q (.bl (!pyEq x y)) M):rNe_ x y M Q:=by
 unfold rNe_
 split
 ·rename_i b e
  rw [scal_eq e];exact h
 ·obtain ⟨p,e1,a1,b1⟩:=pz_ok hx
  obtain ⟨q,e2,a2,b2⟩:=pz_ok hy
  rw [toPyM_pz hx,toPyM_pz hy,e1,e2]
  refine ⟨shaped_of a1 b1 dx,shaped_of a2 b2 dy,?_⟩
  unfold pyEq at h
  rw [e1,e2] at h
  exact h
theorem pyEq_qD (p q:Rat):pyEq (qD p) (qD q)=decide (p=q):=by
 show ((p.num == q.num) && (((p.den:Int) == (q.den:Int)) && true))=decide (p=q)
 rw [Bool.eq_iff_iff]
 simp only [Bool.and_eq_true,beq_iff_eq,decide_eq_true_eq,and_true]
 exact ⟨fun h=>Rat.ext h.1 (by omega),fun h=>by rw [h];exact ⟨rfl,rfl⟩⟩
theorem e_eqq {p q:Rat} {M:Mem} {Q:VD} (h:Q (.bl (decide (p=q))) M):rEq_ (qD p) (qD q) M Q:=e_eqP rfl rfl (by show 1<=64;decide) (by show 1<=64;decide) (by rw [pyEq_qD];exact h)
theorem e_neq {p q:Rat} {M:Mem} {Q:VD} (h:Q (.bl (!decide (p=q))) M):rNe_ (qD p) (qD q) M Q:=e_neP rfl rfl (by show 1<=64;decide) (by show 1<=64;decide) (by rw [pyEq_qD];exact h)
end DL
namespace DL
open PySem PySem.Spec PyProof.Rows L2
abbrev TAK:=L2.St->Hp->(List V->List V->Hp->Prop)->Prop
structure PAK (X:Cx) (pos:Pos) (args:List Expr) (kws:List Keyword) (ks:List Str) (t:TAK):Prop where
 ev:∀ (pins:List (Addr×Obj)) (s:Shared) (σ:L2.St) (H:Hp) (f:Value) (Q:Args->Shared->Prop),Inv X pins σ H s->t σ H (fun vs zs H2=>∀ us ws s2,Inv X pins σ H2 s2->Vals vs us->Vals zs ws->Q ⟨us,ks.zip ws⟩ s2) ->
  wpAny (model X.prog X.w) X.A (evalArgs f true (backTo pos (starEach args X.env)) (backToKw pos (keywordEach kws X.env))) Q X.xe s
 pl:((backTo pos (starEach args X.env)).any (·.1) || (backToKw pos (keywordEach kws X.env)).any (·.1.isNone))=false
def tAK (t tk:TA):TAK:=fun σ H Q=>t σ H fun vs H1=>tk σ H1 fun zs H2=>Q vs zs H2
section
variable {X:Cx} {pos:Pos} {e:Expr} {es:List Expr} {kws:List Keyword} {ks:List Str} {t tk:TA}
theorem pak (ha:PA X (e :: es) t) (hkw:PK X kws tk) (hall:(backToKw pos (keywordEach kws X.env)).all (·.1.isSome)=true:=by rfl) (hks:(backToKw pos (keywordEach kws X.env)).filterMap (·.1)=ks:=by rfl)
  (he:starEach (e :: es) X.env=(false,eval e X.env) :: starEach es X.env:=by rfl) (hpl:((backTo pos (starEach (e :: es) X.env)).any (·.1) || (backToKw pos (keywordEach kws X.env)).any (·.1.isNone))=false:=by rfl) :
  PAK X pos (e :: es) kws ks (tAK t tk):=by
 refine ⟨fun pins s σ H f Q I h=>?_,hpl⟩
 refine evalArgs_kw2 hall (thn (ha.run pos pins s σ H _ I h) fun us s1 ⟨vs,H1,I1,r,q⟩=>?_) he
 refine thn (hkw.run pos pins s1 σ H1 _ I1 q) fun ws s2 ⟨zs,H2,I2,rz,q2⟩=>?_
 rw [hks]
 exact q2 us ws s2 I2 r rz
theorem pak0 (hkw:PK X kws tk) (hall:(backToKw pos (keywordEach kws X.env)).all (·.1.isSome)=true:=by rfl) (hks:(backToKw pos (keywordEach kws X.env)).filterMap (·.1)=ks:=by rfl)
  (hpl:((backTo pos (starEach [] X.env)).any (·.1) || (backToKw pos (keywordEach kws X.env)).any (·.1.isNone))=false:=by rfl) :
  PAK X pos [] kws ks (tAK tNil tk):=by
 refine ⟨fun pins s σ H f Q I h=>?_,hpl⟩
 refine evalArgs_kw2_nil hall (thn (hkw.run pos pins s σ H _ I h) fun ws s2 ⟨zs,H2,I2,rz,q2⟩=>?_)
 rw [hks]
 exact q2 [] ws s2 I2 .nil rz
variable {args:List Expr} {ta:TAK}
theorem pak_call {P:Heap->Prop} {f:Value} {first:List Value} (ha:PAK X pos args kws ks ta) {pins:List (Addr×Obj)} {s:Shared} {σ:L2.St} {H:Hp} {Q:Value->Shared->Prop} (I:Inv X pins σ H s)
  (hk:∀ h,P h->∃ k,(k=Keeper.frame\/k=Keeper.machine\/k=Keeper.boundFrame)/\PySem.W.Looks (model X.prog X.w) h (keeperOf f) k)
  (h:ta σ H fun vs zs H2=>∀ us ws s2,Inv X pins σ H2 s2->Vals vs us->Vals zs ws->P s2.heap/\wpAny (model X.prog X.w) X.A (call f (first ++ us) (ks.zip ws)) Q X.xe s2) :
  wpAny (model X.prog X.w) X.A (callWith pos f first (backTo pos (starEach args X.env)) (backToKw pos (keywordEach kws X.env))) Q X.xe s :=
 PySem.W.callWith_of ha.pl hk (ha.ev pins s σ H f _ I h)
end
abbrev TAKD:=XD->Rho->Mem->(List D->List D->Mem->Prop)->Prop
abbrev dAK (t tk:TAD):TAKD:=fun E rho M Q=>t E rho M fun ds M1=>tk E rho M1 fun es M2=>Q ds es M2
def AKV (K:PySem.W.Frag) (Tb:List (Addr×Str)) (EV:XK) (t:TAKD) (tv:TAK):Prop:=∀ al σ H rho M E (Q:List D->List D->Mem->Prop) (QV:List V->List V->Hp->Prop),At K Tb EV al σ H rho M E->t E rho M Q ->
 (∀ al' ds es M' vs zs H',Stp al M H al' M' H'->Wf K Tb al' H' M'->Rps K al' M' H' ds vs->Rps K al' M' H' es zs->Q ds es M'->QV vs zs H')->tv σ H QV
structure PAKD (X:Cx) (Tb:List (Addr×Str)) (EV:XK) (pos:Pos) (args:List Expr) (kws:List Keyword) (ks:List Str) (t:TAKD):Prop where
 ex:∃ tv,PAK X pos args kws ks tv/\AKV X.K Tb EV t tv
section
variable {X:Cx} {Tb:List (Addr×Str)} {EV:XK} {pos:Pos} {e:Expr} {es:List Expr} {kws:List Keyword} {ks:List Str} {t tk:TAD}
theorem dak (ha:PDA X Tb EV (e :: es) t) (hkw:PDK X Tb EV kws tk) (hall:(backToKw pos (keywordEach kws X.env)).all (·.1.isSome)=true:=by rfl) (hks:(backToKw pos (keywordEach kws X.env)).filterMap (·.1)=ks:=by rfl)
  (he:starEach (e :: es) X.env=(false,eval e X.env) :: starEach es X.env:=by rfl) (hpl:((backTo pos (starEach (e :: es) X.env)).any (·.1) || (backToKw pos (keywordEach kws X.env)).any (·.1.isNone))=false:=by rfl) :
  PAKD X Tb EV pos (e :: es) kws ks (dAK t tk):=⟨_,pak ha hkw hall hks he hpl,fun al σ H rho M E Q QV a h p=>by
 refine seqA a h fun al1 ds M1 vs H1 s1 a1 r1 q1=>seqA a1 q1 fun al2 es M2 zs H2 s2 a2 r2 q2=>?_
 exact p _ _ _ _ _ _ _ (s1.trans s2) a2.wf (r1.mono s2) r2 q2⟩
theorem dak0 (hkw:PDK X Tb EV kws tk) (hall:(backToKw pos (keywordEach kws X.env)).all (·.1.isSome)=true:=by rfl) (hks:(backToKw pos (keywordEach kws X.env)).filterMap (·.1)=ks:=by rfl)
  (hpl:((backTo pos (starEach [] X.env)).any (·.1) || (backToKw pos (keywordEach kws X.env)).any (·.1.isNone))=false:=by rfl) :
  PAKD X Tb EV pos [] kws ks (dAK dNil tk):=⟨_,pak0 hkw hall hks hpl,fun al σ H rho M E Q QV a h p=>by
 refine seqA a h fun al2 es M2 zs H2 s2 a2 r2 q2=>?_
 exact p _ [] _ _ _ _ _ s2 a2.wf Rps.nil r2 q2⟩
end
def fldD (C:Addr) (f:Str) (x:D) (M1:Mem) (Q:VD):Prop:=match insOf M1 x with
 | some (C',fs)=>C'=C/\(match fs.lookup f with
  | some d=>Q d M1
  | none=>False)
 | none=>False
section
variable {X:Cx} {Tb:List (Addr×Str)} {EV:XK} {e o value:Expr} {te to tv:TED} {pos pos':Pos} {f:Str} {C:Addr}
def conD (C:Addr) (f:Str) (d:D) (x:D) (M1:Mem) (Q:VD):Prop:=match insOf M1 x with
 | some (C',fs)=>C'=C/\fs.lookup f=none/\Q d M1
 | none=>False
def clsD (C:Addr) (x:D) (P:Prop):Prop:=match x with
 | .ref C'=>C'=C/\P
 | _=>False
end
def isI (C:Addr) (m:Str) (M:Mem) (x:D):Prop:=match insOf M x with
 | some (C',fs)=>C'=C/\fs.lookup m=none
 | none=>False
def dArg (n k:Nat) (is:List Nat) (dds:List D) (dsp:DSp) (pre:List D) (Q:VD) (E:XD) (ds es:List D) (M:Mem):Prop:=ds.length=n/\es.length=k/\dsp (pick is (pre ++ ds ++ dds ++ es)) M Q E
section
variable {X:Cx} {Tb:List (Addr×Str)} {EV:XK} {k n:Nat} {g C:Addr} {fd:FuncData} {ps ks:List Str} {dsp:DSp} {m x:Str} {apos pos p:Pos} {args:List Expr} {kws:List Keyword} {tf:TED} {t:TAKD} {is:List Nat} {dvs:List V} {dds:List D} {fz:Bool}
def isC (C:Addr) (M1:Mem) (x:D):Prop:=match insOf M1 x with
 | some (C',_)=>C'=C
 | none=>False
end
def kindD (C:Addr) (M:Mem) (d:D):Option Bool:=match insOf M d with
 | some (C',_)=>if C'=C then some true else none
 | none=>(tyN M d).map fun _=>false
def blQ (g:Bool->Bool) (Q:VD):VD:=fun d M'=>match d with
 | .bl b=>Q (.bl (g b)) M'
 | _=>False
def rEqO (C:Addr) (dsp:DSp):RD2:=fun x y M Q=>match insOf M x with
 | some (C',_)=>C'=C/\(kindD C M y).isSome=true/\dsp [x,y] M (blQ (fun b=>b) Q) (fun _ _=>False)
 | none=>rEq_ x y M Q
def rNeO (C:Addr) (dsp:DSp):RD2:=fun x y M Q=>match insOf M x with
 | some (C',_)=>C'=C/\(kindD C M y).isSome=true/\dsp [x,y] M (blQ (!·) Q) fun _ _=>False
 | none=>rNe_ x y M Q
section
variable {X:Cx} {Tb:List (Addr×Str)} {C:Addr} {dsp:DSp}
variable {EV:XK} {a b:Expr} {ta tb:TED} {pos:Pos} {x qual:Str} {st:Stmt} {dvs:List V} {kws:List (Str×V)} {k:Nat} {ps:List Str}
def rInO1 (C:Addr) (dsp:DSp):RD2:=fun x y M Q=>match insOf M y with
 | some (C',_)=>C'=C/\dsp [y,x] M (blQ (fun b=>b) Q) fun _ _=>False
 | none=>False
def rLenO (C:Addr) (dsp:DSp):RDC:=fun ds M Q=>match ds with
 | [x]=>(match insOf M x with
  | some (C',_)=>C'=C/\dsp [x] M (fun d M'=>match d with
   | .int n=>0<=n/\n < 2 ^ 63/\Q (.int n) M'
   | _=>False) fun _ _=>False
  | none=>rLen_ [x] M Q)
 | _=>False
end
end DL
namespace He
open PySem PySem.Spec PyProof.Rows L2
theorem DefE.funD {K:PySem.W.Frag} {d:DefE} (e:fnE K (d.at_ K)=d.val) (c:d.ok K=true):∃ fd,FunD K d.name d.qual d.params d.body d.scope (d.dvs K) (d.kws K) (d.at_ K) fd:=by
 obtain ⟨kp,c2⟩:=ba c
 unfold fnE at e
 cases q:K.lookup (d.at_ K) with
 | none=>rw [q] at c2;cases c2
 | some o =>
  obtain ⟨oc,od,dt,osl⟩:=o
  rw [q] at c2 e
  cases dt with
  | func fd =>
   obtain ⟨n1,n2,n3,n4,n5,n6,n7,n8,n9,n10,n11,n12,n13,n14,n15⟩:=fd
   have e2:(some (n1,n2,n3,n4,n5,n6,n7,n15):FnW)=some (d.name,d.qual,d.params,.stmts d.body,d.scope,mainGlobals,[],builtinsNs):=e
   simp only [Option.some.injEq,Prod.mk.injEq] at e2
   obtain ⟨a1,a2,a3,a4,a5,a6,a7,a8⟩:=e2
   subst a1 a2 a3 a4 a5 a6 a7 a8
   obtain ⟨k1,k2⟩:=ba (show (PySem.W.codeIn K n13 d.qual && (dflB K n8 (d.dvs K) && kwdB K n9 (d.kws K)))=true from c2)
   obtain ⟨k3,k4⟩:=ba k2
   exact ⟨_,⟨oc,od,n8,n9,n10,n11,n12,n13,n14,osl,rfl,q,k1,dflB_ok k3,kwdB_ok k4⟩,kp⟩
  | _=>cases c2
section
variable {fa:List Fa} {fn:List DefE} {tf:List Defn} {ex:PySem.W.Frag->Bool} {h:Heap} {K:PySem.W.Frag}
theorem SaysY.bools (c:SaysY fa fn tf ex h K):(fa.all fun f=>f.ok K)=true/\fn.all (fun d=>d.ok K)=true/\ex K=true:=by
 have e:((fa.all fun f=>f.ok K) && (fn.all (fun d=>d.ok K) && ex K))=true:=congrArg (fun z:AlY=>z.1) c.t
 obtain ⟨h1,h2⟩:=ba e
 exact ⟨h1,(ba h2).1,(ba h2).2⟩
theorem SaysY.more (c:SaysY fa fn tf ex h K):ex K=true:=c.bools.2.2
theorem SaysY.fact (c:SaysY fa fn tf ex h K) (i:Nat) {f:Fa} (e:fa[i]?=some f:=by rfl):f.ok K=true:=List.all_eq_true.mp c.bools.1 f (List.mem_of_getElem? e)
theorem SaysY.def_ (c:SaysY fa fn tf ex h K) (i:Nat) {d:DefE} (e:fn[i]?=some d:=by rfl):∃ fd,FunD K d.name d.qual d.params d.body d.scope (d.dvs K) (d.kws K) (d.at_ K) fd:=by
 have q:fn.map (fun d=>fnE K (d.at_ K))=fn.map DefE.val:=congrArg (fun z:AlY=>z.2) c.t
 have q2:(fn.map fun d=>fnE K (d.at_ K))[i]?=(fn.map DefE.val)[i]?:=by rw [q]
 rw [List.getElem?_map,List.getElem?_map,e] at q2
 exact DefE.funD (Option.some.inj q2) (List.all_eq_true.mp c.bools.2.1 d (List.mem_of_getElem? e))
end
end He
namespace DL
open PySem PySem.Spec PyProof.Rows L2
def dFmt (t:TED):TED:=fun E rho M Q=>t E rho M fun x M1=>match x with
 | .str y=>y.length<=sizeLine/\Q (.str y) M1
 | .int i=>i.natAbs.log2 < 1920/\Q (.str (toString i)) M1
 | _=>False
def dJs:List TED->Str->XD->Rho->Mem->VD->Prop
 | [],acc,_,_,M,Q=>Q (.str acc) M
 | t :: ts,acc,E,rho,M,Q=>t E rho M fun x M1=>match x with
  | .str y=>(acc ++ y).length<=sizeLine/\dJs ts (acc ++ y) E rho M1 Q
  | _=>False
def jsD (ts:List TED) (acc:Str) (E:XD) (rho:Rho) (Q:VD) (x:D) (M1:Mem):Prop:=match x with
 | .str y=>(acc ++ y).length<=sizeLine/\dJs ts (acc ++ y) E rho M1 Q
 | _=>False
def dJoin (ts:List TED):TED:=fun E rho M Q=>dJs ts Str.empty E rho M Q
theorem cc_cls {K:PySem.W.Frag} {h:Heap} {mg:Str->Option Value} (X:K.In h) (G:h.Ns mainGlobals mg) {x:Str} (c:(He.Fa.glo x).ok K=true):CcD K mg x (.ref (He.ga K x)):=⟨.ref (He.ga K x),.ref (He.ga K x),He.glo_ok X G c,rfl,fun _ _ _=>rfl⟩
end DL
namespace DL
open PySem PySem.Spec PyProof.Rows L2 Mt
section
variable {E:XD} {DD:DEnds} {rho:Rho} {M:Mem} {Q:VD} {ta tb to tf:TED} {aa ak:TAD} {t:TAKD} {dsp:DSp} {C:Addr} {f m:Str} {d x y:D} {ns:List Str} {xs ds es dds pre:List D} {n k i:Nat} {is:List Nat} {N:Mem->Prop} {P:Prop} {fz:Bool} {R:List D->List D->Mem->Prop}
theorem e_fldo (e:(ns.zip xs).lookup f=some d) (h:Q d M):fldD C f (.obj C ns xs) M Q:=by
 unfold fldD
 simp only [insOf,e]
 first | exact ⟨rfl,h⟩ | exact ⟨trivial,h⟩
theorem e_cono (e:(ns.zip xs).lookup f=none) (h:Q d M):conD C f d (.obj C ns xs) M Q:=by
 unfold conD
 simp only [insOf,e]
 first | exact ⟨rfl,trivial,h⟩ | exact ⟨trivial,trivial,h⟩ | exact ⟨rfl,rfl,h⟩
theorem e_cls (h:P):clsD C (.ref C) P:=⟨rfl,h⟩
theorem e_isi (e:(ns.zip xs).lookup m=none) (h:P):isI C m M (.obj C ns xs)/\P:=⟨⟨rfl,e⟩,h⟩
theorem e_arg (h1:ds.length=n) (h2:es.length=k) (h:dsp (pick is (pre ++ ds ++ dds ++ es)) M Q E):dArg n k is dds dsp pre Q E ds es M:=⟨h1,h2,h⟩
theorem e_isc (h:P):isC C M (.obj C ns xs)/\P:=⟨rfl,h⟩
theorem e_fmt (h:ta E rho M fun x M1=>match x with
 | .str y=>y.length<=sizeLine/\Q (.str y) M1
 | .int i=>i.natAbs.log2 < 1920/\Q (.str (toString i)) M1
 | _=>False):dFmt ta E rho M Q:=h
theorem e_eqO (e:insOf M x=none) (h:rEq_ x y M Q):rEqO C dsp x y M Q:=by unfold rEqO;rw [e];exact h
theorem e_neO (e:insOf M x=none) (h:rNe_ x y M Q):rNeO C dsp x y M Q:=by unfold rNeO;rw [e];exact h
theorem e_eqOo (e:(kindD C M y).isSome=true) (h:dsp [.obj C ns xs,y] M (blQ (fun b=>b) Q) fun _ _=>False):rEqO C dsp (.obj C ns xs) y M Q:=⟨rfl,e,h⟩
theorem e_neOo (e:(kindD C M y).isSome=true) (h:dsp [.obj C ns xs,y] M (blQ (!·) Q) fun _ _=>False):rNeO C dsp (.obj C ns xs) y M Q:=⟨rfl,e,h⟩
theorem e_inO (h:dsp [.obj C ns xs,x] M (blQ (fun b=>b) Q) fun _ _=>False):rInO1 C dsp x (.obj C ns xs) M Q:=⟨rfl,h⟩
theorem e_blq {g:Bool->Bool} {b:Bool} (h:Q (.bl (g b)) M):blQ g Q (.bl b) M:=h
theorem kind_obj:kindD C M (.obj C ns xs)=some true:=by
 unfold kindD insOf
 simp
end
theorem cutx_app {E:XD} {x:Exn} {M L:Mem} (ok:okM M.length M) (hb:D.hbs M.length (x.fs.map (·.2))=true) (h:E x M):CutX M.length E x (M ++ L) :=
 ⟨hb,fun i mo hi e=>ok i mo hi (by rw [List.getElem?_append_left hi] at e;exact e),by rw [List.take_left'];exact h;rfl⟩
def rIsB_:RD2:=fun x y M Q=>match x,y with
 | .bl a,.bl b=>Q (.bl (decide (a=b))) M
 | _,_=>False
def rIsNotB_:RD2:=fun x y M Q=>match x,y with
 | .bl a,.bl b=>Q (.bl (!decide (a=b))) M
 | _,_=>False
theorem e_isB {a b:Bool} {M:Mem} {Q:VD} (h:Q (.bl (decide (a=b))) M):rIsB_ (.bl a) (.bl b) M Q:=h
theorem e_isnotB {a b:Bool} {M:Mem} {Q:VD} (h:Q (.bl (!decide (a=b))) M):rIsNotB_ (.bl a) (.bl b) M Q:=h
theorem Rg1.to {M M' M'':Mem} (g:Rg1 M M') (t:RgTo M' M.length M''):Rg1 M M'':=by
 obtain ⟨r,ok,rfl⟩:=g
 exact t.last
theorem Rg1.cut {M M':Mem} {Q:VD} {d:D} (g:Rg1 M M') (h:d.hb M.length=true) (ok:okM M.length M) (q:Q d M):Cut M.length Q d M':=by
 obtain ⟨r,_,rfl⟩:=g
 exact Cut.app h ok q
theorem e_js0 {acc:Str} {E:XD} {rho:Rho} {M:Mem} {Q:VD} (h:Q (.str acc) M):dJs [] acc E rho M Q:=h
theorem e_js1 {t:TED} {ts:List TED} {acc:Str} {E:XD} {rho:Rho} {M:Mem} {Q:VD} (h:t E rho M fun x M1=>jsD ts acc E rho Q x M1):dJs (t :: ts) acc E rho M Q:=h
theorem e_join0 {ts:List TED} {E:XD} {rho:Rho} {M:Mem} {Q:VD} (h:dJs ts Str.empty E rho M Q):dJoin ts E rho M Q:=h
theorem e_eqs {a b:Str} {M:Mem} {Q:VD} (h:Q (.bl (decide (a=b))) M):rEq_ (.str a) (.str b) M Q:=h
theorem e_nes {a b:Str} {M:Mem} {Q:VD} (h:Q (.bl (!decide (a=b))) M):rNe_ (.str a) (.str b) M Q:=h
end DL
namespace DL
open PySem PySem.Spec PyProof.Rows L2
def isRf:D->Bool
 | .obj _ _ _=>true
 | .mt _=>true
 | _=>false
theorem e_isrf {C:Addr} {ns:List Str} {xs:List D} {P:Prop} (h:P):isRf (.obj C ns xs)=true/\P:=⟨rfl,h⟩
def fzD (x:D) (M:Mem) (Q:VD):Prop:=match x with
 | .mt i=>(match memL M i with
  | some xs=>Q (.lst xs) (M.set i none)
  | none=>Q (.mt i) M)
 | x=>Q x M
theorem e_fzl {xs:List D} {M:Mem} {Q:VD} (h:Q (.lst xs) M):fzD (.lst xs) M Q:=h
theorem RgL.to {M L M' M'':Mem} (g:RgL M L M') (t:RgTo M' M.length M''):RgL M L M'':=by
 obtain ⟨r,ok,rfl⟩:=g
 obtain ⟨q,ok2,rfl⟩:=t
 exact ⟨q,ok2,by rw [List.set_append_right _ _ (Nat.le_refl _)];simp⟩
theorem RgL.cut {M L M':Mem} {Q:VD} {d:D} (g:RgL M L M') (h:d.hb M.length=true) (ok:okM M.length M) (q:Q d M):Cut M.length Q d M':=by
 obtain ⟨r,_,rfl⟩:=g
 exact Cut.app h ok q
end DL
namespace DL
open PySem PySem.Spec PyProof.Rows L2 Mt
section
variable {E:XD} {rho:Rho} {M:Mem} {Q:VD} {N:Rho->Mem->Prop} {t:TGsD} {q:Rat} {xs:List D} {lo hi:Option Int} {i:Int}
theorem e_htq (h:t [.int q.num,.int q.den] E rho M N):hTup 2 t (qD q) E rho M N:=⟨rfl,h⟩
theorem e_abs (h:Q (.int i.natAbs) M):rAbs_ [.int i] M Q:=h
theorem e_tpl (h:Q (.tup xs) M):rTuple_ [.lst xs] M Q:=h
theorem e_tpt (h:Q (.tup xs) M):rTuple_ [.tup xs] M Q:=h
theorem e_lsl (h:Q (.lst xs) M):rList_ [.lst xs] M Q:=h
theorem e_lst' (h:Q (.lst xs) M):rList_ [.tup xs] M Q:=h
theorem e_slnil (h:Q (.lst []) M):rSl_ (.lst []) lo hi M Q:=by
 have e:cutL ([]:List D) lo hi=[]:=by simp [cutL]
 show Q (.lst (cutL [] lo hi)) M
 rw [e];exact h
end
def rRep_:RD2:=fun x y M Q=>match y with
 | .int k=>(match asL M x with
  | some xs=>(-(2 ^ 63)<=k/\k < 2 ^ 63/\xs.length * k.toNat<=sizeLine)/\Q (.lst (List.replicate k.toNat xs).flatten) M
  | none=>False)
 | _=>False
theorem Rps.rep {K:PySem.W.Frag} {al:Al} {M:Mem} {H:Hp} {ds:List D} {xs:List V} (r:Rps K al M H ds xs):∀ n:Nat,Rps K al M H (List.replicate n ds).flatten (List.replicate n xs).flatten
 | 0=>rfl
 | n+1=>by
  rw [List.replicate_succ,List.replicate_succ,List.flatten_cons,List.flatten_cons]
  exact r.append (Rps.rep r n)
theorem ref_rep {X:Cx} {Tb:List (Addr×Str)}:RefOp X.K Tb L2.rRep rRep_:=by
 intro al M H x y dx dy Q QV w rx ry h p
 unfold rRep_ at h
 split at h
 ·rename_i k
  split at h
  ·rename_i xs e1
   obtain ⟨b,ys,rfl,h1,h2⟩:=asL_ok w e1 rx
   refine ⟨b,k,ys,rfl,ry,h1,h.1.1,h.1.2.1,by rw [<- h2.length];exact h.1.2.2,fun q hq=>?_⟩
   exact p _ _ _ _ _ (stp_new w hq _) (wf_new w hq _) (rp_lst w hq (h2.rep _)) h.2
  ·exact h.elim
 ·exact h.elim
theorem dv_rep {X:Cx} {Tb:List (Addr×Str)} {EV:XK} {a b:Expr} {ta tb:TED} {pos:Pos} (ha:PD X Tb EV a ta) (hb:PD X Tb EV b tb):PD X Tb EV (.BinOp a .Mult b pos) (dOp rRep_ ta tb):=dv_op op_rep ref_rep ha hb
theorem e_rep {xs:List D} {k:Int} {M:Mem} {Q:VD} (h0:-(2 ^ 63)<=k/\k < 2 ^ 63/\xs.length * k.toNat<=sizeLine) (h:Q (.lst (List.replicate k.toNat xs).flatten) M):rRep_ (.lst xs) (.int k) M Q:=⟨h0,h⟩
theorem e_addl {xs ys:List D} {M:Mem} {Q:VD} (h0:xs.length+ys.length<=sizeLine) (h:Q (.lst (xs ++ ys)) M):rAdd_ (.lst xs) (.lst ys) M Q:=⟨h0,h⟩
end DL
namespace ZN
open PySem PySem.Spec PyProof.Rows L2
open PySem.Sem (wp)
def Sb.Base (h:Heap) (xs:Array Value):Sb->Prop
 | ⟨true,_,l⟩=>h.IsTuple l xs
 | ⟨false,_,l⟩=>h.IsList l xs
theorem Sb.At.to {h h':Heap} {k:Nat} {b:Sb} (x:b.At h k) (e:∀ o,h.get? b.it=some o->h'.get? b.it=some o):b.At h' k:=by
 obtain ⟨tp,it,l⟩:=b
 cases tp
 ·exact Heap.IsListIter.at x e
 ·exact Heap.IsTupleIter.at x e
theorem Sb.Base.to {h h':Heap} {xs:Array Value} {b:Sb} (x:b.Base h xs) (e:∀ o,h.get? b.l=some o->h'.get? b.l=some o):b.Base h' xs:=by
 obtain ⟨tp,it,l⟩:=b
 cases tp
 ·exact Heap.IsList.at x e
 ·exact Heap.IsTuple.at x e
end ZN
namespace ZN
open PySem PySem.Spec PyProof.Rows L2
theorem BaseK.push {h:Heap} {xs:Array Value} {t:Bool×Addr} (x:BaseK h xs t) (o:Obj):BaseK (h.push o) xs t:=by
 obtain ⟨tp,l⟩:=t
 cases tp
 ·exact Heap.IsList.push x o
 ·exact Heap.IsTuple.push x o
end ZN
namespace DL
open PySem PySem.Spec PyProof.Rows L2 ZN
def SqXz (K:PySem.W.Frag) (al:Al) (M:Mem) (H:Hp) (xs:List V):Bool×Addr->Prop
 | (true,a)=>SqTz K al M H a xs
 | (false,a)=>SqLz K al M H a xs
section
variable {K:PySem.W.Frag} {Tb:List (Addr×Str)} {al al':Al} {M M':Mem} {H H':Hp}
theorem SqXz.sq {xs:List V} {t:Bool×Addr} (h:SqXz K al M H xs t):SqX K H xs t:=by
 obtain ⟨tp,a⟩:=t
 cases tp
 ·exact SqLz.sq h
 ·exact SqTz.sq h
theorem SqXz.monow {xs:List V} {t:Bool×Addr} (s:Stw al M H al' M' H') (h:SqXz K al M H xs t):SqXz K al' M' H' xs t:=by
 obtain ⟨tp,a⟩:=t
 cases tp
 ·exact SqLz.monow s h
 ·exact SqTz.monow s h
def zip2D (xs ys:List D):List D:=List.zipWith (fun a b=>D.tup [a,b]) xs ys
def zip3D (xs ys zs:List D):List D:=List.zipWith (fun a (p:D×D)=>D.tup [a,p.1,p.2]) xs (List.zip ys zs)
end
def iZip2 (t:TAD):TID:=fun E rho M Q=>t E rho M fun ds M1=>match ds with
 | [x,y]=>∃ xs ys,asS x=some xs/\asS y=some ys/\Q (zip2D xs ys) M1
 | _=>False
def iZip3 (t:TAD):TID:=fun E rho M Q=>t E rho M fun ds M1=>match ds with
 | [x,y,z]=>∃ xs ys zs,asS x=some xs/\asS y=some ys/\asS z=some zs/\Q (zip3D xs ys zs) M1
 | _=>False
section
variable {X:Cx} {Tb:List (Addr×Str)} {EV:XK} {a b c:Expr} {ta:TAD} {p pos tpos:Pos} {elts:List Expr} {kk:Nat}
theorem e_zip2 {E:XD} {rho:Rho} {M:Mem} {I:List D->Mem->Prop} (h:ta E rho M fun ds M1=>match ds with
 | [x,y]=>∃ xs ys,asS x=some xs/\asS y=some ys/\I (zip2D xs ys) M1
 | _=>False):iZip2 ta E rho M I:=h
theorem e_zip3 {E:XD} {rho:Rho} {M:Mem} {I:List D->Mem->Prop} (h:ta E rho M fun ds M1=>match ds with
 | [x,y,z]=>∃ xs ys zs,asS x=some xs/\asS y=some ys/\asS z=some zs/\I (zip3D xs ys zs) M1
 | _=>False):iZip3 ta E rho M I:=h
end
end DL
namespace DL
theorem Trk.lt_iff {S:Int->Pt} (h:Trk S) {i j:Int}:(S i).a < (S j).a ↔ i < j:=by
 constructor
 ·intro g
  rcases Int.lt_trichotomy i j with e | e | e
  ·exact e
  ·subst e;exact absurd g (by grind)
  ·have:=h.lt e;exact absurd g (by grind)
 ·exact h.lt
def IsPl (S:Int->Pt) (x:Rat) (k:Int):Prop:=(S (k - 1)).a < x/\x<=(S k).a
theorem Trk.pl_ex {S:Int->Pt} (h:Trk S) (x:Rat):∃ k,IsPl S x k:=by
 obtain ⟨i,hi⟩:=h.lo x
 obtain ⟨j,hj⟩:=h.hi x
 have hij:i < j:=h.lt_iff.mp (Std.lt_trans hi hj)
 have:∀ n:Nat,x<=(S (i+n)).a->∃ k,IsPl S x k:=by
  intro n
  induction n with
  | zero=>intro g;simp at g;grind
  | succ n ih =>
   intro g
   by_cases z:x<=(S (i+n)).a
   ·exact ih z
   ·refine ⟨i+(n+1:Nat),?_,g⟩
    rw [show i+((n+1:Nat):Int) - 1=i+n from by omega]
    grind
 refine this (j - i).toNat ?_
 rw [show i+((j - i).toNat:Int)=j from by omega]
 grind
theorem Trk.pl_un {S:Int->Pt} (h:Trk S) {x:Rat} {i j:Int} (hi:IsPl S x i) (hj:IsPl S x j):i=j:=by
 have h1:(S (i - 1)).a < (S j).a:=by have:=hi.1;have:=hj.2;grind
 have h2:(S (j - 1)).a < (S i).a:=by have:=hj.1;have:=hi.2;grind
 have:=h.lt_iff.mp h1
 have:=h.lt_iff.mp h2
 omega
open Classical in
noncomputable def plc (S:Int->Pt) (x:Rat):Int:=if h:∃ k,IsPl S x k then h.choose else 0
theorem Trk.plc {S:Int->Pt} (h:Trk S) (x:Rat):IsPl S x (plc S x):=by
 unfold DL.plc
 rw [dif_pos (h.pl_ex x)]
 exact (h.pl_ex x).choose_spec
theorem Trk.plc_eq {S:Int->Pt} (h:Trk S) {x:Rat} {k:Int} (g:IsPl S x k):DL.plc S x=k:=h.pl_un (h.plc x) g
structure Arn where
 l:Rat
 v:Rat
 r:Rat
 sb:Rat
 sa:Rat
def arnAt (S:Int->Pt) (x:Rat) (k:Int):Arn :=
 if (S k).a=x then ⟨(S k).l,(S k).v,(S k).r,slB (S (k - 1)) (S k),slB (S k) (S (k+1))⟩
 else ⟨(S k).l - slB (S (k - 1)) (S k) * ((S k).a - x),(S k).l - slB (S (k - 1)) (S k) * ((S k).a - x),(S k).l - slB (S (k - 1)) (S k) * ((S k).a - x),slB (S (k - 1)) (S k),slB (S (k - 1)) (S k)⟩
noncomputable def arn (S:Int->Pt) (x:Rat):Arn:=arnAt S x (plc S x)
theorem Trk.arn_pt {S:Int->Pt} (h:Trk S) {k:Int}:arn S (S k).a=⟨(S k).l,(S k).v,(S k).r,slB (S (k - 1)) (S k),slB (S k) (S (k+1))⟩:=by
 unfold arn
 have:DL.plc S (S k).a=k:=h.plc_eq ⟨h.lt (by omega),by grind⟩
 rw [this]
 unfold arnAt
 rw [if_pos rfl]
theorem Trk.arn_in {S:Int->Pt} (h:Trk S) {k:Int} {x:Rat} (h1:(S k).a < x) (h2:x < (S (k+1)).a) :
  arn S x=⟨(S k).r+slB (S k) (S (k+1)) * (x - (S k).a),(S k).r+slB (S k) (S (k+1)) * (x - (S k).a),(S k).r+slB (S k) (S (k+1)) * (x - (S k).a),slB (S k) (S (k+1)),slB (S k) (S (k+1))⟩:=by
 unfold arn
 have e:DL.plc S x=k+1:=h.plc_eq ⟨by rw [show k+1 - 1=k from by omega];exact h1,by grind⟩
 rw [e]
 unfold arnAt
 rw [if_neg (by grind),show k+1 - 1=k from by omega]
 have hm:=slB_mul (h.up k)
 have:(S (k+1)).l - slB (S k) (S (k+1)) * ((S (k+1)).a - x)=(S k).r+slB (S k) (S (k+1)) * (x - (S k).a):=by grind
 rw [this]
section
variable {p r:Rat} {row:List Pt}
theorem okPts.pr' (h:okPts p r row) (j:Nat) (hj:j < row.length):okPr (rowAt p r row j,rowAt p r row (j+1)):=by
 refine h.pr _ ?_
 refine List.mem_iff_getElem?.mpr ⟨j,?_⟩
 rw [List.getElem?_zip_eq_some]
 refine ⟨?_,nextPts_get j hj⟩
 show row[j]?=some (rowAt p r row j)
 rw [rowAt_nat j hj,List.getElem?_eq_getElem hj]
theorem int_between (x:Rat):∃ n:Int,x < n/\(n:Rat)<=x+1:=⟨x.floor+1,Rat.lt_floor_add_one x,by have:=Rat.floor_le x;rw [Rat.intCast_add];grind⟩
theorem okPts.trk (h:okPts p r row) (hn:row≠[]):Trk (rowAt p r row):=by
 have hl:=List.length_pos_iff.mpr hn
 have step:∀ k,∃ (j:Nat) (t:Int),j < row.length/\rowAt p r row k=(rowAt p r row j).mv t p r/\rowAt p r row (k+1)=(rowAt p r row (j+1)).mv t p r:=fun k=>by
  obtain ⟨j,t,hj,rfl⟩:=rowAt_split hn k
  refine ⟨j,t,hj,rowAt_add hn _ _,?_⟩
  rw [<- rowAt_add hn]
  congr 1
  omega
 have mem:∀ k,∃ (q:Pt) (t:Int),q∈row/\rowAt p r row k=q.mv t p r:=fun k=>by
  obtain ⟨j,t,hj,e,_⟩:=step k
  exact ⟨row[j],t,List.getElem_mem hj,by rw [e,rowAt_nat j hj]⟩
 have h0:∀ t:Int,rowAt p r row (t * row.length)=(row[0]).mv t p r:=fun t=>by
  have:=rowAt_add (p:=p) (r:=r) hn 0 t
  rw [Int.zero_add] at this
  rw [this,show (0:Int)=((0:Nat):Int) from rfl,rowAt_nat 0 hl]
 refine ⟨fun k=>?_,fun k=>?_,fun k=>?_,fun k=>?_,fun x=>?_,fun x=>?_⟩
 ·obtain ⟨j,t,hj,e1,e2⟩:=step k
  rw [e1,e2]
  have:=(h.pr' j hj).lt
  show _+_ < _+_
  grind
 ·obtain ⟨q,t,hq,e⟩:=mem k
  rw [e]
  have:=(h.pt q hq).lv
  show _+_<=_+_
  grind
 ·obtain ⟨q,t,hq,e⟩:=mem k
  rw [e]
  have:=(h.pt q hq).vr
  show _+_<=_+_
  grind
 ·obtain ⟨j,t,hj,e1,e2⟩:=step k
  rw [e1,e2]
  have:=(h.pr' j hj).le
  show _+_<=_+_
  grind
 ·obtain ⟨n,hn1,_⟩:=int_between (x / p)
  refine ⟨n * row.length,?_⟩
  rw [h0]
  have p0:=h.p0
  have q0:=(h.pt _ (List.getElem_mem hl)).lo
  have:x < n * p:=(Rat.div_lt_iff p0).mp hn1
  show x < _+_
  grind
 ·obtain ⟨n,hn1,hn2⟩:=int_between ((x - row[0].a) / p)
  refine ⟨(n - 2) * row.length,?_⟩
  rw [h0]
  have p0:=h.p0
  have:(n:Rat) - 2 < (x - row[0].a) / p:=by grind
  have:((n:Rat) - 2) * p < (x - row[0].a):=(Rat.lt_div_iff p0).mp this
  show _+_ < x
  rw [Rat.intCast_sub]
  grind
end
end DL
namespace DL
theorem Trk.le {S:Int->Pt} (h:Trk S) {i j:Int} (hij:i < j):(S i).r<=(S j).l:=by
 have:∀ n:Nat,(S i).r<=(S (i+n+1)).l:=by
  intro n
  induction n with
  | zero=>simpa using h.ri i
  | succ n ih =>
   have h1:=h.lv (i+n+1)
   have h2:=h.vr (i+n+1)
   have h3:=h.ri (i+n+1)
   rw [show i+((n+1:Nat):Int)+1=i+n+1+1 from by omega]
   grind
 have:=this (j - i - 1).toNat
 rw [show i+((j - i - 1).toNat:Int)+1=j from by omega] at this
 exact this
theorem Trk.flat {S:Int->Pt} (h:Trk S) {k:Int} (no:isT S k=false):(S k).l=(S k).v/\(S k).r=(S k).v:=by
 have:=(isT_no no).1
 have:=h.lv k
 have:=h.vr k
 constructor <;> grind
theorem Sub.trk {S S':Int->Pt} {f:Int->Int} (s:Sub S S' f) (h:Trk S):Trk S':=by
 have fn:∀ n:Nat,∀ i,f i+n<=f (i+n):=by
  intro n
  induction n with
  | zero=>intro i;simp
  | succ n ih =>
   intro i
   have:=ih i
   have:=s.up (i+n)
   rw [show i+((n+1:Nat):Int)=i+n+1 from by omega]
   omega
 refine ⟨fun k=>?_,fun k=>?_,fun k=>?_,fun k=>?_,fun x=>?_,fun x=>?_⟩
 ·rw [s.eq,s.eq];exact h.lt (s.up k)
 ·rw [s.eq];exact h.lv _
 ·rw [s.eq];exact h.vr _
 ·rw [s.eq,s.eq];exact h.le (s.up k)
 ·obtain ⟨k,hk⟩:=h.hi x
  have:=fn (k - f 0).toNat 0
  by_cases z:f 0<=k
  ·refine ⟨(0:Int)+(k - f 0).toNat,?_⟩
   rw [s.eq]
   have:k<=f (0+(k - f 0).toNat):=by omega
   rcases Int.lt_or_eq_of_le this with e | e
   ·exact Std.lt_trans hk (h.lt e)
   ·rw [<- e];exact hk
  ·refine ⟨0,?_⟩
   rw [s.eq]
   exact Std.lt_trans hk (h.lt (by omega))
 ·obtain ⟨k,hk⟩:=h.lo x
  by_cases z:k<=f 0
  ·refine ⟨-((f 0 - k).toNat:Int),?_⟩
   rw [s.eq]
   have:=fn (f 0 - k).toNat (-((f 0 - k).toNat:Int))
   rw [show -((f 0 - k).toNat:Int)+((f 0 - k).toNat:Int)=0 from by omega] at this
   have:f (-((f 0 - k).toNat:Int))<=k:=by omega
   rcases Int.lt_or_eq_of_le this with e | e
   ·exact Std.lt_trans (h.lt e) hk
   ·rw [e];exact hk
  ·refine ⟨0,?_⟩
   rw [s.eq]
   exact Std.lt_trans (h.lt (by omega)) hk
theorem Sub.arn {S S':Int->Pt} {f:Int->Int} (s:Sub S S' f) (h:Trk S) (x:Rat):arn S' x=arn S x:=by
 have h':=s.trk h
 obtain ⟨g1,g2⟩:=h'.plc x
 generalize DL.plc S' x=k at g1 g2
 obtain ⟨j,rfl⟩:∃ j,k=j+1:=⟨k - 1,by omega⟩
 rw [show j+1 - 1=j from by omega] at g1
 by_cases e:x=(S' (j+1)).a
 ·subst e
  rw [h'.arn_pt,s.sl h (j+1) (f (j+1)) (by omega) (s.up _),show j+1 - 1=j from by omega,s.sl h j (f (j+1) - 1) (by have:=s.up j;omega) (by omega),show f (j+1) - 1+1=f (j+1) from by omega,s.eq,h.arn_pt]
 have g3:x < (S' (j+1)).a:=by grind
 rw [h'.arn_in g1 g3]
 rw [s.eq] at g1 g3
 obtain ⟨q1,q2⟩:=h.plc x
 generalize DL.plc S x=k' at q1 q2
 obtain ⟨m,rfl⟩:∃ m,k'=m+1:=⟨k' - 1,by omega⟩
 rw [show m+1 - 1=m from by omega] at q1
 have m1:f j<=m:=by
  have:(S (f j)).a < (S (m+1)).a:=by grind
  have:=h.lt_iff.mp this
  omega
 have m2:m < f (j+1):=h.lt_iff.mp (by grind)
 have rn:=h.run (s.up j) (s.no j) m m1 m2
 rw [s.sl h j m m1 m2]
 by_cases e2:x=(S (m+1)).a
 ·subst e2
  have m3:m+1 < f (j+1):=h.lt_iff.mp g3
  have nt:=s.no j (m+1) (by omega) m3
  have fl:=h.flat nt
  have sl:=(isT_no nt).2
  rw [show m+1 - 1=m from by omega] at sl
  rw [h.arn_pt,show m+1 - 1=m from by omega,<- sl,s.eq]
  rw [rn.1] at *
  rw [fl.2,<- fl.1,rn.2.1]
 ·rw [h.arn_in q1 (by grind)]
  rw [s.eq,rn.1]
  have:(S (f j)).r+slB (S (f j)) (S (f j+1)) * (x - (S (f j)).a)=(S m).r+slB (S (f j)) (S (f j+1)) * (x - (S m).a):=by grind
  rw [this]
noncomputable def Crv.arn (c:Crv) (x:Rat):Arn:=if c.row=[] then ⟨c.b+c.s * x,c.b+c.s * x,c.b+c.s * x,c.s,c.s⟩ else DL.arn c.at x
end DL
namespace DL
open PySem PySem.Spec PyProof.Rows L2 Mt
theorem e_htpt {E:XD} {rho:Rho} {M:Mem} {N:Rho->Mem->Prop} {t:TGsD} {q:Pt} (h:t [qD q.a,qD q.l,qD q.v,qD q.r] E rho M N):hTup 4 t (ptD q) E rho M N:=⟨rfl,h⟩
theorem e_ixpt {M:Mem} {Q:VD} {q:Pt} {k:Int} {d:D} (e:L2.atI [qD q.a,qD q.l,qD q.v,qD q.r] k=some d) (h:Q d M):rIx_ (ptD q) (.int k) M Q:=e_ix rfl e h
theorem at_0 {α:Type} {x:α} {xs:List α}:L2.atI (x :: xs) 0=some x:=at_nat (xs:=x :: xs) (j:=0) (by simp)
theorem hbs_map {α:Type} {n:Nat} {e:α->D} (h:∀ a,(e a).hb n=true):∀ l:List α,D.hbs n (l.map e)=true
 | []=>rfl
 | a :: l=>by
  show ((e a).hb n && D.hbs n (l.map e))=true
  rw [h a,hbs_map h l];rfl
theorem bz_floor (a:Rat):bz a.floor<=qs a:=by
 rw [Rat.floor_def]
 have h1:=qs_num a
 have h2:=Int.natAbs_ediv_le_natAbs a.num a.den
 exact Nat.le_trans (bs_mono h2) h1
theorem Crv.Ok.trk {c:Crv} (h:c.Ok) (hn:c.row≠[]):Trk c.at:=(h.ok hn).trk hn
abbrev cvN:List Str:=["period","rise","row","slope","base","form","offset"]
def formD (c:Crv):D:=.tup [qD c.p,qD c.r,.tup (c.row.map ptD),qD (if c.row=[] then c.b else 0)]
noncomputable def crvD (K:PySem.W.Frag) (c:Crv):D:=.obj (He.ga K "Curve") cvN [qD c.p,qD c.r,.tup (c.row.map ptD),qD c.s,qD c.b,formD c,qD (c.arn 0).v]
theorem hb_row {n:Nat} {l:List Pt}:(D.tup (l.map ptD)).hb n=true:=hbs_map (fun _=>rfl) l
theorem hb_form {n:Nat} {c:Crv}:(formD c).hb n=true:=by
 show ((qD c.p).hb n && ((qD c.r).hb n && ((D.tup (c.row.map ptD)).hb n && ((qD (if c.row=[] then c.b else 0)).hb n && true))))=true
 rw [hb_row];rfl
theorem hbs_crv {n:Nat} {c:Crv}:D.hbs n [qD c.p,qD c.r,.tup (c.row.map ptD),qD c.s,qD c.b,formD c,qD (c.arn 0).v]=true:=by
 show ((qD c.p).hb n && ((qD c.r).hb n && ((D.tup (c.row.map ptD)).hb n && ((qD c.s).hb n && ((qD c.b).hb n && ((formD c).hb n && ((qD (c.arn 0).v).hb n && true)))))))=true
 rw [hb_row,hb_form];rfl
theorem hb_crv {K:PySem.W.Frag} {n:Nat} {c:Crv}:(crvD K c).hb n=true:=hbs_crv
theorem plc_bz {c:Crv} {B:Nat} (hz:c.Sz B) (ok:c.Ok) (hn:c.row≠[]) (y:Rat):bz (plc c.at y)<=qs y+B+18:=by
 have hl:=List.length_pos_iff.mpr hn
 have trk:=ok.trk hn
 have p0:=ok.p0
 have h0:∀ t:Int,(c.at (t * c.row.length)).a=(c.row[0]).a+t * c.p:=fun t=>by
  have h1:=rowAt_add (p:=c.p) (r:=c.r) hn 0 t
  rw [Int.zero_add,show (0:Int)=((0:Nat):Int) from rfl,rowAt_nat 0 hl] at h1
  unfold Crv.at
  rw [h1];rfl
 have okp:=(ok.ok hn).pt _ (List.getElem_mem hl)
 have f1:=Rat.floor_le (y / c.p)
 have f2:=Rat.lt_floor_add_one (y / c.p)
 rw [Rat.intCast_add] at f2
 have g1:((y / c.p).floor:Rat) * c.p<=y:=by
  have:=fun z=>(show ¬ y / c.p < ((y / c.p).floor:Rat) by grind) ((Rat.div_lt_iff p0).mpr z)
  grind
 have g2:y < (((y / c.p).floor:Rat)+((1:Int):Rat)) * c.p:=(Rat.div_lt_iff p0).mp f2
 have e1:(((1:Int)):Rat)=1:=rfl
 rw [e1] at g2
 obtain ⟨q1,q2⟩:=trk.plc y
 generalize plc c.at y=k at *
 have u1:(y / c.p).floor * c.row.length - 1 < k:=by
  refine trk.lt_iff.mp ?_
  have h1:=rowAt_add (p:=c.p) (r:=c.r) hn ((c.row.length - 1:Nat):Int) ((y / c.p).floor - 1)
  rw [rowAt_nat _ (by omega),show ((c.row.length - 1:Nat):Int)+((y / c.p).floor - 1) * c.row.length=(y / c.p).floor * c.row.length - 1 from by rw [Int.sub_mul];omega] at h1
  have:=((ok.ok hn).pt _ (List.getElem_mem (show c.row.length - 1 < c.row.length by omega))).hi
  have:(c.at ((y / c.p).floor * c.row.length - 1)).a < y:=by
   unfold Crv.at
   rw [h1]
   show _+_ < y
   rw [Rat.intCast_sub]
   grind
  grind
 have u2:k - 1 < ((y / c.p).floor+1) * c.row.length:=by
  refine trk.lt_iff.mp ?_
  have:y < (c.at (((y / c.p).floor+1) * c.row.length)).a:=by
   rw [h0,Rat.intCast_add,e1]
   have:=okp.lo
   grind
  grind
 have hd:=qs_div y c.p
 have hf:=bz_floor (y / c.p)
 have hzp:=hz.p hn
 have hzl:=hz.len
 have b1:=bi_mul (y / c.p).floor c.row.length
 have b2:=bi_add ((y / c.p).floor * c.row.length) (k - (y / c.p).floor * c.row.length)
 have b3:bz (c.row.length:Int)<=14:=bi_lt (by omega) (by omega)
 rw [Int.add_mul] at u2
 have b4:bz (k - (y / c.p).floor * c.row.length)<=15:=bi_lt (by omega) (by omega)
 rw [show (y / c.p).floor * (c.row.length:Int)+(k - (y / c.p).floor * c.row.length)=k from by omega] at b2
 omega
noncomputable abbrev cvX (c:Crv):List D:=[qD c.p,qD c.r,.tup (c.row.map ptD),qD c.s,qD c.b,formD c,qD (c.arn 0).v]
section
variable {K:PySem.W.Frag} {M:Mem} {Q:VD} {c:Crv} {f m:Str} {d:D} {P:Prop} {k:Int} {a:Arn} {E:XD} {rho:Rho} {N:Rho->Mem->Prop} {t:TGsD}
theorem e_fldC (e:(cvN.zip (cvX c)).lookup f=some d) (h:Q d M):fldD (He.ga K "Curve") f (crvD K c) M Q:=e_fldo e h
theorem e_isiK (e:(cvN.zip (cvX c)).lookup m=none) (h:P):isI (He.ga K "Curve") m M (crvD K c)/\P:=e_isi e h
theorem e_conC (e:(cvN.zip (cvX c)).lookup f=none) (h:Q d M):conD (He.ga K "Curve") f d (crvD K c) M Q:=e_cono e h
def arnD (a:Arn):D:=.tup [qD a.l,qD a.v,qD a.r,qD a.sb,qD a.sa]
theorem e_ixar (e:L2.atI [qD a.l,qD a.v,qD a.r,qD a.sb,qD a.sa] k=some d) (h:Q d M):rIx_ (arnD a) (.int k) M Q:=e_ix rfl e h
theorem e_htar (h:t [qD a.l,qD a.v,qD a.r,qD a.sb,qD a.sa] E rho M N):hTup 5 t (arnD a) E rho M N:=⟨rfl,h⟩
end
theorem qs_pos (q:Rat):1<=qs q:=Nat.le_trans (by unfold bs;have:=q.den_pos;split <;> omega) (qs_den q)
mutual
theorem Rp.more {K:PySem.W.Frag} {al:Al} {M M':Mem} {H:Hp} (m:More al M M' H):∀ {d:D} {v:V},d.nl=true->Rp K al M H d v->Rp K al M' H d v
 | .non,_,_,h=>h
 | .bl _,_,_,h=>h
 | .int _,_,_,h=>h
 | .str _,_,_,h=>h
 | .ty _,_,_,h=>h
 | .tup ds,_,l,h=>by
  obtain ⟨a,xs,e,q,r⟩:=h
  refine ⟨a,xs,e,?_,Rps.more m l r⟩
  rcases q with ⟨q,f⟩ | q
  ·exact .inl ⟨q,m.fz q (fun _ z=>by cases z) (fun _ z=>by cases z) f⟩
  ·exact .inr q
 | .lst ds,_,l,h=>by cases l
 | .rol ds,_,l,h=>by cases l
 | .obj C ns ds,_,l,h=>by
  obtain ⟨a,dx,xs,e,q,f,g,r⟩:=h
  exact ⟨a,dx,xs,e,q,m.fz q (fun _ z=>by cases z) (fun _ z=>by cases z) f,g,Rps.more m l r⟩
 | .dk C ds,_,l,h=>by cases l
 | .dt C ds,_,l,h=>by
  obtain ⟨a,dx,xs,e,q,f,g,r⟩:=h
  exact ⟨a,dx,xs,e,q,m.fz q (fun _ z=>by cases z) (fun _ z=>by cases z) f,g,Rps.more m l r⟩
 | .exc C ns ds,_,l,h=>by
  obtain ⟨a,dx,xs,e,q,f,q2,f2,g,r⟩:=h
  exact ⟨a,dx,xs,e,q,m.fz q (fun _ z=>by unfold exs at z;cases z) (fun _ z=>by unfold exs at z;cases z) f,q2,m.fz q2 (fun _ z=>by cases z) (fun _ z=>by cases z) f2,g,Rps.more m l r⟩
 | .lam _ _,_,_,h=>⟨h.1,fun x hx=>⟨(h.2 x hx).1,m.fz (h.2 x hx).1 (fun _ z=>by cases z) (fun _ z=>by cases z) (h.2 x hx).2⟩⟩
 | .ref _,_,_,h=>h
 | .mt i,_,_,h=>h
theorem Rps.more {K:PySem.W.Frag} {al:Al} {M M':Mem} {H:Hp} (m:More al M M' H):∀ {ds:List D} {xs:List V},D.nls ds=true->Rps K al M H ds xs->Rps K al M' H ds xs
 | [],_,_,h=>h
 | d :: ds,_,l,h=>by
  obtain ⟨x,r,e,q,t⟩:=h
  have l:(d.nl && D.nls ds)=true:=l
  rw [Bool.and_eq_true] at l
  exact ⟨x,r,e,Rp.more m l.1 q,Rps.more m l.2 t⟩
end
def dDn:TED:=fun _ _ M Q=>Q (.mt M.length) (M ++ [some (.dK [])])
theorem e_dn {E:XD} {rho:Rho} {M:Mem} {Q:VD} (h:Q (.mt M.length) (M ++ [some (.dK [])])):dDn E rho M Q:=h
theorem e_lenOn {C:Addr} {dsp:DSp} {x:D} {M:Mem} {Q:VD} (e:insOf M x=none) (h:rLen_ [x] M Q):rLenO C dsp [x] M Q:=by
 unfold rLenO
 simp only [e]
 exact h
section
variable {M M' M'' L:Mem} {i j:Nat} {o:Option MO}
theorem RgX.of (t:RgTo M i M'):RgX M i [] M':=⟨M',t,by simp⟩
theorem RgX.to (a:RgAt M i) (g:RgX M i L M') (t:RgTo M' i M''):RgX M i L M'':=by
 obtain ⟨M2,t2,rfl⟩:=g
 obtain ⟨r,ok,rfl⟩:=t
 have hl:i < M2.length:=by rw [t2.len];exact a.lt
 refine ⟨M2.set i (some r.mo),t2.trans ⟨r,ok,rfl⟩,?_⟩
 rw [List.set_append_left _ _ hl]
theorem RgX.get (g:RgX M i L M') (j:Nat):M'[M.length+j]?=L[j]?:=by
 obtain ⟨M2,t,rfl⟩:=g
 rw [List.getElem?_append_right (by rw [t.len];omega),t.len]
 congr 1
 omega
theorem RgX.cut {Q:VD} {d:D} (g:RgX M i L M') (h:d.hb M.length=true) (ok:okM M.length M) (q:∀ M2,RgTo M i M2->Q d M2):Cut M.length Q d M':=by
 obtain ⟨M2,t,rfl⟩:=g
 refine ⟨M.length,Nat.le_refl _,h,fun j mo hj e=>?_,?_⟩
 ·rw [List.getElem?_append_left (by rw [t.len];exact hj)] at e
  exact t.okM ok j mo hj e
 ·rw [List.take_left' t.len]
  exact q M2 t
end
def lawSp0:DSp:=fun ds M Q E=>M=[]/\lawSp ds M Q E
end DL
namespace DL
open PySem Mt
def dnT (t:Str) (k:Int):Prop:=t="down"\/(t="even"/\k % 2=0)
instance (t:Str) (k:Int):Decidable (dnT t k):=by unfold dnT;exact inferInstance
def nT (t:Str) (u o:Rat) (k:Int):Pt:=⟨o+k * u+u / 2,o+k * u,if dnT t k then o+k * u else o+k * u+u,o+k * u+u⟩
end DL
namespace He
open PySem PySem.Spec PyProof.Rows L2
theorem obsZ_eq {as:List Addr} {fa:List Fa} {fn:List DefE} {tf:List Defn} {ex:PySem.W.Frag->Bool} {g:Addr->Option Obj} {s:Shared} (h:∀ a,g a=s.heap.get? a):obsZ as fa fn tf ex g=(hookZ as fa fn tf ex).obs s:=by
 have e:g=s.heap.get?:=funext h
 rw [e] <;> rfl
theorem LookEq.to {r:PySem.W.OpenRow} {M:Nat} {w:World} {β γ:Type} {f:PySem.W.SharedT->β} {v:β} (a:LookEq r M w f v) (k:β->γ):LookEq r M w (fun s=>k (f s)) (k v):=fun os=>by
 have h1:=a os
 generalize HandSHeadRun.endF _ _ _ _ _=x at h1
 cases x with
 | none=>cases h1
 | some s =>
  simp only [Option.map_some,Option.some.injEq] at h1 ⊢
  rw [h1]
end He
namespace DL
open PySem PySem.Spec PySem.Calls PyProof.Rows L2
def hStar (k:Nat) (t:TGsD):TGD:=fun d E rho M Q=>match d with
 | .tup xs=>k<=xs.length/\t (xs.take k ++ [.lst (xs.drop k)]) E rho M Q
 | .lst xs=>k<=xs.length/\t (xs.take k ++ [.lst (xs.drop k)]) E rho M Q
 | _=>False
def bindM:List Nat->List D->Rho->Option Rho
 | [],[],rho=>some rho
 | i :: is,x :: xs,rho=>bindM is xs (rho.set i (some x))
 | _,_,_=>none
section
variable {X:Cx} {Tb:List (Addr×Str)} {EV:XK} {pos:Pos}
def mSeq (is:List Nat) (tg:TTD) (tb:TSD) (rest:D->TSD):D->TSD:=fun d E DD rho M=>match d with
 | .lst xs=>(match bindM is xs rho with
  | some r=>tg E r M fun b M1=>if b=true then tb E DD r M1 else rest d E DD r M1
  | none=>rest d E DD rho M)
 | _=>False
theorem e_mhit {is:List Nat} {tg:TTD} {tb:TSD} {rest:D->TSD} {xs:List D} {E:XD} {DD:DEnds} {rho r:Rho} {M:Mem} (e:bindM is xs rho=some r) (h:tg E r M fun b M1=>if b=true then tb E DD r M1 else rest (.lst xs) E DD r M1):mSeq is tg tb rest (.lst xs) E DD rho M:=by
 unfold mSeq;simp only [e];exact h
theorem e_mmiss {is:List Nat} {tg:TTD} {tb:TSD} {rest:D->TSD} {xs:List D} {E:XD} {DD:DEnds} {rho:Rho} {M:Mem} (e:bindM is xs rho=none) (h:rest (.lst xs) E DD rho M):mSeq is tg tb rest (.lst xs) E DD rho M:=by
 unfold mSeq;simp only [e];exact h
theorem e_star1 {t:TGsD} {x:D} {xs:List D} {E:XD} {rho:Rho} {M:Mem} {Q:Rho->Mem->Prop} (h:t [x,.lst xs] E rho M Q):hStar 1 t (.tup (x :: xs)) E rho M Q:=⟨by simp,h⟩
theorem e_star1l {t:TGsD} {x:D} {xs:List D} {E:XD} {rho:Rho} {M:Mem} {Q:Rho->Mem->Prop} (h:t [x,.lst xs] E rho M Q):hStar 1 t (.lst (x :: xs)) E rho M Q:=⟨by simp,h⟩
theorem e_star2l {t:TGsD} {x y:D} {xs:List D} {E:XD} {rho:Rho} {M:Mem} {Q:Rho->Mem->Prop} (h:t [x,y,.lst xs] E rho M Q):hStar 2 t (.lst (x :: y :: xs)) E rho M Q:=⟨by simp,h⟩
end
end DL
namespace DL
open PySem PySem.Spec PyProof.Rows L2 Mt
theorem e_istup {xs:List D} {M:Mem} {Q:VD} (h:Q (.bl true) M):rIsi_ [.tup xs,.ty "tuple"] M Q:=isi_of (b:=true) "tuple" rfl (by decide +kernel) (by decide +kernel) h
theorem e_isstr {z:Str} {M:Mem} {Q:VD} (h:Q (.bl true) M):rIsi_ [.str z,.ty "str"] M Q:=isi_of (b:=true) "str" rfl (by decide +kernel) (by decide +kernel) h
theorem e_ix0t {x:D} {xs:List D} {M:Mem} {Q:VD} (h:Q x M):rIx_ (.tup (x :: xs)) (.int 0) M Q:=e_ix (rfl:seqD M (.tup (x :: xs))=some (x :: xs)) at_0 h
end DL
namespace DL
open PySem PySem.Spec PyProof.Rows L2
theorem walk_wS {l:PySem.W.OpenLaw} {n k:Nat} {q:Program} {loose:List Str} {XP:(Str->Option Value)->Heap->Prop} {YP:World->Heap->Prop} {d:DefRec} {x:Str} {dsp:DSp}
  (hn:l.most=some n) (hn2:n<=63) (hdf:d.params.defaults=[]) (hr:Room k callerA) (hl:∀ ds Q E,lawSp ds [] Q E->dsp ds [] Q E) (hi:importsNone q=true)
  (F:∀ (w:World) (mg:Str->Option Value) (fa:Addr) (h:Heap),YP w h->h.Ns mainGlobals mg->h.NoSeer->mg d.name=some (.ref fa) ->
   ∃ (K:PySem.W.Frag) (fd:FuncData) (cs:List ((Addr×Addr)×Str)),K.In h/\(∀ p∈cs,h.get? p.1.2=some { cls:=.none,data:=.fields #[] })/\(∀ p∈cs,K.lookup p.1.2=none)/\(∀ p∈cs,PySem.W.CodeHd h p.1.1 p.1.2) /\
    (∀ (s:Shared) (u:Value),BindsTo s fd ⟨[u],[]⟩ [(x,u)])/\∀ base:Heap,K.In base->base.Ns mainGlobals mg->(∀ p∈cs,LamX.TabB base mg p.1.1 p.1.2)->FnD l.prog w K mg base (cs.map fun p=>(p.1.2,p.2)) k fa fd [x] dsp) :
  PySem.W.WalkO q loose XP YP l.row.toRowW d [] (fun f vs=>PySem.call f vs):=by
 refine Att.attach_call hn hdf fun w s₀ s₁ mg mb fa o pm cd doc a vs ns G Y ho hd hcd hmg hobj hints hlen hg=>?_
 obtain ⟨K,fd,cs,KX,hT,nT,C,hb,hF⟩:=F w mg fa _ Y G.T.g (G.T.seer hi) hmg
 have up:∀ {R:Addr×Addr->Prop},(∀ p∈cs,R p.1)->∀ p∈cs.map (·.1),R p:=fun {R} h p hp=>by
  obtain ⟨q,hq,rfl⟩:=List.mem_map.mp hp
  exact h q hq
 have dn:∀ {R:Addr×Addr->Prop},(∀ p∈cs.map (·.1),R p)->∀ p∈cs,R p.1:=fun {R} h p hp=>h p.1 (List.mem_map.mpr ⟨p,hp,rfl⟩)
 exact LamX.law_callTs (cs:=cs.map (·.1)) KX G.T.g G.T.b G.T.builtins G.T.nolimit hg (up (R:=fun p=>s₁.heap.get? p.2=some { cls:=.none,data:=.fields #[] }) hT) (up (R:=fun p=>K.lookup p.2=none) nT) (up (R:=fun p=>PySem.W.CodeHd s₁.heap p.1 p.2) C) G.T.bmain hobj hints (Nat.le_trans hlen (Nat.le_trans hn2 (by decide))) hr
  (fun base h1 h2 h3=>(hF base h1 h2 (dn (R:=fun p=>LamX.TabB base mg p.1 p.2) h3)).ok) hb
  (fun H hH hS=>law_startT hl (Nat.le_trans hlen hn2) hS fun p hp=>by
   obtain ⟨q,hq,rfl⟩:=List.mem_map.mp hp
   exact LamX.TabS.nil (hH q.1 (List.mem_map.mpr ⟨q,hq,rfl⟩))) fun H e s'=>cx_false H s₁ e s'
end DL
namespace DL
open PySem PySem.Spec PyProof.Rows L2 Mt
def rMin2_:RDC:=fun ds M Q=>match ds with
 | [.int i,.int j]=>Q (.int (if j < i then j else i)) M
 | _=>False
def rMax2_:RDC:=fun ds M Q=>match ds with
 | [.int i,.int j]=>Q (.int (if j > i then j else i)) M
 | _=>False
end DL
namespace Gfr
open PySem
open PyProof.Rows (AllBare)
section
variable {P:Nat->Prop} {Y:Nat->GenState} {gp G:Array GenState}
theorem GRl.push (h:GRl P Y gp G) (c:Code):GRl P Y (gp.push (.fresh c)) (G.push (.fresh c)):=by
 refine ⟨by simp [h.sz],fun i hi=>?_,fun i hi=>?_,fun i y hi e=>?_⟩
 ·obtain ⟨e1,e2⟩:=h.pz i hi
  have l1:=(Array.getElem?_eq_some_iff.mp e1).1
  have l2:=(Array.getElem?_eq_some_iff.mp e2).1
  rw [Array.getElem?_push,Array.getElem?_push,if_neg (by omega),if_neg (by omega)]
  exact ⟨e1,e2⟩
 ·rw [Array.getElem?_push,Array.getElem?_push,h.sz,h.eq i hi]
 ·rw [Array.getElem?_push] at e
  split at e
  ·cases e;trivial
  ·exact h.ng i y hi e
end
end Gfr
namespace DL
open PySem PySem.Spec PyProof.Rows L2 Mt
abbrev Out:=Except CErr Crv
def Oq (K:PySem.W.Frag) (o:Out) (M:Mem) (Q:VD) (E:XD):Prop:=match o with
 | .ok c=>Q (crvD K c) M
 | .error e=>E (e.ex K) M
theorem e_aug {i:Nat} {te:TED} {r:RD2} {E:XD} {DD:DEnds} {rho:Rho} {M:Mem} {d:D} (h:rho[i]?=some (some d)) (k:te E rho M fun y M1=>r d y M1 fun z M2=>DD.nx (rho.set i (some z)) M2):dAug i te r E DD rho M:=by
 unfold dAug
 rw [h]
 exact k
theorem Arn.of_s0 {c:Crv} (hn:c.row≠[]) (y:Rat):c.arn y=Crv.arn ⟨c.p,c.r,c.row,c.s,if c.row=[] then c.b else 0⟩ y:=by
 unfold Crv.arn
 rw [if_neg hn,if_neg (show ¬ (Crv.row ⟨c.p,c.r,c.row,c.s,if c.row=[] then c.b else 0⟩=[]) from hn)]
 rfl
structure Arn.szd (a:Arn) (B:Nat):Prop where
 l:qs a.l<=B
 v:qs a.v<=B
 r:qs a.r<=B
 sb:qs a.sb<=B
 sa:qs a.sa<=B
theorem arn_szd {c:Crv} {B:Nat} (hz:c.Sz B) (ok:c.Ok) (hn:c.row≠[]) (y:Rat):(c.arn y).szd (14 * B+3 * qs y+150):=by
 have hb:=plc_bz hz ok hn y
 have hs:=hz.at hn (Nat.le_refl (bz (plc c.at y)))
 have h1:=hs.a;have h2:=hs.l;have h3:=hs.v;have h4:=hs.r
 have hsl:=hz.sl hn (plc c.at y - 1)
 have hsl2:=hz.sl hn (plc c.at y)
 rw [show plc c.at y - 1+1=plc c.at y from by omega] at hsl
 have hp:=qs_pos y
 unfold Crv.arn
 rw [if_neg hn]
 unfold arn arnAt
 split
 ·refine ⟨?_,?_,?_,?_,?_⟩ <;> (simp only [];omega)
 ·have q1:=qs_sub (c.at (plc c.at y)).a y
  have q2:=qs_mul (slB (c.at (plc c.at y - 1)) (c.at (plc c.at y))) ((c.at (plc c.at y)).a - y)
  have q3:=qs_sub (c.at (plc c.at y)).l (slB (c.at (plc c.at y - 1)) (c.at (plc c.at y)) * ((c.at (plc c.at y)).a - y))
  refine ⟨?_,?_,?_,?_,?_⟩ <;> (simp only [];omega)
theorem Crv.Gd.arn {c:Crv} (g:c.Gd) (y:Rat):(c.arn y).szd (3000+3 * qs y):=by
 by_cases hn:c.row=[]
 ·have h1:=g.sl
  have h2:=(Crv.small2 g.sh).2.2 hn
  have h3:=qs_mul c.s y
  have h4:=qs_add c.b (c.s * y)
  have:=qs_pos y
  unfold Crv.arn
  rw [if_pos hn]
  refine ⟨?_,?_,?_,?_,?_⟩ <;> (simp only [];omega)
 ·rw [Arn.of_s0 hn]
  have ok':Crv.Ok ⟨c.p,c.r,c.row,c.s,if c.row=[] then c.b else 0⟩:=⟨g.ok.p0,g.ok.r0,g.ok.s,g.ok.p1,g.ok.ok⟩
  have h:=arn_szd g.sz0 ok' hn y
  exact ⟨by have:=h.l;omega,by have:=h.v;omega,by have:=h.r;omega,by have:=h.sb;omega,by have:=h.sa;omega⟩
theorem Crv.Gd.s0 {c:Crv} (g:c.Gd):0 < c.s:=by
 rw [g.ok.s,Rat.div_def]
 exact Rat.mul_pos g.ok.r0 (Rat.inv_pos.mpr g.ok.p0)
theorem e_neq0 {p:Rat} {M:Mem} {Q:VD} (h:Q (.bl (!decide (p=0))) M):rNe_ (qD p) (.tup [.int 0,.int 1]) M Q:=e_neq (q:=0) h
theorem e_eq0 {p:Rat} {M:Mem} {Q:VD} (h:Q (.bl (decide (p=0))) M):rEq_ (qD p) (.tup [.int 0,.int 1]) M Q:=e_eqq (q:=0) h
theorem e_isrfC {K:PySem.W.Frag} {c:Crv} {P:Prop} (h:P):isRf (crvD K c)=true/\P:=⟨rfl,h⟩
theorem e_isCC {K:PySem.W.Frag} {c:Crv} {M:Mem} {P:Prop} (h:P):isC (He.ga K "Curve") M (crvD K c)/\P:=⟨rfl,h⟩
theorem Oq.cut {K:PySem.W.Frag} {o:Out} {M L:Mem} {Q:VD} {E:XD} (hM:okM M.length M) (h:Oq K o M Q E):Oq K o (M ++ L) (Cut M.length Q) (CutX M.length E):=by
 cases o with
 | ok c=>exact Cut.app hb_crv hM h
 | error e=>exact cutx_app hM (CErr.hb K e _) h
theorem Crv.Gd.plc {c:Crv} (g:c.Gd) (hn:c.row≠[]) (y:Rat):bz (plc c.at y)<=qs y+218:=by
 have ok':Crv.Ok ⟨c.p,c.r,c.row,c.s,if c.row=[] then c.b else 0⟩:=⟨g.ok.p0,g.ok.r0,g.ok.s,g.ok.p1,g.ok.ok⟩
 have:=plc_bz g.sz0 ok' hn y
 exact this
theorem e_min2 {i j:Int} {M:Mem} {Q:VD} (h:Q (.int (min i j)) M):rMin2_ [.int i,.int j] M Q:=by
 show Q (.int (if j < i then j else i)) M
 have:(if j < i then j else i)=min i j:=by rw [Int.min_def];split <;> split <;> omega
 rw [this];exact h
theorem e_max2 {i j:Int} {M:Mem} {Q:VD} (h:Q (.int (max i j)) M):rMax2_ [.int i,.int j] M Q:=by
 show Q (.int (if j > i then j else i)) M
 have:(if j > i then j else i)=max i j:=by rw [Int.max_def];split <;> split <;> omega
 rw [this];exact h
end DL
namespace DL
section
variable {c:Crv}
theorem Crv.Ok.s0 (ok:c.Ok):0 < c.s:=by rw [ok.s];exact (Rat.lt_div_iff ok.p0).mpr (by have:=ok.r0;grind)
end
end DL
namespace DL
open PySem PySem.Spec PyProof.Rows L2 Mt
theorem e_smr {n:Nat} {f:D} {M:Mem} {Q:VD} {E:XD} (hp:pu f=true) (hd:dp f < n) (h:Q (.bl true) M):sm_sp n [f,f] M Q E:=⟨_,_,rfl,hp,hp,hd,by rw [smD_refl hp];exact h⟩
end DL
namespace DL
open PySem PySem.Spec PyProof.Rows L2
def hLst (n:Nat) (t:TGsD):TGD:=fun d E rho M Q=>match d with
 | .lst xs=>xs.length=n/\t xs E rho M Q
 | _=>False
theorem e_htl {n:Nat} {t:TGsD} {xs:List D} {E:XD} {rho:Rho} {M:Mem} {N:Rho->Mem->Prop} (h0:xs.length=n) (h:t xs E rho M N):hLst n t (.lst xs) E rho M N:=⟨h0,h⟩
end DL
namespace L2
open PySem PySem.Spec PyProof.Rows
structure OexL (K:PySem.W.Frag) (C:Addr):Prop where
 new:PySem.W.excInitIn K C leB "LookupError.__new__"=true
 ov:PySem.W.excOver K C leB=true
 hd:PySem.W.hasDictIn K C=true
 sa:PySem.W.findIn K (.ref C) "__setattr__"=some (some (.builtin "object.__setattr__"))
 exC:PySem.W.subIn K (.ref C) (.type "BaseException")=some true
 tyC:PySem.W.typeIn K (.ref C)=some (.type "type")
 kC:PySem.W.keepIn K (.ref C)=true
theorem oexlB_ok {K:PySem.W.Frag} {C:Addr} (h:oexlB K C=true):OexL K C:=by
 unfold oexlB at h
 simp only [Bool.and_eq_true] at h
 obtain ⟨h1,h2,h3,h4,h5,h6,h7⟩:=h
 exact ⟨h1,h2,h3,of_decide_eq_true h4,of_decide_eq_true h5,of_decide_eq_true h6,h7⟩
theorem taker_none {K:PySem.W.Frag} {C:Addr} {f:Str} (h:PySem.W.findIn K (.ref C) f=some none):PySem.W.takerIn K C f=some none:=by
 unfold PySem.W.takerIn
 rw [h];rfl
section
variable {X:Cx} {pins:List (Addr×Obj)} {σ:St} {H:Hp} {s:Shared} {a C dx:Addr} {f:Str} {y:V} {u:Value} {fs:List (Str×V)} {Q:Unit->Shared->Prop} {E:Value->Shared->Prop} {A:Around}
theorem ostL_new (T:OexL X.K C) (I:Inv X pins σ H s) (e:H a=some (exo a C none)) (hno:PySem.W.findIn X.K (.ref C) f=some none) (ry:RelV y u)
  (h:∀ dx s',H dx=none->dx≠a->Inv X pins σ (upd (upd H dx (exd dx [(f,y)])) a (exo a C (some dx))) s'->Q () s'):wpAny (model X.prog X.w) A (setAttr (.ref a) f u) Q E s:=by
 obtain ⟨t1,ho⟩:=exo_at I.hok e
 obtain ⟨cd,hc,hd'⟩:=PySem.W.any_some T.hd
 obtain ⟨hp,g,d,t,os⟩:=s
 have hsz:a≠hp.objs.size:=Nat.ne_of_lt (Heap.lt_size ho)
 refine PySem.W.set_plain I.kIn (ox:={ cls:=.ref C,dict:=none,data:=.fields #[.ref t1,.none,.none,.none,.bool false,.none] }) (od:=none) ⟨ho,rfl,rfl,trivial⟩ T.sa ?_
 refine PySem.W.osa_openX (od:=none) F.store_LookupError I.kIn ⟨ho,rfl,rfl,trivial⟩ T.ov (taker_none hno) fun b=>?_
 refine wpAny_bind (wpAny_pure (wpAny_bind (PySem.W.instanceDict_exc ho (PySem.W.looks_clsIn I.kIn hc) hd' ?_)))
 have hnd:H hp.objs.size=none:=I.hok.fresh (Nat.le_refl _)
 have k1:∀ b o,b≠a->hp.get? b=some o->((hp.push { cls:=.type "dict",data:=.dict #[] }).update a fun o=>{ o with dict:=some hp.objs.size }).get? b=some o:=fun b o hb q =>
  (Heap.get?_update_ne _ _ _ _ hb).trans (Heap.get?_push_of_some _ q)
 have ga:((hp.push { cls:=.type "dict",data:=.dict #[] }).update a fun o=>{ o with dict:=some hp.objs.size }).get? a=some { cls:=.ref C,dict:=some hp.objs.size,data:=.fields #[.ref t1,.none,.none,.none,.bool false,.none] } :=
  Heap.get?_update_self _ (Heap.get?_push_of_some _ ho) rfl
 have gd:((hp.push { cls:=.type "dict",data:=.dict #[] }).update a fun o=>{ o with dict:=some hp.objs.size }).Ns hp.objs.size (fun _=>none) :=
  ⟨_,#[],_,(Heap.get?_update_ne _ _ _ _ hsz.symm).trans (Heap.get?_push_at rfl rfl),rfl,fun e he=>absurd he (by simp),fun _=>rfl⟩
 refine PySem.HandSPX.store_in_new gd fun h' tk' hn hs=>?_
 have k:∀ b o,b≠a->hp.get? b=some o->h'.get? b=some o:=fun b o hb q=>(hs.2 b (Nat.ne_of_lt (Heap.lt_size q))).trans (k1 b o hb q)
 have hx:h'.get? a=some { cls:=.ref C,dict:=some hp.objs.size,data:=.fields #[.ref t1,.none,.none,.none,.bool false,.none] }:=(hs.2 a hsz).trans ga
 have nd:∀ {b:Addr} {o:Obj},hp.get? b=some o->b≠hp.objs.size:=fun {b o} q=>Nat.ne_of_lt (Heap.lt_size q)
 have na:∀ {b:Addr},H b=none->b≠a:=fun {b} n z=>by
  rw [z,e] at n
  cases n
 have U:Un X.fs [] H (upd (upd H hp.objs.size (exd hp.objs.size [(f,y)])) a (exo a C (some hp.objs.size))) hp h':=by
  refine ⟨fun b o q n _ _=>k b o (na n) q,fun b o q n _ _=>⟨o.slots,k b o (na n) q⟩,fun b o q n _=>?_,fun b o q _=>?_,fun b xs q=>?_,fun b o v q=>?_,fun b ps q=>⟨#[],?_⟩⟩
  ·rw [upd_ne (na n),upd_ne (nd q)];exact n
  ·by_cases hb:b=a
   ·exact ⟨_,by rw [hb];exact hx⟩
   ·exact ⟨o,k b o hb q⟩
  ·rw [upd_ne (at_ne e q exo_tup),upd_ne (ne_of_none q hnd)];exact q
  ·rw [upd_ne (at_ne e q exo_frz),upd_ne (ne_of_none q hnd)];exact q
  ·rw [upd_ne (at_ne e q exo_tbl),upd_ne (ne_of_none q hnd),q];simp
 refine h hp.objs.size _ hnd hsz.symm (I.un (t':=tk') U fun b o q=>?_)
 by_cases hb:b=a
 ·subst hb
  rw [upd_same] at q
  cases q
  exact exo_ok hx
 rw [upd_ne hb] at q
 by_cases hd:b=hp.objs.size
 ·subst hd
  rw [upd_same] at q
  cases q
  exact exd_ok hn (relO_put (fs:=[]) ry fun g=>True.intro)
 rw [upd_ne hd] at q
 refine (I.hok b o q).stay (fun c v hc z=>k c v ?_ z) (fun c hc=>?_) (fun c xs hc=>?_)
 ·rcases hc with hc | hc
  ·rw [hc];exact hb
  ·exact at_ne e hc exo_own
 ·rw [upd_ne (at_ne e hc exo_own),upd_ne (ne_of_none hc hnd)];exact hc
 ·rw [upd_ne (at_ne e hc exo_tup),upd_ne (ne_of_none hc hnd)];exact hc
theorem ostL_old (T:OexL X.K C) (I:Inv X pins σ H s) (e:H a=some (exo a C (some dx))) (ed:H dx=some (exd dx fs)) (hl:fs.length<=900) (hno:PySem.W.findIn X.K (.ref C) f=some none) (ry:RelV y u)
  (h:∀ s',Inv X pins σ (upd H dx (exd dx ((f,y) :: fs))) s'->Q () s'):wpAny (model X.prog X.w) A (setAttr (.ref a) f u) Q E s:=by
 obtain ⟨t1,ho⟩:=exo_at I.hok e
 obtain ⟨mA,hns,rel⟩:=exd_at I.hok ed
 obtain ⟨cd,hc,hd'⟩:=PySem.W.any_some T.hd
 have hw:=within_of rel
 obtain ⟨hp,g,d,t,os⟩:=s
 obtain ⟨oD,_,_,hoD,_,_⟩:=hns.count hw
 refine PySem.W.set_plain I.kIn (ox:={ cls:=.ref C,dict:=some dx,data:=.fields #[.ref t1,.none,.none,.none,.bool false,.none] }) (od:=some oD) ⟨ho,rfl,rfl,hoD⟩ T.sa ?_
 refine PySem.W.osa_openX (od:=some oD) F.store_LookupError I.kIn ⟨ho,rfl,rfl,hoD⟩ T.ov (taker_none hno) fun b=>?_
 refine wpAny_bind (wpAny_pure (wpAny_bind (wpAny_bind (wpAny_loadPart ho (wpAny_bind ((PySem.W.looks_clsIn I.kIn hc).at ?_))))))
 rw [hd']
 refine wpAny_pure (a:=some dx) ?_
 refine PySem.OEX.store_in_old hns hw (by rw [List.length_map];omega) fun h' tk' hn hs=>?_
 have hd:∃ o,h'.get? dx=some o:=by
  obtain ⟨o,_,_,e',_⟩:=hn
  exact ⟨o,e'⟩
 exact h _ (I.write (t':=tk') (x:=dx) (e:=dx) (o:=exd dx ((f,y) :: fs)) (by rw [ed];exact True.intro) (.inl rfl) (fun b o hb q=>(hs.2 b hb).trans q) hd (exd_ok hn (relO_put ry rel)))
end
def tOstL (K:PySem.W.Frag) (f:Str) (to te:TE):TS:=fun D σ H=>te σ H fun y H1=>to σ H1 fun x H2=>∃ a C:Addr,x = .ref a/\OexL K C/\PySem.W.findIn K (.ref C) f=some none /\
 ((H2 a=some (exo a C none)/\∀ dx,H2 dx=none->dx≠a->D.nx σ (upd (upd H2 dx (exd dx [(f,y)])) a (exo a C (some dx)))) \/
  ∃ (dx:Addr) (fs:List (Str×V)),H2 a=some (exo a C (some dx))/\H2 dx=some (exd dx fs)/\fs.length<=900/\D.nx σ (upd H2 dx (exd dx ((f,y) :: fs))))
section
variable {X:Cx} {o e:Expr} {es:List Expr} {to te:TE} {ta:TA} {f:Str} {p p' pos:Pos}
theorem ps_ostL (ho:PE X o to) (he:PE X e te) (hs:swapsWith e (some (.Attribute o f p')) pos.line X.env=pure false:=by rfl):PS X (.Assign [.Attribute o f p'] e pos) (tOstL X.K f to te):=by
 refine ⟨fun pins s σ H D I h=>?_⟩
 refine plainObj_wpAny_Assign_Attribute (thn (he.run pins s σ H _ I h) fun v s1 ⟨y,H1,I1,r1,q1⟩=>thn (ho.run pins s1 σ H1 _ I1 q1) fun u s2 ⟨x,H2,I2,r2,a,C,ex,T,hno,q⟩=>?_) hs
 subst ex
 obtain rfl:u=Value.ref a:=r2
 rcases q with ⟨ea,q⟩ | ⟨dx,fs,ea,ed,hl,q⟩
 ·exact ostL_new T I2 ea hno r1 fun dx s' n ne J=>⟨σ,_,J,q dx n ne⟩
 ·exact ostL_old T I2 ea ed hl hno r1 fun s' J=>⟨σ,_,J,q⟩
end
end L2
namespace DL
open PySem PySem.Spec PyProof.Rows L2
section
variable {K:PySem.W.Frag} {C a dx:Addr} {f:Str} {to te:TE} {D:Ends} {σ:L2.St} {H:Hp} {y:V} {fs:List (Str×V)}
theorem initL_first (T:OexL K C) (hf:PySem.W.findIn K (.ref C) f=some none) (h0:H a=some (exo a C none)) (ev:EvT σ te y) (es:EvT σ to (.ref a)) (k:∀ dx,H dx=none->dx≠a->D.nx σ (xH H a C dx [(f,y)])):tOstL K f to te D σ H :=
 ev _ _ (es _ _ ⟨a,C,rfl,T,hf,.inl ⟨h0,k⟩⟩)
theorem initL_next (T:OexL K C) (hf:PySem.W.findIn K (.ref C) f=some none) (hne:dx≠a) (hl:fs.length<=900) (ev:EvT σ te y) (es:EvT σ to (.ref a)) (k:D.nx σ (xH H a C dx ((f,y) :: fs))):tOstL K f to te D σ (xH H a C dx fs) :=
 ev _ _ (es _ _ ⟨a,C,rfl,T,hf,.inr ⟨dx,fs,upd_same,by unfold xH;rw [upd_ne hne,upd_same],hl,by
  have e:upd (xH H a C dx fs) dx (exd dx ((f,y) :: fs))=xH H a C dx ((f,y) :: fs):=by
   funext b
   unfold xH
   by_cases h1:b=dx
   ·subst h1;rw [upd_same,upd_ne hne,upd_same]
   ·rw [upd_ne h1]
    by_cases h2:b=a
    ·subst h2;rw [upd_same,upd_same]
    ·rw [upd_ne h2,upd_ne h1,upd_ne h2,upd_ne h1]
  rw [e];exact k⟩⟩)
end
theorem xclB_ok {K:PySem.W.Frag} {x:Str} {fs:List Str} (h:xclB K x fs=true):OexL K (He.ga K x)/\PySem.W.typeIn K (.ref (He.ma K (He.ga K x) "__init__"))=some (.type "function")/\PySem.W.findIn K (.ref (He.ga K x)) "__init__"=some (some (.ref (He.ma K (He.ga K x) "__init__")))/\∀ f∈fs,PySem.W.findIn K (.ref (He.ga K x)) f=some none:=by
 unfold xclB at h
 simp only [Bool.and_eq_true] at h
 exact ⟨oexlB_ok h.1,of_decide_eq_true h.2.1,of_decide_eq_true h.2.2.1,fun f hf=>of_decide_eq_true (List.all_eq_true.mp h.2.2.2 f hf)⟩
end DL
namespace L2
open PySem PySem.Spec PyProof.Rows
section
variable {X:Cx} {e:Expr} {es:List Expr} {ta:TA} {p pos:Pos}
theorem exv_end {pins:List (Addr×Obj)} {σ:St} {H0 H2:Hp} {s s':Shared} {a C d:Addr} {fs:List (Str×V)} (I2:Inv X pins σ (upd H0 a (exo a C none)) s) (ho:s'.os=s.os)
  (un:Un (frs X.stack) [] (upd H0 a (exo a C none)) H2 s.heap s'.heap) (hok:HOk X.prog X.w H2 s'.heap) (hb:AllBare s'.gens) (ea:H2 a=some (exo a C (some d))) (ed:H2 d=some (exd d fs)) :
  Inv X pins σ (upd (upd H2 d (.xd fs)) a (DL.exs a (.ref C) (some d))) s':=by
 obtain ⟨t0,hoe⟩:=exo_at hok ea
 obtain ⟨mA,hns,rel⟩:=exd_at hok ed
 have nb:∀ {b:Addr},H2 b=none->b≠a/\b≠d:=fun {b} n=>⟨fun z=>(by rw [z,ea] at n;cases n),fun z=>(by rw [z,ed] at n;cases n)⟩
 have nt:∀ {b:Addr} {o:HO},H2 b=some o->(∀ e C x,o≠exo e C x)->(∀ e f,o≠exd e f)->b≠a/\b≠d:=fun {b o} h h1 h2=>⟨fun z=>(by rw [z,ea] at h;exact h1 _ _ _ (Option.some.inj h).symm),fun z=>(by rw [z,ed] at h;exact h2 _ _ (Option.some.inj h).symm)⟩
 have put:∀ {b:Addr},b≠a/\b≠d->upd (upd H2 d (.xd fs)) a (DL.exs a (.ref C) (some d)) b=H2 b:=fun {b} h=>by rw [upd_ne h.1,upd_ne h.2]
 refine I2.call' (ch:=[]) ho ?_ ?_ hb fun b z=>absurd z (by simp)
 ·exact {
   keep:=un.keep
   slot:=un.slot
   free:=fun b o z n hx=>by
    have h:=un.free b o z n hx
    rw [put (nb h)];exact h
   there:=un.there
   tups:=fun b xs z=>by
    have h:=un.tups b xs z
    rw [put (nt h (fun _ _ _ z=>exo_tup z.symm) fun _ _ z=>exd_tup z.symm)];exact h
   frzs:=fun b o u z=>by
    have h:=un.frzs b o u z
    rw [put (nt h (fun _ _ _ z=>exo_frz z.symm) fun _ _ z=>by cases z)];exact h
   tbls:=fun b ps z=>by
    obtain ⟨more,h⟩:=un.tbls b ps z
    exact ⟨more,by rw [put (nt h (fun _ _ _ z=>exo_tbl z.symm) fun _ _ z=>by cases z)];exact h⟩ }
 ·intro b o z
  by_cases hba:b=a
  ·subst hba
   rw [upd_same] at z
   cases z
   exact ⟨⟨_,_,hoe,⟨rfl,rfl⟩,rfl⟩,⟨_,hoe⟩,fun h1 h2 z k=>by
    obtain ⟨oe,vs,h3,h4⟩:=z
    exact ⟨oe,vs,k _ h3,h4⟩⟩
  ·rw [upd_ne hba] at z
   by_cases hbd:b=d
   ·subst hbd
    rw [upd_same] at z
    cases z
    exact ⟨mA,hns,rel⟩
   ·rw [upd_ne hbd] at z
    refine (hok b o z).stay (fun c v hc y=>y) (fun c hc=>?_) (fun c xs hc=>?_)
    ·rw [put (nt hc (fun _ _ _ z=>exo_own z.symm) fun _ _ z=>exd_own z.symm)];exact hc
    ·rw [put (nt hc (fun _ _ _ z=>exo_tup z.symm) fun _ _ z=>exd_tup z.symm)];exact hc
end
end L2
namespace L2
open PySem PySem.Spec PySem.HandSPX Builtin Builtin.ObjectAttr
section
variable {M:Model} {A:Around} {E:Value->Shared->Prop} {h:Heap} {g:Array GenState} {d:Drawn} {t:Nat} {os:OsState} {kw:List (Str×Value)}
variable {nm q:Str} {C N:Addr} {bs bm bmB:List Value} {hdct:Bool} {sn:List Str} {sub:List Value} {ab:Bool} {col:Option Bool} {dd:Option Addr} {k0 k1 k2 k3 k5:Option Value} {B newId initId:String}
theorem check_new_kw (F:ExcBaseFacts B newId initId bmB) (hT:∀ X:String,bm.contains (.type X)=bmB.contains (.type X)) {rest:List Value} {Q:Unit->Shared->Prop}
  (hC:h.get? C=some (excClassObj nm q C N bs bm hdct sn sub ab col dd k0 k1 k2 k3 k5 newId)) (hq:Q () ⟨h,g,d,t,os⟩):wpAny M A (checkBuiltinCall newId ⟨.ref C :: rest,kw⟩) Q E ⟨h,g,d,t,os⟩:=by
 have hcont:(Value.ref C :: bm).contains (.type B)=true:=by rw [List.contains_cons,hT,F.hasB,Bool.or_true]
 have hstar:=F.noStar
 simp only [checkBuiltinCall,F.newKind,F.newSplit,F.newRow]
 repeat (first | refine wpAny_loadPart_at hC ?_ | (refine wpAny_isSubtype_exc hC ?_;rw [hcont]) | refine wpAny_staticBase_exc hC ?_ | refine wpAny_madeBy_exc hC ?_ | simp only [bne_self_eq_false,Bool.false_eq_true,if_false] | wp_step)
 exact hq
end
section
variable {prog:Program} {w:World} {A:Around} {E:Value->Shared->Prop} {R:Result->Shared->Prop} {h:Heap} {g:Array GenState} {d:Drawn} {t:Nat} {os:OsState} {kw:List (Str×Value)}
variable {nm q:Str} {C N:Addr} {bs bm bmB:List Value} {hdct:Bool} {sn:List Str} {sub:List Value} {ab:Bool} {col:Option Bool} {dd:Option Addr} {k0 k1 k2 k3 k5:Option Value} {B newId initId:String}
theorem new_kw (F:ExcBaseFacts B newId initId bmB) (hT:∀ X:String,bm.contains (.type X)=bmB.contains (.type X)) {rest:List Value}
  (hC:h.get? C=some (excClassObj nm q C N bs bm hdct sn sub ab col dd k0 k1 k2 k3 k5 newId))
  (hq:R (.ok (.ret (.ref (h.objs.size+1)))) ⟨(h.push { cls:=.type "tuple",data:=.seq rest.toArray }).push
   {cls:=.ref C,data:=.fields #[.ref h.objs.size,.none,.none,.none,.bool false,.none] },g,d,t,os⟩) (hrest:rest.length<=sizeLine) :
  codeAny (model prog w) A (.builtin newId ⟨.ref C :: rest,kw⟩) R ⟨h,g,d,t,os⟩:=by
 have hends:=F.ends
 have hcB:(Value.ref C :: bm).contains (.type B)=true:=by rw [List.contains_cons,hT,F.hasB,Bool.or_true]
 have hcA:(Value.ref C :: bm).contains (.type "AttributeError")=false:=by rw [List.contains_cons,hT,F.noAttr];rfl
 have hcN:(Value.ref C :: bm).contains (.type "NameError")=false:=by rw [List.contains_cons,hT,F.noName];rfl
 refine codeAny_builtinAt F.entry ?_
 unfold Builtin.«BaseException.__new__»
 refine PySem.wpAt_bind ?_
 show PySem.wpAt _ _ _ (stack >>= _) _ _ _
 refine PySem.wpAt_bind (PySem.wpAt_stack fun p below=>PySem.wpAt_of_wpAny ?_)
 wp_walk
 refine PySem.wpAt_of_wpAny ?_
 rw [F.owner]
 repeat (first | with_reducible refine wpAny_madeHere_exc F.canon hC ?_ | with_reducible refine wpAny_loadPart_at hC ?_ | (with_reducible refine wpAny_isSubtype_exc hC ?_;first | rw [hcB] | rw [hcA] | rw [hcN]) | wp_step)
 show R _ _
 rw [Heap.size_push]
 exact hq
theorem type_call_kw (F:ExcBaseFacts B newId initId bmB) (hT:∀ X:String,bm.contains (.type X)=bmB.contains (.type X)) {rest:List Value} {fI:Addr} {Q:Fin->Shared->Prop}
  (hC:h.get? C=some (excClassObj nm q C N bs bm hdct sn sub ab col dd k0 k1 k2 k3 k5 newId))
  (hi:W.Looks (model prog w) h (typeLookup (.ref C) "__init__") (some (.ref fI))) (hb:∀ self,W.Looks (model prog w) h (bindSpecial (.ref fI) self) (.ref fI,[self])) (hrest:rest.length<=sizeLine)
  (hq:codeAny (model prog w) A (.call (.ref fI) ⟨.ref (h.objs.size+1) :: rest,kw⟩)
   (fun r s'=>match r with | .ok (.ret v)=>v = .none/\Q (.done (.ret (.ref (h.objs.size+1)))) s' | .ok _=>False | .error e=>E e s')
   ⟨(h.push (W.kdv_tup rest)).push (excO C h.objs.size),g,d,t,os⟩) :
  wpAny (model prog w) A (Builtin.«type.__call__» ⟨.ref C :: rest,kw⟩) Q E ⟨h,g,d,t,os⟩:=by
 repeat (first | with_reducible refine wpAny_loadPart_at hC ?_ | with_reducible refine wpAny_madeBy_exc hC ?_ | wp_step)
 refine codeAny_call_builtin_code (Code.quiet_builtin _ F.quiet) (check_new_kw F hT hC ?_)
 refine new_kw F hT hC ?_ hrest
 show wpAny _ _ _ _ _ _
 have k:∀ b o,h.get? b=some o->((h.push (W.kdv_tup rest)).push (excO C h.objs.size)).get? b=some o:=fun b o e=>Heap.get?_push_of_some _ (Heap.get?_push_of_some _ e)
 have hC₁:=k _ _ hC
 have hget:((h.push (W.kdv_tup rest)).push (excO C h.objs.size)).get? (h.objs.size+1)=some (excO C h.objs.size):=by heap_get
 have hcC:(Value.ref C :: bm).contains (.ref C)=true:=by simp
 have i1:=hi.keeps k
 have b1:=(hb (.ref (h.objs.size+1))).keeps k
 unfold isInstance
 repeat (first | with_reducible refine wpAny_loadPart_at hget ?_ | (with_reducible refine wpAny_isSubtype_exc hC₁ ?_;rw [hcC]) | wp_step)
 show wpAny _ _ (typeLookup (.ref C) _) _ _ _
 refine i1.at ?_
 refine wpAny_holding (wpAny_bind (b1.at ?_))
 refine wpAny_bind (wpAny_call (codeAny_mono hq fun r s' z=>?_))
 rcases r with e | (v | _ | _ | _) <;> first | exact z | exact z.elim | skip
 obtain ⟨rfl,z⟩:=z
 first
  | exact wpAny_pure (wpAny_pure z)
  | (wp_walk;exact z)
theorem check_type_call_kw {M:Model} {rest:List Value} {Q:Unit->Shared->Prop} (hC:h.get? C=some (excClassObj nm q C N bs bm hdct sn sub ab col dd k0 k1 k2 k3 k5 newId))
  (hq:Q () ⟨h,g,d,t,os⟩):wpAny M A (checkBuiltinCall "type.__call__" ⟨.ref C :: rest,kw⟩) Q E ⟨h,g,d,t,os⟩:=by
 have f3:=tc_sub
 have hT:(⟨h,g,d,t,os⟩:Shared).TypeIs (.ref C) "type":=⟨_,hC,rfl⟩
 simp only [checkBuiltinCall,tc_kind,tc_split]
 repeat (any_goals (first | assumption | with_reducible refine wpAny_loadPart_at hC ?_ | with_reducible refine wpAny_onRaise ?_ | with_reducible refine wpAny_map ?_ | wp_step))
theorem call_own_kw (F:ExcBaseFacts B newId initId bmB) (hT:∀ X:String,bm.contains (.type X)=bmB.contains (.type X)) {rest:List Value} {fI:Addr}
  (hC:h.get? C=some (excClassObj nm q C N bs bm hdct sn sub ab col dd k0 k1 k2 k3 k5 newId))
  (hi:W.Looks (model prog w) h (typeLookup (.ref C) "__init__") (some (.ref fI))) (hb:∀ self,W.Looks (model prog w) h (bindSpecial (.ref fI) self) (.ref fI,[self])) (hrest:rest.length<=sizeLine)
  (hq:codeAny (model prog w) (A.under (.builtin "type.__call__" ⟨.ref C :: rest,kw⟩)) (.call (.ref fI) ⟨.ref (h.objs.size+1) :: rest,kw⟩) (W.InitBack (h.objs.size+1) R)
   ⟨(h.push (W.kdv_tup rest)).push (excO C h.objs.size),g,d,t,os⟩) :
  codeAny (model prog w) A (.call (.ref C) ⟨rest,kw⟩) R ⟨h,g,d,t,os⟩:=by
 have f1:=tc_lookup
 have f2:=tc_bind (.ref C)
 have hTy:(⟨h,g,d,t,os⟩:Shared).TypeIs (.ref C) "type":=⟨_,hC,rfl⟩
 refine codeAny_of_tree ?_
 show wpAny _ _ (callAny (.ref C) _) _ _ _
 repeat (any_goals (first | assumption | with_reducible refine wpAny_loadPart_at hC ?_ | wp_step))
 refine ⟨rfl,?_⟩
 refine codeAny_call_builtin_at (Code.quiet_builtin _ (by decide +kernel)) entry_typeCall (check_type_call_kw hC (type_call_kw F hT hC hi hb hrest ?_))
 refine codeAny_mono hq fun r s' z=>?_
 rcases r with e | (v | _ | _ | _) <;> exact z
end
end L2
namespace L2
open PySem PySem.Spec PyProof.Rows
section
variable {X:Cx}
theorem run_exv {CX:CXT} {C fI:Addr} {k n:Nat} {fd:FuncData} {ps ks:List Str} {g:List Value->List Value->List Value} {gV:List V->List V->List V} {sp:Sp} {B newId initId:String} {bmB:List Value} (FB:PySem.ExcBaseFacts B newId initId bmB) (T:PySem.W.excInitIn X.K C bmB newId=true)
  (iC:PySem.W.findIn X.K (.ref C) "__init__"=some (some (.ref fI))) (tI:PySem.W.typeIn X.K (.ref fI)=some (.type "function"))
  (F1:FnOk X.prog X.w X.K X.mg X.base CX k fI fd ps sp) (hr:Room (k+1) X.A) (kb:KBn X.K fd ps (n+1) ks g gV) (hx:Passes CX X (fun _ _ _=>False))
  {pins:List (Addr×Obj)} {σ:L2.St} {H1:Hp} {s:Shared} {Q:VK} {us ws:List Value} {vs zs:List V} (I1:Inv X pins σ H1 s) (r1:Vals vs us) (rz:Vals zs ws) (hn:us.length=n) (hw:ws.length=ks.length) (hl:vs.length<=1000)
  (h:∀ a,H1 a=none->sp (gV (.ref a :: vs) zs) (upd H1 a (exo a C none))
   (fun v H2=>v = .non/\∃ (d:Addr) (fs:List (Str×V)),H2 a=some (exo a C (some d))/\H2 d=some (exd d fs)/\H1 d=none/\Q (.ref a) (upd (upd H2 d (.xd fs)) a (DL.exs a (.ref C) (some d)))) (fun _ _ _=>False)) :
  wpAny (model X.prog X.w) X.A (call (.ref C) us (ks.zip ws)) (EP X pins σ Q) X.xe s:=by
 obtain ⟨hp,gg,dr,tk,os⟩:=s
 obtain ⟨nm,N,qn,bs,bm,hdct,sn,sub,ab,col,dd,k0,k1,k2,k3,k5,hC,hT⟩:=PySem.W.excInit_of I1.kIn T
 have hsz:hp.objs.size<=hp.objs.size+1:=Nat.le_succ _
 have hn0:H1 (hp.objs.size+1)=none:=I1.hok.fresh hsz
 have hq:=h (hp.objs.size+1) hn0
 have kk:∀ b o,hp.get? b=some o->((hp.push (PySem.W.kdv_tup us)).push (PySem.HandSPX.excO C hp.objs.size)).get? b=some o:=fun b o e=>Heap.get?_push_of_some _ (Heap.get?_push_of_some _ e)
 have hget:((hp.push (PySem.W.kdv_tup us)).push (PySem.HandSPX.excO C hp.objs.size)).get? (hp.objs.size+1)=some (PySem.HandSPX.excO C hp.objs.size):=by heap_get
 have I2:Inv X pins σ (upd H1 (hp.objs.size+1) (exo (hp.objs.size+1) C none)) ⟨(hp.push (PySem.W.kdv_tup us)).push (PySem.HandSPX.excO C hp.objs.size),gg,dr,tk,os⟩ :=
  I1.laid (t':=tk) (a:=hp.objs.size+1) (o:=exo (hp.objs.size+1) C none) (h':=(hp.push (PySem.W.kdv_tup us)).push (PySem.HandSPX.excO C hp.objs.size)) kk hsz (exo_ok hget)
 have r2:Vals (gV (V.ref (hp.objs.size+1) :: vs) zs) (g (Value.ref (hp.objs.size+1) :: us) ws):=kb.rel (.cons rfl r1) rz
 have hus:us.length<=sizeLine:=by
  rw [<- Paired.length r1,sizeLine_eq]
  omega
 refine wpAny_call (call_own_kw FB hT hC (PySem.W.looks_findIn I1.kIn iC) (fun self=>PySem.W.bind_fn I1.kIn self tI) hus
  (codeAny_mono (F1.run _ X.stack _ _ ⟨Value.ref (hp.objs.size+1) :: us,ks.zip ws⟩ (g (Value.ref (hp.objs.size+1) :: us) ws) _ _ (fun _ _ _=>False) (hr.make C us (ks.zip ws)) (I2.env0.make C us (ks.zip ws)) (kb.to _ (Value.ref (hp.objs.size+1) :: us) ws I2.kIn (by rw [List.length_cons,hn]) hw) r2 hq) fun r s' hq'=>?_))
 cases r with
 | error er=>exact hx pins σ _ _ er s' I2 hq'
 | ok fl =>
  cases fl with
  | ret u =>
   obtain ⟨v,H2,os2,bare2,un2,hok2,rv,ev,d,fs,ea,ed,hd1,q2⟩:=hq'
   subst ev
   exact ⟨rv,.ref (hp.objs.size+1),_,exv_end I2 os2 un2 hok2 bare2 ea ed,rfl,q2⟩
  | next=>exact False.elim hq'
  | brk=>exact False.elim hq'
  | cont=>exact False.elim hq'
end
end L2
namespace DL
open PySem PySem.Spec PyProof.Rows L2
structure VCal (P:Program) (w:World) (K:PySem.W.Frag) (mg:Str->Option Value) (base:Heap) (x:Str) (fl:FL) (n k:Nat) (psI:List Str) (FP:Addr->FuncData->Prop) where
 B:String
 newId:String
 initId:String
 bmB:List Value
 FB:PySem.ExcBaseFacts B newId initId bmB
 new:PySem.W.excInitIn K (He.ga K x) bmB newId=true
 kp:PySem.W.keepIn K (.ref (He.ga K x))=true
 fI:Addr
 fdI:FuncData
 iC:PySem.W.findIn K (.ref (He.ga K x)) "__init__"=some (some (.ref fI))
 tI:PySem.W.typeIn K (.ref fI)=some (.type "function")
 fn:FnOk P w K mg base (L2.CX P w) k fI fdI psI (spX (He.ga K x) fl n)
 mgx:mg x=some (.ref (He.ga K x))
 F:FP fI fdI
def clX (C:Addr) (x:D) (P:Prop):Prop:=x = .ref C/\P
abbrev dExv (C:Addr) (fl:FL) (n m j:Nat) (is:List Nat) (tf:TED) (t:TAKD):TED:=fun E rho M Q=>tf E rho M fun y M0=>clX C y (t E rho M0 fun ds es M1=>ds.length=n/\es.length=m/\n<=1000/\j<=1000/\(pick is (ds ++ es)).length=j/\Q (Exn.d ⟨C,fl.d (pick is (ds ++ es))⟩) M1)
section
variable {X:Cx} {Tb:List (Addr×Str)} {EV:XK} {k n j:Nat} {fl:FL} {ps ks:List Str} {x:Str} {p pos:Pos} {args:List Expr} {kws:List Keyword} {tf:TED} {t:TAKD} {is:List Nat}
theorem pick_self {α:Type} (a:α) (xs:List α):∀ is:List Nat,pick (is.map (·+1)) (a :: xs)=pick is xs
 | []=>rfl
 | i :: is=>by
  rw [List.map_cons,pick_cons,pick_cons,pick_self a xs is,List.getElem?_cons_succ]
theorem dv_exv {K:PySem.W.Frag} {FP:Addr->FuncData->Prop} (c:VCal X.prog X.w K X.mg X.base x fl j k ps FP) (hf:PD X Tb EV (.Name x p) tf) (hr:Room (k+1) X.A) (hb:KBp X.K c.fdI ps (n+1) ks (0 :: is.map (·+1)) []) (hx:Passes (L2.CX X.prog X.w) X (fun _ _ _=>False)) (ha:PAKD X Tb EV pos args kws ks t) (hK:X.K=K:=by rfl) :
  PD X Tb EV (.Call (.Name x p) args kws pos) (dExv (He.ga K x) fl n ks.length j is tf t):=by
 subst hK
 obtain ⟨tv,pa,av⟩:=ha.ex
 obtain ⟨gg,kb⟩:=hb.kbn
 refine ⟨fun pins s σ H QV I h=>?_⟩
 obtain ⟨al,rho,M,E,Q,a,t0,p⟩:=h
 refine wpAny_Call_Name_kw (thn (hf.run pins s σ H (fun v H1=>v = .ref (He.ga X.K x)/\tv σ H1 fun vs zs H2=>∀ us ws s2,Inv X pins σ H2 s2->Vals vs us->Vals zs ws->X.K.In s2.heap/\wpAny (model X.prog X.w) X.A (call (.ref (He.ga X.K x)) ([] ++ us) (ks.zip ws)) (EP X pins σ QV) X.xe s2) I
  (seq1 a t0 fun al1 y M1 vy H1 s1 a1 r1 q1=>?_)) fun u s1 ⟨v,H1,I1,rv,ev,q⟩=>?_)
 ·obtain ⟨rfl,q1⟩:=q1
  cases (show vy = .ref (He.ga X.K x) from r1)
  refine ⟨rfl,av _ _ _ _ _ _ _ _ a1 q1 fun al2 ds es M2 vs zs H2 s2 w2 rd re q2 us ws s3 I3 rv rz=>⟨I3.kIn,?_⟩⟩
  obtain ⟨hd,he,hn,hj,hlen,q2⟩:=q2
  have rw':Rps X.K al2 M2 H2 (pick is (ds ++ es)) (pick is (vs ++ zs)):=pick_rps (rd.append re) is
  generalize pick is (ds ++ es)=wsd at *
  refine run_exv c.FB c.new c.iC c.tI c.fn hr kb hx I3 rv rz (by show us.length=n;rw [<- Paired.length rv,<- rd.length,hd]) (by rw [<- Paired.length rz,<- re.length,he]) (by rw [<- rd.length,hd];exact hn) fun b hb=>?_
  have e0:pick (0 :: is.map (·+1)) (V.ref b :: vs ++ [] ++ zs)=V.ref b :: pick is (vs ++ zs):=by
   rw [pick_cons,List.append_nil,List.cons_append]
   show V.ref b :: pick (is.map (·+1)) (V.ref b :: (vs ++ zs))=_
   rw [pick_self]
  show spX (He.ga X.K x) fl j (pick (0 :: is.map (·+1)) (V.ref b :: vs ++ [] ++ zs)) _ _ _
  rw [e0]
  generalize pick is (vs ++ zs)=wsv at *
  refine ⟨b,wsv,rfl,by rw [<- rw'.length];exact hlen,upd_same,fun dx hdx hne=>⟨rfl,dx,fl.v wsv,upd_same,by unfold xH;rw [upd_ne hne,upd_same],?_,?_⟩⟩
  ·rw [upd_ne hne] at hdx;exact hdx
  ·have hd1:H2 dx=none:=by rw [upd_ne hne] at hdx;exact hdx
   have e:upd (upd (xH (upd H2 b (exo b (He.ga X.K x) none)) b (He.ga X.K x) dx (fl.v wsv)) dx (.xd (fl.v wsv))) b (exs b (.ref (He.ga X.K x)) (some dx))=upd (upd H2 dx (.xd (fl.v wsv))) b (exs b (.ref (He.ga X.K x)) (some dx)):=by
    funext c
    by_cases h2:c=b
    ·subst h2;rw [upd_same,upd_same]
    ·rw [upd_ne h2,upd_ne h2]
     by_cases h1:c=dx
     ·subst h1;rw [upd_same,upd_same]
     ·rw [upd_ne h1,upd_ne h1]
      unfold xH
      rw [upd_ne h2,upd_ne h1,upd_ne h2]
   rw [e]
   have wA:Wf X.K Tb al2 (upd H2 dx (.xd (fl.v wsv))) M2:=wf_new w2 hd1 _
   have sA:=stp_new (K:=X.K) (Tb:=Tb) w2 hd1 (.xd (fl.v wsv))
   have hb':upd H2 dx (.xd (fl.v wsv)) b=none:=by rw [upd_ne (Ne.symm hne)];exact hb
   have rx:RpX X.K al2 M2 (upd H2 dx (.xd (fl.v wsv))) ⟨He.ga X.K x,fl.d wsd⟩ (.ref (He.ga X.K x)) (some dx):=⟨rfl,dx,fl.v wsv,rfl,upd_same,(fl_rpk rw' fl).mono sA⟩
   have rr:=rp_exn wA rx hb'
   exact p al2 _ M2 (.ref b) _ ((s1.trans s2).trans (sA.trans (stp_new wA hb' _))) (wf_new wA hb' _) rr q2
 ·subst ev
  obtain rfl:u=Value.ref (He.ga X.K x):=rv
  exact pak_call (P:=X.K.In) pa I1 (PySem.W.keeps_K c.kp) q
end
structure XiC (K:PySem.W.Frag) (C:Addr):Prop where
 x:XfC K C
 cl:(PySem.W.clsIn K C).isSome=true
 ha:PySem.W.findIn K (.ref C) "__class__"=some (some (.builtin "object.__class__"))
 hn:PySem.W.specialIn K (.builtin "object.__class__") "__get__"=some (some (.builtin "getset_descriptor.__get__"))
 tk:PySem.W.takesIn K (.builtin "object.__class__")=some true
 hm:PySem.W.mroIn K C (.type "object")=some true
theorem xiB_ok {K:PySem.W.Frag} {C:Addr} (h:xiB K C=true):XiC K C:=by
 unfold xiB at h
 simp only [Bool.and_eq_true,decide_eq_true_eq] at h
 obtain ⟨h1,h2,h3,h4,h5,h6⟩:=h
 exact ⟨xfB_ok h1,h2,h3,h4,h5,h6⟩
def clsVal:D->Option Value
 | .ref C=>some (.ref C)
 | .ty n=>some (.type n)
 | _=>none
def rIsiE (K:PySem.W.Frag):List V->Hp->VK->Prop:=fun xs H Q=>∃ (a C d:Addr) (fs:List (Str×V)) (c:V) (u:Value) (b:Bool),xs=[.ref a,c]/\ClsV c u/\H a=some (exs a (.ref C) (some d))/\H d=some (.xd fs)/\XiC K C/\PySem.W.kitOne K (.ref C) u=some b/\Q (.bl b) H
theorem call_isiE {X:Cx}:CallR X (.builtin "isinstance") (rIsiE X.K):=by
 intro pins s σ H xs us Q I r h
 obtain ⟨a,C,d,fs,c,u,b,rfl,k,ea,ed,T,e,q⟩:=h
 obtain ⟨u1,u2,rfl,r1,r2⟩:=vals2 r
 have e2:=k.eq r2
 subst e2
 obtain rfl:u1=Value.ref a:=r1
 obtain ⟨oe,vs,ha,hz,hd⟩:=exs_at I.hok ea
 have hx:ObjOk X.prog X.w H s.heap d (.xd fs):=I.hok d _ ed
 obtain ⟨mA,hns,hr⟩:=hx
 obtain ⟨od,es,ep,ho,hl⟩:=hns
 have J:PySem.W.InstAt s.heap a oe C (some od):=⟨ha,hz.1,by unfold PySem.W.notCls;rw [hd] <;> rfl,by rw [hz.2];exact ho⟩
 exact PySem.W.kia_one (PySem.W.kitx_exc T.cl T.x.ga T.x.gg T.x.exC T.ha T.hn T.tk T.hm) I.kIn J e (fun z=>nomatch z) fun tk=>⟨.bl b,H,I.tok tk,rfl,q⟩
def rIsX (K:PySem.W.Frag):RDC:=fun ds M Q=>match ds with
 | [.exc C _ _,c]=>∃ u b,clsVal c=some u/\XiC K C/\PySem.W.kitOne K (.ref C) u=some b/\Q (.bl b) M
 | _=>False
theorem clsVal_ok {K:PySem.W.Frag} {al:Al} {M:Mem} {H:Hp} {c:D} {u:Value} {v:V} (h:clsVal c=some u) (r:Rp K al M H c v):ClsV v u:=by
 cases c <;> first | (cases h;done) | skip
 ·cases h;cases (show v=_ from r);exact .ty _
 ·cases h;cases (show v=_ from r);exact .own _
theorem ref_isX (K:PySem.W.Frag) {Tb:List (Addr×Str)}:RefC K Tb (rIsiE K) (rIsX K):=by
 intro al M H xs ds Q QV w r h p
 unfold rIsX at h
 split at h
 ·rename_i C ns ys c
  obtain ⟨u,b,hc,T,e,h⟩:=h
  obtain ⟨v,ws,rfl,rv,ry⟩:=r
  obtain ⟨v2,rfl,r2⟩:=ry.one
  obtain ⟨a,dx,zs,rfl,h1,_,h2,_⟩:=rv
  exact ⟨a,C,dx,_,v2,u,b,rfl,clsVal_ok hc r2,h1,h2,T,e,p _ (.bl b) _ _ _ (Stp.refl ..) w rfl h⟩
 ·exact h.elim
theorem boot_ValueError:bootBuiltins "ValueError"=some (.type "ValueError"):=by decide +kernel
theorem boot_IndexError:bootBuiltins "IndexError"=some (.type "IndexError"):=by decide +kernel
theorem boot_LookupError:bootBuiltins "LookupError"=some (.type "LookupError"):=by decide +kernel
end DL
namespace L2
open PySem PySem.Spec PyProof.Rows
structure OexI (K:PySem.W.Frag) (C:Addr):Prop where
 new:PySem.W.excInitIn K C ieB "IndexError.__new__"=true
 ov:PySem.W.excOver K C ieB=true
 hd:PySem.W.hasDictIn K C=true
 sa:PySem.W.findIn K (.ref C) "__setattr__"=some (some (.builtin "object.__setattr__"))
 exC:PySem.W.subIn K (.ref C) (.type "BaseException")=some true
 tyC:PySem.W.typeIn K (.ref C)=some (.type "type")
 kC:PySem.W.keepIn K (.ref C)=true
theorem oexiB_ok {K:PySem.W.Frag} {C:Addr} (h:oexiB K C=true):OexI K C:=by
 unfold oexiB at h
 simp only [Bool.and_eq_true] at h
 obtain ⟨h1,h2,h3,h4,h5,h6,h7⟩:=h
 exact ⟨h1,h2,h3,of_decide_eq_true h4,of_decide_eq_true h5,of_decide_eq_true h6,h7⟩
section
variable {X:Cx} {pins:List (Addr×Obj)} {σ:St} {H:Hp} {s:Shared} {a C dx:Addr} {f:Str} {y:V} {u:Value} {fs:List (Str×V)} {Q:Unit->Shared->Prop} {E:Value->Shared->Prop} {A:Around}
theorem ostI_new (T:OexI X.K C) (I:Inv X pins σ H s) (e:H a=some (exo a C none)) (hno:PySem.W.findIn X.K (.ref C) f=some none) (ry:RelV y u)
  (h:∀ dx s',H dx=none->dx≠a->Inv X pins σ (upd (upd H dx (exd dx [(f,y)])) a (exo a C (some dx))) s'->Q () s'):wpAny (model X.prog X.w) A (setAttr (.ref a) f u) Q E s:=by
 obtain ⟨t1,ho⟩:=exo_at I.hok e
 obtain ⟨cd,hc,hd'⟩:=PySem.W.any_some T.hd
 obtain ⟨hp,g,d,t,os⟩:=s
 have hsz:a≠hp.objs.size:=Nat.ne_of_lt (Heap.lt_size ho)
 refine PySem.W.set_plain I.kIn (ox:={ cls:=.ref C,dict:=none,data:=.fields #[.ref t1,.none,.none,.none,.bool false,.none] }) (od:=none) ⟨ho,rfl,rfl,trivial⟩ T.sa ?_
 refine PySem.W.osa_openX (od:=none) F.store_IndexError I.kIn ⟨ho,rfl,rfl,trivial⟩ T.ov (taker_none hno) fun b=>?_
 refine wpAny_bind (wpAny_pure (wpAny_bind (PySem.W.instanceDict_exc ho (PySem.W.looks_clsIn I.kIn hc) hd' ?_)))
 have hnd:H hp.objs.size=none:=I.hok.fresh (Nat.le_refl _)
 have k1:∀ b o,b≠a->hp.get? b=some o->((hp.push { cls:=.type "dict",data:=.dict #[] }).update a fun o=>{ o with dict:=some hp.objs.size }).get? b=some o:=fun b o hb q =>
  (Heap.get?_update_ne _ _ _ _ hb).trans (Heap.get?_push_of_some _ q)
 have ga:((hp.push { cls:=.type "dict",data:=.dict #[] }).update a fun o=>{ o with dict:=some hp.objs.size }).get? a=some { cls:=.ref C,dict:=some hp.objs.size,data:=.fields #[.ref t1,.none,.none,.none,.bool false,.none] } :=
  Heap.get?_update_self _ (Heap.get?_push_of_some _ ho) rfl
 have gd:((hp.push { cls:=.type "dict",data:=.dict #[] }).update a fun o=>{ o with dict:=some hp.objs.size }).Ns hp.objs.size (fun _=>none) :=
  ⟨_,#[],_,(Heap.get?_update_ne _ _ _ _ hsz.symm).trans (Heap.get?_push_at rfl rfl),rfl,fun e he=>absurd he (by simp),fun _=>rfl⟩
 refine PySem.HandSPX.store_in_new gd fun h' tk' hn hs=>?_
 have k:∀ b o,b≠a->hp.get? b=some o->h'.get? b=some o:=fun b o hb q=>(hs.2 b (Nat.ne_of_lt (Heap.lt_size q))).trans (k1 b o hb q)
 have hx:h'.get? a=some { cls:=.ref C,dict:=some hp.objs.size,data:=.fields #[.ref t1,.none,.none,.none,.bool false,.none] }:=(hs.2 a hsz).trans ga
 have nd:∀ {b:Addr} {o:Obj},hp.get? b=some o->b≠hp.objs.size:=fun {b o} q=>Nat.ne_of_lt (Heap.lt_size q)
 have na:∀ {b:Addr},H b=none->b≠a:=fun {b} n z=>by
  rw [z,e] at n
  cases n
 have U:Un X.fs [] H (upd (upd H hp.objs.size (exd hp.objs.size [(f,y)])) a (exo a C (some hp.objs.size))) hp h':=by
  refine ⟨fun b o q n _ _=>k b o (na n) q,fun b o q n _ _=>⟨o.slots,k b o (na n) q⟩,fun b o q n _=>?_,fun b o q _=>?_,fun b xs q=>?_,fun b o v q=>?_,fun b ps q=>⟨#[],?_⟩⟩
  ·rw [upd_ne (na n),upd_ne (nd q)];exact n
  ·by_cases hb:b=a
   ·exact ⟨_,by rw [hb];exact hx⟩
   ·exact ⟨o,k b o hb q⟩
  ·rw [upd_ne (at_ne e q exo_tup),upd_ne (ne_of_none q hnd)];exact q
  ·rw [upd_ne (at_ne e q exo_frz),upd_ne (ne_of_none q hnd)];exact q
  ·rw [upd_ne (at_ne e q exo_tbl),upd_ne (ne_of_none q hnd),q];simp
 refine h hp.objs.size _ hnd hsz.symm (I.un (t':=tk') U fun b o q=>?_)
 by_cases hb:b=a
 ·subst hb
  rw [upd_same] at q
  cases q
  exact exo_ok hx
 rw [upd_ne hb] at q
 by_cases hd:b=hp.objs.size
 ·subst hd
  rw [upd_same] at q
  cases q
  exact exd_ok hn (relO_put (fs:=[]) ry fun g=>True.intro)
 rw [upd_ne hd] at q
 refine (I.hok b o q).stay (fun c v hc z=>k c v ?_ z) (fun c hc=>?_) (fun c xs hc=>?_)
 ·rcases hc with hc | hc
  ·rw [hc];exact hb
  ·exact at_ne e hc exo_own
 ·rw [upd_ne (at_ne e hc exo_own),upd_ne (ne_of_none hc hnd)];exact hc
 ·rw [upd_ne (at_ne e hc exo_tup),upd_ne (ne_of_none hc hnd)];exact hc
theorem ostI_old (T:OexI X.K C) (I:Inv X pins σ H s) (e:H a=some (exo a C (some dx))) (ed:H dx=some (exd dx fs)) (hl:fs.length<=900) (hno:PySem.W.findIn X.K (.ref C) f=some none) (ry:RelV y u)
  (h:∀ s',Inv X pins σ (upd H dx (exd dx ((f,y) :: fs))) s'->Q () s'):wpAny (model X.prog X.w) A (setAttr (.ref a) f u) Q E s:=by
 obtain ⟨t1,ho⟩:=exo_at I.hok e
 obtain ⟨mA,hns,rel⟩:=exd_at I.hok ed
 obtain ⟨cd,hc,hd'⟩:=PySem.W.any_some T.hd
 have hw:=within_of rel
 obtain ⟨hp,g,d,t,os⟩:=s
 obtain ⟨oD,_,_,hoD,_,_⟩:=hns.count hw
 refine PySem.W.set_plain I.kIn (ox:={ cls:=.ref C,dict:=some dx,data:=.fields #[.ref t1,.none,.none,.none,.bool false,.none] }) (od:=some oD) ⟨ho,rfl,rfl,hoD⟩ T.sa ?_
 refine PySem.W.osa_openX (od:=some oD) F.store_IndexError I.kIn ⟨ho,rfl,rfl,hoD⟩ T.ov (taker_none hno) fun b=>?_
 refine wpAny_bind (wpAny_pure (wpAny_bind (wpAny_bind (wpAny_loadPart ho (wpAny_bind ((PySem.W.looks_clsIn I.kIn hc).at ?_))))))
 rw [hd']
 refine wpAny_pure (a:=some dx) ?_
 refine PySem.OEX.store_in_old hns hw (by rw [List.length_map];omega) fun h' tk' hn hs=>?_
 have hd:∃ o,h'.get? dx=some o:=by
  obtain ⟨o,_,_,e',_⟩:=hn
  exact ⟨o,e'⟩
 exact h _ (I.write (t':=tk') (x:=dx) (e:=dx) (o:=exd dx ((f,y) :: fs)) (by rw [ed];exact True.intro) (.inl rfl) (fun b o hb q=>(hs.2 b hb).trans q) hd (exd_ok hn (relO_put ry rel)))
end
def tOstI (K:PySem.W.Frag) (f:Str) (to te:TE):TS:=fun D σ H=>te σ H fun y H1=>to σ H1 fun x H2=>∃ a C:Addr,x = .ref a/\OexI K C/\PySem.W.findIn K (.ref C) f=some none /\
 ((H2 a=some (exo a C none)/\∀ dx,H2 dx=none->dx≠a->D.nx σ (upd (upd H2 dx (exd dx [(f,y)])) a (exo a C (some dx)))) \/
  ∃ (dx:Addr) (fs:List (Str×V)),H2 a=some (exo a C (some dx))/\H2 dx=some (exd dx fs)/\fs.length<=900/\D.nx σ (upd H2 dx (exd dx ((f,y) :: fs))))
section
variable {X:Cx} {o e:Expr} {es:List Expr} {to te:TE} {ta:TA} {f:Str} {p p' pos:Pos}
theorem ps_ostI (ho:PE X o to) (he:PE X e te) (hs:swapsWith e (some (.Attribute o f p')) pos.line X.env=pure false:=by rfl):PS X (.Assign [.Attribute o f p'] e pos) (tOstI X.K f to te):=by
 refine ⟨fun pins s σ H D I h=>?_⟩
 refine plainObj_wpAny_Assign_Attribute (thn (he.run pins s σ H _ I h) fun v s1 ⟨y,H1,I1,r1,q1⟩=>thn (ho.run pins s1 σ H1 _ I1 q1) fun u s2 ⟨x,H2,I2,r2,a,C,ex,T,hno,q⟩=>?_) hs
 subst ex
 obtain rfl:u=Value.ref a:=r2
 rcases q with ⟨ea,q⟩ | ⟨dx,fs,ea,ed,hl,q⟩
 ·exact ostI_new T I2 ea hno r1 fun dx s' n ne J=>⟨σ,_,J,q dx n ne⟩
 ·exact ostI_old T I2 ea ed hl hno r1 fun s' J=>⟨σ,_,J,q⟩
end
end L2
namespace DL
open PySem PySem.Spec PyProof.Rows L2
section
variable {K:PySem.W.Frag} {C a dx:Addr} {f:Str} {to te:TE} {D:Ends} {σ:L2.St} {H:Hp} {y:V} {fs:List (Str×V)}
theorem initI_first (T:OexI K C) (hf:PySem.W.findIn K (.ref C) f=some none) (h0:H a=some (exo a C none)) (ev:EvT σ te y) (es:EvT σ to (.ref a)) (k:∀ dx,H dx=none->dx≠a->D.nx σ (xH H a C dx [(f,y)])):tOstI K f to te D σ H :=
 ev _ _ (es _ _ ⟨a,C,rfl,T,hf,.inl ⟨h0,k⟩⟩)
end
theorem xciB_ok {K:PySem.W.Frag} {x:Str} {fs:List Str} (h:xciB K x fs=true):OexI K (He.ga K x)/\PySem.W.typeIn K (.ref (He.ma K (He.ga K x) "__init__"))=some (.type "function")/\PySem.W.findIn K (.ref (He.ga K x)) "__init__"=some (some (.ref (He.ma K (He.ga K x) "__init__")))/\∀ f∈fs,PySem.W.findIn K (.ref (He.ga K x)) f=some none:=by
 unfold xciB at h
 simp only [Bool.and_eq_true] at h
 exact ⟨oexiB_ok h.1,of_decide_eq_true h.2.1,of_decide_eq_true h.2.2.1,fun f hf=>of_decide_eq_true (List.all_eq_true.mp h.2.2.2 f hf)⟩
structure ExI (K:PySem.W.Frag) (C:Addr) (i:Nat):Prop where
 xi:XiC K C
 row:exNames.map (kitN K C)=(List.range 23).map fun k=>some (decide (k=i))
 kin:kinL K C=[some (decide (i < 20)),some (decide (i < 20)),some (decide (i=20\/i=21)),some (decide (i=22)),some (decide (19 < i))]
theorem exiB_ok {K:PySem.W.Frag} {x:Str} {i:Nat} (h:exiB K x i=true):ExI K (He.ga K x) i:=by
 unfold exiB at h
 simp only [Bool.and_eq_true,decide_eq_true_eq] at h
 exact ⟨xiB_ok h.1,h.2.1,h.2.2⟩
theorem ExI.nth {K:PySem.W.Frag} {C:Addr} {i:Nat} (h:ExI K C i) (k:Nat) (hk:k < 23):kitN K C (exNames[k]'hk)=some (decide (k=i)):=by
 have h1:=congrArg (fun l=>l[k]?) h.row
 simp only [List.getElem?_map] at h1
 rw [List.getElem?_eq_getElem (show k < exNames.length from hk),List.getElem?_range hk] at h1
 exact Option.some.inj h1
def rXv (K:PySem.W.Frag) (f:Str) (x:D) (M:Mem) (Q:VD):Prop:=∃ (C:Addr) (ns:List Str) (xs:List D) (d:D),x = .exc C ns xs/\XfC K C/\PySem.W.findIn K (.ref C) f=some none/\(ns.zip xs).lookup f=some d/\Q d M
abbrev dXv (K:PySem.W.Frag) (f:Str) (t:TED):TED:=fun E rho M Q=>t E rho M fun x M1=>rXv K f x M1 Q
theorem dv_xv {X:Cx} (K:PySem.W.Frag) {Tb:List (Addr×Str)} {EV:XK} {e:Expr} {te:TED} {pos:Pos} {f:Str} (he:PD X Tb EV e te) (hK:X.K=K:=by rfl) (hb:attributeBase e f X.env (eval e X.env)=eval e X.env:=by rfl):PD X Tb EV (.Attribute e f pos) (dXv K f te):=pe_imp (pe_xs he hb) fun σ H QV h=>by
 subst hK
 obtain ⟨al,rho,M,E,Q,a,t,p⟩:=h
 refine seq1 a t fun al1 x M1 vx H1 s1 a1 r1 q1=>?_
 obtain ⟨C,ns,xs,d,rfl,T,hn,e,q⟩:=q1
 obtain ⟨b,dx,vs,rfl,h1,f1,h2,f2,hl,r⟩:=r1
 obtain ⟨v,ev,rv⟩:=rps_lookup r e
 exact ⟨b,C,dx,ns.zip vs,v,rfl,h1,T,hn,h2,ev,p _ _ _ _ _ s1 a1.wf rv q⟩
theorem e_xv {K:PySem.W.Frag} {C:Addr} {fs:List (Str×D)} {f:Str} {d:D} {M:Mem} {Q:VD} (T:XfC K C) (hn:PySem.W.findIn K (.ref C) f=some none) (hl:fs.lookup f=some d) (h:Q d M):rXv K f (Exn.d ⟨C,fs⟩) M Q :=
 ⟨C,_,_,d,rfl,T,hn,by rw [zip_unzip];exact hl,h⟩
theorem lk_0 {f:Str} {d:D} {r:List (Str×D)}:((f,d) :: r).lookup f=some d:=by simp [List.lookup]
theorem lk_1 {f g:Str} {d e:D} {r:List (Str×D)} (h:(g == f)=false):((f,d) :: (g,e) :: r).lookup g=some e:=by simp [List.lookup,h]
theorem lk_2 {f g h:Str} {d e c:D} {r:List (Str×D)} (h1:(h == f)=false) (h2:(h == g)=false):((f,d) :: (g,e) :: (h,c) :: r).lookup h=some c:=by simp [List.lookup,h1,h2]
end DL
namespace LW
open PySem PySem.Spec PyProof.Rows L2 DL Mt
section
variable {P:Program} {w:World} {K:PySem.W.Frag} {mg:Str->Option Value} {base:Heap} {Tb:List (Addr×Str)}
theorem sc_InvalidStretchu_initu:FnScope ["self"] ["self"] (defScope s_InvalidStretchu_initu):=⟨rfl,rfl,rfl,by decide +kernel,rfl,by decide +kernel,by decide +kernel⟩
abbrev F_InvalidStretchu_initu (K:PySem.W.Frag) (f:Addr) (fd:FuncData):Prop:=FunD K "__init__" "InvalidStretch.__init__" (defArgs s_InvalidStretchu_initu) (defBody s_InvalidStretchu_initu) (defScope s_InvalidStretchu_initu) [] [] f fd
abbrev VC_InvalidStretch (P:Program) (w:World) (K:PySem.W.Frag) (mg:Str->Option Value) (base:Heap):=VCal P w K mg base "InvalidStretch" [("code",.k "InvalidStretch")] 0 1 ["self"] (fun f fd=>F_InvalidStretchu_initu K f fd)
theorem kb_InvalidStretchu_initu_1_ {f:Addr} {fd:FuncData} (F:F_InvalidStretchu_initu K f fd):KBp K fd ["self"] 1 [] [0] []:=kbp_plain F 1 [] [0] fun _ _ _ _ _ _ us ws h1 h2=>match us,ws,h1,h2 with | [_],[],_,_=>rfl
theorem ok_InvalidStretchu_initu {C fI:Addr} {fdI:FuncData} (F:F_InvalidStretchu_initu K fI fdI) (T:OexC K C) (h_code:PySem.W.findIn K (.ref C) "code"=some none):FnOk P w K mg base (L2.CX P w) 1 fI fdI ["self"] (spX C [("code",.k "InvalidStretch")] 0):=by
 refine F.ok sc_InvalidStretchu_initu (fun vs H Q E h=>?_) (fun cdv A outer s H vs Q E hr h=>⟨_,(pss_one (ps_ost (pv 0) pe_str)),?_⟩)
 ·obtain ⟨a,ws,rfl,hl,_⟩:=h
  show ws.length+1=_
  rw [hl];rfl
 ·obtain ⟨a,ws,rfl,hl,h0,hQ⟩:=h
  match ws,hl with
  | [],_=>exact init_first T h_code h0 ev_c (ev_var rfl) fun dx h1 h2=>hQ dx h1 h2
theorem sc_InvalidPartsu_initu:FnScope ["self"] ["self"] (defScope s_InvalidPartsu_initu):=⟨rfl,rfl,rfl,by decide +kernel,rfl,by decide +kernel,by decide +kernel⟩
abbrev F_InvalidPartsu_initu (K:PySem.W.Frag) (f:Addr) (fd:FuncData):Prop:=FunD K "__init__" "InvalidParts.__init__" (defArgs s_InvalidPartsu_initu) (defBody s_InvalidPartsu_initu) (defScope s_InvalidPartsu_initu) [] [] f fd
abbrev VC_InvalidParts (P:Program) (w:World) (K:PySem.W.Frag) (mg:Str->Option Value) (base:Heap):=VCal P w K mg base "InvalidParts" [("code",.k "InvalidParts")] 0 1 ["self"] (fun f fd=>F_InvalidPartsu_initu K f fd)
theorem kb_InvalidPartsu_initu_1_ {f:Addr} {fd:FuncData} (F:F_InvalidPartsu_initu K f fd):KBp K fd ["self"] 1 [] [0] []:=kbp_plain F 1 [] [0] fun _ _ _ _ _ _ us ws h1 h2=>match us,ws,h1,h2 with | [_],[],_,_=>rfl
theorem ok_InvalidPartsu_initu {C fI:Addr} {fdI:FuncData} (F:F_InvalidPartsu_initu K fI fdI) (T:OexC K C) (h_code:PySem.W.findIn K (.ref C) "code"=some none):FnOk P w K mg base (L2.CX P w) 1 fI fdI ["self"] (spX C [("code",.k "InvalidParts")] 0):=by
 refine F.ok sc_InvalidPartsu_initu (fun vs H Q E h=>?_) (fun cdv A outer s H vs Q E hr h=>⟨_,(pss_one (ps_ost (pv 0) pe_str)),?_⟩)
 ·obtain ⟨a,ws,rfl,hl,_⟩:=h
  show ws.length+1=_
  rw [hl];rfl
 ·obtain ⟨a,ws,rfl,hl,h0,hQ⟩:=h
  match ws,hl with
  | [],_=>exact init_first T h_code h0 ev_c (ev_var rfl) fun dx h1 h2=>hQ dx h1 h2
theorem sc_InvalidStepu_initu:FnScope ["self"] ["self"] (defScope s_InvalidStepu_initu):=⟨rfl,rfl,rfl,by decide +kernel,rfl,by decide +kernel,by decide +kernel⟩
abbrev F_InvalidStepu_initu (K:PySem.W.Frag) (f:Addr) (fd:FuncData):Prop:=FunD K "__init__" "InvalidStep.__init__" (defArgs s_InvalidStepu_initu) (defBody s_InvalidStepu_initu) (defScope s_InvalidStepu_initu) [] [] f fd
abbrev VC_InvalidStep (P:Program) (w:World) (K:PySem.W.Frag) (mg:Str->Option Value) (base:Heap):=VCal P w K mg base "InvalidStep" [("code",.k "InvalidStep")] 0 1 ["self"] (fun f fd=>F_InvalidStepu_initu K f fd)
theorem kb_InvalidStepu_initu_1_ {f:Addr} {fd:FuncData} (F:F_InvalidStepu_initu K f fd):KBp K fd ["self"] 1 [] [0] []:=kbp_plain F 1 [] [0] fun _ _ _ _ _ _ us ws h1 h2=>match us,ws,h1,h2 with | [_],[],_,_=>rfl
theorem ok_InvalidStepu_initu {C fI:Addr} {fdI:FuncData} (F:F_InvalidStepu_initu K fI fdI) (T:OexC K C) (h_code:PySem.W.findIn K (.ref C) "code"=some none):FnOk P w K mg base (L2.CX P w) 1 fI fdI ["self"] (spX C [("code",.k "InvalidStep")] 0):=by
 refine F.ok sc_InvalidStepu_initu (fun vs H Q E h=>?_) (fun cdv A outer s H vs Q E hr h=>⟨_,(pss_one (ps_ost (pv 0) pe_str)),?_⟩)
 ·obtain ⟨a,ws,rfl,hl,_⟩:=h
  show ws.length+1=_
  rw [hl];rfl
 ·obtain ⟨a,ws,rfl,hl,h0,hQ⟩:=h
  match ws,hl with
  | [],_=>exact init_first T h_code h0 ev_c (ev_var rfl) fun dx h1 h2=>hQ dx h1 h2
theorem sc_InvalidCurveu_initu:FnScope ["self"] ["self"] (defScope s_InvalidCurveu_initu):=⟨rfl,rfl,rfl,by decide +kernel,rfl,by decide +kernel,by decide +kernel⟩
abbrev F_InvalidCurveu_initu (K:PySem.W.Frag) (f:Addr) (fd:FuncData):Prop:=FunD K "__init__" "InvalidCurve.__init__" (defArgs s_InvalidCurveu_initu) (defBody s_InvalidCurveu_initu) (defScope s_InvalidCurveu_initu) [] [] f fd
abbrev VC_InvalidCurve (P:Program) (w:World) (K:PySem.W.Frag) (mg:Str->Option Value) (base:Heap):=VCal P w K mg base "InvalidCurve" [("code",.k "InvalidCurve")] 0 1 ["self"] (fun f fd=>F_InvalidCurveu_initu K f fd)
theorem kb_InvalidCurveu_initu_1_ {f:Addr} {fd:FuncData} (F:F_InvalidCurveu_initu K f fd):KBp K fd ["self"] 1 [] [0] []:=kbp_plain F 1 [] [0] fun _ _ _ _ _ _ us ws h1 h2=>match us,ws,h1,h2 with | [_],[],_,_=>rfl
theorem ok_InvalidCurveu_initu {C fI:Addr} {fdI:FuncData} (F:F_InvalidCurveu_initu K fI fdI) (T:OexC K C) (h_code:PySem.W.findIn K (.ref C) "code"=some none):FnOk P w K mg base (L2.CX P w) 1 fI fdI ["self"] (spX C [("code",.k "InvalidCurve")] 0):=by
 refine F.ok sc_InvalidCurveu_initu (fun vs H Q E h=>?_) (fun cdv A outer s H vs Q E hr h=>⟨_,(pss_one (ps_ost (pv 0) pe_str)),?_⟩)
 ·obtain ⟨a,ws,rfl,hl,_⟩:=h
  show ws.length+1=_
  rw [hl];rfl
 ·obtain ⟨a,ws,rfl,hl,h0,hQ⟩:=h
  match ws,hl with
  | [],_=>exact init_first T h_code h0 ev_c (ev_var rfl) fun dx h1 h2=>hQ dx h1 h2
theorem sc_InvalidTextu_initu:FnScope ["self"] ["self"] (defScope s_InvalidTextu_initu):=⟨rfl,rfl,rfl,by decide +kernel,rfl,by decide +kernel,by decide +kernel⟩
abbrev F_InvalidTextu_initu (K:PySem.W.Frag) (f:Addr) (fd:FuncData):Prop:=FunD K "__init__" "InvalidText.__init__" (defArgs s_InvalidTextu_initu) (defBody s_InvalidTextu_initu) (defScope s_InvalidTextu_initu) [] [] f fd
abbrev VC_InvalidText (P:Program) (w:World) (K:PySem.W.Frag) (mg:Str->Option Value) (base:Heap):=VCal P w K mg base "InvalidText" [("code",.k "InvalidText")] 0 1 ["self"] (fun f fd=>F_InvalidTextu_initu K f fd)
theorem kb_InvalidTextu_initu_1_ {f:Addr} {fd:FuncData} (F:F_InvalidTextu_initu K f fd):KBp K fd ["self"] 1 [] [0] []:=kbp_plain F 1 [] [0] fun _ _ _ _ _ _ us ws h1 h2=>match us,ws,h1,h2 with | [_],[],_,_=>rfl
theorem ok_InvalidTextu_initu {C fI:Addr} {fdI:FuncData} (F:F_InvalidTextu_initu K fI fdI) (T:OexC K C) (h_code:PySem.W.findIn K (.ref C) "code"=some none):FnOk P w K mg base (L2.CX P w) 1 fI fdI ["self"] (spX C [("code",.k "InvalidText")] 0):=by
 refine F.ok sc_InvalidTextu_initu (fun vs H Q E h=>?_) (fun cdv A outer s H vs Q E hr h=>⟨_,(pss_one (ps_ost (pv 0) pe_str)),?_⟩)
 ·obtain ⟨a,ws,rfl,hl,_⟩:=h
  show ws.length+1=_
  rw [hl];rfl
 ·obtain ⟨a,ws,rfl,hl,h0,hQ⟩:=h
  match ws,hl with
  | [],_=>exact init_first T h_code h0 ev_c (ev_var rfl) fun dx h1 h2=>hQ dx h1 h2
theorem sc_InvalidFractionu_initu:FnScope ["self"] ["self"] (defScope s_InvalidFractionu_initu):=⟨rfl,rfl,rfl,by decide +kernel,rfl,by decide +kernel,by decide +kernel⟩
abbrev F_InvalidFractionu_initu (K:PySem.W.Frag) (f:Addr) (fd:FuncData):Prop:=FunD K "__init__" "InvalidFraction.__init__" (defArgs s_InvalidFractionu_initu) (defBody s_InvalidFractionu_initu) (defScope s_InvalidFractionu_initu) [] [] f fd
abbrev VC_InvalidFraction (P:Program) (w:World) (K:PySem.W.Frag) (mg:Str->Option Value) (base:Heap):=VCal P w K mg base "InvalidFraction" [("code",.k "InvalidFraction")] 0 1 ["self"] (fun f fd=>F_InvalidFractionu_initu K f fd)
theorem kb_InvalidFractionu_initu_1_ {f:Addr} {fd:FuncData} (F:F_InvalidFractionu_initu K f fd):KBp K fd ["self"] 1 [] [0] []:=kbp_plain F 1 [] [0] fun _ _ _ _ _ _ us ws h1 h2=>match us,ws,h1,h2 with | [_],[],_,_=>rfl
theorem ok_InvalidFractionu_initu {C fI:Addr} {fdI:FuncData} (F:F_InvalidFractionu_initu K fI fdI) (T:OexC K C) (h_code:PySem.W.findIn K (.ref C) "code"=some none):FnOk P w K mg base (L2.CX P w) 1 fI fdI ["self"] (spX C [("code",.k "InvalidFraction")] 0):=by
 refine F.ok sc_InvalidFractionu_initu (fun vs H Q E h=>?_) (fun cdv A outer s H vs Q E hr h=>⟨_,(pss_one (ps_ost (pv 0) pe_str)),?_⟩)
 ·obtain ⟨a,ws,rfl,hl,_⟩:=h
  show ws.length+1=_
  rw [hl];rfl
 ·obtain ⟨a,ws,rfl,hl,h0,hQ⟩:=h
  match ws,hl with
  | [],_=>exact init_first T h_code h0 ev_c (ev_var rfl) fun dx h1 h2=>hQ dx h1 h2
theorem sc_InvalidNameu_initu:FnScope ["self"] ["self"] (defScope s_InvalidNameu_initu):=⟨rfl,rfl,rfl,by decide +kernel,rfl,by decide +kernel,by decide +kernel⟩
abbrev F_InvalidNameu_initu (K:PySem.W.Frag) (f:Addr) (fd:FuncData):Prop:=FunD K "__init__" "InvalidName.__init__" (defArgs s_InvalidNameu_initu) (defBody s_InvalidNameu_initu) (defScope s_InvalidNameu_initu) [] [] f fd
abbrev VC_InvalidName (P:Program) (w:World) (K:PySem.W.Frag) (mg:Str->Option Value) (base:Heap):=VCal P w K mg base "InvalidName" [("code",.k "InvalidName")] 0 1 ["self"] (fun f fd=>F_InvalidNameu_initu K f fd)
theorem kb_InvalidNameu_initu_1_ {f:Addr} {fd:FuncData} (F:F_InvalidNameu_initu K f fd):KBp K fd ["self"] 1 [] [0] []:=kbp_plain F 1 [] [0] fun _ _ _ _ _ _ us ws h1 h2=>match us,ws,h1,h2 with | [_],[],_,_=>rfl
theorem ok_InvalidNameu_initu {C fI:Addr} {fdI:FuncData} (F:F_InvalidNameu_initu K fI fdI) (T:OexC K C) (h_code:PySem.W.findIn K (.ref C) "code"=some none):FnOk P w K mg base (L2.CX P w) 1 fI fdI ["self"] (spX C [("code",.k "InvalidName")] 0):=by
 refine F.ok sc_InvalidNameu_initu (fun vs H Q E h=>?_) (fun cdv A outer s H vs Q E hr h=>⟨_,(pss_one (ps_ost (pv 0) pe_str)),?_⟩)
 ·obtain ⟨a,ws,rfl,hl,_⟩:=h
  show ws.length+1=_
  rw [hl];rfl
 ·obtain ⟨a,ws,rfl,hl,h0,hQ⟩:=h
  match ws,hl with
  | [],_=>exact init_first T h_code h0 ev_c (ev_var rfl) fun dx h1 h2=>hQ dx h1 h2
theorem sc_InvalidPipelineu_initu:FnScope ["self"] ["self"] (defScope s_InvalidPipelineu_initu):=⟨rfl,rfl,rfl,by decide +kernel,rfl,by decide +kernel,by decide +kernel⟩
abbrev F_InvalidPipelineu_initu (K:PySem.W.Frag) (f:Addr) (fd:FuncData):Prop:=FunD K "__init__" "InvalidPipeline.__init__" (defArgs s_InvalidPipelineu_initu) (defBody s_InvalidPipelineu_initu) (defScope s_InvalidPipelineu_initu) [] [] f fd
abbrev VC_InvalidPipeline (P:Program) (w:World) (K:PySem.W.Frag) (mg:Str->Option Value) (base:Heap):=VCal P w K mg base "InvalidPipeline" [("code",.k "InvalidPipeline")] 0 1 ["self"] (fun f fd=>F_InvalidPipelineu_initu K f fd)
theorem kb_InvalidPipelineu_initu_1_ {f:Addr} {fd:FuncData} (F:F_InvalidPipelineu_initu K f fd):KBp K fd ["self"] 1 [] [0] []:=kbp_plain F 1 [] [0] fun _ _ _ _ _ _ us ws h1 h2=>match us,ws,h1,h2 with | [_],[],_,_=>rfl
theorem ok_InvalidPipelineu_initu {C fI:Addr} {fdI:FuncData} (F:F_InvalidPipelineu_initu K fI fdI) (T:OexC K C) (h_code:PySem.W.findIn K (.ref C) "code"=some none):FnOk P w K mg base (L2.CX P w) 1 fI fdI ["self"] (spX C [("code",.k "InvalidPipeline")] 0):=by
 refine F.ok sc_InvalidPipelineu_initu (fun vs H Q E h=>?_) (fun cdv A outer s H vs Q E hr h=>⟨_,(pss_one (ps_ost (pv 0) pe_str)),?_⟩)
 ·obtain ⟨a,ws,rfl,hl,_⟩:=h
  show ws.length+1=_
  rw [hl];rfl
 ·obtain ⟨a,ws,rfl,hl,h0,hQ⟩:=h
  match ws,hl with
  | [],_=>exact init_first T h_code h0 ev_c (ev_var rfl) fun dx h1 h2=>hQ dx h1 h2
theorem sc_TooLongu_initu:FnScope ["self","limit"] ["self","limit"] (defScope s_TooLongu_initu):=⟨rfl,rfl,rfl,by decide +kernel,rfl,by decide +kernel,by decide +kernel⟩
abbrev F_TooLongu_initu (K:PySem.W.Frag) (f:Addr) (fd:FuncData):Prop:=FunD K "__init__" "TooLong.__init__" (defArgs s_TooLongu_initu) (defBody s_TooLongu_initu) (defScope s_TooLongu_initu) [] [] f fd
abbrev VC_TooLong (P:Program) (w:World) (K:PySem.W.Frag) (mg:Str->Option Value) (base:Heap):=VCal P w K mg base "TooLong" [("limit",.p 0),("code",.k "TooLong")] 1 1 ["self","limit"] (fun f fd=>F_TooLongu_initu K f fd)
theorem kb_TooLongu_initu_2_ {f:Addr} {fd:FuncData} (F:F_TooLongu_initu K f fd):KBp K fd ["self","limit"] 2 [] [0,1] []:=kbp_plain F 2 [] [0,1] fun _ _ _ _ _ _ us ws h1 h2=>match us,ws,h1,h2 with | [_,_],[],_,_=>rfl
theorem kb_TooLongu_initu_1_limit {f:Addr} {fd:FuncData} (F:F_TooLongu_initu K f fd):KBp K fd ["self","limit"] 1 ["limit"] [0,1] []:=kbp_plain F 1 ["limit"] [0,1] fun _ _ _ _ _ _ us ws h1 h2=>match us,ws,h1,h2 with | [_],[_],_,_=>rfl
theorem ok_TooLongu_initu {C fI:Addr} {fdI:FuncData} (F:F_TooLongu_initu K fI fdI) (T:OexC K C) (h_code:PySem.W.findIn K (.ref C) "code"=some none) (h_limit:PySem.W.findIn K (.ref C) "limit"=some none):FnOk P w K mg base (L2.CX P w) 1 fI fdI ["self","limit"] (spX C [("limit",.p 0),("code",.k "TooLong")] 1):=by
 refine F.ok sc_TooLongu_initu (fun vs H Q E h=>?_) (fun cdv A outer s H vs Q E hr h=>⟨_,(pss_cons (ps_ost (pv 0) pe_str) (pss_one (ps_ost (pv 0) (pv 1)))),?_⟩)
 ·obtain ⟨a,ws,rfl,hl,_⟩:=h
  show ws.length+1=_
  rw [hl];rfl
 ·obtain ⟨a,ws,rfl,hl,h0,hQ⟩:=h
  match ws,hl with
  | [w0],_=>exact init_first T h_code h0 ev_c (ev_var rfl) fun dx h1 h2=>init_next T h_limit h2 (Nat.le_of_ble_eq_true rfl) (ev_var rfl) (ev_var rfl) (hQ dx h1 h2)
theorem sc_TooManyu_initu:FnScope ["self","limit"] ["self","limit"] (defScope s_TooManyu_initu):=⟨rfl,rfl,rfl,by decide +kernel,rfl,by decide +kernel,by decide +kernel⟩
abbrev F_TooManyu_initu (K:PySem.W.Frag) (f:Addr) (fd:FuncData):Prop:=FunD K "__init__" "TooMany.__init__" (defArgs s_TooManyu_initu) (defBody s_TooManyu_initu) (defScope s_TooManyu_initu) [] [] f fd
abbrev VC_TooMany (P:Program) (w:World) (K:PySem.W.Frag) (mg:Str->Option Value) (base:Heap):=VCal P w K mg base "TooMany" [("limit",.p 0),("code",.k "TooMany")] 1 1 ["self","limit"] (fun f fd=>F_TooManyu_initu K f fd)
theorem kb_TooManyu_initu_2_ {f:Addr} {fd:FuncData} (F:F_TooManyu_initu K f fd):KBp K fd ["self","limit"] 2 [] [0,1] []:=kbp_plain F 2 [] [0,1] fun _ _ _ _ _ _ us ws h1 h2=>match us,ws,h1,h2 with | [_,_],[],_,_=>rfl
theorem kb_TooManyu_initu_1_limit {f:Addr} {fd:FuncData} (F:F_TooManyu_initu K f fd):KBp K fd ["self","limit"] 1 ["limit"] [0,1] []:=kbp_plain F 1 ["limit"] [0,1] fun _ _ _ _ _ _ us ws h1 h2=>match us,ws,h1,h2 with | [_],[_],_,_=>rfl
theorem ok_TooManyu_initu {C fI:Addr} {fdI:FuncData} (F:F_TooManyu_initu K fI fdI) (T:OexC K C) (h_code:PySem.W.findIn K (.ref C) "code"=some none) (h_limit:PySem.W.findIn K (.ref C) "limit"=some none):FnOk P w K mg base (L2.CX P w) 1 fI fdI ["self","limit"] (spX C [("limit",.p 0),("code",.k "TooMany")] 1):=by
 refine F.ok sc_TooManyu_initu (fun vs H Q E h=>?_) (fun cdv A outer s H vs Q E hr h=>⟨_,(pss_cons (ps_ost (pv 0) pe_str) (pss_one (ps_ost (pv 0) (pv 1)))),?_⟩)
 ·obtain ⟨a,ws,rfl,hl,_⟩:=h
  show ws.length+1=_
  rw [hl];rfl
 ·obtain ⟨a,ws,rfl,hl,h0,hQ⟩:=h
  match ws,hl with
  | [w0],_=>exact init_first T h_code h0 ev_c (ev_var rfl) fun dx h1 h2=>init_next T h_limit h2 (Nat.le_of_ble_eq_true rfl) (ev_var rfl) (ev_var rfl) (hQ dx h1 h2)
theorem sc_EqualSlopesu_initu:FnScope ["self"] ["self"] (defScope s_EqualSlopesu_initu):=⟨rfl,rfl,rfl,by decide +kernel,rfl,by decide +kernel,by decide +kernel⟩
abbrev F_EqualSlopesu_initu (K:PySem.W.Frag) (f:Addr) (fd:FuncData):Prop:=FunD K "__init__" "EqualSlopes.__init__" (defArgs s_EqualSlopesu_initu) (defBody s_EqualSlopesu_initu) (defScope s_EqualSlopesu_initu) [] [] f fd
abbrev VC_EqualSlopes (P:Program) (w:World) (K:PySem.W.Frag) (mg:Str->Option Value) (base:Heap):=VCal P w K mg base "EqualSlopes" [("code",.k "EqualSlopes")] 0 1 ["self"] (fun f fd=>F_EqualSlopesu_initu K f fd)
theorem kb_EqualSlopesu_initu_1_ {f:Addr} {fd:FuncData} (F:F_EqualSlopesu_initu K f fd):KBp K fd ["self"] 1 [] [0] []:=kbp_plain F 1 [] [0] fun _ _ _ _ _ _ us ws h1 h2=>match us,ws,h1,h2 with | [_],[],_,_=>rfl
theorem ok_EqualSlopesu_initu {C fI:Addr} {fdI:FuncData} (F:F_EqualSlopesu_initu K fI fdI) (T:OexC K C) (h_code:PySem.W.findIn K (.ref C) "code"=some none):FnOk P w K mg base (L2.CX P w) 1 fI fdI ["self"] (spX C [("code",.k "EqualSlopes")] 0):=by
 refine F.ok sc_EqualSlopesu_initu (fun vs H Q E h=>?_) (fun cdv A outer s H vs Q E hr h=>⟨_,(pss_one (ps_ost (pv 0) pe_str)),?_⟩)
 ·obtain ⟨a,ws,rfl,hl,_⟩:=h
  show ws.length+1=_
  rw [hl];rfl
 ·obtain ⟨a,ws,rfl,hl,h0,hQ⟩:=h
  match ws,hl with
  | [],_=>exact init_first T h_code h0 ev_c (ev_var rfl) fun dx h1 h2=>hQ dx h1 h2
theorem sc_UnlikeSlopesu_initu:FnScope ["self"] ["self"] (defScope s_UnlikeSlopesu_initu):=⟨rfl,rfl,rfl,by decide +kernel,rfl,by decide +kernel,by decide +kernel⟩
abbrev F_UnlikeSlopesu_initu (K:PySem.W.Frag) (f:Addr) (fd:FuncData):Prop:=FunD K "__init__" "UnlikeSlopes.__init__" (defArgs s_UnlikeSlopesu_initu) (defBody s_UnlikeSlopesu_initu) (defScope s_UnlikeSlopesu_initu) [] [] f fd
abbrev VC_UnlikeSlopes (P:Program) (w:World) (K:PySem.W.Frag) (mg:Str->Option Value) (base:Heap):=VCal P w K mg base "UnlikeSlopes" [("code",.k "UnlikeSlopes")] 0 1 ["self"] (fun f fd=>F_UnlikeSlopesu_initu K f fd)
theorem kb_UnlikeSlopesu_initu_1_ {f:Addr} {fd:FuncData} (F:F_UnlikeSlopesu_initu K f fd):KBp K fd ["self"] 1 [] [0] []:=kbp_plain F 1 [] [0] fun _ _ _ _ _ _ us ws h1 h2=>match us,ws,h1,h2 with | [_],[],_,_=>rfl
theorem ok_UnlikeSlopesu_initu {C fI:Addr} {fdI:FuncData} (F:F_UnlikeSlopesu_initu K fI fdI) (T:OexC K C) (h_code:PySem.W.findIn K (.ref C) "code"=some none):FnOk P w K mg base (L2.CX P w) 1 fI fdI ["self"] (spX C [("code",.k "UnlikeSlopes")] 0):=by
 refine F.ok sc_UnlikeSlopesu_initu (fun vs H Q E h=>?_) (fun cdv A outer s H vs Q E hr h=>⟨_,(pss_one (ps_ost (pv 0) pe_str)),?_⟩)
 ·obtain ⟨a,ws,rfl,hl,_⟩:=h
  show ws.length+1=_
  rw [hl];rfl
 ·obtain ⟨a,ws,rfl,hl,h0,hQ⟩:=h
  match ws,hl with
  | [],_=>exact init_first T h_code h0 ev_c (ev_var rfl) fun dx h1 h2=>hQ dx h1 h2
theorem sc_Stoppedu_initu:FnScope ["self","index","cause"] ["self","index","cause"] (defScope s_Stoppedu_initu):=⟨rfl,rfl,rfl,by decide +kernel,rfl,by decide +kernel,by decide +kernel⟩
abbrev F_Stoppedu_initu (K:PySem.W.Frag) (f:Addr) (fd:FuncData):Prop:=FunD K "__init__" "Stopped.__init__" (defArgs s_Stoppedu_initu) (defBody s_Stoppedu_initu) (defScope s_Stoppedu_initu) [] [] f fd
abbrev VC_Stopped (P:Program) (w:World) (K:PySem.W.Frag) (mg:Str->Option Value) (base:Heap):=VCal P w K mg base "Stopped" [("cause",.p 1),("index",.p 0),("code",.k "Stopped")] 2 1 ["self","index","cause"] (fun f fd=>F_Stoppedu_initu K f fd)
theorem kb_Stoppedu_initu_3_ {f:Addr} {fd:FuncData} (F:F_Stoppedu_initu K f fd):KBp K fd ["self","index","cause"] 3 [] [0,1,2] []:=kbp_plain F 3 [] [0,1,2] fun _ _ _ _ _ _ us ws h1 h2=>match us,ws,h1,h2 with | [_,_,_],[],_,_=>rfl
theorem kb_Stoppedu_initu_1_cause_index {f:Addr} {fd:FuncData} (F:F_Stoppedu_initu K f fd):KBp K fd ["self","index","cause"] 1 ["cause","index"] [0,2,1] []:=kbp_plain F 1 ["cause","index"] [0,2,1] fun _ _ _ _ _ _ us ws h1 h2=>match us,ws,h1,h2 with | [_],[_,_],_,_=>rfl
theorem ok_Stoppedu_initu {C fI:Addr} {fdI:FuncData} (F:F_Stoppedu_initu K fI fdI) (T:OexC K C) (h_code:PySem.W.findIn K (.ref C) "code"=some none) (h_index:PySem.W.findIn K (.ref C) "index"=some none) (h_cause:PySem.W.findIn K (.ref C) "cause"=some none):FnOk P w K mg base (L2.CX P w) 1 fI fdI ["self","index","cause"] (spX C [("cause",.p 1),("index",.p 0),("code",.k "Stopped")] 2):=by
 refine F.ok sc_Stoppedu_initu (fun vs H Q E h=>?_) (fun cdv A outer s H vs Q E hr h=>⟨_,(pss_cons (ps_ost (pv 0) pe_str) (pss_cons (ps_ost (pv 0) (pv 1)) (pss_one (ps_ost (pv 0) (pv 2))))),?_⟩)
 ·obtain ⟨a,ws,rfl,hl,_⟩:=h
  show ws.length+1=_
  rw [hl];rfl
 ·obtain ⟨a,ws,rfl,hl,h0,hQ⟩:=h
  match ws,hl with
  | [w0,w1],_=>exact init_first T h_code h0 ev_c (ev_var rfl) fun dx h1 h2=>init_next T h_index h2 (Nat.le_of_ble_eq_true rfl) (ev_var rfl) (ev_var rfl) (init_next T h_cause h2 (Nat.le_of_ble_eq_true rfl) (ev_var rfl) (ev_var rfl) (hQ dx h1 h2))
theorem sc_Unfitu_initu:FnScope ["self","name","cause"] ["self","name","cause"] (defScope s_Unfitu_initu):=⟨rfl,rfl,rfl,by decide +kernel,rfl,by decide +kernel,by decide +kernel⟩
abbrev F_Unfitu_initu (K:PySem.W.Frag) (f:Addr) (fd:FuncData):Prop:=FunD K "__init__" "Unfit.__init__" (defArgs s_Unfitu_initu) (defBody s_Unfitu_initu) (defScope s_Unfitu_initu) [] [] f fd
abbrev VC_Unfit (P:Program) (w:World) (K:PySem.W.Frag) (mg:Str->Option Value) (base:Heap):=VCal P w K mg base "Unfit" [("cause",.p 1),("name",.p 0),("code",.k "Unfit")] 2 1 ["self","name","cause"] (fun f fd=>F_Unfitu_initu K f fd)
theorem kb_Unfitu_initu_3_ {f:Addr} {fd:FuncData} (F:F_Unfitu_initu K f fd):KBp K fd ["self","name","cause"] 3 [] [0,1,2] []:=kbp_plain F 3 [] [0,1,2] fun _ _ _ _ _ _ us ws h1 h2=>match us,ws,h1,h2 with | [_,_,_],[],_,_=>rfl
theorem kb_Unfitu_initu_1_cause_name {f:Addr} {fd:FuncData} (F:F_Unfitu_initu K f fd):KBp K fd ["self","name","cause"] 1 ["cause","name"] [0,2,1] []:=kbp_plain F 1 ["cause","name"] [0,2,1] fun _ _ _ _ _ _ us ws h1 h2=>match us,ws,h1,h2 with | [_],[_,_],_,_=>rfl
theorem ok_Unfitu_initu {C fI:Addr} {fdI:FuncData} (F:F_Unfitu_initu K fI fdI) (T:OexC K C) (h_code:PySem.W.findIn K (.ref C) "code"=some none) (h_name:PySem.W.findIn K (.ref C) "name"=some none) (h_cause:PySem.W.findIn K (.ref C) "cause"=some none):FnOk P w K mg base (L2.CX P w) 1 fI fdI ["self","name","cause"] (spX C [("cause",.p 1),("name",.p 0),("code",.k "Unfit")] 2):=by
 refine F.ok sc_Unfitu_initu (fun vs H Q E h=>?_) (fun cdv A outer s H vs Q E hr h=>⟨_,(pss_cons (ps_ost (pv 0) pe_str) (pss_cons (ps_ost (pv 0) (pv 1)) (pss_one (ps_ost (pv 0) (pv 2))))),?_⟩)
 ·obtain ⟨a,ws,rfl,hl,_⟩:=h
  show ws.length+1=_
  rw [hl];rfl
 ·obtain ⟨a,ws,rfl,hl,h0,hQ⟩:=h
  match ws,hl with
  | [w0,w1],_=>exact init_first T h_code h0 ev_c (ev_var rfl) fun dx h1 h2=>init_next T h_name h2 (Nat.le_of_ble_eq_true rfl) (ev_var rfl) (ev_var rfl) (init_next T h_cause h2 (Nat.le_of_ble_eq_true rfl) (ev_var rfl) (ev_var rfl) (hQ dx h1 h2))
theorem sc_InUseu_initu:FnScope ["self","by"] ["self","by"] (defScope s_InUseu_initu):=⟨rfl,rfl,rfl,by decide +kernel,rfl,by decide +kernel,by decide +kernel⟩
abbrev F_InUseu_initu (K:PySem.W.Frag) (f:Addr) (fd:FuncData):Prop:=FunD K "__init__" "InUse.__init__" (defArgs s_InUseu_initu) (defBody s_InUseu_initu) (defScope s_InUseu_initu) [] [] f fd
abbrev VC_InUse (P:Program) (w:World) (K:PySem.W.Frag) (mg:Str->Option Value) (base:Heap):=VCal P w K mg base "InUse" [("by",.p 0),("code",.k "InUse")] 1 1 ["self","by"] (fun f fd=>F_InUseu_initu K f fd)
theorem kb_InUseu_initu_2_ {f:Addr} {fd:FuncData} (F:F_InUseu_initu K f fd):KBp K fd ["self","by"] 2 [] [0,1] []:=kbp_plain F 2 [] [0,1] fun _ _ _ _ _ _ us ws h1 h2=>match us,ws,h1,h2 with | [_,_],[],_,_=>rfl
theorem kb_InUseu_initu_1_by {f:Addr} {fd:FuncData} (F:F_InUseu_initu K f fd):KBp K fd ["self","by"] 1 ["by"] [0,1] []:=kbp_plain F 1 ["by"] [0,1] fun _ _ _ _ _ _ us ws h1 h2=>match us,ws,h1,h2 with | [_],[_],_,_=>rfl
theorem ok_InUseu_initu {C fI:Addr} {fdI:FuncData} (F:F_InUseu_initu K fI fdI) (T:OexC K C) (h_code:PySem.W.findIn K (.ref C) "code"=some none) (h_by:PySem.W.findIn K (.ref C) "by"=some none):FnOk P w K mg base (L2.CX P w) 1 fI fdI ["self","by"] (spX C [("by",.p 0),("code",.k "InUse")] 1):=by
 refine F.ok sc_InUseu_initu (fun vs H Q E h=>?_) (fun cdv A outer s H vs Q E hr h=>⟨_,(pss_cons (ps_ost (pv 0) pe_str) (pss_one (ps_ost (pv 0) (pv 1)))),?_⟩)
 ·obtain ⟨a,ws,rfl,hl,_⟩:=h
  show ws.length+1=_
  rw [hl];rfl
 ·obtain ⟨a,ws,rfl,hl,h0,hQ⟩:=h
  match ws,hl with
  | [w0],_=>exact init_first T h_code h0 ev_c (ev_var rfl) fun dx h1 h2=>init_next T h_by h2 (Nat.le_of_ble_eq_true rfl) (ev_var rfl) (ev_var rfl) (hQ dx h1 h2)
theorem sc_Fullu_initu:FnScope ["self","limit"] ["self","limit"] (defScope s_Fullu_initu):=⟨rfl,rfl,rfl,by decide +kernel,rfl,by decide +kernel,by decide +kernel⟩
abbrev F_Fullu_initu (K:PySem.W.Frag) (f:Addr) (fd:FuncData):Prop:=FunD K "__init__" "Full.__init__" (defArgs s_Fullu_initu) (defBody s_Fullu_initu) (defScope s_Fullu_initu) [] [] f fd
abbrev VC_Full (P:Program) (w:World) (K:PySem.W.Frag) (mg:Str->Option Value) (base:Heap):=VCal P w K mg base "Full" [("limit",.p 0),("code",.k "Full")] 1 1 ["self","limit"] (fun f fd=>F_Fullu_initu K f fd)
theorem kb_Fullu_initu_2_ {f:Addr} {fd:FuncData} (F:F_Fullu_initu K f fd):KBp K fd ["self","limit"] 2 [] [0,1] []:=kbp_plain F 2 [] [0,1] fun _ _ _ _ _ _ us ws h1 h2=>match us,ws,h1,h2 with | [_,_],[],_,_=>rfl
theorem kb_Fullu_initu_1_limit {f:Addr} {fd:FuncData} (F:F_Fullu_initu K f fd):KBp K fd ["self","limit"] 1 ["limit"] [0,1] []:=kbp_plain F 1 ["limit"] [0,1] fun _ _ _ _ _ _ us ws h1 h2=>match us,ws,h1,h2 with | [_],[_],_,_=>rfl
theorem ok_Fullu_initu {C fI:Addr} {fdI:FuncData} (F:F_Fullu_initu K fI fdI) (T:OexC K C) (h_code:PySem.W.findIn K (.ref C) "code"=some none) (h_limit:PySem.W.findIn K (.ref C) "limit"=some none):FnOk P w K mg base (L2.CX P w) 1 fI fdI ["self","limit"] (spX C [("limit",.p 0),("code",.k "Full")] 1):=by
 refine F.ok sc_Fullu_initu (fun vs H Q E h=>?_) (fun cdv A outer s H vs Q E hr h=>⟨_,(pss_cons (ps_ost (pv 0) pe_str) (pss_one (ps_ost (pv 0) (pv 1)))),?_⟩)
 ·obtain ⟨a,ws,rfl,hl,_⟩:=h
  show ws.length+1=_
  rw [hl];rfl
 ·obtain ⟨a,ws,rfl,hl,h0,hQ⟩:=h
  match ws,hl with
  | [w0],_=>exact init_first T h_code h0 ev_c (ev_var rfl) fun dx h1 h2=>init_next T h_limit h2 (Nat.le_of_ble_eq_true rfl) (ev_var rfl) (ev_var rfl) (hQ dx h1 h2)
theorem sc_Cycleu_initu:FnScope ["self","name"] ["self","name"] (defScope s_Cycleu_initu):=⟨rfl,rfl,rfl,by decide +kernel,rfl,by decide +kernel,by decide +kernel⟩
abbrev F_Cycleu_initu (K:PySem.W.Frag) (f:Addr) (fd:FuncData):Prop:=FunD K "__init__" "Cycle.__init__" (defArgs s_Cycleu_initu) (defBody s_Cycleu_initu) (defScope s_Cycleu_initu) [] [] f fd
abbrev VC_Cycle (P:Program) (w:World) (K:PySem.W.Frag) (mg:Str->Option Value) (base:Heap):=VCal P w K mg base "Cycle" [("name",.p 0),("code",.k "Cycle")] 1 1 ["self","name"] (fun f fd=>F_Cycleu_initu K f fd)
theorem kb_Cycleu_initu_2_ {f:Addr} {fd:FuncData} (F:F_Cycleu_initu K f fd):KBp K fd ["self","name"] 2 [] [0,1] []:=kbp_plain F 2 [] [0,1] fun _ _ _ _ _ _ us ws h1 h2=>match us,ws,h1,h2 with | [_,_],[],_,_=>rfl
theorem kb_Cycleu_initu_1_name {f:Addr} {fd:FuncData} (F:F_Cycleu_initu K f fd):KBp K fd ["self","name"] 1 ["name"] [0,1] []:=kbp_plain F 1 ["name"] [0,1] fun _ _ _ _ _ _ us ws h1 h2=>match us,ws,h1,h2 with | [_],[_],_,_=>rfl
theorem ok_Cycleu_initu {C fI:Addr} {fdI:FuncData} (F:F_Cycleu_initu K fI fdI) (T:OexC K C) (h_code:PySem.W.findIn K (.ref C) "code"=some none) (h_name:PySem.W.findIn K (.ref C) "name"=some none):FnOk P w K mg base (L2.CX P w) 1 fI fdI ["self","name"] (spX C [("name",.p 0),("code",.k "Cycle")] 1):=by
 refine F.ok sc_Cycleu_initu (fun vs H Q E h=>?_) (fun cdv A outer s H vs Q E hr h=>⟨_,(pss_cons (ps_ost (pv 0) pe_str) (pss_one (ps_ost (pv 0) (pv 1)))),?_⟩)
 ·obtain ⟨a,ws,rfl,hl,_⟩:=h
  show ws.length+1=_
  rw [hl];rfl
 ·obtain ⟨a,ws,rfl,hl,h0,hQ⟩:=h
  match ws,hl with
  | [w0],_=>exact init_first T h_code h0 ev_c (ev_var rfl) fun dx h1 h2=>init_next T h_name h2 (Nat.le_of_ble_eq_true rfl) (ev_var rfl) (ev_var rfl) (hQ dx h1 h2)
theorem sc_InvalidCommandu_initu:FnScope ["self"] ["self"] (defScope s_InvalidCommandu_initu):=⟨rfl,rfl,rfl,by decide +kernel,rfl,by decide +kernel,by decide +kernel⟩
abbrev F_InvalidCommandu_initu (K:PySem.W.Frag) (f:Addr) (fd:FuncData):Prop:=FunD K "__init__" "InvalidCommand.__init__" (defArgs s_InvalidCommandu_initu) (defBody s_InvalidCommandu_initu) (defScope s_InvalidCommandu_initu) [] [] f fd
abbrev VC_InvalidCommand (P:Program) (w:World) (K:PySem.W.Frag) (mg:Str->Option Value) (base:Heap):=VCal P w K mg base "InvalidCommand" [("code",.k "InvalidCommand")] 0 1 ["self"] (fun f fd=>F_InvalidCommandu_initu K f fd)
theorem kb_InvalidCommandu_initu_1_ {f:Addr} {fd:FuncData} (F:F_InvalidCommandu_initu K f fd):KBp K fd ["self"] 1 [] [0] []:=kbp_plain F 1 [] [0] fun _ _ _ _ _ _ us ws h1 h2=>match us,ws,h1,h2 with | [_],[],_,_=>rfl
theorem ok_InvalidCommandu_initu {C fI:Addr} {fdI:FuncData} (F:F_InvalidCommandu_initu K fI fdI) (T:OexC K C) (h_code:PySem.W.findIn K (.ref C) "code"=some none):FnOk P w K mg base (L2.CX P w) 1 fI fdI ["self"] (spX C [("code",.k "InvalidCommand")] 0):=by
 refine F.ok sc_InvalidCommandu_initu (fun vs H Q E h=>?_) (fun cdv A outer s H vs Q E hr h=>⟨_,(pss_one (ps_ost (pv 0) pe_str)),?_⟩)
 ·obtain ⟨a,ws,rfl,hl,_⟩:=h
  show ws.length+1=_
  rw [hl];rfl
 ·obtain ⟨a,ws,rfl,hl,h0,hQ⟩:=h
  match ws,hl with
  | [],_=>exact init_first T h_code h0 ev_c (ev_var rfl) fun dx h1 h2=>hQ dx h1 h2
theorem sc_NothingLeftu_initu:FnScope ["self"] ["self"] (defScope s_NothingLeftu_initu):=⟨rfl,rfl,rfl,by decide +kernel,rfl,by decide +kernel,by decide +kernel⟩
abbrev F_NothingLeftu_initu (K:PySem.W.Frag) (f:Addr) (fd:FuncData):Prop:=FunD K "__init__" "NothingLeft.__init__" (defArgs s_NothingLeftu_initu) (defBody s_NothingLeftu_initu) (defScope s_NothingLeftu_initu) [] [] f fd
abbrev VC_NothingLeft (P:Program) (w:World) (K:PySem.W.Frag) (mg:Str->Option Value) (base:Heap):=VCal P w K mg base "NothingLeft" [("code",.k "NothingLeft")] 0 1 ["self"] (fun f fd=>F_NothingLeftu_initu K f fd)
theorem kb_NothingLeftu_initu_1_ {f:Addr} {fd:FuncData} (F:F_NothingLeftu_initu K f fd):KBp K fd ["self"] 1 [] [0] []:=kbp_plain F 1 [] [0] fun _ _ _ _ _ _ us ws h1 h2=>match us,ws,h1,h2 with | [_],[],_,_=>rfl
theorem ok_NothingLeftu_initu {C fI:Addr} {fdI:FuncData} (F:F_NothingLeftu_initu K fI fdI) (T:OexI K C) (h_code:PySem.W.findIn K (.ref C) "code"=some none):FnOk P w K mg base (L2.CX P w) 1 fI fdI ["self"] (spX C [("code",.k "NothingLeft")] 0):=by
 refine F.ok sc_NothingLeftu_initu (fun vs H Q E h=>?_) (fun cdv A outer s H vs Q E hr h=>⟨_,(pss_one (ps_ostI (pv 0) pe_str)),?_⟩)
 ·obtain ⟨a,ws,rfl,hl,_⟩:=h
  show ws.length+1=_
  rw [hl];rfl
 ·obtain ⟨a,ws,rfl,hl,h0,hQ⟩:=h
  match ws,hl with
  | [],_=>exact initI_first T h_code h0 ev_c (ev_var rfl) fun dx h1 h2=>hQ dx h1 h2
theorem sc_UnknownClaimu_initu:FnScope ["self","number"] ["self","number"] (defScope s_UnknownClaimu_initu):=⟨rfl,rfl,rfl,by decide +kernel,rfl,by decide +kernel,by decide +kernel⟩
abbrev F_UnknownClaimu_initu (K:PySem.W.Frag) (f:Addr) (fd:FuncData):Prop:=FunD K "__init__" "UnknownClaim.__init__" (defArgs s_UnknownClaimu_initu) (defBody s_UnknownClaimu_initu) (defScope s_UnknownClaimu_initu) [] [] f fd
abbrev VC_UnknownClaim (P:Program) (w:World) (K:PySem.W.Frag) (mg:Str->Option Value) (base:Heap):=VCal P w K mg base "UnknownClaim" [("number",.p 0),("code",.k "UnknownClaim")] 1 1 ["self","number"] (fun f fd=>F_UnknownClaimu_initu K f fd)
theorem kb_UnknownClaimu_initu_2_ {f:Addr} {fd:FuncData} (F:F_UnknownClaimu_initu K f fd):KBp K fd ["self","number"] 2 [] [0,1] []:=kbp_plain F 2 [] [0,1] fun _ _ _ _ _ _ us ws h1 h2=>match us,ws,h1,h2 with | [_,_],[],_,_=>rfl
theorem kb_UnknownClaimu_initu_1_number {f:Addr} {fd:FuncData} (F:F_UnknownClaimu_initu K f fd):KBp K fd ["self","number"] 1 ["number"] [0,1] []:=kbp_plain F 1 ["number"] [0,1] fun _ _ _ _ _ _ us ws h1 h2=>match us,ws,h1,h2 with | [_],[_],_,_=>rfl
theorem ok_UnknownClaimu_initu {C fI:Addr} {fdI:FuncData} (F:F_UnknownClaimu_initu K fI fdI) (T:OexL K C) (h_code:PySem.W.findIn K (.ref C) "code"=some none) (h_number:PySem.W.findIn K (.ref C) "number"=some none):FnOk P w K mg base (L2.CX P w) 1 fI fdI ["self","number"] (spX C [("number",.p 0),("code",.k "UnknownClaim")] 1):=by
 refine F.ok sc_UnknownClaimu_initu (fun vs H Q E h=>?_) (fun cdv A outer s H vs Q E hr h=>⟨_,(pss_cons (ps_ostL (pv 0) pe_str) (pss_one (ps_ostL (pv 0) (pv 1)))),?_⟩)
 ·obtain ⟨a,ws,rfl,hl,_⟩:=h
  show ws.length+1=_
  rw [hl];rfl
 ·obtain ⟨a,ws,rfl,hl,h0,hQ⟩:=h
  match ws,hl with
  | [w0],_=>exact initL_first T h_code h0 ev_c (ev_var rfl) fun dx h1 h2=>initL_next T h_number h2 (Nat.le_of_ble_eq_true rfl) (ev_var rfl) (ev_var rfl) (hQ dx h1 h2)
theorem sc_UnknownNameu_initu:FnScope ["self","name"] ["self","name"] (defScope s_UnknownNameu_initu):=⟨rfl,rfl,rfl,by decide +kernel,rfl,by decide +kernel,by decide +kernel⟩
abbrev F_UnknownNameu_initu (K:PySem.W.Frag) (f:Addr) (fd:FuncData):Prop:=FunD K "__init__" "UnknownName.__init__" (defArgs s_UnknownNameu_initu) (defBody s_UnknownNameu_initu) (defScope s_UnknownNameu_initu) [] [] f fd
abbrev VC_UnknownName (P:Program) (w:World) (K:PySem.W.Frag) (mg:Str->Option Value) (base:Heap):=VCal P w K mg base "UnknownName" [("name",.p 0),("code",.k "UnknownName")] 1 1 ["self","name"] (fun f fd=>F_UnknownNameu_initu K f fd)
theorem kb_UnknownNameu_initu_2_ {f:Addr} {fd:FuncData} (F:F_UnknownNameu_initu K f fd):KBp K fd ["self","name"] 2 [] [0,1] []:=kbp_plain F 2 [] [0,1] fun _ _ _ _ _ _ us ws h1 h2=>match us,ws,h1,h2 with | [_,_],[],_,_=>rfl
theorem kb_UnknownNameu_initu_1_name {f:Addr} {fd:FuncData} (F:F_UnknownNameu_initu K f fd):KBp K fd ["self","name"] 1 ["name"] [0,1] []:=kbp_plain F 1 ["name"] [0,1] fun _ _ _ _ _ _ us ws h1 h2=>match us,ws,h1,h2 with | [_],[_],_,_=>rfl
theorem ok_UnknownNameu_initu {C fI:Addr} {fdI:FuncData} (F:F_UnknownNameu_initu K fI fdI) (T:OexL K C) (h_code:PySem.W.findIn K (.ref C) "code"=some none) (h_name:PySem.W.findIn K (.ref C) "name"=some none):FnOk P w K mg base (L2.CX P w) 1 fI fdI ["self","name"] (spX C [("name",.p 0),("code",.k "UnknownName")] 1):=by
 refine F.ok sc_UnknownNameu_initu (fun vs H Q E h=>?_) (fun cdv A outer s H vs Q E hr h=>⟨_,(pss_cons (ps_ostL (pv 0) pe_str) (pss_one (ps_ostL (pv 0) (pv 1)))),?_⟩)
 ·obtain ⟨a,ws,rfl,hl,_⟩:=h
  show ws.length+1=_
  rw [hl];rfl
 ·obtain ⟨a,ws,rfl,hl,h0,hQ⟩:=h
  match ws,hl with
  | [w0],_=>exact initL_first T h_code h0 ev_c (ev_var rfl) fun dx h1 h2=>initL_next T h_name h2 (Nat.le_of_ble_eq_true rfl) (ev_var rfl) (ev_var rfl) (hQ dx h1 h2)
theorem sc_ParseErroru_initu:FnScope ["self","line"] ["self","line"] (defScope s_ParseErroru_initu):=⟨rfl,rfl,rfl,by decide +kernel,rfl,by decide +kernel,by decide +kernel⟩
abbrev F_ParseErroru_initu (K:PySem.W.Frag) (f:Addr) (fd:FuncData):Prop:=FunD K "__init__" "ParseError.__init__" (defArgs s_ParseErroru_initu) (defBody s_ParseErroru_initu) (defScope s_ParseErroru_initu) [] [] f fd
abbrev VC_ParseError (P:Program) (w:World) (K:PySem.W.Frag) (mg:Str->Option Value) (base:Heap):=VCal P w K mg base "ParseError" [("line",.p 0),("code",.k "ParseError")] 1 1 ["self","line"] (fun f fd=>F_ParseErroru_initu K f fd)
theorem kb_ParseErroru_initu_2_ {f:Addr} {fd:FuncData} (F:F_ParseErroru_initu K f fd):KBp K fd ["self","line"] 2 [] [0,1] []:=kbp_plain F 2 [] [0,1] fun _ _ _ _ _ _ us ws h1 h2=>match us,ws,h1,h2 with | [_,_],[],_,_=>rfl
theorem kb_ParseErroru_initu_1_line {f:Addr} {fd:FuncData} (F:F_ParseErroru_initu K f fd):KBp K fd ["self","line"] 1 ["line"] [0,1] []:=kbp_plain F 1 ["line"] [0,1] fun _ _ _ _ _ _ us ws h1 h2=>match us,ws,h1,h2 with | [_],[_],_,_=>rfl
theorem ok_ParseErroru_initu {C fI:Addr} {fdI:FuncData} (F:F_ParseErroru_initu K fI fdI) (T:OexC K C) (h_code:PySem.W.findIn K (.ref C) "code"=some none) (h_line:PySem.W.findIn K (.ref C) "line"=some none):FnOk P w K mg base (L2.CX P w) 1 fI fdI ["self","line"] (spX C [("line",.p 0),("code",.k "ParseError")] 1):=by
 refine F.ok sc_ParseErroru_initu (fun vs H Q E h=>?_) (fun cdv A outer s H vs Q E hr h=>⟨_,(pss_cons (ps_ost (pv 0) pe_str) (pss_one (ps_ost (pv 0) (pv 1)))),?_⟩)
 ·obtain ⟨a,ws,rfl,hl,_⟩:=h
  show ws.length+1=_
  rw [hl];rfl
 ·obtain ⟨a,ws,rfl,hl,h0,hQ⟩:=h
  match ws,hl with
  | [w0],_=>exact init_first T h_code h0 ev_c (ev_var rfl) fun dx h1 h2=>init_next T h_line h2 (Nat.le_of_ble_eq_true rfl) (ev_var rfl) (ev_var rfl) (hQ dx h1 h2)
theorem sc_InvalidLimitu_initu:FnScope ["self","limit"] ["self","limit"] (defScope s_InvalidLimitu_initu):=⟨rfl,rfl,rfl,by decide +kernel,rfl,by decide +kernel,by decide +kernel⟩
abbrev F_InvalidLimitu_initu (K:PySem.W.Frag) (f:Addr) (fd:FuncData):Prop:=FunD K "__init__" "InvalidLimit.__init__" (defArgs s_InvalidLimitu_initu) (defBody s_InvalidLimitu_initu) (defScope s_InvalidLimitu_initu) [] [] f fd
abbrev VC_InvalidLimit (P:Program) (w:World) (K:PySem.W.Frag) (mg:Str->Option Value) (base:Heap):=VCal P w K mg base "InvalidLimit" [("limit",.p 0),("code",.k "InvalidLimit")] 1 1 ["self","limit"] (fun f fd=>F_InvalidLimitu_initu K f fd)
theorem kb_InvalidLimitu_initu_2_ {f:Addr} {fd:FuncData} (F:F_InvalidLimitu_initu K f fd):KBp K fd ["self","limit"] 2 [] [0,1] []:=kbp_plain F 2 [] [0,1] fun _ _ _ _ _ _ us ws h1 h2=>match us,ws,h1,h2 with | [_,_],[],_,_=>rfl
theorem kb_InvalidLimitu_initu_1_limit {f:Addr} {fd:FuncData} (F:F_InvalidLimitu_initu K f fd):KBp K fd ["self","limit"] 1 ["limit"] [0,1] []:=kbp_plain F 1 ["limit"] [0,1] fun _ _ _ _ _ _ us ws h1 h2=>match us,ws,h1,h2 with | [_],[_],_,_=>rfl
theorem ok_InvalidLimitu_initu {C fI:Addr} {fdI:FuncData} (F:F_InvalidLimitu_initu K fI fdI) (T:OexC K C) (h_code:PySem.W.findIn K (.ref C) "code"=some none) (h_limit:PySem.W.findIn K (.ref C) "limit"=some none):FnOk P w K mg base (L2.CX P w) 1 fI fdI ["self","limit"] (spX C [("limit",.p 0),("code",.k "InvalidLimit")] 1):=by
 refine F.ok sc_InvalidLimitu_initu (fun vs H Q E h=>?_) (fun cdv A outer s H vs Q E hr h=>⟨_,(pss_cons (ps_ost (pv 0) pe_str) (pss_one (ps_ost (pv 0) (pv 1)))),?_⟩)
 ·obtain ⟨a,ws,rfl,hl,_⟩:=h
  show ws.length+1=_
  rw [hl];rfl
 ·obtain ⟨a,ws,rfl,hl,h0,hQ⟩:=h
  match ws,hl with
  | [w0],_=>exact init_first T h_code h0 ev_c (ev_var rfl) fun dx h1 h2=>init_next T h_limit h2 (Nat.le_of_ble_eq_true rfl) (ev_var rfl) (ev_var rfl) (hQ dx h1 h2)
theorem sc__law_begin:FnScope ["_law_script","_law_salt","_law_cell"] ["_law_script"] (defScope s__law_begin):=⟨rfl,rfl,rfl,by decide +kernel,rfl,by decide +kernel,by decide +kernel⟩
abbrev F__law_begin (K:PySem.W.Frag) (f:Addr) (fd:FuncData):Prop:=FunD K "_law_begin" "_law_begin" (defArgs s__law_begin) (defBody s__law_begin) (defScope s__law_begin) [] [] f fd
theorem bd__law_begin {K:PySem.W.Frag} {f:Addr} {fd:FuncData} (F:F__law_begin K f fd):Binds K fd ["_law_script"] []:=F.bindsN fun _ _ _ _ _ _ us hl=>match us,hl with | [_],_=>rfl
def sp__law_begin:DSp:=fun ds M Q E=>∃ ns:List Int,ds=[.rol (ns.map D.int)]/\∀ r:Rng,r.Ok->Q (.mt M.length) (M ++ [some r.mo])
abbrev Cal__law_begin (P:Program) (w:World) (K:PySem.W.Frag) (mg:Str->Option Value) (base:Heap) (Tb:List (Addr×Str)):=Cal P w K mg base Tb "_law_begin" "_law_begin" s__law_begin [] [] 1 ["_law_script"] sp__law_begin
theorem sc__law_draw:FnScope ["_law_rng","_law_many","_law_cell","_law_got","_law_seed"] ["_law_rng","_law_many"] (defScope s__law_draw):=⟨rfl,rfl,rfl,by decide +kernel,rfl,by decide +kernel,by decide +kernel⟩
abbrev F__law_draw (K:PySem.W.Frag) (f:Addr) (fd:FuncData):Prop:=FunD K "_law_draw" "_law_draw" (defArgs s__law_draw) (defBody s__law_draw) (defScope s__law_draw) [] [] f fd
theorem bd__law_draw {K:PySem.W.Frag} {f:Addr} {fd:FuncData} (F:F__law_draw K f fd):Binds K fd ["_law_rng","_law_many"] []:=F.bindsN fun _ _ _ _ _ _ us hl=>match us,hl with | [_,_],_=>rfl
abbrev sp__law_draw:DSp:=drawSp
abbrev Cal__law_draw (P:Program) (w:World) (K:PySem.W.Frag) (mg:Str->Option Value) (base:Heap) (Tb:List (Addr×Str)):=Cal P w K mg base Tb "_law_draw" "_law_draw" s__law_draw [] [] 1 ["_law_rng","_law_many"] sp__law_draw
theorem sc__law_pick:FnScope ["_law_rng","_law_some"] ["_law_rng","_law_some"] (defScope s__law_pick):=⟨rfl,rfl,rfl,by decide +kernel,rfl,by decide +kernel,by decide +kernel⟩
abbrev F__law_pick (K:PySem.W.Frag) (f:Addr) (fd:FuncData):Prop:=FunD K "_law_pick" "_law_pick" (defArgs s__law_pick) (defBody s__law_pick) (defScope s__law_pick) [] [] f fd
theorem bd__law_pick {K:PySem.W.Frag} {f:Addr} {fd:FuncData} (F:F__law_pick K f fd):Binds K fd ["_law_rng","_law_some"] []:=F.bindsN fun _ _ _ _ _ _ us hl=>match us,hl with | [_,_],_=>rfl
abbrev sp__law_pick:DSp:=pickSp
abbrev Cal__law_pick (P:Program) (w:World) (K:PySem.W.Frag) (mg:Str->Option Value) (base:Heap) (Tb:List (Addr×Str)):=Cal P w K mg base Tb "_law_pick" "_law_pick" s__law_pick [] [] 2 ["_law_rng","_law_some"] sp__law_pick
theorem sc__law_word:FnScope ["_law_rng","_law_most","_law_k"] ["_law_rng","_law_most"] (defScope s__law_word):=⟨rfl,rfl,rfl,by decide +kernel,rfl,by decide +kernel,by decide +kernel⟩
abbrev F__law_word (K:PySem.W.Frag) (f:Addr) (fd:FuncData):Prop:=FunD K "_law_word" "_law_word" (defArgs s__law_word) (defBody s__law_word) (defScope s__law_word) [] [] f fd
theorem bd__law_word {K:PySem.W.Frag} {f:Addr} {fd:FuncData} (F:F__law_word K f fd):Binds K fd ["_law_rng","_law_most"] []:=F.bindsN fun _ _ _ _ _ _ us hl=>match us,hl with | [_,_],_=>rfl
def sp__law_word:DSp:=fun ds M Q E=>∃ (i:Nat) (m:Int),ds=[.mt i,.int m]/\RgAt M i/\0 < m/\m<=60/\∀ (cs:List Nat) (M':Mem),RgTo M i M'->cs≠[]->(cs.length:Int)<=m->(∀ c∈cs,c∈("abcdefghijklmnopqrstuvwxyz":Str).cps.toList)->Q (.str (SX.S cs)) M'
abbrev Cal__law_word (P:Program) (w:World) (K:PySem.W.Frag) (mg:Str->Option Value) (base:Heap) (Tb:List (Addr×Str)):=Cal P w K mg base Tb "_law_word" "_law_word" s__law_word [] [] 3 ["_law_rng","_law_most"] sp__law_word
theorem sc__law_errors:FnScope ["_law_x","_law_name_z","_law_found"] ["_law_x","_law_name_z"] (defScope s__law_errors):=⟨rfl,rfl,rfl,by decide +kernel,rfl,by decide +kernel,by decide +kernel⟩
abbrev F__law_errors (K:PySem.W.Frag) (f:Addr) (fd:FuncData):Prop:=FunD K "_law_errors" "_law_errors" (defArgs s__law_errors) (defBody s__law_errors) (defScope s__law_errors) [] [] f fd
theorem bd__law_errors {K:PySem.W.Frag} {f:Addr} {fd:FuncData} (F:F__law_errors K f fd):Binds K fd ["_law_x","_law_name_z"] []:=F.bindsN fun _ _ _ _ _ _ us hl=>match us,hl with | [_,_],_=>rfl
def errR (x:Int) (z:Str):List (Str×List (Str×D)):=[("InvalidFraction",[("code",.str "InvalidFraction")]),
 ("InvalidText",[("code",.str "InvalidText")]),
 ("InvalidCurve",[("code",.str "InvalidCurve")]),
 ("InvalidStep",[("code",.str "InvalidStep")]),
 ("InvalidParts",[("code",.str "InvalidParts")]),
 ("InvalidStretch",[("code",.str "InvalidStretch")]),
 ("UnlikeSlopes",[("code",.str "UnlikeSlopes")]),
 ("EqualSlopes",[("code",.str "EqualSlopes")]),
 ("TooMany",[("limit",.int x),("code",.str "TooMany")]),
 ("TooLong",[("limit",.int x),("code",.str "TooLong")]),
 ("InvalidPipeline",[("code",.str "InvalidPipeline")]),
 ("InvalidName",[("code",.str "InvalidName")]),
 ("InvalidCommand",[("code",.str "InvalidCommand")]),
 ("Cycle",[("name",.str z),("code",.str "Cycle")]),
 ("Full",[("limit",.int x),("code",.str "Full")]),
 ("InUse",[("by",.int x),("code",.str "InUse")]),
 ("Unfit",[("cause",.str "TooMany"),("name",.str z),("code",.str "Unfit")]),
 ("Stopped",[("cause",.str "Full"),("index",.int x),("code",.str "Stopped")]),
 ("InvalidLimit",[("limit",.int x),("code",.str "InvalidLimit")]),
 ("ParseError",[("line",.int x),("code",.str "ParseError")]),
 ("UnknownName",[("name",.str z),("code",.str "UnknownName")]),
 ("UnknownClaim",[("number",.int x),("code",.str "UnknownClaim")]),
 ("NothingLeft",[("code",.str "NothingLeft")])]
def exD (K:PySem.W.Frag) (r:Str×List (Str×D)):D:=Exn.d ⟨He.ga K r.1,r.2⟩
def sp__law_errors (K:PySem.W.Frag):DSp:=fun ds M Q E=>∃ (x:Int) (z:Str),ds=[.int x,.str z]/\Q (.lst ((errR x z).map (exD K))) M
abbrev Cal__law_errors (P:Program) (w:World) (K:PySem.W.Frag) (mg:Str->Option Value) (base:Heap) (Tb:List (Addr×Str)):=Cal P w K mg base Tb "_law_errors" "_law_errors" s__law_errors [] [] 3 ["_law_x","_law_name_z"] (sp__law_errors K)
theorem sc__law_same:FnScope ["_law_found","_law_due","_law_k"] ["_law_found","_law_due"] (defScope s__law_same):=⟨rfl,rfl,rfl,by decide +kernel,rfl,by decide +kernel,by decide +kernel⟩
abbrev F__law_same (K:PySem.W.Frag) (f:Addr) (fd:FuncData):Prop:=FunD K "_law_same" "_law_same" (defArgs s__law_same) (defBody s__law_same) (defScope s__law_same) [] [] f fd
theorem bd__law_same {K:PySem.W.Frag} {f:Addr} {fd:FuncData} (F:F__law_same K f fd):Binds K fd ["_law_found","_law_due"] []:=F.bindsN fun _ _ _ _ _ _ us hl=>match us,hl with | [_,_],_=>rfl
abbrev sp__law_same:DSp:=sm_sp 10
abbrev Cal__law_same (P:Program) (w:World) (K:PySem.W.Frag) (mg:Str->Option Value) (base:Heap) (Tb:List (Addr×Str)):=Cal P w K mg base Tb "_law_same" "_law_same" s__law_same [] [] 10 ["_law_found","_law_due"] sp__law_same
theorem sc__law_flags:FnScope ["_law_e","_law_found"] ["_law_e"] (defScope s__law_flags):=⟨rfl,rfl,rfl,by decide +kernel,rfl,by decide +kernel,by decide +kernel⟩
abbrev F__law_flags (K:PySem.W.Frag) (f:Addr) (fd:FuncData):Prop:=FunD K "_law_flags" "_law_flags" (defArgs s__law_flags) (defBody s__law_flags) (defScope s__law_flags) [] [] f fd
theorem bd__law_flags {K:PySem.W.Frag} {f:Addr} {fd:FuncData} (F:F__law_flags K f fd):Binds K fd ["_law_e"] []:=F.bindsN fun _ _ _ _ _ _ us hl=>match us,hl with | [_],_=>rfl
def sp__law_flags (K:PySem.W.Frag):DSp:=fun ds M Q E=>∃ (C:Addr) (ns:List Str) (xs:List D) (i:Nat),ds=[.exc C ns xs]/\i < 23/\ExI K C i/\Q (.lst ((List.range 23).map fun k=>D.bl (decide (k=i)))) M
abbrev Cal__law_flags (P:Program) (w:World) (K:PySem.W.Frag) (mg:Str->Option Value) (base:Heap) (Tb:List (Addr×Str)):=Cal P w K mg base Tb "_law_flags" "_law_flags" s__law_flags [] [] 1 ["_law_e"] (sp__law_flags K)
theorem sc__law_fields:FnScope ["_law_e"] ["_law_e"] (defScope s__law_fields):=⟨rfl,rfl,rfl,by decide +kernel,rfl,by decide +kernel,by decide +kernel⟩
abbrev F__law_fields (K:PySem.W.Frag) (f:Addr) (fd:FuncData):Prop:=FunD K "_law_fields" "_law_fields" (defArgs s__law_fields) (defBody s__law_fields) (defScope s__law_fields) [] [] f fd
theorem bd__law_fields {K:PySem.W.Frag} {f:Addr} {fd:FuncData} (F:F__law_fields K f fd):Binds K fd ["_law_e"] []:=F.bindsN fun _ _ _ _ _ _ us hl=>match us,hl with | [_],_=>rfl
abbrev sp__law_fields (K:PySem.W.Frag):DSp:=fieldsSp K
abbrev Cal__law_fields (P:Program) (w:World) (K:PySem.W.Frag) (mg:Str->Option Value) (base:Heap) (Tb:List (Addr×Str)):=Cal P w K mg base Tb "_law_fields" "_law_fields" s__law_fields [] [] 1 ["_law_e"] (sp__law_fields K)
theorem sc__law_by_name:FnScope ["_law_x","_law_name_z","_law_found"] ["_law_x","_law_name_z"] (defScope s__law_by_name):=⟨rfl,rfl,rfl,by decide +kernel,rfl,by decide +kernel,by decide +kernel⟩
abbrev F__law_by_name (K:PySem.W.Frag) (f:Addr) (fd:FuncData):Prop:=FunD K "_law_by_name" "_law_by_name" (defArgs s__law_by_name) (defBody s__law_by_name) (defScope s__law_by_name) [] [] f fd
theorem bd__law_by_name {K:PySem.W.Frag} {f:Addr} {fd:FuncData} (F:F__law_by_name K f fd):Binds K fd ["_law_x","_law_name_z"] []:=F.bindsN fun _ _ _ _ _ _ us hl=>match us,hl with | [_,_],_=>rfl
def sp__law_by_name (K:PySem.W.Frag):DSp:=fun ds M Q E=>∃ (x:Int) (z:Str),ds=[.int x,.str z]/\Q (.bl true) M
abbrev Cal__law_by_name (P:Program) (w:World) (K:PySem.W.Frag) (mg:Str->Option Value) (base:Heap) (Tb:List (Addr×Str)):=Cal P w K mg base Tb "_law_by_name" "_law_by_name" s__law_by_name [] [] 11 ["_law_x","_law_name_z"] (sp__law_by_name K)
theorem sc_law:FnScope ["_law_script","_law_rng","_law_x","_law_name_z","_law_words","_law_dues","_law_every","_law_at","_law_e","_law_k","_law_kin"] ["_law_script"] (defScope s_law):=⟨rfl,rfl,rfl,by decide +kernel,rfl,by decide +kernel,by decide +kernel⟩
abbrev F_law (K:PySem.W.Frag) (f:Addr) (fd:FuncData):Prop:=FunD K "law" "law" (defArgs s_law) (defBody s_law) (defScope s_law) [] [] f fd
abbrev sp_law:DSp:=lawSp0
theorem pus_bls (f:Nat->Bool):∀ l:List Nat,pus (l.map fun k=>D.bl (f k))=true
 | []=>rfl
 | _ :: l=>by
  show (true && pus (l.map fun k=>D.bl (f k)))=true
  rw [pus_bls f l];rfl
theorem dps_bls (f:Nat->Bool):∀ l:List Nat,dps (l.map fun k=>D.bl (f k))=0
 | []=>rfl
 | _ :: l=>by
  show max 0 (dps (l.map fun k=>D.bl (f k)))=0
  rw [dps_bls f l];rfl
theorem e_inI {j a b:Int} {M:Mem} {Q:VD} (h:Q (.bl (L2.inV (.int j) [.int a,.int b])) M):rInX false (.int j) (.tup [.int a,.int b]) M Q:=h
theorem in_2021:∀ j:Fin 23,decide (j.1=20\/j.1=21)=L2.inV (.int (j.1:Int)) [.int 20,.int 21]:=by decide +kernel
def dueR (x:Int) (z:Str):List (List D):=[[],
 [],
 [],
 [],
 [],
 [],
 [],
 [],
 [.int x],
 [.int x],
 [],
 [],
 [],
 [.str z],
 [.int x],
 [.int x],
 [.str z,.str "TooMany"],
 [.int x,.str "Full"],
 [.int x],
 [.int x],
 [.str z],
 [.int x],
 []]
end
def tfq:List (He.Defn×Str):=[]
def csL (K:PySem.W.Frag):List ((Addr×Addr)×Str):=tfq.map fun q=>(He.cT K q.1,q.2)
theorem ob_eq (s:PySem.W.SharedT):ob s=hk.obs s.abs:=He.obsZ_eq (HandSHeadRun.getT_eq s)
open PySem.W PySem.Calls in
theorem hold_of (hc:WalkO (view (OpenLaw.row PySem.Challenge.rw_roundmaps_k05_errors_and_their_families).prog [36]) ("_law_begin" :: "_law_draw" :: "_law_pick" :: "_law_same" :: "_law_fields" :: "_law_word" :: "_law_errors" :: "_law_by_name" :: "_law_flags" :: "RoundError" :: "InvalidFraction" :: "InvalidText" :: "InvalidCurve" :: "InvalidStep" :: "InvalidParts" :: "InvalidStretch" :: "UnlikeSlopes" :: "EqualSlopes" :: "TooMany" :: "TooLong" :: "InvalidPipeline" :: "InvalidName" :: "InvalidCommand" :: "Cycle" :: "Full" :: "InUse" :: "Unfit" :: "Stopped" :: "InvalidLimit" :: "ParseError" :: "Missing" :: "UnknownName" :: "UnknownClaim" :: "NothingLeft" :: []) (XL (view (OpenLaw.row PySem.Challenge.rw_roundmaps_k05_errors_and_their_families).prog [36]) []) hk.says (OpenLaw.row PySem.Challenge.rw_roundmaps_k05_errors_and_their_families).toRowW (HandSHeadRun.topDef (OpenLaw.row PySem.Challenge.rw_roundmaps_k05_errors_and_their_families).prog 36) [] fun f vs=>PySem.call f vs):PySem.Challenge.rw_roundmaps_k05_errors_and_their_families.Holds:=by
 w_on;o_law
 refine HandSHeadRun.head_any (r:=OpenLaw.row PySem.Challenge.rw_roundmaps_k05_errors_and_their_families) (q:=view (OpenLaw.row PySem.Challenge.rw_roundmaps_k05_errors_and_their_families).prog [36]) (H:=hk) (ob:=ob) (M:=8000) (loose:=("_law_begin" :: "_law_draw" :: "_law_pick" :: "_law_same" :: "_law_fields" :: "_law_word" :: "_law_errors" :: "_law_by_name" :: "_law_flags" :: "RoundError" :: "InvalidFraction" :: "InvalidText" :: "InvalidCurve" :: "InvalidStep" :: "InvalidParts" :: "InvalidStretch" :: "UnlikeSlopes" :: "EqualSlopes" :: "TooMany" :: "TooLong" :: "InvalidPipeline" :: "InvalidName" :: "InvalidCommand" :: "Cycle" :: "Full" :: "InUse" :: "Unfit" :: "Stopped" :: "InvalidLimit" :: "ParseError" :: "Missing" :: "UnknownName" :: "UnknownClaim" :: "NothingLeft" :: [])) (d:=HandSHeadRun.topDef (OpenLaw.row PySem.Challenge.rw_roundmaps_k05_errors_and_their_families).prog 36) (kwd:=[]) ob_eq
  (by kernel_rfl) (fun s=>by kernel_rfl) run (by kernel_rfl) (by kernel_rfl) (by kernel_rfl) (by rfl) (by first | assumption | decide +kernel) (by decide +kernel) ⟨rfl,rfl,rfl,rfl,rfl,by decide +kernel⟩ ?hw ?hc
 case hw=>w_witness2
 case hc=>exact hc
end LW
namespace LW
open PySem PySem.Spec PyProof.Rows L2 DL Mt
local macro_rules | `(tactic| walk_at "dlns") => `(tactic| (first | ((with_reducible apply e_var); · exact rfl) | ((with_reducible apply e_sz); · exact rfl) | ((with_reducible apply e_aug); · exact rfl) | ((with_reducible apply e_arg); (· exact rfl); (· exact rfl)) | ((with_reducible apply e_ix); (· first | exact seq_at (by assumption) | exact rfl); (· exact rfl)) | ((with_reducible apply e_fldC); · exact rfl) | ((with_reducible apply e_fldo); · exact rfl) | ((with_reducible apply e_isiK); · exact rfl) | ((with_reducible apply e_ixpt); · exact rfl) | ((with_reducible apply e_ixar); · exact rfl) | with_reducible refine e_cls ?_ | with_reducible refine e_ix0t ?_ | with_reducible refine e_star1 ?_ | with_reducible refine e_star1l ?_ | with_reducible refine e_star2l ?_ | ((with_reducible apply e_mhit); (· exact rfl)) | ((with_reducible apply e_mmiss); (· exact rfl)) | with_reducible refine e_istup ?_ | with_reducible refine e_isstr ?_ | ((with_reducible apply e_isi); · exact rfl) | with_reducible refine e_add ?_ | with_reducible refine e_sub ?_ | ((with_reducible apply e_subc); (· assumption); (· exact rfl)) | with_reducible refine e_ift ?_ | with_reducible refine e_iff ?_ | ((with_reducible apply e_ht); · exact rfl) | ((with_reducible apply e_htl); · exact rfl) | with_reducible refine e_htq ?_ | with_reducible refine e_htpt ?_ | with_reducible refine e_eqi ?_ | ((with_reducible apply e_len); · first | exact seq_at (by assumption) | exact rfl) | with_reducible refine e_eqs ?_ | with_reducible refine e_eqq ?_ | with_reducible refine e_neq ?_ | with_reducible refine e_isrfC ?_ | with_reducible refine e_isCC ?_ | with_reducible refine e_min2 ?_ | with_reducible refine pts_l ?_ | with_reducible refine e_max2 ?_ | with_reducible refine e_neq0 ?_ | with_reducible refine e_eq0 ?_ | ((with_reducible apply e_int); · first | with_reducible assumption | with_reducible exact nz (by decide) | with_reducible exact mok_r (by decide) (by decide) | with_reducible exact mok_l (by decide) (by decide) | with_reducible exact cdx_d (by decide) | with_reducible exact cpow (by decide) (by decide) (by omega) (by omega)) | with_reducible refine e_nei ?_ | with_reducible refine e_isc ?_ | ((with_reducible apply e_cono); · exact rfl) | with_reducible refine e_fmt ?_ | with_reducible refine e_isB ?_ | with_reducible refine e_isnotB ?_ | with_reducible refine e_inO ?_ | with_reducible refine e_blq ?_ | ((with_reducible apply e_conC); · exact rfl) | with_reducible refine e_htar ?_ | with_reducible refine e_abs ?_ | with_reducible refine e_tpl ?_ | with_reducible refine e_tpt ?_ | with_reducible refine e_lsl ?_ | with_reducible refine e_lst' ?_ | with_reducible refine e_slnil ?_ | with_reducible refine e_fzl ?_ | with_reducible refine e_isrf ?_ | ((with_reducible apply e_eqO); · exact rfl) | ((with_reducible apply e_neO); · exact rfl) | ((with_reducible apply e_eqOo); · first | exact rfl | (rw [kind_obj]; rfl)) | ((with_reducible apply e_neOo); · first | exact rfl | (rw [kind_obj]; rfl)) | ((with_reducible apply e_eqQs); · exact rfl) | ((with_reducible apply e_neQs); · exact rfl) | with_reducible refine e_join0 ?_ | with_reducible refine e_js0 ?_ | with_reducible refine e_js1 ?_ | with_reducible refine e_nes ?_ | with_reducible refine e_tyS ?_ | with_reducible refine e_sls (by assumption) ?_ | with_reducible refine e_chain ?_ | with_reducible refine e_dchain ?_ | with_reducible refine e_in ?_ | with_reducible refine e_zip2 ?_ | with_reducible refine e_zip3 ?_ | with_reducible refine e_lenS (by assumption) ?_ | ((with_reducible apply e_lenOn); · exact rfl) | with_reducible refine e_dn ?_ | with_reducible refine e_int1 ?_ | with_reducible refine e_int2 ?_ | with_reducible refine e_ib ?_ | with_reducible refine e_ii ?_ | with_reducible refine e_is ?_ | with_reducible refine e_isn ?_ | with_reducible refine e_eqb ?_ | with_reducible refine e_neb ?_ | with_reducible refine e_rg1 ?_ | with_reducible refine isi_l (by assumption) ?_ | with_reducible refine isi_t (by assumption) ?_ | with_reducible refine isi_lt (by assumption) ?_ | with_reducible refine isi_b (by assumption) ?_ | with_reducible refine isi_i (by assumption) ?_ | with_reducible refine isi_s (by assumption) ?_))
local macro_rules | `(tactic| walk_at "S") => `(tactic| ((first | with_reducible refine e_seq ?_ | walk_at "dlns"); (try (with_reducible conv => whnf))))
local macro_rules | `(tactic| walk_at "R") => `(tactic| ((try (with_reducible conv => whnf)); repeat walk_at "S"))
local macro_rules | `(tactic| walk_at "r") => `(tactic| ((try (with_reducible conv => whnf)); repeat (walk_at "dlns"; (try (with_reducible conv => whnf)))))
local macro_rules | `(tactic| walk_at "A") => `(tactic| ((try (with_reducible conv => whnf)); repeat' ((first | with_reducible refine e_seq ?_ | walk_at "dlns" | refine ifd (fun _ => ?_) (fun _ => ?_) | refine ifn (fun _ => ?_) (fun _ => ?_) | refine ifb (fun _ => ?_) (fun _ => ?_)) <;> (try (with_reducible conv => whnf)))))
section
variable {P:Program} {w:World} {K:PySem.W.Frag} {mg:Str->Option Value} {base:Heap} {Tb:List (Addr×Str)}
theorem ok__law_begin {f:Addr} {fd:FuncData} (F:F__law_begin K f fd) (g_list:mg "list"=none):FnD P w K mg base Tb 1 f fd ["_law_script"] sp__law_begin:=by
 refine fnD_of _ F sc__law_begin (by rintro ds M Q E ⟨ns,rfl,_⟩;rfl) (fun cdv A outer s H EV hr=>(ds_cons (dp_set 1 sc__law_begin.nd dv_int)
 (ds_cons (dp_for PassesOwn.leaving rfl (di_seq (dv_slice (dv_var 0) do_none (do_some dv_int))) (dg_name 2 sc__law_begin.nd) (ds_one (dp_set 1 sc__law_begin.nd (dv_mod (dv_add (dv_add (dv_mul (dv_var 1) dv_int) (dv_mod (dv_var 2) dv_int)) dv_int) dv_int))))
 (ds_one (dp_ret (dv_lstM (da_cons (dv_callTy call_list_of ref_list (by rfl) g_list (by decide +kernel) (da_cons (dv_slice (dv_var 0) do_none (do_some dv_int)) da_nil)) (da_cons dv_int (da_cons dv_int (da_cons (dv_var 1) (da_cons dv_int da_nil))))))))))) ?_
 rintro ds M Q E hM hD ⟨ns,rfl,hQ⟩
 have hall:∀ d∈cutL (ns.map D.int) none (some 63),∃ n,d=D.int n:=fun d hd=>by
  have:=List.mem_of_mem_drop (List.mem_of_mem_take hd)
  obtain ⟨n,_,rfl⟩:=List.mem_map.mp this
  exact ⟨n,rfl⟩
 have hcut:cutL (ns.map D.int) none (some 63)=(cutL ns none (some 63)).map D.int:=by
  unfold cutL
  simp [List.map_drop,List.map_take]
 refine for_inv (fun ds rho M'=>(∀ d∈ds,∃ n,d=D.int n)/\M'=M/\∃ (s:Int) (c:Option D),rho=[some (.rol (ns.map D.int)),some (.int s),c]/\0<=s/\s < 2147483647) ?_ ?_ _ _ _ ⟨hall,rfl,3809,none,rfl,by decide,by decide⟩
 ·rintro d r rho M' N ⟨hd,rfl,s,c,rfl,h0,h1⟩ hN
  obtain ⟨n,rfl⟩:=hd _ List.mem_cons_self
  refine ⟨mok_r (by decide) (by decide),nz (by decide),nz (by decide),?_⟩
  refine hN _ _ ⟨fun d h=>hd d (List.mem_cons_of_mem _ h),rfl,_,_,rfl,?_⟩
  exact fmod_pos (by decide)
 ·rintro rho M' ⟨_,rfl,s,c,rfl,h0,h1⟩
  have r:=hQ ⟨cutL ns none (some 63),0,0,s,0⟩ ⟨Int.le_refl 0,Int.le_refl 0,h0,h1,Int.le_refl 0⟩
  refine ⟨by show 5<=sizeLine;decide,?_⟩
  rw [hcut]
  exact Cut.new hM (Rng.hb ⟨cutL ns none (some 63),0,0,s,0⟩ _) r
theorem ok__law_draw {f:Addr} {fd:FuncData} (F:F__law_draw K f fd) (g_len:mg "len"=none):FnD P w K mg base Tb 1 f fd ["_law_rng","_law_many"] sp__law_draw:=by
 refine fnD_of _ F sc__law_draw (by rintro ds M Q E ⟨i,m,rfl,_⟩;rfl) (fun cdv A outer s H EV hr=>(ds_cons (dp_if (dt_w (dw_and (dt_eq hr.units (dv_ix (dv_var 0) dv_int) dv_int) (dw_and1 (dt_lt (dv_ix (dv_var 0) dv_int) (dv_callB call_len ref_len (by rfl) g_len PySem.boot_len (da_cons (dv_ix (dv_var 0) dv_int) da_nil)))))) (ds_cons (dp_set 2 sc__law_draw.nd (dv_ix (dv_ix (dv_var 0) dv_int) (dv_ix (dv_var 0) dv_int)))
 (ds_cons (dp_asg (dv_add (dv_ix (dv_var 0) dv_int) dv_int) (dg_sub (dv_var 0) dv_int))
 (ds_one (dp_if (dt_ge (dv_var 2) (dv_pow dv_int dv_int)) (ds_one (dp_asg (dv_var 2) (dg_sub (dv_var 0) dv_int))) (ds_one (dp_asg (dv_mod (dv_add (dv_add (dv_mul (dv_ix (dv_var 0) dv_int) dv_int) (dv_mod (dv_var 2) dv_int)) dv_int) dv_int) (dg_sub (dv_var 0) dv_int))))))) ds_nil)
 (ds_cons (dp_if (dt_gt (dv_ix (dv_var 0) dv_int) dv_int) (ds_cons (dp_set 3 sc__law_draw.nd (dv_mod (dv_ix (dv_var 0) dv_int) (dv_var 1)))
 (ds_cons (dp_asg (dv_fdiv (dv_ix (dv_var 0) dv_int) (dv_var 1)) (dg_sub (dv_var 0) dv_int))
 (ds_one (dp_ret (dv_var 3))))) ds_nil)
 (ds_cons (dp_asg (dv_add (dv_ix (dv_var 0) dv_int) dv_int) (dg_sub (dv_var 0) dv_int))
 (ds_cons (dp_set 4 sc__law_draw.nd (dv_mod (dv_add (dv_ix (dv_var 0) dv_int) (dv_mul (dv_ix (dv_var 0) dv_int) dv_int)) dv_int))
 (ds_cons (dp_asg (dv_mod (dv_add (dv_add (dv_pow (dv_var 4) dv_int) (dv_mul dv_int (dv_var 4))) dv_int) dv_int) (dg_sub (dv_var 0) dv_int))
 (ds_one (dp_ret (dv_mod (dv_add (dv_fdiv (dv_ix (dv_var 0) dv_int) dv_int) (dv_mul (dv_mod (dv_ix (dv_var 0) dv_int) dv_int) dv_int)) (dv_var 1)))))))))) ?_
 rintro ds M Q E hM hD ⟨i,m,rfl,⟨r,hi,ok⟩,hm,hm2,hQ⟩
 have hl:i < M.length:=(List.getElem?_eq_some_iff.mp hi).1
 have nm:m≠0:=by omega
 have cm:CDivX m:=cdx_small hm hm2
 refine e_cut (fun rho M1=>∃ (r':Rng) (c:Option D),rho=[some (.mt i),some (.int m),c,none,none]/\r'.Ok/\M1=M.set i (some r'.mo)) ?_ ?_
 ·rintro rho M1 ⟨r',c,rfl,ok',e1⟩
  have h1:M1[i]?=some (some r'.mo):=by rw [e1,List.getElem?_set_self hl]
  unfold Rng.mo Rng.items at h1
  walk_at "R"
  refine ifd (fun hc=>?_) (fun hc=>?_)
  ·walk_at "R"
   intro M2 e2 h2
   walk_at "R"
   subst e1
   rw [List.set_set] at e2
   exact Cut.rg ⟨⟨r'.ns,r'.p,r'.c.fdiv m,r'.s,r'.k⟩,⟨ok'.p0,Int.fdiv_nonneg ok'.c0 (by omega),ok'.s0,ok'.s1,ok'.k0⟩,e2⟩ rfl hM (hQ _ _ ⟨⟨r'.ns,r'.p,r'.c.fdiv m,r'.s,r'.k⟩,⟨ok'.p0,Int.fdiv_nonneg ok'.c0 (by omega),ok'.s0,ok'.s1,ok'.k0⟩,e2⟩ (fmod_pos hm).1 (fmod_pos hm).2)
  ·walk_at "R"
   intro M2 e2 h2
   have b3:=fmod_pos (a:=r'.s+(r'.k+1) * 7927) (b:=2147483647) (by decide)
   walk_at "R"
   intro M3 e3 h3
   walk_at "R"
   have b4:=fmod_pos (a:=((r'.s+(r'.k+1) * 7927).fmod 2147483647 ^ (3:Int).toNat+30013 * (r'.s+(r'.k+1) * 7927).fmod 2147483647+1999)) (b:=2147483647) (by decide)
   subst e1
   rw [List.set_set] at e2
   rw [e2,List.set_set] at e3
   have q:RgTo M i M3:=⟨⟨r'.ns,r'.p,r'.c,_,r'.k+1⟩,⟨ok'.p0,ok'.c0,b4.1,b4.2,by have:=ok'.k0;show 0<=r'.k+1;omega⟩,e3⟩
   exact Cut.rg q rfl hM (hQ _ _ q (fmod_pos hm).1 (fmod_pos hm).2)
 ·intro N hN
  have h1:=hi
  unfold Rng.mo Rng.items at h1
  have hN':N [some (.mt i),some (.int m),none,none,none] M:=hN _ _ ⟨r,none,rfl,ok,(RgTo.same hi)⟩
  walk_at "R"
  refine ifd (fun hc=>?_) (fun hc=>hN')
  walk_at "R"
  refine ifd (fun hp=>?_) (fun hp=>hN')
  obtain ⟨x,hn,hx⟩:=at_ex ok.p0 hp
  obtain ⟨n,_,rfl⟩:=List.mem_map.mp hx
  walk_at "R"
  refine e_ix (d:=.lst _) rfl hn ?_
  walk_at "R"
  intro M2 e2 h2
  walk_at "R"
  refine ifd (fun hg=>?_) (fun hg=>?_)
  ·walk_at "R"
   intro M3 e3 h3
   refine hN _ _ ⟨⟨r.ns,r.p+1,n,r.s,r.k⟩,_,rfl,⟨?_,?_,ok.s0,ok.s1,ok.k0⟩,?_⟩
   ·have:=ok.p0;show 0<=r.p+1;omega
   ·exact Int.le_trans (by decide) hg
   ·rw [e3,e2,List.set_set];rfl
  ·walk_at "R"
   intro M3 e3 h3
   refine hN _ _ ⟨⟨r.ns,r.p+1,r.c,(r.s * 36217+n.fmod 2147483579+19).fmod 2147483647,r.k⟩,_,rfl,⟨?_,ok.c0,(fmod_pos (by decide)).1,(fmod_pos (by decide)).2,ok.k0⟩,?_⟩
   ·have:=ok.p0;show 0<=r.p+1;omega
   ·rw [e3,e2,List.set_set];rfl
theorem ok__law_pick {f:Addr} {fd:FuncData} (F:F__law_pick K f fd) (C__law_draw:Cal__law_draw P w K mg base Tb) (g_len:mg "len"=none):FnD P w K mg base Tb 2 f fd ["_law_rng","_law_some"] sp__law_pick:=by
 refine fnD_of _ F sc__law_pick (by rintro ds M Q E ⟨i,x,xs,rfl,_⟩;rfl) (fun cdv A outer s H EV hr=>(ds_one (dp_ret (dv_ix (dv_var 1) (dv_call C__law_draw.fn (hr.mono (by decide)) (by rfl) C__law_draw.mgx C__law_draw.F.kp (bd__law_draw C__law_draw.F) hxF (da_cons (dv_var 0) (da_cons (dv_callB call_len ref_len (by rfl) g_len PySem.boot_len (da_cons (dv_var 1) da_nil)) da_nil))))))) ?_
 rintro ds M Q E hM hD ⟨i,x,xs,rfl,ha,hx,h0,hz,hQ⟩
 have hhb:∀ d∈xs,d.hb M.length=true:=pk_hb hx (by have h:(_ && (_ && _))=true:=hD;simp only [Bool.and_eq_true] at h;exact h.2.1)
 have hlen:0 < xs.length:=List.length_pos_iff.mpr h0
 walk_at "R"
 refine pk_len hx ?_
 walk_at "R"
 refine ⟨i,xs.length,rfl,ha,by omega,Int.lt_of_le_of_lt (Int.ofNat_le.mpr hz) (by decide +kernel),fun k M' ht k0 k1=>?_⟩
 obtain ⟨d,hd,hm⟩:=at_ex k0 k1
 refine pk_ix hx hd ?_
 exact Cut.rg ht (hhb d hm) hM (hQ d M' ht hm)
theorem ok__law_word {f:Addr} {fd:FuncData} (F:F__law_word K f fd) (C__law_draw:Cal__law_draw P w K mg base Tb) (C__law_pick:Cal__law_pick P w K mg base Tb) (g_range:mg "range"=none):FnD P w K mg base Tb 3 f fd ["_law_rng","_law_most"] sp__law_word:=by
 refine fnD_of _ F sc__law_word (by rintro ds M Q E ⟨i,m,rfl,_⟩;rfl) (fun cdv A outer s H EV hr=>(ds_one (dp_ret (dv_bm PySem.F.plainAttrs_str PySem.F.slot_str_join PySem.F.type_str_join mt_join ref_join dv_str (da_cons (dv_lc rfl sc__law_word.nd (di_range1 (by rfl) g_range (da_cons (dv_add dv_int (dv_call C__law_draw.fn (hr.mono (by decide)) (by rfl) C__law_draw.mgx C__law_draw.F.kp (bd__law_draw C__law_draw.F) hxF (da_cons (dv_var 0) (da_cons (dv_var 1) da_nil)))) da_nil)) (blkOk_by (own:=[("_law_k",2)]) (N:=["_law_rng","_law_most","_law_k"]) (sc:=defScope s__law_word) (by decide +kernel)) (tgn_name (i:=2) (by decide)) (fun _ _ _ _ _=>pg_name (i:=2) sc__law_word.nd rfl (by first | exact Or.inl rfl | exact Or.inr rfl)) (fun _ _ _ _ _=>dts_nil) (fun _ _ _ _ _=>(dv_call C__law_pick.fn (hr.mono (by decide)) (by rfl) C__law_pick.mgx C__law_pick.F.kp (bd__law_pick C__law_pick.F) passL (da_cons (dv_var 0) (da_cons dv_str da_nil))))) da_nil))))) ?_
 rintro ds M Q E hM hD ⟨i,m,rfl,ha,m0,m1,hQ⟩
 have zl:sizeLine=16777216:=rfl
 walk_at "R"
 refine ⟨i,m,rfl,ha,m0,Int.lt_of_le_of_lt m1 (by decide +kernel),fun k M1 t1 k0 k1=>?_⟩
 walk_at "R"
 refine ⟨⟨by omega,by omega⟩,?_⟩
 obtain ⟨n,hn⟩:∃ n:Nat,1+k=((n+1:Nat):Int):=⟨k.toNat,by omega⟩
 rw [hn,Int.toNat_natCast]
 refine lc_range (fun j acc M'=>RgTo M i M'/\∃ cs:List Nat,acc=cs.map (fun c=>D.str ⟨#[c]⟩)/\cs.length=j/\∀ c∈cs,c∈("abcdefghijklmnopqrstuvwxyz":Str).cps.toList) ⟨t1,[],rfl,rfl,fun g hg=>nomatch hg⟩ ?_ ?_
 ·rintro j acc M2 N hj ⟨t2,cs,rfl,hl,hcs⟩ hN
  walk_at "R"
  refine ⟨i,_,_,rfl,t2.at ha,.inr ⟨_,rfl,by decide +kernel,rfl⟩,by decide +kernel,by decide +kernel,fun d M3 t3 hd=>?_⟩
  obtain ⟨c,hc,rfl⟩:=sign_ex hd
  refine ⟨by rw [List.length_map];omega,hN _ _ ⟨t2.trans t3,cs ++ [c],by rw [List.map_append];rfl,by rw [List.length_append,hl];rfl,fun x hx=>?_⟩⟩
  rcases List.mem_append.mp hx with hx | hx
  ·exact hcs x hx
  ·rw [List.mem_singleton.mp hx];exact hc
 ·rintro acc M2 ⟨t2,cs,rfl,hl,hcs⟩
  have e:(cs.map fun c=>D.str ⟨#[c]⟩)=(cs.map fun c=>(⟨#[c]⟩:Str)).map D.str:=by rw [List.map_map];rfl
  rw [e]
  walk_at "R"
  refine e_join (by rw [sum_ones,List.length_map];show cs.length+cs.length * 0<=_;omega) ?_
  rw [show Txt.join (Str.ofString "") (cs.map fun c=>(⟨#[c]⟩:Str))=SX.S cs from join_chars cs]
  exact Cut.rg t2 rfl hM (hQ cs M2 t2 (fun z=>by rw [z] at hl;cases hl) (by omega) hcs)
theorem ok__law_errors {f:Addr} {fd:FuncData} (F:F__law_errors K f fd) (V_InvalidStretch:VC_InvalidStretch P w K mg base) (V_InvalidParts:VC_InvalidParts P w K mg base) (V_InvalidStep:VC_InvalidStep P w K mg base) (V_InvalidCurve:VC_InvalidCurve P w K mg base) (V_InvalidText:VC_InvalidText P w K mg base) (V_InvalidFraction:VC_InvalidFraction P w K mg base) (V_InvalidName:VC_InvalidName P w K mg base) (V_InvalidPipeline:VC_InvalidPipeline P w K mg base) (V_TooLong:VC_TooLong P w K mg base) (V_TooMany:VC_TooMany P w K mg base) (V_EqualSlopes:VC_EqualSlopes P w K mg base) (V_UnlikeSlopes:VC_UnlikeSlopes P w K mg base) (V_Stopped:VC_Stopped P w K mg base) (V_Unfit:VC_Unfit P w K mg base) (V_InUse:VC_InUse P w K mg base) (V_Full:VC_Full P w K mg base) (V_Cycle:VC_Cycle P w K mg base) (V_InvalidCommand:VC_InvalidCommand P w K mg base) (V_NothingLeft:VC_NothingLeft P w K mg base) (V_UnknownClaim:VC_UnknownClaim P w K mg base) (V_UnknownName:VC_UnknownName P w K mg base) (V_ParseError:VC_ParseError P w K mg base) (V_InvalidLimit:VC_InvalidLimit P w K mg base) (k_InvalidStretch:CcD K mg "InvalidStretch" (.ref (He.ga K "InvalidStretch"))) (k_InvalidParts:CcD K mg "InvalidParts" (.ref (He.ga K "InvalidParts"))) (k_InvalidStep:CcD K mg "InvalidStep" (.ref (He.ga K "InvalidStep"))) (k_InvalidCurve:CcD K mg "InvalidCurve" (.ref (He.ga K "InvalidCurve"))) (k_InvalidText:CcD K mg "InvalidText" (.ref (He.ga K "InvalidText"))) (k_InvalidFraction:CcD K mg "InvalidFraction" (.ref (He.ga K "InvalidFraction"))) (k_InvalidName:CcD K mg "InvalidName" (.ref (He.ga K "InvalidName"))) (k_InvalidPipeline:CcD K mg "InvalidPipeline" (.ref (He.ga K "InvalidPipeline"))) (k_TooLong:CcD K mg "TooLong" (.ref (He.ga K "TooLong"))) (k_TooMany:CcD K mg "TooMany" (.ref (He.ga K "TooMany"))) (k_EqualSlopes:CcD K mg "EqualSlopes" (.ref (He.ga K "EqualSlopes"))) (k_UnlikeSlopes:CcD K mg "UnlikeSlopes" (.ref (He.ga K "UnlikeSlopes"))) (k_Stopped:CcD K mg "Stopped" (.ref (He.ga K "Stopped"))) (k_Unfit:CcD K mg "Unfit" (.ref (He.ga K "Unfit"))) (k_InUse:CcD K mg "InUse" (.ref (He.ga K "InUse"))) (k_Full:CcD K mg "Full" (.ref (He.ga K "Full"))) (k_Cycle:CcD K mg "Cycle" (.ref (He.ga K "Cycle"))) (k_InvalidCommand:CcD K mg "InvalidCommand" (.ref (He.ga K "InvalidCommand"))) (k_NothingLeft:CcD K mg "NothingLeft" (.ref (He.ga K "NothingLeft"))) (k_UnknownClaim:CcD K mg "UnknownClaim" (.ref (He.ga K "UnknownClaim"))) (k_UnknownName:CcD K mg "UnknownName" (.ref (He.ga K "UnknownName"))) (k_ParseError:CcD K mg "ParseError" (.ref (He.ga K "ParseError"))) (k_InvalidLimit:CcD K mg "InvalidLimit" (.ref (He.ga K "InvalidLimit"))):FnD P w K mg base Tb 3 f fd ["_law_x","_law_name_z"] (sp__law_errors K):=by
 refine fnD_of _ F sc__law_errors (by rintro ds M Q E ⟨x,z,rfl,_⟩;rfl) (fun cdv A outer s H EV hr=>(ds_cons (dp_set 2 sc__law_errors.nd (dv_lst (da_cons (dv_exv (is:=[]) V_InvalidFraction (dv_gl k_InvalidFraction (by rfl)) (hr.mono (by decide)) (kb_InvalidFractionu_initu_1_ V_InvalidFraction.F) hxN (dak0 dk_nil)) (da_cons (dv_exv (is:=[]) V_InvalidText (dv_gl k_InvalidText (by rfl)) (hr.mono (by decide)) (kb_InvalidTextu_initu_1_ V_InvalidText.F) hxN (dak0 dk_nil)) (da_cons (dv_exv (is:=[]) V_InvalidCurve (dv_gl k_InvalidCurve (by rfl)) (hr.mono (by decide)) (kb_InvalidCurveu_initu_1_ V_InvalidCurve.F) hxN (dak0 dk_nil)) (da_cons (dv_exv (is:=[]) V_InvalidStep (dv_gl k_InvalidStep (by rfl)) (hr.mono (by decide)) (kb_InvalidStepu_initu_1_ V_InvalidStep.F) hxN (dak0 dk_nil)) (da_cons (dv_exv (is:=[]) V_InvalidParts (dv_gl k_InvalidParts (by rfl)) (hr.mono (by decide)) (kb_InvalidPartsu_initu_1_ V_InvalidParts.F) hxN (dak0 dk_nil)) (da_cons (dv_exv (is:=[]) V_InvalidStretch (dv_gl k_InvalidStretch (by rfl)) (hr.mono (by decide)) (kb_InvalidStretchu_initu_1_ V_InvalidStretch.F) hxN (dak0 dk_nil)) da_nil))))))))
 (ds_cons (dp_set 2 sc__law_errors.nd (dv_add (dv_var 2) (dv_lst (da_cons (dv_exv (is:=[]) V_UnlikeSlopes (dv_gl k_UnlikeSlopes (by rfl)) (hr.mono (by decide)) (kb_UnlikeSlopesu_initu_1_ V_UnlikeSlopes.F) hxN (dak0 dk_nil)) (da_cons (dv_exv (is:=[]) V_EqualSlopes (dv_gl k_EqualSlopes (by rfl)) (hr.mono (by decide)) (kb_EqualSlopesu_initu_1_ V_EqualSlopes.F) hxN (dak0 dk_nil)) (da_cons (dv_exv (is:=[0]) V_TooMany (dv_gl k_TooMany (by rfl)) (hr.mono (by decide)) (kb_TooManyu_initu_2_ V_TooMany.F) hxN (dak (da_cons (dv_var 0) da_nil) dk_nil)) (da_cons (dv_exv (is:=[0]) V_TooLong (dv_gl k_TooLong (by rfl)) (hr.mono (by decide)) (kb_TooLongu_initu_2_ V_TooLong.F) hxN (dak (da_cons (dv_var 0) da_nil) dk_nil)) (da_cons (dv_exv (is:=[]) V_InvalidPipeline (dv_gl k_InvalidPipeline (by rfl)) (hr.mono (by decide)) (kb_InvalidPipelineu_initu_1_ V_InvalidPipeline.F) hxN (dak0 dk_nil)) (da_cons (dv_exv (is:=[]) V_InvalidName (dv_gl k_InvalidName (by rfl)) (hr.mono (by decide)) (kb_InvalidNameu_initu_1_ V_InvalidName.F) hxN (dak0 dk_nil)) da_nil)))))))))
 (ds_cons (dp_set 2 sc__law_errors.nd (dv_add (dv_var 2) (dv_lst (da_cons (dv_exv (is:=[]) V_InvalidCommand (dv_gl k_InvalidCommand (by rfl)) (hr.mono (by decide)) (kb_InvalidCommandu_initu_1_ V_InvalidCommand.F) hxN (dak0 dk_nil)) (da_cons (dv_exv (is:=[0]) V_Cycle (dv_gl k_Cycle (by rfl)) (hr.mono (by decide)) (kb_Cycleu_initu_2_ V_Cycle.F) hxN (dak (da_cons (dv_var 1) da_nil) dk_nil)) (da_cons (dv_exv (is:=[0]) V_Full (dv_gl k_Full (by rfl)) (hr.mono (by decide)) (kb_Fullu_initu_2_ V_Full.F) hxN (dak (da_cons (dv_var 0) da_nil) dk_nil)) (da_cons (dv_exv (is:=[0]) V_InUse (dv_gl k_InUse (by rfl)) (hr.mono (by decide)) (kb_InUseu_initu_2_ V_InUse.F) hxN (dak (da_cons (dv_var 0) da_nil) dk_nil)) (da_cons (dv_exv (is:=[0,1]) V_Unfit (dv_gl k_Unfit (by rfl)) (hr.mono (by decide)) (kb_Unfitu_initu_3_ V_Unfit.F) hxN (dak (da_cons (dv_var 1) (da_cons dv_str da_nil)) dk_nil)) (da_cons (dv_exv (is:=[0,1]) V_Stopped (dv_gl k_Stopped (by rfl)) (hr.mono (by decide)) (kb_Stoppedu_initu_3_ V_Stopped.F) hxN (dak (da_cons (dv_var 0) (da_cons dv_str da_nil)) dk_nil)) da_nil)))))))))
 (ds_one (dp_ret (dv_add (dv_var 2) (dv_lst (da_cons (dv_exv (is:=[0]) V_InvalidLimit (dv_gl k_InvalidLimit (by rfl)) (hr.mono (by decide)) (kb_InvalidLimitu_initu_2_ V_InvalidLimit.F) hxN (dak (da_cons (dv_var 0) da_nil) dk_nil)) (da_cons (dv_exv (is:=[0]) V_ParseError (dv_gl k_ParseError (by rfl)) (hr.mono (by decide)) (kb_ParseErroru_initu_2_ V_ParseError.F) hxN (dak (da_cons (dv_var 0) da_nil) dk_nil)) (da_cons (dv_exv (is:=[0]) V_UnknownName (dv_gl k_UnknownName (by rfl)) (hr.mono (by decide)) (kb_UnknownNameu_initu_2_ V_UnknownName.F) hxN (dak (da_cons (dv_var 1) da_nil) dk_nil)) (da_cons (dv_exv (is:=[0]) V_UnknownClaim (dv_gl k_UnknownClaim (by rfl)) (hr.mono (by decide)) (kb_UnknownClaimu_initu_2_ V_UnknownClaim.F) hxN (dak (da_cons (dv_var 0) da_nil) dk_nil)) (da_cons (dv_exv (is:=[]) V_NothingLeft (dv_gl k_NothingLeft (by rfl)) (hr.mono (by decide)) (kb_NothingLeftu_initu_1_ V_NothingLeft.F) hxN (dak0 dk_nil)) da_nil))))))))))))) ?_
 rintro ds M Q E hM hD ⟨x,z,rfl,hQ⟩
 have zl:sizeLine=16777216:=rfl
 walk_at "R"
 refine ⟨rfl,?_⟩
 walk_at "R"
 refine ⟨rfl,rfl,by decide,by decide,rfl,?_⟩
 walk_at "R"
 refine ⟨rfl,?_⟩
 walk_at "R"
 refine ⟨rfl,rfl,by decide,by decide,rfl,?_⟩
 walk_at "R"
 refine ⟨rfl,?_⟩
 walk_at "R"
 refine ⟨rfl,rfl,by decide,by decide,rfl,?_⟩
 walk_at "R"
 refine ⟨rfl,?_⟩
 walk_at "R"
 refine ⟨rfl,rfl,by decide,by decide,rfl,?_⟩
 walk_at "R"
 refine ⟨rfl,?_⟩
 walk_at "R"
 refine ⟨rfl,rfl,by decide,by decide,rfl,?_⟩
 walk_at "R"
 refine ⟨rfl,?_⟩
 walk_at "R"
 refine ⟨rfl,rfl,by decide,by decide,rfl,?_⟩
 walk_at "R"
 refine ⟨rfl,?_⟩
 walk_at "R"
 refine ⟨rfl,rfl,by decide,by decide,rfl,?_⟩
 walk_at "R"
 refine ⟨rfl,?_⟩
 walk_at "R"
 refine ⟨rfl,rfl,by decide,by decide,rfl,?_⟩
 walk_at "R"
 refine ⟨rfl,?_⟩
 walk_at "R"
 refine ⟨rfl,rfl,by decide,by decide,rfl,?_⟩
 walk_at "R"
 refine ⟨rfl,?_⟩
 walk_at "R"
 refine ⟨rfl,rfl,by decide,by decide,rfl,?_⟩
 walk_at "R"
 refine ⟨rfl,?_⟩
 walk_at "R"
 refine ⟨rfl,rfl,by decide,by decide,rfl,?_⟩
 walk_at "R"
 refine ⟨rfl,?_⟩
 walk_at "R"
 refine ⟨rfl,rfl,by decide,by decide,rfl,?_⟩
 walk_at "R"
 refine e_addl (Nat.le_of_ble_eq_true rfl) ?_
 walk_at "R"
 refine ⟨rfl,?_⟩
 walk_at "R"
 refine ⟨rfl,rfl,by decide,by decide,rfl,?_⟩
 walk_at "R"
 refine ⟨rfl,?_⟩
 walk_at "R"
 refine ⟨rfl,rfl,by decide,by decide,rfl,?_⟩
 walk_at "R"
 refine ⟨rfl,?_⟩
 walk_at "R"
 refine ⟨rfl,rfl,by decide,by decide,rfl,?_⟩
 walk_at "R"
 refine ⟨rfl,?_⟩
 walk_at "R"
 refine ⟨rfl,rfl,by decide,by decide,rfl,?_⟩
 walk_at "R"
 refine ⟨rfl,?_⟩
 walk_at "R"
 refine ⟨rfl,rfl,by decide,by decide,rfl,?_⟩
 walk_at "R"
 refine ⟨rfl,?_⟩
 walk_at "R"
 refine ⟨rfl,rfl,by decide,by decide,rfl,?_⟩
 walk_at "R"
 refine e_addl (Nat.le_of_ble_eq_true rfl) ?_
 walk_at "R"
 refine ⟨rfl,?_⟩
 walk_at "R"
 refine ⟨rfl,rfl,by decide,by decide,rfl,?_⟩
 walk_at "R"
 refine ⟨rfl,?_⟩
 walk_at "R"
 refine ⟨rfl,rfl,by decide,by decide,rfl,?_⟩
 walk_at "R"
 refine ⟨rfl,?_⟩
 walk_at "R"
 refine ⟨rfl,rfl,by decide,by decide,rfl,?_⟩
 walk_at "R"
 refine ⟨rfl,?_⟩
 walk_at "R"
 refine ⟨rfl,rfl,by decide,by decide,rfl,?_⟩
 walk_at "R"
 refine ⟨rfl,?_⟩
 walk_at "R"
 refine ⟨rfl,rfl,by decide,by decide,rfl,?_⟩
 walk_at "R"
 refine e_addl (Nat.le_of_ble_eq_true rfl) ?_
 exact Cut.same (by rfl) hM hQ
theorem sm_all {f:Addr} {fd:FuncData} (F:F__law_same K f fd) (mgs:mg "_law_same"=some (.ref f)) (g_tuple:mg "tuple"=none) (g_list:mg "list"=none) (g_isinstance:mg "isinstance"=none) (g_range:mg "range"=none) (g_len:mg "len"=none) (g_all:mg "all"=none) (g_int:mg "int"=none) (g_bool:mg "bool"=none) (g_str:mg "str"=none):∀ n,FnD P w K mg base Tb n f fd ["_law_found","_law_due"] (sm_sp n)
 | 0=>⟨⟨fun vs H Q E h=>by obtain ⟨_,_,_,_,_,_,_,⟨_,_,_,_,_,h,_⟩,_⟩:=h;omega,fun A outer s H args us vs Q E hr he hb hv h=>by obtain ⟨_,_,_,_,_,_,_,⟨_,_,_,_,_,h,_⟩,_⟩:=h;omega⟩⟩
 | n+1=>by
  have C__law_same:Cal P w K mg base Tb "_law_same" "_law_same" s__law_same [] [] n ["_law_found","_law_due"] (sm_sp n):=⟨f,fd,F,sm_all F mgs g_tuple g_list g_isinstance g_range g_len g_all g_int g_bool g_str n,mgs⟩
  refine fnD_of _ F sc__law_same (by rintro ds M Q E ⟨f,d,rfl,_⟩;rfl) (fun cdv A outer s H EV hr=>(ds_cons (dp_if (dt_tru (dv_callB (call_isi.or (call_isiT.or call_isiK)) ref_isi (by rfl) g_isinstance (by decide +kernel) (da_cons (dv_var 1) (da_cons (dv_tup (da_cons (dv_bltn (by rfl) g_list (v:=.ty "list") (d:=.ty "list") DL.boot_list rfl fun _ _ _=>rfl) (da_cons (dv_bltn (by rfl) g_tuple (v:=.ty "tuple") (d:=.ty "tuple") DL.boot_tuple rfl fun _ _ _=>rfl) da_nil))) da_nil)))) (ds_cons (dp_if (dt_w (dw_or (dt_ne hr.units (dv_callB (call_isi.or (call_isiT.or call_isiK)) ref_isi (by rfl) g_isinstance (by decide +kernel) (da_cons (dv_var 0) (da_cons (dv_bltn (by rfl) g_list (v:=.ty "list") (d:=.ty "list") DL.boot_list rfl fun _ _ _=>rfl) da_nil))) (dv_callB (call_isi.or (call_isiT.or call_isiK)) ref_isi (by rfl) g_isinstance (by decide +kernel) (da_cons (dv_var 1) (da_cons (dv_bltn (by rfl) g_list (v:=.ty "list") (d:=.ty "list") DL.boot_list rfl fun _ _ _=>rfl) da_nil)))) (dw_or1 (dt_ne hr.units (dv_callB (call_isi.or (call_isiT.or call_isiK)) ref_isi (by rfl) g_isinstance (by decide +kernel) (da_cons (dv_var 0) (da_cons (dv_bltn (by rfl) g_tuple (v:=.ty "tuple") (d:=.ty "tuple") DL.boot_tuple rfl fun _ _ _=>rfl) da_nil))) (dv_callB (call_isi.or (call_isiT.or call_isiK)) ref_isi (by rfl) g_isinstance (by decide +kernel) (da_cons (dv_var 1) (da_cons (dv_bltn (by rfl) g_tuple (v:=.ty "tuple") (d:=.ty "tuple") DL.boot_tuple rfl fun _ _ _=>rfl) da_nil))))))) (ds_one (dp_ret dv_bl)) ds_nil)
 (ds_one (dp_ret (dv_and (dv_eq hr.units (dv_callB call_len ref_len (by rfl) g_len PySem.boot_len (da_cons (dv_var 0) da_nil)) (dv_callB call_len ref_len (by rfl) g_len PySem.boot_len (da_cons (dv_var 1) da_nil))) (dv_one (dv_callB (cr_all rfl) ref_all (by rfl) g_all (by decide +kernel) (da_cons (dv_lc rfl sc__law_same.nd (di_range1 (by rfl) g_range (da_cons (dv_callB call_len ref_len (by rfl) g_len PySem.boot_len (da_cons (dv_var 1) da_nil)) da_nil)) (blkOk_by (own:=[("_law_k",2)]) (N:=["_law_found","_law_due","_law_k"]) (sc:=defScope s__law_same) (by decide +kernel)) (tgn_name (i:=2) (by decide)) (fun _ _ _ _ _=>pg_name (i:=2) sc__law_same.nd rfl (by first | exact Or.inl rfl | exact Or.inr rfl)) (fun _ _ _ _ _=>dts_nil) (fun _ _ _ _ _=>(dv_call C__law_same.fn (hr.mono (Nat.le_refl _)) (by rfl) C__law_same.mgx C__law_same.F.kp (bd__law_same C__law_same.F) passL (da_cons (dv_ix (dv_var 0) (dv_var 2)) (da_cons (dv_ix (dv_var 1) (dv_var 2)) da_nil))))) da_nil))))))) ds_nil)
 (ds_cons (dp_if (dt_w (dw_or (dt_is (dv_var 1) dv_non) (dw_or1 (dt_is (dv_var 0) dv_non)))) (ds_one (dp_ret (dv_and (dv_is (dv_var 0) dv_non) (dv_one (dv_is (dv_var 1) dv_non))))) ds_nil)
 (ds_cons (dp_if (dt_w (dw_or (dt_ne hr.units (dv_callB (call_isi.or (call_isiT.or call_isiK)) ref_isi (by rfl) g_isinstance (by decide +kernel) (da_cons (dv_var 1) (da_cons (dv_bltn (by rfl) g_bool (v:=.ty "bool") (d:=.ty "bool") DL.boot_bool rfl fun _ _ _=>rfl) da_nil))) (dv_callB (call_isi.or (call_isiT.or call_isiK)) ref_isi (by rfl) g_isinstance (by decide +kernel) (da_cons (dv_var 0) (da_cons (dv_bltn (by rfl) g_bool (v:=.ty "bool") (d:=.ty "bool") DL.boot_bool rfl fun _ _ _=>rfl) da_nil)))) (dw_or1 (dt_ne hr.units (dv_callB (call_isi.or (call_isiT.or call_isiK)) ref_isi (by rfl) g_isinstance (by decide +kernel) (da_cons (dv_var 1) (da_cons (dv_bltn (by rfl) g_int (v:=.ty "int") (d:=.ty "int") DL.boot_int rfl fun _ _ _=>rfl) da_nil))) (dv_callB (call_isi.or (call_isiT.or call_isiK)) ref_isi (by rfl) g_isinstance (by decide +kernel) (da_cons (dv_var 0) (da_cons (dv_bltn (by rfl) g_int (v:=.ty "int") (d:=.ty "int") DL.boot_int rfl fun _ _ _=>rfl) da_nil))))))) (ds_one (dp_ret dv_bl)) ds_nil)
 (ds_one (dp_ret (dv_and (dv_eq hr.units (dv_callB (call_isi.or (call_isiT.or call_isiK)) ref_isi (by rfl) g_isinstance (by decide +kernel) (da_cons (dv_var 1) (da_cons (dv_bltn (by rfl) g_str (v:=.ty "str") (d:=.ty "str") DL.boot_str rfl fun _ _ _=>rfl) da_nil))) (dv_callB (call_isi.or (call_isiT.or call_isiK)) ref_isi (by rfl) g_isinstance (by decide +kernel) (da_cons (dv_var 0) (da_cons (dv_bltn (by rfl) g_str (v:=.ty "str") (d:=.ty "str") DL.boot_str rfl fun _ _ _=>rfl) da_nil)))) (dv_one (dv_eq hr.units (dv_var 0) (dv_var 1)))))))))) ?_
  rintro ds M Q E hM hD ⟨f,d,rfl,pf,pd,hdp,hQ⟩
  have fin:∀ b,smD f d=b->Cut M.length Q (.bl b) M:=fun b e=>Cut.same rfl hM (e ▸ hQ)
  walk_at "R"
  refine ifb (fun h0=>?_) (fun h0=>?_)
  ·walk_at "R"
   refine ifn (fun h1=>fin _ (sm_l h1)) (fun h1=>?_)
   walk_at "R"
   refine ifn (fun h2=>fin _ (sm_t h2)) (fun h2=>?_)
   obtain ⟨xs,ys,sx,sy,px,py,lx,ly,ed,es⟩:=seq_case pf pd h0 h1 h2
   walk_at "R"
   refine e_len (sx _) ?_
   walk_at "R"
   refine e_len (sy _) ?_
   walk_at "R"
   refine ifd (fun hl=>?_) (fun hl=>fin _ ?_)
   ·have hl:xs.length=ys.length:=Int.ofNat.inj hl
    walk_at "R"
    refine e_len (sy _) ?_
    walk_at "R"
    have:sizeLine < 2 ^ 62:=by decide
    refine ⟨⟨by omega,Int.lt_of_le_of_lt (Int.ofNat_le.mpr ly) (by decide)⟩,?_⟩
    refine lc_range (fun j acc M'=>M'=M/\acc=((List.zipWith smD xs ys).take j).map D.bl) ⟨rfl,rfl⟩ ?_ ?_
    ·rintro j acc M' N hj ⟨rfl,rfl⟩ hN
     have hx:j < xs.length:=by omega
     walk_at "R"
     refine e_ix (sx _) (at_nat hx) ?_
     walk_at "R"
     refine e_ix (sy _) (at_nat hj) ?_
     walk_at "R"
     have e2:ys[j]?=some ys[j]:=List.getElem?_eq_getElem hj
     refine ⟨_,_,rfl,pus_at px (List.getElem?_eq_getElem hx),pus_at py e2,by have:=dps_at e2;omega,?_,hN _ _ ⟨rfl,?_⟩⟩
     ·simp;omega
     ·have hz:j < (List.zipWith smD xs ys).length:=by simp;omega
      rw [List.take_add_one,List.getElem?_eq_getElem hz]
      simp
    ·rintro acc M' ⟨rfl,rfl⟩
     walk_at "R"
     refine e_all ?_
     rw [List.take_of_length_le (by simp;omega),<- smDs_zip hl]
     exact fin _ es
   ·rw [es]
    cases q:smDs xs ys with
    | false=>rfl
    | true=>exact absurd (by rw [smDs_len q]) hl
  ·walk_at "R"
   refine ifb (fun n2=>?_) (fun n2=>?_)
   ·walk_at "R"
    refine ifb (fun n1=>?_) (fun n1=>fin _ (sm_n3 n1 n2))
    walk_at "R"
    rw [n2]
    exact fin _ (sm_n1 n1 n2)
   ·walk_at "R"
    refine ifb (fun n1=>?_) (fun n1=>?_)
    ·walk_at "R"
     refine ifb (fun n3=>?_) (fun n3=>absurd n3 (by rw [n1];decide))
     walk_at "R"
     rw [n2]
     exact fin _ (sm_n2 n1 n2)
    ·walk_at "R"
     refine ifn (fun h1=>fin _ (sm_b h1)) (fun h1=>?_)
     walk_at "R"
     refine ifn (fun h2=>fin _ (sm_i h2)) (fun h2=>?_)
     walk_at "R"
     refine ifd (fun h3=>?_) (fun h3=>fin _ (sm_s h3))
     walk_at "R"
     exact sm_eq pf pd h0 n1 n2 h1 h2 h3 (fin _ rfl)
theorem ok__law_same {f:Addr} {fd:FuncData} (F:F__law_same K f fd) (mgs:mg "_law_same"=some (.ref f)) (g_tuple:mg "tuple"=none) (g_list:mg "list"=none) (g_isinstance:mg "isinstance"=none) (g_range:mg "range"=none) (g_len:mg "len"=none) (g_all:mg "all"=none) (g_int:mg "int"=none) (g_bool:mg "bool"=none) (g_str:mg "str"=none):FnD P w K mg base Tb 10 f fd ["_law_found","_law_due"] sp__law_same:=by
 exact sm_all F mgs g_tuple g_list g_isinstance g_range g_len g_all g_int g_bool g_str 10
theorem ok__law_flags {f:Addr} {fd:FuncData} (F:F__law_flags K f fd) (g_isinstance:mg "isinstance"=none) (k_InvalidCurve:CcD K mg "InvalidCurve" (.ref (He.ga K "InvalidCurve"))) (k_InvalidText:CcD K mg "InvalidText" (.ref (He.ga K "InvalidText"))) (k_InvalidFraction:CcD K mg "InvalidFraction" (.ref (He.ga K "InvalidFraction"))) (k_InvalidStretch:CcD K mg "InvalidStretch" (.ref (He.ga K "InvalidStretch"))) (k_InvalidParts:CcD K mg "InvalidParts" (.ref (He.ga K "InvalidParts"))) (k_InvalidStep:CcD K mg "InvalidStep" (.ref (He.ga K "InvalidStep"))) (k_TooMany:CcD K mg "TooMany" (.ref (He.ga K "TooMany"))) (k_EqualSlopes:CcD K mg "EqualSlopes" (.ref (He.ga K "EqualSlopes"))) (k_UnlikeSlopes:CcD K mg "UnlikeSlopes" (.ref (He.ga K "UnlikeSlopes"))) (k_InvalidName:CcD K mg "InvalidName" (.ref (He.ga K "InvalidName"))) (k_InvalidPipeline:CcD K mg "InvalidPipeline" (.ref (He.ga K "InvalidPipeline"))) (k_TooLong:CcD K mg "TooLong" (.ref (He.ga K "TooLong"))) (k_Full:CcD K mg "Full" (.ref (He.ga K "Full"))) (k_Cycle:CcD K mg "Cycle" (.ref (He.ga K "Cycle"))) (k_InvalidCommand:CcD K mg "InvalidCommand" (.ref (He.ga K "InvalidCommand"))) (k_Stopped:CcD K mg "Stopped" (.ref (He.ga K "Stopped"))) (k_Unfit:CcD K mg "Unfit" (.ref (He.ga K "Unfit"))) (k_InUse:CcD K mg "InUse" (.ref (He.ga K "InUse"))) (k_UnknownName:CcD K mg "UnknownName" (.ref (He.ga K "UnknownName"))) (k_ParseError:CcD K mg "ParseError" (.ref (He.ga K "ParseError"))) (k_InvalidLimit:CcD K mg "InvalidLimit" (.ref (He.ga K "InvalidLimit"))) (k_NothingLeft:CcD K mg "NothingLeft" (.ref (He.ga K "NothingLeft"))) (k_UnknownClaim:CcD K mg "UnknownClaim" (.ref (He.ga K "UnknownClaim"))):FnD P w K mg base Tb 1 f fd ["_law_e"] (sp__law_flags K):=by
 refine fnD_of _ F sc__law_flags (by rintro ds M Q E ⟨C,ns,xs,i,rfl,_⟩;rfl) (fun cdv A outer s H EV hr=>(ds_cons (dp_set 1 sc__law_flags.nd (dv_lst (da_cons (dv_callB call_isiE (ref_isX K) (by rfl) g_isinstance (by decide +kernel) (da_cons (dv_var 0) (da_cons (dv_gl k_InvalidFraction (by rfl)) da_nil))) (da_cons (dv_callB call_isiE (ref_isX K) (by rfl) g_isinstance (by decide +kernel) (da_cons (dv_var 0) (da_cons (dv_gl k_InvalidText (by rfl)) da_nil))) (da_cons (dv_callB call_isiE (ref_isX K) (by rfl) g_isinstance (by decide +kernel) (da_cons (dv_var 0) (da_cons (dv_gl k_InvalidCurve (by rfl)) da_nil))) da_nil)))))
 (ds_cons (dp_set 1 sc__law_flags.nd (dv_add (dv_var 1) (dv_lst (da_cons (dv_callB call_isiE (ref_isX K) (by rfl) g_isinstance (by decide +kernel) (da_cons (dv_var 0) (da_cons (dv_gl k_InvalidStep (by rfl)) da_nil))) (da_cons (dv_callB call_isiE (ref_isX K) (by rfl) g_isinstance (by decide +kernel) (da_cons (dv_var 0) (da_cons (dv_gl k_InvalidParts (by rfl)) da_nil))) (da_cons (dv_callB call_isiE (ref_isX K) (by rfl) g_isinstance (by decide +kernel) (da_cons (dv_var 0) (da_cons (dv_gl k_InvalidStretch (by rfl)) da_nil))) da_nil))))))
 (ds_cons (dp_set 1 sc__law_flags.nd (dv_add (dv_var 1) (dv_lst (da_cons (dv_callB call_isiE (ref_isX K) (by rfl) g_isinstance (by decide +kernel) (da_cons (dv_var 0) (da_cons (dv_gl k_UnlikeSlopes (by rfl)) da_nil))) (da_cons (dv_callB call_isiE (ref_isX K) (by rfl) g_isinstance (by decide +kernel) (da_cons (dv_var 0) (da_cons (dv_gl k_EqualSlopes (by rfl)) da_nil))) (da_cons (dv_callB call_isiE (ref_isX K) (by rfl) g_isinstance (by decide +kernel) (da_cons (dv_var 0) (da_cons (dv_gl k_TooMany (by rfl)) da_nil))) da_nil))))))
 (ds_cons (dp_set 1 sc__law_flags.nd (dv_add (dv_var 1) (dv_lst (da_cons (dv_callB call_isiE (ref_isX K) (by rfl) g_isinstance (by decide +kernel) (da_cons (dv_var 0) (da_cons (dv_gl k_TooLong (by rfl)) da_nil))) (da_cons (dv_callB call_isiE (ref_isX K) (by rfl) g_isinstance (by decide +kernel) (da_cons (dv_var 0) (da_cons (dv_gl k_InvalidPipeline (by rfl)) da_nil))) (da_cons (dv_callB call_isiE (ref_isX K) (by rfl) g_isinstance (by decide +kernel) (da_cons (dv_var 0) (da_cons (dv_gl k_InvalidName (by rfl)) da_nil))) da_nil))))))
 (ds_cons (dp_set 1 sc__law_flags.nd (dv_add (dv_var 1) (dv_lst (da_cons (dv_callB call_isiE (ref_isX K) (by rfl) g_isinstance (by decide +kernel) (da_cons (dv_var 0) (da_cons (dv_gl k_InvalidCommand (by rfl)) da_nil))) (da_cons (dv_callB call_isiE (ref_isX K) (by rfl) g_isinstance (by decide +kernel) (da_cons (dv_var 0) (da_cons (dv_gl k_Cycle (by rfl)) da_nil))) (da_cons (dv_callB call_isiE (ref_isX K) (by rfl) g_isinstance (by decide +kernel) (da_cons (dv_var 0) (da_cons (dv_gl k_Full (by rfl)) da_nil))) da_nil))))))
 (ds_cons (dp_set 1 sc__law_flags.nd (dv_add (dv_var 1) (dv_lst (da_cons (dv_callB call_isiE (ref_isX K) (by rfl) g_isinstance (by decide +kernel) (da_cons (dv_var 0) (da_cons (dv_gl k_InUse (by rfl)) da_nil))) (da_cons (dv_callB call_isiE (ref_isX K) (by rfl) g_isinstance (by decide +kernel) (da_cons (dv_var 0) (da_cons (dv_gl k_Unfit (by rfl)) da_nil))) (da_cons (dv_callB call_isiE (ref_isX K) (by rfl) g_isinstance (by decide +kernel) (da_cons (dv_var 0) (da_cons (dv_gl k_Stopped (by rfl)) da_nil))) da_nil))))))
 (ds_cons (dp_set 1 sc__law_flags.nd (dv_add (dv_var 1) (dv_lst (da_cons (dv_callB call_isiE (ref_isX K) (by rfl) g_isinstance (by decide +kernel) (da_cons (dv_var 0) (da_cons (dv_gl k_InvalidLimit (by rfl)) da_nil))) (da_cons (dv_callB call_isiE (ref_isX K) (by rfl) g_isinstance (by decide +kernel) (da_cons (dv_var 0) (da_cons (dv_gl k_ParseError (by rfl)) da_nil))) (da_cons (dv_callB call_isiE (ref_isX K) (by rfl) g_isinstance (by decide +kernel) (da_cons (dv_var 0) (da_cons (dv_gl k_UnknownName (by rfl)) da_nil))) da_nil))))))
 (ds_one (dp_ret (dv_add (dv_var 1) (dv_lst (da_cons (dv_callB call_isiE (ref_isX K) (by rfl) g_isinstance (by decide +kernel) (da_cons (dv_var 0) (da_cons (dv_gl k_UnknownClaim (by rfl)) da_nil))) (da_cons (dv_callB call_isiE (ref_isX K) (by rfl) g_isinstance (by decide +kernel) (da_cons (dv_var 0) (da_cons (dv_gl k_NothingLeft (by rfl)) da_nil))) da_nil)))))))))))))) ?_
 rintro ds M Q E hM hD ⟨C,ns,xs,i,rfl,hi,T,hQ⟩
 have zl:sizeLine=16777216:=rfl
 walk_at "R"
 refine ⟨_,_,rfl,T.xi,T.nth 0 (by decide),?_⟩
 walk_at "R"
 refine ⟨_,_,rfl,T.xi,T.nth 1 (by decide),?_⟩
 walk_at "R"
 refine ⟨_,_,rfl,T.xi,T.nth 2 (by decide),?_⟩
 walk_at "R"
 refine ⟨_,_,rfl,T.xi,T.nth 3 (by decide),?_⟩
 walk_at "R"
 refine ⟨_,_,rfl,T.xi,T.nth 4 (by decide),?_⟩
 walk_at "R"
 refine ⟨_,_,rfl,T.xi,T.nth 5 (by decide),?_⟩
 walk_at "R"
 refine e_addl (Nat.le_of_ble_eq_true rfl) ?_
 walk_at "R"
 refine ⟨_,_,rfl,T.xi,T.nth 6 (by decide),?_⟩
 walk_at "R"
 refine ⟨_,_,rfl,T.xi,T.nth 7 (by decide),?_⟩
 walk_at "R"
 refine ⟨_,_,rfl,T.xi,T.nth 8 (by decide),?_⟩
 walk_at "R"
 refine e_addl (Nat.le_of_ble_eq_true rfl) ?_
 walk_at "R"
 refine ⟨_,_,rfl,T.xi,T.nth 9 (by decide),?_⟩
 walk_at "R"
 refine ⟨_,_,rfl,T.xi,T.nth 10 (by decide),?_⟩
 walk_at "R"
 refine ⟨_,_,rfl,T.xi,T.nth 11 (by decide),?_⟩
 walk_at "R"
 refine e_addl (Nat.le_of_ble_eq_true rfl) ?_
 walk_at "R"
 refine ⟨_,_,rfl,T.xi,T.nth 12 (by decide),?_⟩
 walk_at "R"
 refine ⟨_,_,rfl,T.xi,T.nth 13 (by decide),?_⟩
 walk_at "R"
 refine ⟨_,_,rfl,T.xi,T.nth 14 (by decide),?_⟩
 walk_at "R"
 refine e_addl (Nat.le_of_ble_eq_true rfl) ?_
 walk_at "R"
 refine ⟨_,_,rfl,T.xi,T.nth 15 (by decide),?_⟩
 walk_at "R"
 refine ⟨_,_,rfl,T.xi,T.nth 16 (by decide),?_⟩
 walk_at "R"
 refine ⟨_,_,rfl,T.xi,T.nth 17 (by decide),?_⟩
 walk_at "R"
 refine e_addl (Nat.le_of_ble_eq_true rfl) ?_
 walk_at "R"
 refine ⟨_,_,rfl,T.xi,T.nth 18 (by decide),?_⟩
 walk_at "R"
 refine ⟨_,_,rfl,T.xi,T.nth 19 (by decide),?_⟩
 walk_at "R"
 refine ⟨_,_,rfl,T.xi,T.nth 20 (by decide),?_⟩
 walk_at "R"
 refine e_addl (Nat.le_of_ble_eq_true rfl) ?_
 walk_at "R"
 refine ⟨_,_,rfl,T.xi,T.nth 21 (by decide),?_⟩
 walk_at "R"
 refine ⟨_,_,rfl,T.xi,T.nth 22 (by decide),?_⟩
 walk_at "R"
 refine e_addl (Nat.le_of_ble_eq_true rfl) ?_
 exact Cut.same rfl hM hQ
theorem ok__law_fields {f:Addr} {fd:FuncData} (F:F__law_fields K f fd)  : FnD P w K mg base Tb 1 f fd ["_law_e"] (sp__law_fields K):=by
 refine fnD_of _ F sc__law_fields (by rintro ds M Q E ⟨C,ns,xs,z,ys,rfl,_⟩;rfl) (fun cdv A outer s H EV hr=>(ds_cons (dp_if (dt_in (dv_xf K (dv_var 0)) (dv_tup (da_cons dv_str (da_cons dv_str (da_cons dv_str (da_cons dv_str da_nil)))))) (ds_one (dp_ret (dv_tup (da_cons (dv_xf K (dv_var 0)) da_nil)))) ds_nil)
 (ds_cons (dp_if (dt_in (dv_xf K (dv_var 0)) (dv_tup (da_cons dv_str (da_cons dv_str da_nil)))) (ds_one (dp_ret (dv_tup (da_cons (dv_xf K (dv_var 0)) da_nil)))) ds_nil)
 (ds_cons (dp_if (dt_eq hr.units (dv_xf K (dv_var 0)) dv_str) (ds_one (dp_ret (dv_tup (da_cons (dv_xf K (dv_var 0)) (da_cons (dv_xf K (dv_var 0)) da_nil))))) ds_nil)
 (ds_cons (dp_if (dt_eq hr.units (dv_xf K (dv_var 0)) dv_str) (ds_one (dp_ret (dv_tup (da_cons (dv_xf K (dv_var 0)) (da_cons (dv_xf K (dv_var 0)) da_nil))))) ds_nil)
 (ds_cons (dp_if (dt_eq hr.units (dv_xf K (dv_var 0)) dv_str) (ds_one (dp_ret (dv_tup (da_cons (dv_xf K (dv_var 0)) da_nil)))) ds_nil)
 (ds_cons (dp_if (dt_eq hr.units (dv_xf K (dv_var 0)) dv_str) (ds_one (dp_ret (dv_tup (da_cons (dv_xf K (dv_var 0)) da_nil)))) ds_nil)
 (ds_one (dp_ret (dv_if (dt_eq hr.units (dv_xf K (dv_var 0)) dv_str) (dv_tup (da_cons (dv_xf K (dv_var 0)) da_nil)) (dv_tup da_nil))))))))))) ?_
 rintro ds M Q E hM hD ⟨C,ns,xs,z,ys,rfl,T,hn,hz,hy,hQ⟩
 have hc:=hn "code" List.mem_cons_self
 have hys:D.hbs M.length ys=true->Cut M.length Q (.tup ys) M:=fun h=>Cut.same h hM hQ
 have hlk:∀ (f:Str) (d:D),(ns.zip xs).lookup f=some d->d.hb M.length=true:=fun f d e=>zip_hb (by have h:(_ && _)=true:=hD;simp only [Bool.and_eq_true] at h;exact h.1) e
 unfold xfields at hy hn
 change dSeq _ _ _ _ [some (.exc C ns xs)] M
 walk_at "R"
 with_reducible refine e_xf0 T hc hz ?_
 walk_at "R"
 refine ifb (fun h=>?_) (fun h=>?_)
 ·try simp only [Bool.false_eq_true,if_false] at h
  rw [if_pos h] at hy hn
  obtain ⟨y,e,rfl⟩:=map1 hy
  walk_at "R"
  with_reducible refine e_xf0 T (hn _ (by simp)) e ?_
  walk_at "R"
  exact hys (by show (_ && true)=true;rw [hlk _ _ e];rfl)
 try simp only [Bool.false_eq_true,if_false] at h
 rw [if_neg (by rw [h];decide)] at hy hn
 walk_at "R"
 with_reducible refine e_xf0 T hc hz ?_
 walk_at "R"
 refine ifb (fun h=>?_) (fun h=>?_)
 ·try simp only [Bool.false_eq_true,if_false] at h
  rw [if_pos h] at hy hn
  obtain ⟨y,e,rfl⟩:=map1 hy
  walk_at "R"
  with_reducible refine e_xf0 T (hn _ (by simp)) e ?_
  walk_at "R"
  exact hys (by show (_ && true)=true;rw [hlk _ _ e];rfl)
 try simp only [Bool.false_eq_true,if_false] at h
 rw [if_neg (by rw [h];decide)] at hy hn
 walk_at "R"
 with_reducible refine e_xf0 T hc hz ?_
 walk_at "R"
 refine ifb (fun h=>?_) (fun h=>?_)
 ·try simp only [Bool.false_eq_true,if_false] at h
  rw [if_pos h] at hy hn
  obtain ⟨y,w,e,e2,rfl⟩:=map2 hy
  walk_at "R"
  with_reducible refine e_xf0 T (hn _ (by simp)) e ?_
  walk_at "R"
  with_reducible refine e_xf0 T (hn _ (by simp)) e2 ?_
  walk_at "R"
  exact hys (by show (_ && (_ && true))=true;rw [hlk _ _ e,hlk _ _ e2];rfl)
 try simp only [Bool.false_eq_true,if_false] at h
 rw [if_neg (by rw [h];decide)] at hy hn
 walk_at "R"
 with_reducible refine e_xf0 T hc hz ?_
 walk_at "R"
 refine ifb (fun h=>?_) (fun h=>?_)
 ·try simp only [Bool.false_eq_true,if_false] at h
  rw [if_pos h] at hy hn
  obtain ⟨y,w,e,e2,rfl⟩:=map2 hy
  walk_at "R"
  with_reducible refine e_xf0 T (hn _ (by simp)) e ?_
  walk_at "R"
  with_reducible refine e_xf0 T (hn _ (by simp)) e2 ?_
  walk_at "R"
  exact hys (by show (_ && (_ && true))=true;rw [hlk _ _ e,hlk _ _ e2];rfl)
 try simp only [Bool.false_eq_true,if_false] at h
 rw [if_neg (by rw [h];decide)] at hy hn
 walk_at "R"
 with_reducible refine e_xf0 T hc hz ?_
 walk_at "R"
 refine ifb (fun h=>?_) (fun h=>?_)
 ·try simp only [Bool.false_eq_true,if_false] at h
  rw [if_pos h] at hy hn
  obtain ⟨y,e,rfl⟩:=map1 hy
  walk_at "R"
  with_reducible refine e_xf0 T (hn _ (by simp)) e ?_
  walk_at "R"
  exact hys (by show (_ && true)=true;rw [hlk _ _ e];rfl)
 try simp only [Bool.false_eq_true,if_false] at h
 rw [if_neg (by rw [h];decide)] at hy hn
 walk_at "R"
 with_reducible refine e_xf0 T hc hz ?_
 walk_at "R"
 refine ifb (fun h=>?_) (fun h=>?_)
 ·try simp only [Bool.false_eq_true,if_false] at h
  rw [if_pos h] at hy hn
  obtain ⟨y,e,rfl⟩:=map1 hy
  walk_at "R"
  with_reducible refine e_xf0 T (hn _ (by simp)) e ?_
  walk_at "R"
  exact hys (by show (_ && true)=true;rw [hlk _ _ e];rfl)
 try simp only [Bool.false_eq_true,if_false] at h
 rw [if_neg (by rw [h];decide)] at hy hn
 walk_at "R"
 with_reducible refine e_xf0 T hc hz ?_
 walk_at "R"
 refine ifb (fun h=>?_) (fun h=>?_)
 ·try simp only [Bool.false_eq_true,if_false] at h
  rw [if_pos h] at hy hn
  obtain ⟨y,e,rfl⟩:=map1 hy
  walk_at "R"
  with_reducible refine e_xf0 T (hn _ (by simp)) e ?_
  walk_at "R"
  exact hys (by show (_ && true)=true;rw [hlk _ _ e];rfl)
 try simp only [Bool.false_eq_true,if_false] at h
 rw [if_neg (by rw [h];decide)] at hy hn
 cases map0 hy
 walk_at "R"
 exact hys rfl
theorem ok__law_by_name {f:Addr} {fd:FuncData} (F:F__law_by_name K f fd) (C__law_same:Cal__law_same P w K mg base Tb) (V_InUse:VC_InUse P w K mg base) (V_Full:VC_Full P w K mg base) (V_Cycle:VC_Cycle P w K mg base) (V_TooLong:VC_TooLong P w K mg base) (V_TooMany:VC_TooMany P w K mg base) (V_InvalidLimit:VC_InvalidLimit P w K mg base) (V_Stopped:VC_Stopped P w K mg base) (V_Unfit:VC_Unfit P w K mg base) (V_UnknownClaim:VC_UnknownClaim P w K mg base) (V_UnknownName:VC_UnknownName P w K mg base) (V_ParseError:VC_ParseError P w K mg base) (k_InUse:CcD K mg "InUse" (.ref (He.ga K "InUse"))) (k_Full:CcD K mg "Full" (.ref (He.ga K "Full"))) (k_Cycle:CcD K mg "Cycle" (.ref (He.ga K "Cycle"))) (k_TooLong:CcD K mg "TooLong" (.ref (He.ga K "TooLong"))) (k_TooMany:CcD K mg "TooMany" (.ref (He.ga K "TooMany"))) (k_InvalidLimit:CcD K mg "InvalidLimit" (.ref (He.ga K "InvalidLimit"))) (k_Stopped:CcD K mg "Stopped" (.ref (He.ga K "Stopped"))) (k_Unfit:CcD K mg "Unfit" (.ref (He.ga K "Unfit"))) (k_UnknownClaim:CcD K mg "UnknownClaim" (.ref (He.ga K "UnknownClaim"))) (k_UnknownName:CcD K mg "UnknownName" (.ref (He.ga K "UnknownName"))) (k_ParseError:CcD K mg "ParseError" (.ref (He.ga K "ParseError"))) (Z_TooMany:XFa K "TooMany" ["limit"]) (Z_TooLong:XFa K "TooLong" ["limit"]) (Z_Cycle:XFa K "Cycle" ["name"]) (Z_Full:XFa K "Full" ["limit"]) (Z_InUse:XFa K "InUse" ["by"]) (Z_Unfit:XFa K "Unfit" ["name","cause"]) (Z_Stopped:XFa K "Stopped" ["index","cause"]) (Z_InvalidLimit:XFa K "InvalidLimit" ["limit"]) (Z_ParseError:XFa K "ParseError" ["line"]) (Z_UnknownName:XFa K "UnknownName" ["name"]) (Z_UnknownClaim:XFa K "UnknownClaim" ["number"]):FnD P w K mg base Tb 11 f fd ["_law_x","_law_name_z"] (sp__law_by_name K):=by
 refine fnD_of _ F sc__law_by_name (by rintro ds M Q E ⟨x,z,rfl,_⟩;rfl) (fun cdv A outer s H EV hr=>(ds_cons (dp_set 2 sc__law_by_name.nd (dv_lst (da_cons (dv_xv K (dv_exv (is:=[0]) V_TooMany (dv_gl k_TooMany (by rfl)) (hr.mono (by decide)) (kb_TooManyu_initu_1_limit V_TooMany.F) hxN (dak0 (dk_cons (dv_var 0) dk_nil)))) (da_cons (dv_xv K (dv_exv (is:=[0]) V_TooLong (dv_gl k_TooLong (by rfl)) (hr.mono (by decide)) (kb_TooLongu_initu_1_limit V_TooLong.F) hxN (dak0 (dk_cons (dv_var 0) dk_nil)))) (da_cons (dv_xv K (dv_exv (is:=[0]) V_Cycle (dv_gl k_Cycle (by rfl)) (hr.mono (by decide)) (kb_Cycleu_initu_1_name V_Cycle.F) hxN (dak0 (dk_cons (dv_var 1) dk_nil)))) (da_cons (dv_xv K (dv_exv (is:=[0]) V_Full (dv_gl k_Full (by rfl)) (hr.mono (by decide)) (kb_Fullu_initu_1_limit V_Full.F) hxN (dak0 (dk_cons (dv_var 0) dk_nil)))) (da_cons (dv_xv K (dv_exv (is:=[0]) V_InUse (dv_gl k_InUse (by rfl)) (hr.mono (by decide)) (kb_InUseu_initu_1_by V_InUse.F) hxN (dak0 (dk_cons (dv_var 0) dk_nil)))) da_nil)))))))
 (ds_cons (dp_set 2 sc__law_by_name.nd (dv_add (dv_var 2) (dv_lst (da_cons (dv_xv K (dv_exv (is:=[1,0]) V_Unfit (dv_gl k_Unfit (by rfl)) (hr.mono (by decide)) (kb_Unfitu_initu_1_cause_name V_Unfit.F) hxN (dak0 (dk_cons dv_str (dk_cons (dv_var 1) dk_nil))))) (da_cons (dv_xv K (dv_exv (is:=[1,0]) V_Stopped (dv_gl k_Stopped (by rfl)) (hr.mono (by decide)) (kb_Stoppedu_initu_1_cause_index V_Stopped.F) hxN (dak0 (dk_cons dv_str (dk_cons (dv_var 0) dk_nil))))) (da_cons (dv_xv K (dv_exv (is:=[0]) V_InvalidLimit (dv_gl k_InvalidLimit (by rfl)) (hr.mono (by decide)) (kb_InvalidLimitu_initu_1_limit V_InvalidLimit.F) hxN (dak0 (dk_cons (dv_var 0) dk_nil)))) da_nil))))))
 (ds_cons (dp_set 2 sc__law_by_name.nd (dv_add (dv_var 2) (dv_lst (da_cons (dv_xv K (dv_exv (is:=[0]) V_ParseError (dv_gl k_ParseError (by rfl)) (hr.mono (by decide)) (kb_ParseErroru_initu_1_line V_ParseError.F) hxN (dak0 (dk_cons (dv_var 0) dk_nil)))) (da_cons (dv_xv K (dv_exv (is:=[0]) V_UnknownName (dv_gl k_UnknownName (by rfl)) (hr.mono (by decide)) (kb_UnknownNameu_initu_1_name V_UnknownName.F) hxN (dak0 (dk_cons (dv_var 1) dk_nil)))) (da_cons (dv_xv K (dv_exv (is:=[0]) V_UnknownClaim (dv_gl k_UnknownClaim (by rfl)) (hr.mono (by decide)) (kb_UnknownClaimu_initu_1_number V_UnknownClaim.F) hxN (dak0 (dk_cons (dv_var 0) dk_nil)))) da_nil))))))
 (ds_one (dp_ret (dv_call C__law_same.fn (hr.mono (by decide)) (by rfl) C__law_same.mgx C__law_same.F.kp (bd__law_same C__law_same.F) hxF (da_cons (dv_var 2) (da_cons (dv_lst (da_cons (dv_var 0) (da_cons (dv_var 0) (da_cons (dv_var 1) (da_cons (dv_var 0) (da_cons (dv_var 0) (da_cons dv_str (da_cons (dv_var 0) (da_cons (dv_var 0) (da_cons (dv_var 0) (da_cons (dv_var 1) (da_cons (dv_var 0) da_nil)))))))))))) da_nil))))))))) ?_
 rintro ds M Q E hM hD ⟨x,z,rfl,hQ⟩
 have zl:sizeLine=16777216:=rfl
 walk_at "R"
 refine ⟨rfl,?_⟩
 walk_at "R"
 refine ⟨rfl,rfl,by decide,by decide,rfl,?_⟩
 refine e_xv Z_TooMany.xf (Z_TooMany.no "limit" (by simp)) lk_0 ?_
 walk_at "R"
 refine ⟨rfl,?_⟩
 walk_at "R"
 refine ⟨rfl,rfl,by decide,by decide,rfl,?_⟩
 refine e_xv Z_TooLong.xf (Z_TooLong.no "limit" (by simp)) lk_0 ?_
 walk_at "R"
 refine ⟨rfl,?_⟩
 walk_at "R"
 refine ⟨rfl,rfl,by decide,by decide,rfl,?_⟩
 refine e_xv Z_Cycle.xf (Z_Cycle.no "name" (by simp)) lk_0 ?_
 walk_at "R"
 refine ⟨rfl,?_⟩
 walk_at "R"
 refine ⟨rfl,rfl,by decide,by decide,rfl,?_⟩
 refine e_xv Z_Full.xf (Z_Full.no "limit" (by simp)) lk_0 ?_
 walk_at "R"
 refine ⟨rfl,?_⟩
 walk_at "R"
 refine ⟨rfl,rfl,by decide,by decide,rfl,?_⟩
 refine e_xv Z_InUse.xf (Z_InUse.no "by" (by simp)) lk_0 ?_
 walk_at "R"
 refine ⟨rfl,?_⟩
 walk_at "R"
 refine ⟨rfl,rfl,by decide,by decide,rfl,?_⟩
 refine e_xv Z_Unfit.xf (Z_Unfit.no "cause" (by simp)) lk_0 ?_
 walk_at "R"
 refine ⟨rfl,?_⟩
 walk_at "R"
 refine ⟨rfl,rfl,by decide,by decide,rfl,?_⟩
 refine e_xv Z_Stopped.xf (Z_Stopped.no "index" (by simp)) (lk_1 (by decide +kernel)) ?_
 walk_at "R"
 refine ⟨rfl,?_⟩
 walk_at "R"
 refine ⟨rfl,rfl,by decide,by decide,rfl,?_⟩
 refine e_xv Z_InvalidLimit.xf (Z_InvalidLimit.no "limit" (by simp)) lk_0 ?_
 walk_at "R"
 refine e_addl (Nat.le_of_ble_eq_true rfl) ?_
 walk_at "R"
 refine ⟨rfl,?_⟩
 walk_at "R"
 refine ⟨rfl,rfl,by decide,by decide,rfl,?_⟩
 refine e_xv Z_ParseError.xf (Z_ParseError.no "line" (by simp)) lk_0 ?_
 walk_at "R"
 refine ⟨rfl,?_⟩
 walk_at "R"
 refine ⟨rfl,rfl,by decide,by decide,rfl,?_⟩
 refine e_xv Z_UnknownName.xf (Z_UnknownName.no "name" (by simp)) lk_0 ?_
 walk_at "R"
 refine ⟨rfl,?_⟩
 walk_at "R"
 refine ⟨rfl,rfl,by decide,by decide,rfl,?_⟩
 refine e_xv Z_UnknownClaim.xf (Z_UnknownClaim.no "number" (by simp)) lk_0 ?_
 walk_at "R"
 refine e_addl (Nat.le_of_ble_eq_true rfl) ?_
 walk_at "R"
 have hp:pu (.lst [.int x,.int x,.str z,.int x,.int x,.str "TooLong",.int x,.int x,.int x,.str z,.int x])=true:=by
  simp only [pu,pus,zl]
  simp
 refine e_smr (f:=.lst [.int x,.int x,.str z,.int x,.int x,.str "TooLong",.int x,.int x,.int x,.str z,.int x]) hp (Nat.le_of_ble_eq_true rfl) ?_
 exact Cut.same rfl hM hQ
theorem ok_law {f:Addr} {fd:FuncData} (F:F_law K f fd) (C__law_begin:Cal__law_begin P w K mg base Tb) (C__law_word:Cal__law_word P w K mg base Tb) (C__law_draw:Cal__law_draw P w K mg base Tb) (C__law_errors:Cal__law_errors P w K mg base Tb) (C__law_same:Cal__law_same P w K mg base Tb) (C__law_flags:Cal__law_flags P w K mg base Tb) (C__law_fields:Cal__law_fields P w K mg base Tb) (C__law_by_name:Cal__law_by_name P w K mg base Tb) (g_range:mg "range"=none) (g_isinstance:mg "isinstance"=none) (g_IndexError:mg "IndexError"=none) (g_ValueError:mg "ValueError"=none) (g_LookupError:mg "LookupError"=none) (Y_InvalidFraction:ExI K (He.ga K "InvalidFraction") 0) (Y_InvalidText:ExI K (He.ga K "InvalidText") 1) (Y_InvalidCurve:ExI K (He.ga K "InvalidCurve") 2) (Y_InvalidStep:ExI K (He.ga K "InvalidStep") 3) (Y_InvalidParts:ExI K (He.ga K "InvalidParts") 4) (Y_InvalidStretch:ExI K (He.ga K "InvalidStretch") 5) (Y_UnlikeSlopes:ExI K (He.ga K "UnlikeSlopes") 6) (Y_EqualSlopes:ExI K (He.ga K "EqualSlopes") 7) (Y_TooMany:ExI K (He.ga K "TooMany") 8) (Y_TooLong:ExI K (He.ga K "TooLong") 9) (Y_InvalidPipeline:ExI K (He.ga K "InvalidPipeline") 10) (Y_InvalidName:ExI K (He.ga K "InvalidName") 11) (Y_InvalidCommand:ExI K (He.ga K "InvalidCommand") 12) (Y_Cycle:ExI K (He.ga K "Cycle") 13) (Y_Full:ExI K (He.ga K "Full") 14) (Y_InUse:ExI K (He.ga K "InUse") 15) (Y_Unfit:ExI K (He.ga K "Unfit") 16) (Y_Stopped:ExI K (He.ga K "Stopped") 17) (Y_InvalidLimit:ExI K (He.ga K "InvalidLimit") 18) (Y_ParseError:ExI K (He.ga K "ParseError") 19) (Y_UnknownName:ExI K (He.ga K "UnknownName") 20) (Y_UnknownClaim:ExI K (He.ga K "UnknownClaim") 21) (Y_NothingLeft:ExI K (He.ga K "NothingLeft") 22) (k_Missing:CcD K mg "Missing" (.ref (He.ga K "Missing"))) (k_RoundError:CcD K mg "RoundError" (.ref (He.ga K "RoundError"))) (Z_InvalidFraction:XFa K "InvalidFraction" []) (Z_InvalidText:XFa K "InvalidText" []) (Z_InvalidCurve:XFa K "InvalidCurve" []) (Z_InvalidStep:XFa K "InvalidStep" []) (Z_InvalidParts:XFa K "InvalidParts" []) (Z_InvalidStretch:XFa K "InvalidStretch" []) (Z_UnlikeSlopes:XFa K "UnlikeSlopes" []) (Z_EqualSlopes:XFa K "EqualSlopes" []) (Z_TooMany:XFa K "TooMany" ["limit"]) (Z_TooLong:XFa K "TooLong" ["limit"]) (Z_InvalidPipeline:XFa K "InvalidPipeline" []) (Z_InvalidName:XFa K "InvalidName" []) (Z_InvalidCommand:XFa K "InvalidCommand" []) (Z_Cycle:XFa K "Cycle" ["name"]) (Z_Full:XFa K "Full" ["limit"]) (Z_InUse:XFa K "InUse" ["by"]) (Z_Unfit:XFa K "Unfit" ["name","cause"]) (Z_Stopped:XFa K "Stopped" ["index","cause"]) (Z_InvalidLimit:XFa K "InvalidLimit" ["limit"]) (Z_ParseError:XFa K "ParseError" ["line"]) (Z_UnknownName:XFa K "UnknownName" ["name"]) (Z_UnknownClaim:XFa K "UnknownClaim" ["number"]) (Z_NothingLeft:XFa K "NothingLeft" []):FnD P w K mg base Tb 12 f fd ["_law_script"] sp_law:=by
 refine fnD_of _ F sc_law (by rintro ds M Q E ⟨_,ns,_,rfl,_⟩;rfl) (fun cdv A outer s H EV hr=>(ds_cons (dp_set 1 sc_law.nd (dv_call C__law_begin.fn (hr.mono (by decide)) (by rfl) C__law_begin.mgx C__law_begin.F.kp (bd__law_begin C__law_begin.F) hxF (da_cons (dv_var 0) da_nil)))
 (ds_cons (dp_par 2 3 rfl sc_law.nd (da_cons (dv_call C__law_draw.fn (hr.mono (by decide)) (by rfl) C__law_draw.mgx C__law_draw.F.kp (bd__law_draw C__law_draw.F) hxF (da_cons (dv_var 1) (da_cons (dv_pow dv_int dv_int) da_nil))) (da_cons (dv_call C__law_word.fn (hr.mono (by decide)) (by rfl) C__law_word.mgx C__law_word.F.kp (bd__law_word C__law_word.F) hxF (da_cons (dv_var 1) (da_cons dv_int da_nil))) da_nil)) (by rfl))
 (ds_cons (dp_set 4 sc_law.nd (dv_lst (da_cons dv_str (da_cons dv_str (da_cons dv_str (da_cons dv_str (da_cons dv_str (da_cons dv_str da_nil))))))))
 (ds_cons (dp_set 4 sc_law.nd (dv_add (dv_var 4) (dv_lst (da_cons dv_str (da_cons dv_str (da_cons dv_str (da_cons dv_str (da_cons dv_str (da_cons dv_str da_nil)))))))))
 (ds_cons (dp_set 4 sc_law.nd (dv_add (dv_var 4) (dv_lst (da_cons dv_str (da_cons dv_str (da_cons dv_str (da_cons dv_str (da_cons dv_str (da_cons dv_str (da_cons dv_str (da_cons dv_str da_nil)))))))))))
 (ds_cons (dp_set 4 sc_law.nd (dv_add (dv_var 4) (dv_lst (da_cons dv_str (da_cons dv_str (da_cons dv_str da_nil))))))
 (ds_cons (dp_set 5 sc_law.nd (dv_add (dv_rep (dv_lst (da_cons (dv_tup da_nil) da_nil)) dv_int) (dv_lst (da_cons (dv_tup (da_cons (dv_var 2) da_nil)) (da_cons (dv_tup (da_cons (dv_var 2) da_nil)) (da_cons (dv_tup da_nil) (da_cons (dv_tup da_nil) (da_cons (dv_tup da_nil) (da_cons (dv_tup (da_cons (dv_var 3) da_nil)) (da_cons (dv_tup (da_cons (dv_var 2) da_nil)) (da_cons (dv_tup (da_cons (dv_var 2) da_nil)) (da_cons (dv_tup (da_cons (dv_var 3) (da_cons dv_str da_nil))) (da_cons (dv_tup (da_cons (dv_var 2) (da_cons dv_str da_nil))) (da_cons (dv_tup (da_cons (dv_var 2) da_nil)) (da_cons (dv_tup (da_cons (dv_var 2) da_nil)) da_nil)))))))))))))))
 (ds_cons (dp_set 5 sc_law.nd (dv_add (dv_var 5) (dv_lst (da_cons (dv_tup (da_cons (dv_var 3) da_nil)) (da_cons (dv_tup (da_cons (dv_var 2) da_nil)) (da_cons (dv_tup da_nil) da_nil))))))
 (ds_cons (dp_set 6 sc_law.nd (dv_call C__law_errors.fn (hr.mono (by decide)) (by rfl) C__law_errors.mgx C__law_errors.F.kp (bd__law_errors C__law_errors.F) hxF (da_cons (dv_var 2) (da_cons (dv_var 3) da_nil))))
 (ds_cons (dp_for PassesOwn.leaving rfl (di_range1 (by rfl) g_range (da_cons dv_int da_nil)) (dg_name 7 sc_law.nd) (ds_cons (dp_set 8 sc_law.nd (dv_ix (dv_var 6) (dv_var 7)))
 (ds_cons (dp_if (dt_w (dw_or (dt_not (dt_tru (dv_call C__law_same.fn (hr.mono (by decide)) (by rfl) C__law_same.mgx C__law_same.F.kp (bd__law_same C__law_same.F) hxF (da_cons (dv_call C__law_flags.fn (hr.mono (by decide)) (by rfl) C__law_flags.mgx C__law_flags.F.kp (bd__law_flags C__law_flags.F) hxF (da_cons (dv_var 8) da_nil)) (da_cons (dv_lc rfl sc_law.nd (di_range1 (by rfl) g_range (da_cons dv_int da_nil)) (blkOk_by (own:=[("_law_k",9)]) (N:=["_law_script","_law_rng","_law_x","_law_name_z","_law_words","_law_dues","_law_every","_law_at","_law_e","_law_k","_law_kin"]) (sc:=defScope s_law) (by decide +kernel)) (tgn_name (i:=9) (by decide)) (fun _ _ _ _ _=>pg_name (i:=9) sc_law.nd rfl (by first | exact Or.inl rfl | exact Or.inr rfl)) (fun _ _ _ _ _=>dts_nil) (fun _ _ _ _ _=>(dv_eq hr.units (dv_var 9) (dv_var 7)))) da_nil))))) (dw_or1 (dt_ne hr.units (dv_xv K (dv_var 8)) (dv_ix (dv_var 4) (dv_var 7)))))) (ds_one (dp_ret dv_bl)) ds_nil)
 (ds_cons (dp_set 10 sc_law.nd (dv_lst (da_cons (dv_callB call_isiE (ref_isX K) (by rfl) g_isinstance (by decide +kernel) (da_cons (dv_var 8) (da_cons (dv_gl k_RoundError (by rfl)) da_nil))) (da_cons (dv_callB call_isiE (ref_isX K) (by rfl) g_isinstance (by decide +kernel) (da_cons (dv_var 8) (da_cons (dv_bltn (by rfl) g_ValueError (v:=.ty "ValueError") (d:=.ty "ValueError") DL.boot_ValueError rfl fun _ _ _=>rfl) da_nil))) (da_cons (dv_callB call_isiE (ref_isX K) (by rfl) g_isinstance (by decide +kernel) (da_cons (dv_var 8) (da_cons (dv_gl k_Missing (by rfl)) da_nil))) (da_cons (dv_callB call_isiE (ref_isX K) (by rfl) g_isinstance (by decide +kernel) (da_cons (dv_var 8) (da_cons (dv_bltn (by rfl) g_IndexError (v:=.ty "IndexError") (d:=.ty "IndexError") DL.boot_IndexError rfl fun _ _ _=>rfl) da_nil))) da_nil))))))
 (ds_cons (dp_if (dt_w (dw_or (dt_not (dt_tru (dv_call C__law_same.fn (hr.mono (by decide)) (by rfl) C__law_same.mgx C__law_same.F.kp (bd__law_same C__law_same.F) hxF (da_cons (dv_var 10) (da_cons (dv_lst (da_cons (dv_lt (dv_var 7) dv_int) (da_cons (dv_lt (dv_var 7) dv_int) (da_cons (dv_in (dv_var 7) (dv_tup (da_cons dv_int (da_cons dv_int da_nil)))) (da_cons (dv_eq hr.units (dv_var 7) dv_int) da_nil))))) da_nil))))) (dw_or1 (dt_not (dt_tru (dv_call C__law_same.fn (hr.mono (by decide)) (by rfl) C__law_same.mgx C__law_same.F.kp (bd__law_same C__law_same.F) hxF (da_cons (dv_call C__law_fields.fn (hr.mono (by decide)) (by rfl) C__law_fields.mgx C__law_fields.F.kp (bd__law_fields C__law_fields.F) hxF (da_cons (dv_var 8) da_nil)) (da_cons (dv_ix (dv_var 5) (dv_var 7)) da_nil)))))))) (ds_one (dp_ret dv_bl)) ds_nil)
 (ds_one (dp_if (dt_ne hr.units (dv_callB call_isiE (ref_isX K) (by rfl) g_isinstance (by decide +kernel) (da_cons (dv_var 8) (da_cons (dv_bltn (by rfl) g_LookupError (v:=.ty "LookupError") (d:=.ty "LookupError") DL.boot_LookupError rfl fun _ _ _=>rfl) da_nil))) (dv_gt (dv_var 7) dv_int)) (ds_one (dp_ret dv_bl)) ds_nil)))))))
 (ds_one (dp_ret (dv_call C__law_by_name.fn (hr.mono (by decide)) (by rfl) C__law_by_name.mgx C__law_by_name.F.kp (bd__law_by_name C__law_by_name.F) hxF (da_cons (dv_var 2) (da_cons (dv_var 3) da_nil)))))))))))))))) ?_
 rintro ds M Q E hM hD ⟨hM0,ns,hns,rfl,hQ⟩
 have zl:sizeLine=16777216:=rfl
 have ROW:∀ (x:Int) (z:Str) (j:Nat),j < 23->∃ (C:Addr) (fs:List (Str×D)) (ys:List D) (w:Str),((errR x z).map (exD K))[j]?=some (Exn.d ⟨C,fs⟩)/\ExI K C j/\(∀ f∈("code":Str) :: xfields w,PySem.W.findIn K (.ref C) f=some none)/\fs.lookup ("code":Str)=some (.str w) /\
   (xfields w).map (fun f=>fs.lookup f)=ys.map some/\(exNames.map D.str)[j]?=some (.str w)/\((dueR x z).map D.tup)[j]?=some (.tup ys)/\pus ys=true/\dps ys<=5:=by
  intro x z j hj
  match j,hj with
  | 0,_ =>
   have e:xfields "InvalidFraction"=[]:=by decide +kernel
   exact ⟨He.ga K "InvalidFraction",_,[],"InvalidFraction",rfl,Y_InvalidFraction,by rw [e];exact Z_InvalidFraction.no,lk_0,by rw [e];exact rfl,rfl,rfl,rfl,Nat.le_of_ble_eq_true rfl⟩
  | 1,_ =>
   have e:xfields "InvalidText"=[]:=by decide +kernel
   exact ⟨He.ga K "InvalidText",_,[],"InvalidText",rfl,Y_InvalidText,by rw [e];exact Z_InvalidText.no,lk_0,by rw [e];exact rfl,rfl,rfl,rfl,Nat.le_of_ble_eq_true rfl⟩
  | 2,_ =>
   have e:xfields "InvalidCurve"=[]:=by decide +kernel
   exact ⟨He.ga K "InvalidCurve",_,[],"InvalidCurve",rfl,Y_InvalidCurve,by rw [e];exact Z_InvalidCurve.no,lk_0,by rw [e];exact rfl,rfl,rfl,rfl,Nat.le_of_ble_eq_true rfl⟩
  | 3,_ =>
   have e:xfields "InvalidStep"=[]:=by decide +kernel
   exact ⟨He.ga K "InvalidStep",_,[],"InvalidStep",rfl,Y_InvalidStep,by rw [e];exact Z_InvalidStep.no,lk_0,by rw [e];exact rfl,rfl,rfl,rfl,Nat.le_of_ble_eq_true rfl⟩
  | 4,_ =>
   have e:xfields "InvalidParts"=[]:=by decide +kernel
   exact ⟨He.ga K "InvalidParts",_,[],"InvalidParts",rfl,Y_InvalidParts,by rw [e];exact Z_InvalidParts.no,lk_0,by rw [e];exact rfl,rfl,rfl,rfl,Nat.le_of_ble_eq_true rfl⟩
  | 5,_ =>
   have e:xfields "InvalidStretch"=[]:=by decide +kernel
   exact ⟨He.ga K "InvalidStretch",_,[],"InvalidStretch",rfl,Y_InvalidStretch,by rw [e];exact Z_InvalidStretch.no,lk_0,by rw [e];exact rfl,rfl,rfl,rfl,Nat.le_of_ble_eq_true rfl⟩
  | 6,_ =>
   have e:xfields "UnlikeSlopes"=[]:=by decide +kernel
   exact ⟨He.ga K "UnlikeSlopes",_,[],"UnlikeSlopes",rfl,Y_UnlikeSlopes,by rw [e];exact Z_UnlikeSlopes.no,lk_0,by rw [e];exact rfl,rfl,rfl,rfl,Nat.le_of_ble_eq_true rfl⟩
  | 7,_ =>
   have e:xfields "EqualSlopes"=[]:=by decide +kernel
   exact ⟨He.ga K "EqualSlopes",_,[],"EqualSlopes",rfl,Y_EqualSlopes,by rw [e];exact Z_EqualSlopes.no,lk_0,by rw [e];exact rfl,rfl,rfl,rfl,Nat.le_of_ble_eq_true rfl⟩
  | 8,_ =>
   have e:xfields "TooMany"=[("limit":Str)]:=by decide +kernel
   exact ⟨He.ga K "TooMany",_,[.int x],"TooMany",rfl,Y_TooMany,by rw [e];exact Z_TooMany.no,(lk_1 (by decide +kernel)),by rw [e];exact (by rw [List.map_cons,lk_0];rfl),rfl,rfl,rfl,Nat.le_of_ble_eq_true rfl⟩
  | 9,_ =>
   have e:xfields "TooLong"=[("limit":Str)]:=by decide +kernel
   exact ⟨He.ga K "TooLong",_,[.int x],"TooLong",rfl,Y_TooLong,by rw [e];exact Z_TooLong.no,(lk_1 (by decide +kernel)),by rw [e];exact (by rw [List.map_cons,lk_0];rfl),rfl,rfl,rfl,Nat.le_of_ble_eq_true rfl⟩
  | 10,_ =>
   have e:xfields "InvalidPipeline"=[]:=by decide +kernel
   exact ⟨He.ga K "InvalidPipeline",_,[],"InvalidPipeline",rfl,Y_InvalidPipeline,by rw [e];exact Z_InvalidPipeline.no,lk_0,by rw [e];exact rfl,rfl,rfl,rfl,Nat.le_of_ble_eq_true rfl⟩
  | 11,_ =>
   have e:xfields "InvalidName"=[]:=by decide +kernel
   exact ⟨He.ga K "InvalidName",_,[],"InvalidName",rfl,Y_InvalidName,by rw [e];exact Z_InvalidName.no,lk_0,by rw [e];exact rfl,rfl,rfl,rfl,Nat.le_of_ble_eq_true rfl⟩
  | 12,_ =>
   have e:xfields "InvalidCommand"=[]:=by decide +kernel
   exact ⟨He.ga K "InvalidCommand",_,[],"InvalidCommand",rfl,Y_InvalidCommand,by rw [e];exact Z_InvalidCommand.no,lk_0,by rw [e];exact rfl,rfl,rfl,rfl,Nat.le_of_ble_eq_true rfl⟩
  | 13,_ =>
   have e:xfields "Cycle"=[("name":Str)]:=by decide +kernel
   exact ⟨He.ga K "Cycle",_,[.str z],"Cycle",rfl,Y_Cycle,by rw [e];exact Z_Cycle.no,(lk_1 (by decide +kernel)),by rw [e];exact (by rw [List.map_cons,lk_0];rfl),rfl,rfl,rfl,Nat.le_of_ble_eq_true rfl⟩
  | 14,_ =>
   have e:xfields "Full"=[("limit":Str)]:=by decide +kernel
   exact ⟨He.ga K "Full",_,[.int x],"Full",rfl,Y_Full,by rw [e];exact Z_Full.no,(lk_1 (by decide +kernel)),by rw [e];exact (by rw [List.map_cons,lk_0];rfl),rfl,rfl,rfl,Nat.le_of_ble_eq_true rfl⟩
  | 15,_ =>
   have e:xfields "InUse"=[("by":Str)]:=by decide +kernel
   exact ⟨He.ga K "InUse",_,[.int x],"InUse",rfl,Y_InUse,by rw [e];exact Z_InUse.no,(lk_1 (by decide +kernel)),by rw [e];exact (by rw [List.map_cons,lk_0];rfl),rfl,rfl,rfl,Nat.le_of_ble_eq_true rfl⟩
  | 16,_ =>
   have e:xfields "Unfit"=[("name":Str),("cause":Str)]:=by decide +kernel
   exact ⟨He.ga K "Unfit",_,[.str z,.str "TooMany"],"Unfit",rfl,Y_Unfit,by rw [e];exact Z_Unfit.no,(lk_2 (by decide +kernel) (by decide +kernel)),by rw [e];exact (by rw [List.map_cons,List.map_cons,lk_1 (by decide +kernel),lk_0];rfl),rfl,rfl,rfl,Nat.le_of_ble_eq_true rfl⟩
  | 17,_ =>
   have e:xfields "Stopped"=[("index":Str),("cause":Str)]:=by decide +kernel
   exact ⟨He.ga K "Stopped",_,[.int x,.str "Full"],"Stopped",rfl,Y_Stopped,by rw [e];exact Z_Stopped.no,(lk_2 (by decide +kernel) (by decide +kernel)),by rw [e];exact (by rw [List.map_cons,List.map_cons,lk_1 (by decide +kernel),lk_0];rfl),rfl,rfl,rfl,Nat.le_of_ble_eq_true rfl⟩
  | 18,_ =>
   have e:xfields "InvalidLimit"=[("limit":Str)]:=by decide +kernel
   exact ⟨He.ga K "InvalidLimit",_,[.int x],"InvalidLimit",rfl,Y_InvalidLimit,by rw [e];exact Z_InvalidLimit.no,(lk_1 (by decide +kernel)),by rw [e];exact (by rw [List.map_cons,lk_0];rfl),rfl,rfl,rfl,Nat.le_of_ble_eq_true rfl⟩
  | 19,_ =>
   have e:xfields "ParseError"=[("line":Str)]:=by decide +kernel
   exact ⟨He.ga K "ParseError",_,[.int x],"ParseError",rfl,Y_ParseError,by rw [e];exact Z_ParseError.no,(lk_1 (by decide +kernel)),by rw [e];exact (by rw [List.map_cons,lk_0];rfl),rfl,rfl,rfl,Nat.le_of_ble_eq_true rfl⟩
  | 20,_ =>
   have e:xfields "UnknownName"=[("name":Str)]:=by decide +kernel
   exact ⟨He.ga K "UnknownName",_,[.str z],"UnknownName",rfl,Y_UnknownName,by rw [e];exact Z_UnknownName.no,(lk_1 (by decide +kernel)),by rw [e];exact (by rw [List.map_cons,lk_0];rfl),rfl,rfl,rfl,Nat.le_of_ble_eq_true rfl⟩
  | 21,_ =>
   have e:xfields "UnknownClaim"=[("number":Str)]:=by decide +kernel
   exact ⟨He.ga K "UnknownClaim",_,[.int x],"UnknownClaim",rfl,Y_UnknownClaim,by rw [e];exact Z_UnknownClaim.no,(lk_1 (by decide +kernel)),by rw [e];exact (by rw [List.map_cons,lk_0];rfl),rfl,rfl,rfl,Nat.le_of_ble_eq_true rfl⟩
  | 22,_ =>
   have e:xfields "NothingLeft"=[]:=by decide +kernel
   exact ⟨He.ga K "NothingLeft",_,[],"NothingLeft",rfl,Y_NothingLeft,by rw [e];exact Z_NothingLeft.no,lk_0,by rw [e];exact rfl,rfl,rfl,rfl,Nat.le_of_ble_eq_true rfl⟩
  | n+23,h=>exact absurd h (by omega)
 walk_at "R"
 refine ⟨ns,rfl,fun r ok=>?_⟩
 have g1:RgL M [] (M ++ [some r.mo]):=⟨r,ok,rfl⟩
 generalize M ++ [some r.mo]=M1 at *
 walk_at "R"
 refine ⟨M.length,_,rfl,g1.at,by decide,by decide +kernel,fun x M2 t2 x0 x1=>?_⟩
 have g2:=g1.to t2
 walk_at "R"
 refine ⟨M.length,8,rfl,g2.at,by decide,by decide,fun cs M3 t3 _ _ _=>?_⟩
 have g3:=g2.to t3
 walk_at "R"
 refine e_addl (Nat.le_of_ble_eq_true rfl) ?_
 walk_at "R"
 refine e_addl (Nat.le_of_ble_eq_true rfl) ?_
 walk_at "R"
 refine e_addl (Nat.le_of_ble_eq_true rfl) ?_
 walk_at "R"
 refine e_rep ⟨by decide,by decide,Nat.le_of_ble_eq_true rfl⟩ ?_
 walk_at "R"
 refine e_addl (Nat.le_of_ble_eq_true rfl) ?_
 walk_at "R"
 refine e_addl (Nat.le_of_ble_eq_true rfl) ?_
 walk_at "R"
 refine ⟨x,SX.S cs,rfl,?_⟩
 have ROW:=ROW x (SX.S cs)
 generalize hz:SX.S cs=z at *
 walk_at "R"
 refine ⟨⟨by decide,by decide⟩,?_⟩
 refine for_range (fun j rho M'=>M'=M3/\∃ c7 c8 c10,rho=[some (.rol (ns.map D.int)),some (.mt M.length),some (.int x),some (.str z),some (.lst (exNames.map D.str)),some (.lst ((dueR x z).map D.tup)),some (.lst ((errR x z).map (exD K))),c7,c8,none,c10]) ⟨rfl,_,_,_,rfl⟩ ?_ ?_
 rotate_left
 ·rintro rho M4 ⟨rfl,c7,c8,c10,rfl⟩
  walk_at "R"
  refine ⟨x,z,rfl,?_⟩
  exact g3.cut rfl hM hQ
 rintro j rho M4 N4 hj ⟨rfl,c7,c8,c10,rfl⟩ hN4
 obtain ⟨C,fs,ys,w,r1,T,hnf,hcode,hfs,hw,hdue,hpy,hdp⟩:=ROW j hj
 generalize (errR x z).map (exD K)=ERR at *
 generalize (dueR x z).map D.tup=DUE at *
 generalize exNames.map D.str=WDS at *
 have ix:∀ {xs:List D} {d:D},xs[j]?=some d->L2.atI xs (j:Int)=some d:=fun {xs d} h=>by
  have hl:=(List.getElem?_eq_some_iff.mp h).1
  rw [at_nat hl]
  rw [List.getElem?_eq_getElem hl] at h
  exact h
 walk_at "R"
 refine e_ix rfl (ix r1) ?_
 walk_at "R"
 refine ⟨C,_,_,j,rfl,hj,T,?_⟩
 walk_at "R"
 refine ⟨⟨by decide,by decide⟩,?_⟩
 rw [show rangeD 0 (Int.toNat 23)=(List.range 23).map (fun k:Nat=>D.int (k:Int)) from rfl]
 refine lc_map (fun k:Nat=>D.int (k:Int)) (fun k=>D.bl (decide (k=j))) (List.range 23) (Nat.le_of_ble_eq_true rfl) ?_ ?_
 ·intro k hk Y hY
  walk_at "R"
  rw [show decide ((k:Int)=(j:Int))=decide (k=j) from decide_eq_decide.mpr (by omega)]
  exact hY
 walk_at "R"
 refine e_smr (f:=.lst ((List.range 23).map fun k=>D.bl (decide (k=j)))) (by show (decide (((List.range 23).map fun k=>D.bl (decide (k=j))).length<=sizeLine) && pus ((List.range 23).map fun k=>D.bl (decide (k=j))))=true;rw [pus_bls,List.length_map,List.length_range];rfl) (by show dps ((List.range 23).map fun k=>D.bl (decide (k=j)))+1 < 10;rw [dps_bls];decide) ?_
 walk_at "R"
 refine e_xv T.xi.x (hnf "code" (by simp)) hcode ?_
 walk_at "R"
 refine e_ix rfl (ix hw) ?_
 walk_at "R"
 refine ifn (fun h=>absurd rfl h) (fun _=>?_)
 have kin:=T.kin
 simp only [kinL,List.cons.injEq] at kin
 obtain ⟨k0,k1,k2,k3,k4,_⟩:=kin
 rw [show decide (j < 20)=decide ((j:Int) < 20) from decide_eq_decide.mpr (by omega)] at k0 k1
 rw [show decide (j=20\/j=21)=L2.inV (.int (j:Int)) [.int 20,.int 21] from in_2021 ⟨j,hj⟩] at k2
 rw [show decide (j=22)=decide ((j:Int)=22) from decide_eq_decide.mpr (by omega)] at k3
 rw [show decide (19 < j)=decide ((19:Int) < j) from decide_eq_decide.mpr (by omega)] at k4
 walk_at "R"
 refine ⟨_,_,rfl,T.xi,k0,?_⟩
 walk_at "R"
 refine ⟨_,_,rfl,T.xi,k1,?_⟩
 walk_at "R"
 refine ⟨_,_,rfl,T.xi,k2,?_⟩
 walk_at "R"
 refine ⟨_,_,rfl,T.xi,k3,?_⟩
 walk_at "R"
 refine e_inI ?_
 walk_at "R"
 have hkp:∀ a b c d:Bool,pu (.lst [.bl a,.bl b,.bl c,.bl d])=true:=fun a b c d=>by simp only [pu,pus,zl];simp
 refine e_smr (f:=.lst [.bl (decide ((j:Int) < 20)),.bl (decide ((j:Int) < 20)),.bl (L2.inV (.int (j:Int)) [.int 20,.int 21]),.bl (decide ((j:Int)=22))]) (hkp _ _ _ _) (Nat.le_of_ble_eq_true rfl) ?_
 walk_at "R"
 refine ⟨C,_,_,w,ys,rfl,T.xi.x,hnf,by rw [zip_unzip];exact hcode,by rw [zip_unzip];exact hfs,?_⟩
 walk_at "R"
 refine e_ix rfl (ix hdue) ?_
 walk_at "R"
 have hly:ys.length<=2:=by
  have h1:=congrArg List.length hfs
  rw [List.length_map,List.length_map] at h1
  rw [<- h1]
  unfold xfields
  repeat' split
  all_goals decide
 refine e_smr (f:=.tup ys) (by show (decide (ys.length<=sizeLine) && pus ys)=true;rw [hpy,decide_eq_true (by omega)];rfl) (by show dps ys+1 < 10;omega) ?_
 walk_at "R"
 refine ⟨_,_,rfl,T.xi,k4,?_⟩
 walk_at "R"
 refine ifn (fun h=>absurd rfl h) (fun _=>?_)
 exact hN4 _ _ ⟨rfl,_,_,_,rfl⟩
end
end LW
namespace LW
open PySem PySem.Spec PyProof.Rows L2 DL Mt
theorem facts {P:Program} {w:World} {K:PySem.W.Frag} {h:Heap} {mg:Str->Option Value} {f:Addr} (X:K.In h) (G:h.Ns mainGlobals mg) (hNS:h.NoSeer) (htr:P.given.tree=none) (hfa:mg ("law":Str)=some (.ref f)) (c:He.SaysY fa fn tf exB h K) :
  ∃ fd:FuncData,(∀ (s:Shared) (v:Value),BindsTo s fd ⟨[v],[]⟩ [("_law_script",v)])/\∀ base:Heap,K.In base->base.Ns mainGlobals mg->(∀ p∈csL K,LamX.TabB base mg p.1.1 p.1.2)->FnD P w K mg base ((csL K).map fun p=>(p.1.2,p.2)) 12 f fd ["_law_script"] sp_law:=by
 obtain ⟨fd__law_begin,F__law_begin⟩:=c.def_ 0 (d:=dd__law_begin) rfl
 have m__law_begin:=He.glo_ok X G (c.fact 0 (f:=.glo "_law_begin") rfl)
 obtain ⟨fd__law_draw,F__law_draw⟩:=c.def_ 1 (d:=dd__law_draw) rfl
 have m__law_draw:=He.glo_ok X G (c.fact 1 (f:=.glo "_law_draw") rfl)
 obtain ⟨fd__law_pick,F__law_pick⟩:=c.def_ 2 (d:=dd__law_pick) rfl
 have m__law_pick:=He.glo_ok X G (c.fact 2 (f:=.glo "_law_pick") rfl)
 obtain ⟨fd__law_word,F__law_word⟩:=c.def_ 3 (d:=dd__law_word) rfl
 have m__law_word:=He.glo_ok X G (c.fact 3 (f:=.glo "_law_word") rfl)
 obtain ⟨fd__law_errors,F__law_errors⟩:=c.def_ 4 (d:=dd__law_errors) rfl
 have m__law_errors:=He.glo_ok X G (c.fact 4 (f:=.glo "_law_errors") rfl)
 obtain ⟨fd__law_same,F__law_same⟩:=c.def_ 5 (d:=dd__law_same) rfl
 have m__law_same:=He.glo_ok X G (c.fact 5 (f:=.glo "_law_same") rfl)
 obtain ⟨fd__law_flags,F__law_flags⟩:=c.def_ 6 (d:=dd__law_flags) rfl
 have m__law_flags:=He.glo_ok X G (c.fact 6 (f:=.glo "_law_flags") rfl)
 obtain ⟨fd__law_fields,F__law_fields⟩:=c.def_ 7 (d:=dd__law_fields) rfl
 have m__law_fields:=He.glo_ok X G (c.fact 7 (f:=.glo "_law_fields") rfl)
 obtain ⟨fd__law_by_name,F__law_by_name⟩:=c.def_ 8 (d:=dd__law_by_name) rfl
 have m__law_by_name:=He.glo_ok X G (c.fact 8 (f:=.glo "_law_by_name") rfl)
 obtain ⟨fd_law,F_law⟩:=c.def_ 9 (d:=dd_law) rfl
 have m_law:=He.glo_ok X G (c.fact 9 (f:=.glo "law") rfl)
 obtain ⟨fd_InvalidStretchu_initu,F_InvalidStretchu_initu⟩:=c.def_ 10 (d:=dd_InvalidStretchu_initu) rfl
 obtain ⟨fd_InvalidPartsu_initu,F_InvalidPartsu_initu⟩:=c.def_ 11 (d:=dd_InvalidPartsu_initu) rfl
 obtain ⟨fd_InvalidStepu_initu,F_InvalidStepu_initu⟩:=c.def_ 12 (d:=dd_InvalidStepu_initu) rfl
 obtain ⟨fd_InvalidCurveu_initu,F_InvalidCurveu_initu⟩:=c.def_ 13 (d:=dd_InvalidCurveu_initu) rfl
 obtain ⟨fd_InvalidTextu_initu,F_InvalidTextu_initu⟩:=c.def_ 14 (d:=dd_InvalidTextu_initu) rfl
 obtain ⟨fd_InvalidFractionu_initu,F_InvalidFractionu_initu⟩:=c.def_ 15 (d:=dd_InvalidFractionu_initu) rfl
 obtain ⟨fd_InvalidNameu_initu,F_InvalidNameu_initu⟩:=c.def_ 16 (d:=dd_InvalidNameu_initu) rfl
 obtain ⟨fd_InvalidPipelineu_initu,F_InvalidPipelineu_initu⟩:=c.def_ 17 (d:=dd_InvalidPipelineu_initu) rfl
 obtain ⟨fd_TooLongu_initu,F_TooLongu_initu⟩:=c.def_ 18 (d:=dd_TooLongu_initu) rfl
 obtain ⟨fd_TooManyu_initu,F_TooManyu_initu⟩:=c.def_ 19 (d:=dd_TooManyu_initu) rfl
 obtain ⟨fd_EqualSlopesu_initu,F_EqualSlopesu_initu⟩:=c.def_ 20 (d:=dd_EqualSlopesu_initu) rfl
 obtain ⟨fd_UnlikeSlopesu_initu,F_UnlikeSlopesu_initu⟩:=c.def_ 21 (d:=dd_UnlikeSlopesu_initu) rfl
 obtain ⟨fd_Stoppedu_initu,F_Stoppedu_initu⟩:=c.def_ 22 (d:=dd_Stoppedu_initu) rfl
 obtain ⟨fd_Unfitu_initu,F_Unfitu_initu⟩:=c.def_ 23 (d:=dd_Unfitu_initu) rfl
 obtain ⟨fd_InUseu_initu,F_InUseu_initu⟩:=c.def_ 24 (d:=dd_InUseu_initu) rfl
 obtain ⟨fd_Fullu_initu,F_Fullu_initu⟩:=c.def_ 25 (d:=dd_Fullu_initu) rfl
 obtain ⟨fd_Cycleu_initu,F_Cycleu_initu⟩:=c.def_ 26 (d:=dd_Cycleu_initu) rfl
 obtain ⟨fd_InvalidCommandu_initu,F_InvalidCommandu_initu⟩:=c.def_ 27 (d:=dd_InvalidCommandu_initu) rfl
 obtain ⟨fd_NothingLeftu_initu,F_NothingLeftu_initu⟩:=c.def_ 28 (d:=dd_NothingLeftu_initu) rfl
 obtain ⟨fd_UnknownClaimu_initu,F_UnknownClaimu_initu⟩:=c.def_ 29 (d:=dd_UnknownClaimu_initu) rfl
 obtain ⟨fd_UnknownNameu_initu,F_UnknownNameu_initu⟩:=c.def_ 30 (d:=dd_UnknownNameu_initu) rfl
 obtain ⟨fd_ParseErroru_initu,F_ParseErroru_initu⟩:=c.def_ 31 (d:=dd_ParseErroru_initu) rfl
 obtain ⟨fd_InvalidLimitu_initu,F_InvalidLimitu_initu⟩:=c.def_ 32 (d:=dd_InvalidLimitu_initu) rfl
 have e:=hfa.symm.trans m_law
 cases e
 have b:=FunD.bindsA (ps:=["_law_script"]) F_law fun _ _ _ _ _ _ us hl=>match us,hl with | [_],_=>rfl
 refine ⟨fd_law,fun s v=>b s [v] rfl,fun base hKb hGb hTB=>?_⟩
 have g_list:=He.free_ok X G (c.fact 10 (f:=.free "list") rfl)
 have C__law_begin:Cal__law_begin P w K mg base ((csL K).map fun p=>(p.1.2,p.2)):=⟨_,fd__law_begin,F__law_begin,ok__law_begin (P:=P) (w:=w) (mg:=mg) (base:=base) (Tb:=((csL K).map fun p=>(p.1.2,p.2))) F__law_begin g_list,m__law_begin⟩
 have g_len:=He.free_ok X G (c.fact 11 (f:=.free "len") rfl)
 have C__law_draw:Cal__law_draw P w K mg base ((csL K).map fun p=>(p.1.2,p.2)):=⟨_,fd__law_draw,F__law_draw,ok__law_draw (P:=P) (w:=w) (mg:=mg) (base:=base) (Tb:=((csL K).map fun p=>(p.1.2,p.2))) F__law_draw g_len,m__law_draw⟩
 have C__law_pick:Cal__law_pick P w K mg base ((csL K).map fun p=>(p.1.2,p.2)):=⟨_,fd__law_pick,F__law_pick,ok__law_pick (P:=P) (w:=w) (mg:=mg) (base:=base) (Tb:=((csL K).map fun p=>(p.1.2,p.2))) F__law_pick C__law_draw g_len,m__law_pick⟩
 have g_range:=He.free_ok X G (c.fact 12 (f:=.free "range") rfl)
 have C__law_word:Cal__law_word P w K mg base ((csL K).map fun p=>(p.1.2,p.2)):=⟨_,fd__law_word,F__law_word,ok__law_word (P:=P) (w:=w) (mg:=mg) (base:=base) (Tb:=((csL K).map fun p=>(p.1.2,p.2))) F__law_word C__law_draw C__law_pick g_range,m__law_word⟩
 obtain ⟨T_InvalidStretch,tI_InvalidStretch,iC_InvalidStretch,no_InvalidStretch⟩:=xcB_ok (bool_at c.more 0 (b:=xcB K "InvalidStretch" ["code"]))
 have V_InvalidStretch:VC_InvalidStretch P w K mg base:=⟨"ValueError","ValueError.__new__","ValueError.__init__",veB,PySem.F.excBase_ValueError,(bool_at c.more 1 (b:=veNew K "InvalidStretch")),T_InvalidStretch.kC,_,fd_InvalidStretchu_initu,iC_InvalidStretch,tI_InvalidStretch,ok_InvalidStretchu_initu F_InvalidStretchu_initu T_InvalidStretch (no_InvalidStretch _ (by simp)),He.glo_ok X G (c.fact 13 (f:=.glo "InvalidStretch") rfl),F_InvalidStretchu_initu⟩
 obtain ⟨T_InvalidParts,tI_InvalidParts,iC_InvalidParts,no_InvalidParts⟩:=xcB_ok (bool_at c.more 2 (b:=xcB K "InvalidParts" ["code"]))
 have V_InvalidParts:VC_InvalidParts P w K mg base:=⟨"ValueError","ValueError.__new__","ValueError.__init__",veB,PySem.F.excBase_ValueError,(bool_at c.more 3 (b:=veNew K "InvalidParts")),T_InvalidParts.kC,_,fd_InvalidPartsu_initu,iC_InvalidParts,tI_InvalidParts,ok_InvalidPartsu_initu F_InvalidPartsu_initu T_InvalidParts (no_InvalidParts _ (by simp)),He.glo_ok X G (c.fact 14 (f:=.glo "InvalidParts") rfl),F_InvalidPartsu_initu⟩
 obtain ⟨T_InvalidStep,tI_InvalidStep,iC_InvalidStep,no_InvalidStep⟩:=xcB_ok (bool_at c.more 4 (b:=xcB K "InvalidStep" ["code"]))
 have V_InvalidStep:VC_InvalidStep P w K mg base:=⟨"ValueError","ValueError.__new__","ValueError.__init__",veB,PySem.F.excBase_ValueError,(bool_at c.more 5 (b:=veNew K "InvalidStep")),T_InvalidStep.kC,_,fd_InvalidStepu_initu,iC_InvalidStep,tI_InvalidStep,ok_InvalidStepu_initu F_InvalidStepu_initu T_InvalidStep (no_InvalidStep _ (by simp)),He.glo_ok X G (c.fact 15 (f:=.glo "InvalidStep") rfl),F_InvalidStepu_initu⟩
 obtain ⟨T_InvalidCurve,tI_InvalidCurve,iC_InvalidCurve,no_InvalidCurve⟩:=xcB_ok (bool_at c.more 6 (b:=xcB K "InvalidCurve" ["code"]))
 have V_InvalidCurve:VC_InvalidCurve P w K mg base:=⟨"ValueError","ValueError.__new__","ValueError.__init__",veB,PySem.F.excBase_ValueError,(bool_at c.more 7 (b:=veNew K "InvalidCurve")),T_InvalidCurve.kC,_,fd_InvalidCurveu_initu,iC_InvalidCurve,tI_InvalidCurve,ok_InvalidCurveu_initu F_InvalidCurveu_initu T_InvalidCurve (no_InvalidCurve _ (by simp)),He.glo_ok X G (c.fact 16 (f:=.glo "InvalidCurve") rfl),F_InvalidCurveu_initu⟩
 obtain ⟨T_InvalidText,tI_InvalidText,iC_InvalidText,no_InvalidText⟩:=xcB_ok (bool_at c.more 8 (b:=xcB K "InvalidText" ["code"]))
 have V_InvalidText:VC_InvalidText P w K mg base:=⟨"ValueError","ValueError.__new__","ValueError.__init__",veB,PySem.F.excBase_ValueError,(bool_at c.more 9 (b:=veNew K "InvalidText")),T_InvalidText.kC,_,fd_InvalidTextu_initu,iC_InvalidText,tI_InvalidText,ok_InvalidTextu_initu F_InvalidTextu_initu T_InvalidText (no_InvalidText _ (by simp)),He.glo_ok X G (c.fact 17 (f:=.glo "InvalidText") rfl),F_InvalidTextu_initu⟩
 obtain ⟨T_InvalidFraction,tI_InvalidFraction,iC_InvalidFraction,no_InvalidFraction⟩:=xcB_ok (bool_at c.more 10 (b:=xcB K "InvalidFraction" ["code"]))
 have V_InvalidFraction:VC_InvalidFraction P w K mg base:=⟨"ValueError","ValueError.__new__","ValueError.__init__",veB,PySem.F.excBase_ValueError,(bool_at c.more 11 (b:=veNew K "InvalidFraction")),T_InvalidFraction.kC,_,fd_InvalidFractionu_initu,iC_InvalidFraction,tI_InvalidFraction,ok_InvalidFractionu_initu F_InvalidFractionu_initu T_InvalidFraction (no_InvalidFraction _ (by simp)),He.glo_ok X G (c.fact 18 (f:=.glo "InvalidFraction") rfl),F_InvalidFractionu_initu⟩
 obtain ⟨T_InvalidName,tI_InvalidName,iC_InvalidName,no_InvalidName⟩:=xcB_ok (bool_at c.more 12 (b:=xcB K "InvalidName" ["code"]))
 have V_InvalidName:VC_InvalidName P w K mg base:=⟨"ValueError","ValueError.__new__","ValueError.__init__",veB,PySem.F.excBase_ValueError,(bool_at c.more 13 (b:=veNew K "InvalidName")),T_InvalidName.kC,_,fd_InvalidNameu_initu,iC_InvalidName,tI_InvalidName,ok_InvalidNameu_initu F_InvalidNameu_initu T_InvalidName (no_InvalidName _ (by simp)),He.glo_ok X G (c.fact 19 (f:=.glo "InvalidName") rfl),F_InvalidNameu_initu⟩
 obtain ⟨T_InvalidPipeline,tI_InvalidPipeline,iC_InvalidPipeline,no_InvalidPipeline⟩:=xcB_ok (bool_at c.more 14 (b:=xcB K "InvalidPipeline" ["code"]))
 have V_InvalidPipeline:VC_InvalidPipeline P w K mg base:=⟨"ValueError","ValueError.__new__","ValueError.__init__",veB,PySem.F.excBase_ValueError,(bool_at c.more 15 (b:=veNew K "InvalidPipeline")),T_InvalidPipeline.kC,_,fd_InvalidPipelineu_initu,iC_InvalidPipeline,tI_InvalidPipeline,ok_InvalidPipelineu_initu F_InvalidPipelineu_initu T_InvalidPipeline (no_InvalidPipeline _ (by simp)),He.glo_ok X G (c.fact 20 (f:=.glo "InvalidPipeline") rfl),F_InvalidPipelineu_initu⟩
 obtain ⟨T_TooLong,tI_TooLong,iC_TooLong,no_TooLong⟩:=xcB_ok (bool_at c.more 16 (b:=xcB K "TooLong" ["code","limit"]))
 have V_TooLong:VC_TooLong P w K mg base:=⟨"ValueError","ValueError.__new__","ValueError.__init__",veB,PySem.F.excBase_ValueError,(bool_at c.more 17 (b:=veNew K "TooLong")),T_TooLong.kC,_,fd_TooLongu_initu,iC_TooLong,tI_TooLong,ok_TooLongu_initu F_TooLongu_initu T_TooLong (no_TooLong _ (by simp)) (no_TooLong _ (by simp)),He.glo_ok X G (c.fact 21 (f:=.glo "TooLong") rfl),F_TooLongu_initu⟩
 obtain ⟨T_TooMany,tI_TooMany,iC_TooMany,no_TooMany⟩:=xcB_ok (bool_at c.more 18 (b:=xcB K "TooMany" ["code","limit"]))
 have V_TooMany:VC_TooMany P w K mg base:=⟨"ValueError","ValueError.__new__","ValueError.__init__",veB,PySem.F.excBase_ValueError,(bool_at c.more 19 (b:=veNew K "TooMany")),T_TooMany.kC,_,fd_TooManyu_initu,iC_TooMany,tI_TooMany,ok_TooManyu_initu F_TooManyu_initu T_TooMany (no_TooMany _ (by simp)) (no_TooMany _ (by simp)),He.glo_ok X G (c.fact 22 (f:=.glo "TooMany") rfl),F_TooManyu_initu⟩
 obtain ⟨T_EqualSlopes,tI_EqualSlopes,iC_EqualSlopes,no_EqualSlopes⟩:=xcB_ok (bool_at c.more 20 (b:=xcB K "EqualSlopes" ["code"]))
 have V_EqualSlopes:VC_EqualSlopes P w K mg base:=⟨"ValueError","ValueError.__new__","ValueError.__init__",veB,PySem.F.excBase_ValueError,(bool_at c.more 21 (b:=veNew K "EqualSlopes")),T_EqualSlopes.kC,_,fd_EqualSlopesu_initu,iC_EqualSlopes,tI_EqualSlopes,ok_EqualSlopesu_initu F_EqualSlopesu_initu T_EqualSlopes (no_EqualSlopes _ (by simp)),He.glo_ok X G (c.fact 23 (f:=.glo "EqualSlopes") rfl),F_EqualSlopesu_initu⟩
 obtain ⟨T_UnlikeSlopes,tI_UnlikeSlopes,iC_UnlikeSlopes,no_UnlikeSlopes⟩:=xcB_ok (bool_at c.more 22 (b:=xcB K "UnlikeSlopes" ["code"]))
 have V_UnlikeSlopes:VC_UnlikeSlopes P w K mg base:=⟨"ValueError","ValueError.__new__","ValueError.__init__",veB,PySem.F.excBase_ValueError,(bool_at c.more 23 (b:=veNew K "UnlikeSlopes")),T_UnlikeSlopes.kC,_,fd_UnlikeSlopesu_initu,iC_UnlikeSlopes,tI_UnlikeSlopes,ok_UnlikeSlopesu_initu F_UnlikeSlopesu_initu T_UnlikeSlopes (no_UnlikeSlopes _ (by simp)),He.glo_ok X G (c.fact 24 (f:=.glo "UnlikeSlopes") rfl),F_UnlikeSlopesu_initu⟩
 obtain ⟨T_Stopped,tI_Stopped,iC_Stopped,no_Stopped⟩:=xcB_ok (bool_at c.more 24 (b:=xcB K "Stopped" ["code","index","cause"]))
 have V_Stopped:VC_Stopped P w K mg base:=⟨"ValueError","ValueError.__new__","ValueError.__init__",veB,PySem.F.excBase_ValueError,(bool_at c.more 25 (b:=veNew K "Stopped")),T_Stopped.kC,_,fd_Stoppedu_initu,iC_Stopped,tI_Stopped,ok_Stoppedu_initu F_Stoppedu_initu T_Stopped (no_Stopped _ (by simp)) (no_Stopped _ (by simp)) (no_Stopped _ (by simp)),He.glo_ok X G (c.fact 25 (f:=.glo "Stopped") rfl),F_Stoppedu_initu⟩
 obtain ⟨T_Unfit,tI_Unfit,iC_Unfit,no_Unfit⟩:=xcB_ok (bool_at c.more 26 (b:=xcB K "Unfit" ["code","name","cause"]))
 have V_Unfit:VC_Unfit P w K mg base:=⟨"ValueError","ValueError.__new__","ValueError.__init__",veB,PySem.F.excBase_ValueError,(bool_at c.more 27 (b:=veNew K "Unfit")),T_Unfit.kC,_,fd_Unfitu_initu,iC_Unfit,tI_Unfit,ok_Unfitu_initu F_Unfitu_initu T_Unfit (no_Unfit _ (by simp)) (no_Unfit _ (by simp)) (no_Unfit _ (by simp)),He.glo_ok X G (c.fact 26 (f:=.glo "Unfit") rfl),F_Unfitu_initu⟩
 obtain ⟨T_InUse,tI_InUse,iC_InUse,no_InUse⟩:=xcB_ok (bool_at c.more 28 (b:=xcB K "InUse" ["code","by"]))
 have V_InUse:VC_InUse P w K mg base:=⟨"ValueError","ValueError.__new__","ValueError.__init__",veB,PySem.F.excBase_ValueError,(bool_at c.more 29 (b:=veNew K "InUse")),T_InUse.kC,_,fd_InUseu_initu,iC_InUse,tI_InUse,ok_InUseu_initu F_InUseu_initu T_InUse (no_InUse _ (by simp)) (no_InUse _ (by simp)),He.glo_ok X G (c.fact 27 (f:=.glo "InUse") rfl),F_InUseu_initu⟩
 obtain ⟨T_Full,tI_Full,iC_Full,no_Full⟩:=xcB_ok (bool_at c.more 30 (b:=xcB K "Full" ["code","limit"]))
 have V_Full:VC_Full P w K mg base:=⟨"ValueError","ValueError.__new__","ValueError.__init__",veB,PySem.F.excBase_ValueError,(bool_at c.more 31 (b:=veNew K "Full")),T_Full.kC,_,fd_Fullu_initu,iC_Full,tI_Full,ok_Fullu_initu F_Fullu_initu T_Full (no_Full _ (by simp)) (no_Full _ (by simp)),He.glo_ok X G (c.fact 28 (f:=.glo "Full") rfl),F_Fullu_initu⟩
 obtain ⟨T_Cycle,tI_Cycle,iC_Cycle,no_Cycle⟩:=xcB_ok (bool_at c.more 32 (b:=xcB K "Cycle" ["code","name"]))
 have V_Cycle:VC_Cycle P w K mg base:=⟨"ValueError","ValueError.__new__","ValueError.__init__",veB,PySem.F.excBase_ValueError,(bool_at c.more 33 (b:=veNew K "Cycle")),T_Cycle.kC,_,fd_Cycleu_initu,iC_Cycle,tI_Cycle,ok_Cycleu_initu F_Cycleu_initu T_Cycle (no_Cycle _ (by simp)) (no_Cycle _ (by simp)),He.glo_ok X G (c.fact 29 (f:=.glo "Cycle") rfl),F_Cycleu_initu⟩
 obtain ⟨T_InvalidCommand,tI_InvalidCommand,iC_InvalidCommand,no_InvalidCommand⟩:=xcB_ok (bool_at c.more 34 (b:=xcB K "InvalidCommand" ["code"]))
 have V_InvalidCommand:VC_InvalidCommand P w K mg base:=⟨"ValueError","ValueError.__new__","ValueError.__init__",veB,PySem.F.excBase_ValueError,(bool_at c.more 35 (b:=veNew K "InvalidCommand")),T_InvalidCommand.kC,_,fd_InvalidCommandu_initu,iC_InvalidCommand,tI_InvalidCommand,ok_InvalidCommandu_initu F_InvalidCommandu_initu T_InvalidCommand (no_InvalidCommand _ (by simp)),He.glo_ok X G (c.fact 30 (f:=.glo "InvalidCommand") rfl),F_InvalidCommandu_initu⟩
 obtain ⟨T_NothingLeft,tI_NothingLeft,iC_NothingLeft,no_NothingLeft⟩:=xciB_ok (bool_at c.more 36 (b:=xciB K "NothingLeft" ["code"]))
 have V_NothingLeft:VC_NothingLeft P w K mg base:=⟨"IndexError","IndexError.__new__","IndexError.__init__",ieB,PySem.F.excBase_IndexError,T_NothingLeft.new,T_NothingLeft.kC,_,fd_NothingLeftu_initu,iC_NothingLeft,tI_NothingLeft,ok_NothingLeftu_initu F_NothingLeftu_initu T_NothingLeft (no_NothingLeft _ (by simp)),He.glo_ok X G (c.fact 31 (f:=.glo "NothingLeft") rfl),F_NothingLeftu_initu⟩
 obtain ⟨T_UnknownClaim,tI_UnknownClaim,iC_UnknownClaim,no_UnknownClaim⟩:=xclB_ok (bool_at c.more 37 (b:=xclB K "UnknownClaim" ["code","number"]))
 have V_UnknownClaim:VC_UnknownClaim P w K mg base:=⟨"LookupError","LookupError.__new__","LookupError.__init__",leB,PySem.F.excBase_LookupError,T_UnknownClaim.new,T_UnknownClaim.kC,_,fd_UnknownClaimu_initu,iC_UnknownClaim,tI_UnknownClaim,ok_UnknownClaimu_initu F_UnknownClaimu_initu T_UnknownClaim (no_UnknownClaim _ (by simp)) (no_UnknownClaim _ (by simp)),He.glo_ok X G (c.fact 32 (f:=.glo "UnknownClaim") rfl),F_UnknownClaimu_initu⟩
 obtain ⟨T_UnknownName,tI_UnknownName,iC_UnknownName,no_UnknownName⟩:=xclB_ok (bool_at c.more 38 (b:=xclB K "UnknownName" ["code","name"]))
 have V_UnknownName:VC_UnknownName P w K mg base:=⟨"LookupError","LookupError.__new__","LookupError.__init__",leB,PySem.F.excBase_LookupError,T_UnknownName.new,T_UnknownName.kC,_,fd_UnknownNameu_initu,iC_UnknownName,tI_UnknownName,ok_UnknownNameu_initu F_UnknownNameu_initu T_UnknownName (no_UnknownName _ (by simp)) (no_UnknownName _ (by simp)),He.glo_ok X G (c.fact 33 (f:=.glo "UnknownName") rfl),F_UnknownNameu_initu⟩
 obtain ⟨T_ParseError,tI_ParseError,iC_ParseError,no_ParseError⟩:=xcB_ok (bool_at c.more 39 (b:=xcB K "ParseError" ["code","line"]))
 have V_ParseError:VC_ParseError P w K mg base:=⟨"ValueError","ValueError.__new__","ValueError.__init__",veB,PySem.F.excBase_ValueError,(bool_at c.more 40 (b:=veNew K "ParseError")),T_ParseError.kC,_,fd_ParseErroru_initu,iC_ParseError,tI_ParseError,ok_ParseErroru_initu F_ParseErroru_initu T_ParseError (no_ParseError _ (by simp)) (no_ParseError _ (by simp)),He.glo_ok X G (c.fact 34 (f:=.glo "ParseError") rfl),F_ParseErroru_initu⟩
 obtain ⟨T_InvalidLimit,tI_InvalidLimit,iC_InvalidLimit,no_InvalidLimit⟩:=xcB_ok (bool_at c.more 41 (b:=xcB K "InvalidLimit" ["code","limit"]))
 have V_InvalidLimit:VC_InvalidLimit P w K mg base:=⟨"ValueError","ValueError.__new__","ValueError.__init__",veB,PySem.F.excBase_ValueError,(bool_at c.more 42 (b:=veNew K "InvalidLimit")),T_InvalidLimit.kC,_,fd_InvalidLimitu_initu,iC_InvalidLimit,tI_InvalidLimit,ok_InvalidLimitu_initu F_InvalidLimitu_initu T_InvalidLimit (no_InvalidLimit _ (by simp)) (no_InvalidLimit _ (by simp)),He.glo_ok X G (c.fact 35 (f:=.glo "InvalidLimit") rfl),F_InvalidLimitu_initu⟩
 have k_InvalidStretch:CcD K mg "InvalidStretch" (.ref (He.ga K "InvalidStretch")):=cc_cls X G (c.fact 13 (f:=.glo "InvalidStretch") rfl)
 have k_InvalidParts:CcD K mg "InvalidParts" (.ref (He.ga K "InvalidParts")):=cc_cls X G (c.fact 14 (f:=.glo "InvalidParts") rfl)
 have k_InvalidStep:CcD K mg "InvalidStep" (.ref (He.ga K "InvalidStep")):=cc_cls X G (c.fact 15 (f:=.glo "InvalidStep") rfl)
 have k_InvalidCurve:CcD K mg "InvalidCurve" (.ref (He.ga K "InvalidCurve")):=cc_cls X G (c.fact 16 (f:=.glo "InvalidCurve") rfl)
 have k_InvalidText:CcD K mg "InvalidText" (.ref (He.ga K "InvalidText")):=cc_cls X G (c.fact 17 (f:=.glo "InvalidText") rfl)
 have k_InvalidFraction:CcD K mg "InvalidFraction" (.ref (He.ga K "InvalidFraction")):=cc_cls X G (c.fact 18 (f:=.glo "InvalidFraction") rfl)
 have k_InvalidName:CcD K mg "InvalidName" (.ref (He.ga K "InvalidName")):=cc_cls X G (c.fact 19 (f:=.glo "InvalidName") rfl)
 have k_InvalidPipeline:CcD K mg "InvalidPipeline" (.ref (He.ga K "InvalidPipeline")):=cc_cls X G (c.fact 20 (f:=.glo "InvalidPipeline") rfl)
 have k_TooLong:CcD K mg "TooLong" (.ref (He.ga K "TooLong")):=cc_cls X G (c.fact 21 (f:=.glo "TooLong") rfl)
 have k_TooMany:CcD K mg "TooMany" (.ref (He.ga K "TooMany")):=cc_cls X G (c.fact 22 (f:=.glo "TooMany") rfl)
 have k_EqualSlopes:CcD K mg "EqualSlopes" (.ref (He.ga K "EqualSlopes")):=cc_cls X G (c.fact 23 (f:=.glo "EqualSlopes") rfl)
 have k_UnlikeSlopes:CcD K mg "UnlikeSlopes" (.ref (He.ga K "UnlikeSlopes")):=cc_cls X G (c.fact 24 (f:=.glo "UnlikeSlopes") rfl)
 have k_Stopped:CcD K mg "Stopped" (.ref (He.ga K "Stopped")):=cc_cls X G (c.fact 25 (f:=.glo "Stopped") rfl)
 have k_Unfit:CcD K mg "Unfit" (.ref (He.ga K "Unfit")):=cc_cls X G (c.fact 26 (f:=.glo "Unfit") rfl)
 have k_InUse:CcD K mg "InUse" (.ref (He.ga K "InUse")):=cc_cls X G (c.fact 27 (f:=.glo "InUse") rfl)
 have k_Full:CcD K mg "Full" (.ref (He.ga K "Full")):=cc_cls X G (c.fact 28 (f:=.glo "Full") rfl)
 have k_Cycle:CcD K mg "Cycle" (.ref (He.ga K "Cycle")):=cc_cls X G (c.fact 29 (f:=.glo "Cycle") rfl)
 have k_InvalidCommand:CcD K mg "InvalidCommand" (.ref (He.ga K "InvalidCommand")):=cc_cls X G (c.fact 30 (f:=.glo "InvalidCommand") rfl)
 have k_NothingLeft:CcD K mg "NothingLeft" (.ref (He.ga K "NothingLeft")):=cc_cls X G (c.fact 31 (f:=.glo "NothingLeft") rfl)
 have k_UnknownClaim:CcD K mg "UnknownClaim" (.ref (He.ga K "UnknownClaim")):=cc_cls X G (c.fact 32 (f:=.glo "UnknownClaim") rfl)
 have k_UnknownName:CcD K mg "UnknownName" (.ref (He.ga K "UnknownName")):=cc_cls X G (c.fact 33 (f:=.glo "UnknownName") rfl)
 have k_ParseError:CcD K mg "ParseError" (.ref (He.ga K "ParseError")):=cc_cls X G (c.fact 34 (f:=.glo "ParseError") rfl)
 have k_InvalidLimit:CcD K mg "InvalidLimit" (.ref (He.ga K "InvalidLimit")):=cc_cls X G (c.fact 35 (f:=.glo "InvalidLimit") rfl)
 have C__law_errors:Cal__law_errors P w K mg base ((csL K).map fun p=>(p.1.2,p.2)):=⟨_,fd__law_errors,F__law_errors,ok__law_errors (P:=P) (w:=w) (mg:=mg) (base:=base) (Tb:=((csL K).map fun p=>(p.1.2,p.2))) F__law_errors V_InvalidStretch V_InvalidParts V_InvalidStep V_InvalidCurve V_InvalidText V_InvalidFraction V_InvalidName V_InvalidPipeline V_TooLong V_TooMany V_EqualSlopes V_UnlikeSlopes V_Stopped V_Unfit V_InUse V_Full V_Cycle V_InvalidCommand V_NothingLeft V_UnknownClaim V_UnknownName V_ParseError V_InvalidLimit k_InvalidStretch k_InvalidParts k_InvalidStep k_InvalidCurve k_InvalidText k_InvalidFraction k_InvalidName k_InvalidPipeline k_TooLong k_TooMany k_EqualSlopes k_UnlikeSlopes k_Stopped k_Unfit k_InUse k_Full k_Cycle k_InvalidCommand k_NothingLeft k_UnknownClaim k_UnknownName k_ParseError k_InvalidLimit,m__law_errors⟩
 have g_tuple:=He.free_ok X G (c.fact 36 (f:=.free "tuple") rfl)
 have g_isinstance:=He.free_ok X G (c.fact 37 (f:=.free "isinstance") rfl)
 have g_all:=He.free_ok X G (c.fact 38 (f:=.free "all") rfl)
 have g_int:=He.free_ok X G (c.fact 39 (f:=.free "int") rfl)
 have g_bool:=He.free_ok X G (c.fact 40 (f:=.free "bool") rfl)
 have g_str:=He.free_ok X G (c.fact 41 (f:=.free "str") rfl)
 have C__law_same:Cal__law_same P w K mg base ((csL K).map fun p=>(p.1.2,p.2)):=⟨_,fd__law_same,F__law_same,ok__law_same (P:=P) (w:=w) (mg:=mg) (base:=base) (Tb:=((csL K).map fun p=>(p.1.2,p.2))) F__law_same m__law_same g_tuple g_list g_isinstance g_range g_len g_all g_int g_bool g_str,m__law_same⟩
 have C__law_flags:Cal__law_flags P w K mg base ((csL K).map fun p=>(p.1.2,p.2)):=⟨_,fd__law_flags,F__law_flags,ok__law_flags (P:=P) (w:=w) (mg:=mg) (base:=base) (Tb:=((csL K).map fun p=>(p.1.2,p.2))) F__law_flags g_isinstance k_InvalidCurve k_InvalidText k_InvalidFraction k_InvalidStretch k_InvalidParts k_InvalidStep k_TooMany k_EqualSlopes k_UnlikeSlopes k_InvalidName k_InvalidPipeline k_TooLong k_Full k_Cycle k_InvalidCommand k_Stopped k_Unfit k_InUse k_UnknownName k_ParseError k_InvalidLimit k_NothingLeft k_UnknownClaim,m__law_flags⟩
 have C__law_fields:Cal__law_fields P w K mg base ((csL K).map fun p=>(p.1.2,p.2)):=⟨_,fd__law_fields,F__law_fields,ok__law_fields (P:=P) (w:=w) (mg:=mg) (base:=base) (Tb:=((csL K).map fun p=>(p.1.2,p.2))) F__law_fields ,m__law_fields⟩
 have Z_TooMany:XFa K "TooMany" ["limit"]:=xfaB_ok (bool_at c.more 43 (b:=xfaB K "TooMany" ["limit"]))
 have Z_TooLong:XFa K "TooLong" ["limit"]:=xfaB_ok (bool_at c.more 44 (b:=xfaB K "TooLong" ["limit"]))
 have Z_Cycle:XFa K "Cycle" ["name"]:=xfaB_ok (bool_at c.more 45 (b:=xfaB K "Cycle" ["name"]))
 have Z_Full:XFa K "Full" ["limit"]:=xfaB_ok (bool_at c.more 46 (b:=xfaB K "Full" ["limit"]))
 have Z_InUse:XFa K "InUse" ["by"]:=xfaB_ok (bool_at c.more 47 (b:=xfaB K "InUse" ["by"]))
 have Z_Unfit:XFa K "Unfit" ["name","cause"]:=xfaB_ok (bool_at c.more 48 (b:=xfaB K "Unfit" ["name","cause"]))
 have Z_Stopped:XFa K "Stopped" ["index","cause"]:=xfaB_ok (bool_at c.more 49 (b:=xfaB K "Stopped" ["index","cause"]))
 have Z_InvalidLimit:XFa K "InvalidLimit" ["limit"]:=xfaB_ok (bool_at c.more 50 (b:=xfaB K "InvalidLimit" ["limit"]))
 have Z_ParseError:XFa K "ParseError" ["line"]:=xfaB_ok (bool_at c.more 51 (b:=xfaB K "ParseError" ["line"]))
 have Z_UnknownName:XFa K "UnknownName" ["name"]:=xfaB_ok (bool_at c.more 52 (b:=xfaB K "UnknownName" ["name"]))
 have Z_UnknownClaim:XFa K "UnknownClaim" ["number"]:=xfaB_ok (bool_at c.more 53 (b:=xfaB K "UnknownClaim" ["number"]))
 have C__law_by_name:Cal__law_by_name P w K mg base ((csL K).map fun p=>(p.1.2,p.2)):=⟨_,fd__law_by_name,F__law_by_name,ok__law_by_name (P:=P) (w:=w) (mg:=mg) (base:=base) (Tb:=((csL K).map fun p=>(p.1.2,p.2))) F__law_by_name C__law_same V_InUse V_Full V_Cycle V_TooLong V_TooMany V_InvalidLimit V_Stopped V_Unfit V_UnknownClaim V_UnknownName V_ParseError k_InUse k_Full k_Cycle k_TooLong k_TooMany k_InvalidLimit k_Stopped k_Unfit k_UnknownClaim k_UnknownName k_ParseError Z_TooMany Z_TooLong Z_Cycle Z_Full Z_InUse Z_Unfit Z_Stopped Z_InvalidLimit Z_ParseError Z_UnknownName Z_UnknownClaim,m__law_by_name⟩
 have g_IndexError:=He.free_ok X G (c.fact 42 (f:=.free "IndexError") rfl)
 have g_ValueError:=He.free_ok X G (c.fact 43 (f:=.free "ValueError") rfl)
 have g_LookupError:=He.free_ok X G (c.fact 44 (f:=.free "LookupError") rfl)
 have Y_InvalidFraction:ExI K (He.ga K "InvalidFraction") 0:=exiB_ok (bool_at c.more 54 (b:=exiB K "InvalidFraction" 0))
 have Y_InvalidText:ExI K (He.ga K "InvalidText") 1:=exiB_ok (bool_at c.more 55 (b:=exiB K "InvalidText" 1))
 have Y_InvalidCurve:ExI K (He.ga K "InvalidCurve") 2:=exiB_ok (bool_at c.more 56 (b:=exiB K "InvalidCurve" 2))
 have Y_InvalidStep:ExI K (He.ga K "InvalidStep") 3:=exiB_ok (bool_at c.more 57 (b:=exiB K "InvalidStep" 3))
 have Y_InvalidParts:ExI K (He.ga K "InvalidParts") 4:=exiB_ok (bool_at c.more 58 (b:=exiB K "InvalidParts" 4))
 have Y_InvalidStretch:ExI K (He.ga K "InvalidStretch") 5:=exiB_ok (bool_at c.more 59 (b:=exiB K "InvalidStretch" 5))
 have Y_UnlikeSlopes:ExI K (He.ga K "UnlikeSlopes") 6:=exiB_ok (bool_at c.more 60 (b:=exiB K "UnlikeSlopes" 6))
 have Y_EqualSlopes:ExI K (He.ga K "EqualSlopes") 7:=exiB_ok (bool_at c.more 61 (b:=exiB K "EqualSlopes" 7))
 have Y_TooMany:ExI K (He.ga K "TooMany") 8:=exiB_ok (bool_at c.more 62 (b:=exiB K "TooMany" 8))
 have Y_TooLong:ExI K (He.ga K "TooLong") 9:=exiB_ok (bool_at c.more 63 (b:=exiB K "TooLong" 9))
 have Y_InvalidPipeline:ExI K (He.ga K "InvalidPipeline") 10:=exiB_ok (bool_at c.more 64 (b:=exiB K "InvalidPipeline" 10))
 have Y_InvalidName:ExI K (He.ga K "InvalidName") 11:=exiB_ok (bool_at c.more 65 (b:=exiB K "InvalidName" 11))
 have Y_InvalidCommand:ExI K (He.ga K "InvalidCommand") 12:=exiB_ok (bool_at c.more 66 (b:=exiB K "InvalidCommand" 12))
 have Y_Cycle:ExI K (He.ga K "Cycle") 13:=exiB_ok (bool_at c.more 67 (b:=exiB K "Cycle" 13))
 have Y_Full:ExI K (He.ga K "Full") 14:=exiB_ok (bool_at c.more 68 (b:=exiB K "Full" 14))
 have Y_InUse:ExI K (He.ga K "InUse") 15:=exiB_ok (bool_at c.more 69 (b:=exiB K "InUse" 15))
 have Y_Unfit:ExI K (He.ga K "Unfit") 16:=exiB_ok (bool_at c.more 70 (b:=exiB K "Unfit" 16))
 have Y_Stopped:ExI K (He.ga K "Stopped") 17:=exiB_ok (bool_at c.more 71 (b:=exiB K "Stopped" 17))
 have Y_InvalidLimit:ExI K (He.ga K "InvalidLimit") 18:=exiB_ok (bool_at c.more 72 (b:=exiB K "InvalidLimit" 18))
 have Y_ParseError:ExI K (He.ga K "ParseError") 19:=exiB_ok (bool_at c.more 73 (b:=exiB K "ParseError" 19))
 have Y_UnknownName:ExI K (He.ga K "UnknownName") 20:=exiB_ok (bool_at c.more 74 (b:=exiB K "UnknownName" 20))
 have Y_UnknownClaim:ExI K (He.ga K "UnknownClaim") 21:=exiB_ok (bool_at c.more 75 (b:=exiB K "UnknownClaim" 21))
 have Y_NothingLeft:ExI K (He.ga K "NothingLeft") 22:=exiB_ok (bool_at c.more 76 (b:=exiB K "NothingLeft" 22))
 have k_Missing:CcD K mg "Missing" (.ref (He.ga K "Missing")):=cc_cls X G (c.fact 45 (f:=.glo "Missing") rfl)
 have k_RoundError:CcD K mg "RoundError" (.ref (He.ga K "RoundError")):=cc_cls X G (c.fact 46 (f:=.glo "RoundError") rfl)
 have Z_InvalidFraction:XFa K "InvalidFraction" []:=xfaB_ok (bool_at c.more 77 (b:=xfaB K "InvalidFraction" []))
 have Z_InvalidText:XFa K "InvalidText" []:=xfaB_ok (bool_at c.more 78 (b:=xfaB K "InvalidText" []))
 have Z_InvalidCurve:XFa K "InvalidCurve" []:=xfaB_ok (bool_at c.more 79 (b:=xfaB K "InvalidCurve" []))
 have Z_InvalidStep:XFa K "InvalidStep" []:=xfaB_ok (bool_at c.more 80 (b:=xfaB K "InvalidStep" []))
 have Z_InvalidParts:XFa K "InvalidParts" []:=xfaB_ok (bool_at c.more 81 (b:=xfaB K "InvalidParts" []))
 have Z_InvalidStretch:XFa K "InvalidStretch" []:=xfaB_ok (bool_at c.more 82 (b:=xfaB K "InvalidStretch" []))
 have Z_UnlikeSlopes:XFa K "UnlikeSlopes" []:=xfaB_ok (bool_at c.more 83 (b:=xfaB K "UnlikeSlopes" []))
 have Z_EqualSlopes:XFa K "EqualSlopes" []:=xfaB_ok (bool_at c.more 84 (b:=xfaB K "EqualSlopes" []))
 have Z_InvalidPipeline:XFa K "InvalidPipeline" []:=xfaB_ok (bool_at c.more 85 (b:=xfaB K "InvalidPipeline" []))
 have Z_InvalidName:XFa K "InvalidName" []:=xfaB_ok (bool_at c.more 86 (b:=xfaB K "InvalidName" []))
 have Z_InvalidCommand:XFa K "InvalidCommand" []:=xfaB_ok (bool_at c.more 87 (b:=xfaB K "InvalidCommand" []))
 have Z_NothingLeft:XFa K "NothingLeft" []:=xfaB_ok (bool_at c.more 88 (b:=xfaB K "NothingLeft" []))
 exact ok_law (P:=P) (w:=w) (mg:=mg) (base:=base) (Tb:=((csL K).map fun p=>(p.1.2,p.2))) F_law C__law_begin C__law_word C__law_draw C__law_errors C__law_same C__law_flags C__law_fields C__law_by_name g_range g_isinstance g_IndexError g_ValueError g_LookupError Y_InvalidFraction Y_InvalidText Y_InvalidCurve Y_InvalidStep Y_InvalidParts Y_InvalidStretch Y_UnlikeSlopes Y_EqualSlopes Y_TooMany Y_TooLong Y_InvalidPipeline Y_InvalidName Y_InvalidCommand Y_Cycle Y_Full Y_InUse Y_Unfit Y_Stopped Y_InvalidLimit Y_ParseError Y_UnknownName Y_UnknownClaim Y_NothingLeft k_Missing k_RoundError Z_InvalidFraction Z_InvalidText Z_InvalidCurve Z_InvalidStep Z_InvalidParts Z_InvalidStretch Z_UnlikeSlopes Z_EqualSlopes Z_TooMany Z_TooLong Z_InvalidPipeline Z_InvalidName Z_InvalidCommand Z_Cycle Z_Full Z_InUse Z_Unfit Z_Stopped Z_InvalidLimit Z_ParseError Z_UnknownName Z_UnknownClaim Z_NothingLeft
end LW
open PySem PySem.W PySem.Calls PyProof.Rows
theorem PySem.Challenge.cw_roundmaps_k05_errors_and_their_families_holds : PySem.Challenge.rw_roundmaps_k05_errors_and_their_families.Holds := by
 refine LW.hold_of ?hc
 case hc =>
  refine DL.walk_wS (l:=PySem.Challenge.rw_roundmaps_k05_errors_and_their_families) (n:=63) (k:=12) (x:="_law_script") (dsp:=LW.sp_law) rfl (by decide) (by kernel_rfl) ⟨rfl,by decide,by decide⟩ (by first | exact fun _ _ _ h=>h | exact fun _ _ _ h=>⟨rfl,h⟩) (by kernel_rfl) ?F
  intro w mg fa h Y G hNS hmg0
  obtain ⟨K,KX,c⟩:=Y
  have hmg:mg ("law":PySem.Str)=some (.ref fa):=by
   have e:(HandSHeadRun.topDef (OpenLaw.row PySem.Challenge.rw_roundmaps_k05_errors_and_their_families).prog 36).name=("law":PySem.Str):=by kernel_rfl
   rw [<- e]
   exact hmg0
  obtain ⟨fd,hb,hF⟩:=LW.facts (P:=(PySem.Challenge.rw_roundmaps_k05_errors_and_their_families).prog) (w:=w) KX G hNS rfl hmg c
  refine ⟨K,fd,LW.csL K,KX,fun p hp=>?_,fun p hp=>?_,fun p hp=>?_,hb,hF⟩
  all_goals
   obtain ⟨q,hq,rfl⟩:=List.mem_map.mp hp
   have hq2:q.1∈LW.tf:=List.mem_map.mpr ⟨q,hq,rfl⟩
  ·exact c.empty _ hq2
  ·exact c.out _ hq2
  ·exact PySem.W.codeHd_of_K KX (c.hd _ hq2)
