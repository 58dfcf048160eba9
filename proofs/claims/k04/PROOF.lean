import PyProof.Rows.All
import Wide.All
import OpenK.AllK
import Wide.FinOn
import HandS.ForMost
import HandS.ForExc
import HandS.Wide
import HandS.Lambda
import HandS.TupAny
import HandS.Flow
import HandS.IsInst
import HandS.Conv
import HandS.Deep
import HandS.Defaults
import HandS.MakeKwOnly
import HandS.Walk
import HandS.StrMore
import HandS.Codes
import HandS.Head0
import HandS.Head1
import HandS.Head2
import HandS.HeadEnd
import HandS.HeadHook1
import HandS.HeadHook2
import HandS.Exc
import HandS.ExcInit
import HandS.ExcField
import HandS.ExcValue
import HandS.HotCalls
import HandS.HeadHook4
import HandS.EndTab
import HandS.MakeKw
import HandS.ClsMeth
import HandS.Property
import HandS.HeadNt
import KE.KCallOwn
import PyProof.InstNe
import HandS.FStr
import HandS.Style
import HandS.Star
import HandS.Zip
import PyProof.AutoSeq1
import HandS.ForDict
import HandS.DictComp
import KE.SortKeyHeap
import KE.KUnpackStar
import KE.IntTextLaws
import PyProof.StrBlock2
import PySem.Challenge.RW_roundmaps_k04_texts_of_fractions
set_option Elab.async false
set_option linter.all false
set_option maxRecDepth 100000
set_option maxHeartbeats 4000000
set_option autoImplicit false
/-! The data layer: values as trees of data, mutable things by their number. -/
namespace DL
open PySem PySem.Spec PyProof.Rows L2

inductive D where
  | non | bl (b : Bool) | int (i : Int) | str (x : Str) | ty (n : String)
  | tup (xs : List D) | lst (xs : List D) | rol (xs : List D) | obj (C : Addr) (ns : List Str) (xs : List D)
  | exc (C : Addr) (ns : List Str) (xs : List D)
  | dk (ks : List Key) (xs : List D) | dt (ks : List (List Int)) (xs : List D)
  | ref (a : Addr) | mt (i : Nat)
inductive MO where
  | lst (xs : List D) | dK (kvs : List (Key × D)) | dT (ks : List (List Int)) (xs : List D) | ins (C : Addr) (fs : List (Str × D))
/-- a dict whose keys are tuples of ints: the key, where its tuple stands, the value -/
abbrev Ents := List (List Int × Addr × V)
def thI (ks : List Int) : Int := reduceHash (Builtin.Tuple.tupleHashOf (ks.map hashInt))
abbrev DicO (a : Addr) (L : Ents) : HO := .ext fun h => (a == sysModules) = false ∧ L.length ≤ sizeLine ∧ ∃ xs : List (List Int × Addr × Value), Paired (fun p q => p.1 = q.1 ∧ p.2.1 = q.2.1 ∧ RelV p.2.2 q.2.2) L xs ∧
  ∃ o es ep, h.get? a = some o ∧ o.ExactDict ∧ o.data = .dict es ep ∧ es.toList = xs.map (fun x => (⟨thI x.1, .ref x.2.1, x.2.2⟩ : DictEntry)) ∧ (xs.map (·.1)).Nodup
def kD (ks : List Int) : D := .tup (ks.map D.int)
def Lv (L : Ents) : List V := L.map (fun e => V.ref e.2.1) ++ L.map (·.2.2)
abbrev Mem := List (Option MO)
abbrev Rho := List (Option D)
/-- an exception: its class, its own fields -/
structure Exn where
  C : Addr
  fs : List (Str × D)
abbrev VD := D → Mem → Prop
abbrev XD := Exn → Mem → Prop

/-- where the mutable things are; h: lists that are being made (a comprehension's) -/
structure Al where
  a : List Addr
  h : List Addr
/-- a is no live mutable thing -/
def Fz (al : Al) (M : Mem) (a : Addr) : Prop := a ∉ al.h ∧ ∀ (i : Nat) (mo : MO), al.a[i]? = some a → M[i]? = some (some mo) → False
def Al.push (al : Al) (p : Addr) : Al := ⟨al.a ++ [p], al.h⟩
def Al.cut (al : Al) (n : Nat) : Al := ⟨al.a.take n, al.h⟩
def noH : Hp := fun _ => none
/-- a caught exception -/
def exs (a : Addr) (cls : Value) (d : Option Addr) : HO := .ext fun h => ∃ (oe : Obj) (vs : Array Value), h.get? a = some oe ∧ Zc cls d oe ∧ oe.data = .fields vs
def SqTz (K : PySem.W.Frag) (al : Al) (M : Mem) (H : Hp) (a : Addr) (xs : List V) : Prop := (H a = some (.tup xs) ∧ Fz al M a) ∨ SqT K noH a xs
def SqLz (K : PySem.W.Frag) (al : Al) (M : Mem) (H : Hp) (a : Addr) (xs : List V) : Prop := (Rd H a (.lst xs) ∧ Fz al M a) ∨ SqL K noH a xs
theorem SqTz.sq {K : PySem.W.Frag} {al : Al} {M : Mem} {H : Hp} {a : Addr} {xs : List V} (h : SqTz K al M H a xs) : SqT K H a xs := by
  rcases h with ⟨h, _⟩ | h
  · exact .inl (.inl h)
  · rcases h with (h | ⟨o, h⟩) | h
    · cases h
    · cases h
    · exact .inr h
theorem SqLz.sq {K : PySem.W.Frag} {al : Al} {M : Mem} {H : Hp} {a : Addr} {xs : List V} (h : SqLz K al M H a xs) : SqL K H a xs := by
  rcases h with ⟨h, _⟩ | h
  · exact .inl h
  · rcases h with (h | ⟨o, h⟩) | h
    · cases h
    · cases h
    · exact .inr h

mutual
def Rp (K : PySem.W.Frag) (al : Al) (M : Mem) (H : Hp) : D → V → Prop
  | .non, v => v = .non
  | .bl b, v => v = .bl b
  | .int i, v => v = .int i
  | .str x, v => v = .str x
  | .ty n, v => v = .ty n
  | .tup ds, v => ∃ a xs, v = .ref a ∧ SqTz K al M H a xs ∧ Rps K al M H ds xs
  | .lst ds, v => ∃ a xs, v = .ref a ∧ H a = some (.lst xs) ∧ Fz al M a ∧ Rps K al M H ds xs
  | .rol ds, v => ∃ a xs, v = .ref a ∧ SqLz K al M H a xs ∧ Rps K al M H ds xs
  | .obj C ns ds, v => ∃ a dx xs, v = .ref a ∧ H a = some (.ins C dx (ns.zip xs)) ∧ Fz al M a ∧ ns.length = xs.length ∧ Rps K al M H ds xs
  | .exc C ns ds, v => ∃ a dx xs, v = .ref a ∧ H a = some (exs a (.ref C) (some dx)) ∧ Fz al M a ∧ H dx = some (.xd (ns.zip xs)) ∧ Fz al M dx ∧ ns.length = xs.length ∧ Rps K al M H ds xs
  | .dk ks ds, v => ∃ a o xs, v = .ref a ∧ H a = some (.frz o (.dK (ks.zip xs))) ∧ Fz al M a ∧ ks.length = xs.length ∧ Rps K al M H ds xs
  | .dt ks ds, v => ∃ a o L, v = .ref a ∧ H a = some (.frz o (DicO a L)) ∧ Fz al M a ∧ (L.map (·.1) = ks ∧ ds.take ks.length = ks.map kD) ∧ Rps K al M H ds (Lv L)
  | .ref a, v => v = .ref a
  | .mt i, v => ∃ a, al.a[i]? = some a ∧ v = .ref a
def Rps (K : PySem.W.Frag) (al : Al) (M : Mem) (H : Hp) : List D → List V → Prop
  | [], xs => xs = []
  | d :: ds, xs => ∃ x r, xs = x :: r ∧ Rp K al M H d x ∧ Rps K al M H ds r
end

/-- a step: the handles stay, what is frozen stays -/
structure Stp (al : Al) (M : Mem) (H : Hp) (al' : Al) (M' : Mem) (H' : Hp) : Prop where
  pre : ∀ (i : Nat) (a : Addr), al.a[i]? = some a → al'.a[i]? = some a
  fz : ∀ a o, H a = some o → (∀ ps, o ≠ .tbl ps) → Fz al M a → H' a = some o ∧ Fz al' M' a
  hh : al'.h = al.h
  hid : ∀ a ∈ al.h, H' a = H a
theorem Stp.refl (al : Al) (M : Mem) (H : Hp) : Stp al M H al M H := ⟨fun _ _ h => h, fun _ _ h _ f => ⟨h, f⟩, rfl, fun _ _ => rfl⟩
theorem Stp.trans {al al1 al2 : Al} {M M1 M2 : Mem} {H H1 H2 : Hp} (a : Stp al M H al1 M1 H1) (b : Stp al1 M1 H1 al2 M2 H2) : Stp al M H al2 M2 H2 :=
  ⟨fun i x h => b.pre i x (a.pre i x h), fun x o h n f => b.fz x o (a.fz x o h n f).1 n (a.fz x o h n f).2, b.hh.trans a.hh, fun x hx => (b.hid x (by rw [a.hh]; exact hx)).trans (a.hid x hx)⟩

theorem SqTz.mono {K : PySem.W.Frag} {al al' : Al} {M M' : Mem} {H H' : Hp} {a : Addr} {xs : List V} (s : Stp al M H al' M' H') (h : SqTz K al M H a xs) : SqTz K al' M' H' a xs := by
  rcases h with ⟨h, f⟩ | h
  · exact .inl ⟨(s.fz _ _ h (fun _ z => by cases z) f).1, (s.fz _ _ h (fun _ z => by cases z) f).2⟩
  · exact .inr h
theorem SqLz.mono {K : PySem.W.Frag} {al al' : Al} {M M' : Mem} {H H' : Hp} {a : Addr} {xs : List V} (s : Stp al M H al' M' H') (h : SqLz K al M H a xs) : SqLz K al' M' H' a xs := by
  rcases h with ⟨h | ⟨o, h⟩, f⟩ | h
  · exact .inl ⟨.inl (s.fz _ _ h (fun _ z => by cases z) f).1, (s.fz _ _ h (fun _ z => by cases z) f).2⟩
  · exact .inl ⟨.inr ⟨o, (s.fz _ _ h (fun _ z => by cases z) f).1⟩, (s.fz _ _ h (fun _ z => by cases z) f).2⟩
  · exact .inr h
mutual
theorem Rp.mono {K : PySem.W.Frag} {al al' : Al} {M M' : Mem} {H H' : Hp} (s : Stp al M H al' M' H') : ∀ {d : D} {v : V}, Rp K al M H d v → Rp K al' M' H' d v
  | .non, _, h => h
  | .bl _, _, h => h
  | .int _, _, h => h
  | .str _, _, h => h
  | .ty _, _, h => h
  | .tup ds, _, h => by
    obtain ⟨a, xs, e, q, r⟩ := h
    exact ⟨a, xs, e, q.mono s, Rps.mono s r⟩
  | .lst ds, _, h => by
    obtain ⟨a, xs, e, q, f, r⟩ := h
    exact ⟨a, xs, e, (s.fz _ _ q (fun _ z => by cases z) f).1, (s.fz _ _ q (fun _ z => by cases z) f).2, Rps.mono s r⟩
  | .rol ds, _, h => by
    obtain ⟨a, xs, e, q, r⟩ := h
    exact ⟨a, xs, e, q.mono s, Rps.mono s r⟩
  | .obj C ns ds, _, h => by
    obtain ⟨a, dx, xs, e, q, f, l, r⟩ := h
    exact ⟨a, dx, xs, e, (s.fz _ _ q (fun _ z => by cases z) f).1, (s.fz _ _ q (fun _ z => by cases z) f).2, l, Rps.mono s r⟩
  | .dk C ds, _, h => by
    obtain ⟨a, dx, xs, e, q, f, l, r⟩ := h
    exact ⟨a, dx, xs, e, (s.fz _ _ q (fun _ z => by cases z) f).1, (s.fz _ _ q (fun _ z => by cases z) f).2, l, Rps.mono s r⟩
  | .dt C ds, _, h => by
    obtain ⟨a, dx, xs, e, q, f, l, r⟩ := h
    exact ⟨a, dx, xs, e, (s.fz _ _ q (fun _ z => by cases z) f).1, (s.fz _ _ q (fun _ z => by cases z) f).2, l, Rps.mono s r⟩
  | .exc C ns ds, _, h => by
    obtain ⟨a, dx, xs, e, q, f, q2, f2, l, r⟩ := h
    exact ⟨a, dx, xs, e, (s.fz _ _ q (fun _ z => by cases z) f).1, (s.fz _ _ q (fun _ z => by cases z) f).2, (s.fz _ _ q2 (fun _ z => by cases z) f2).1, (s.fz _ _ q2 (fun _ z => by cases z) f2).2, l, Rps.mono s r⟩
  | .ref _, _, h => h
  | .mt i, _, h => by
    obtain ⟨a, e, q⟩ := h
    exact ⟨a, s.pre _ _ e, q⟩
theorem Rps.mono {K : PySem.W.Frag} {al al' : Al} {M M' : Mem} {H H' : Hp} (s : Stp al M H al' M' H') : ∀ {ds : List D} {xs : List V}, Rps K al M H ds xs → Rps K al' M' H' ds xs
  | [], _, h => h
  | d :: ds, _, h => by
    obtain ⟨x, r, e, q, t⟩ := h
    exact ⟨x, r, e, Rp.mono s q, Rps.mono s t⟩
end
section
variable {K : PySem.W.Frag} {al : Al} {M : Mem} {H : Hp}
theorem Rps.length : ∀ {ds : List D} {xs : List V}, Rps K al M H ds xs → ds.length = xs.length
  | [], _, h => by cases (show _ = [] from h); rfl
  | d :: ds, _, h => by
    obtain ⟨x, r, e, _, t⟩ := h
    subst e
    simp [Rps.length t]
theorem Rps.get : ∀ {ds : List D} {xs : List V} {i : Nat} {d : D}, Rps K al M H ds xs → ds[i]? = some d → ∃ x, xs[i]? = some x ∧ Rp K al M H d x
  | [], _, _, _, _, e => by simp at e
  | d :: ds, _, 0, _, h, e => by
    obtain ⟨x, r, q, t, _⟩ := h
    subst q
    simp at e
    subst e
    exact ⟨x, rfl, t⟩
  | d :: ds, _, i + 1, _, h, e => by
    obtain ⟨x, r, q, _, t⟩ := h
    subst q
    obtain ⟨y, h1, h2⟩ := Rps.get (i := i) t (by simpa using e)
    exact ⟨y, by simpa using h1, h2⟩
theorem Rps.getV : ∀ {ds : List D} {xs : List V} {i : Nat} {x : V}, Rps K al M H ds xs → xs[i]? = some x → ∃ d, ds[i]? = some d ∧ Rp K al M H d x
  | [], _, _, _, h, e => by cases (show _ = [] from h); simp at e
  | d :: ds, _, 0, _, h, e => by
    obtain ⟨x, r, q, t, _⟩ := h
    subst q
    simp at e
    subst e
    exact ⟨d, rfl, t⟩
  | d :: ds, _, i + 1, _, h, e => by
    obtain ⟨x, r, q, _, t⟩ := h
    subst q
    obtain ⟨y, h1, h2⟩ := Rps.getV (i := i) t (by simpa using e)
    exact ⟨y, by simpa using h1, h2⟩
theorem Rps.append : ∀ {ds es : List D} {xs ys : List V}, Rps K al M H ds xs → Rps K al M H es ys → Rps K al M H (ds ++ es) (xs ++ ys)
  | [], _, _, _, h, g => by cases (show _ = [] from h); exact g
  | d :: ds, _, _, _, h, g => by
    obtain ⟨x, r, q, t, u⟩ := h
    subst q
    exact ⟨x, _, rfl, t, Rps.append u g⟩
theorem Rps.take : ∀ {ds : List D} {xs : List V} (n : Nat), Rps K al M H ds xs → Rps K al M H (ds.take n) (xs.take n)
  | _, _, 0, _ => rfl
  | [], _, _ + 1, h => by cases (show _ = [] from h); rfl
  | d :: ds, _, n + 1, h => by
    obtain ⟨x, r, q, t, u⟩ := h
    subst q
    exact ⟨x, _, rfl, t, Rps.take n u⟩
theorem Rps.drop : ∀ {ds : List D} {xs : List V} (n : Nat), Rps K al M H ds xs → Rps K al M H (ds.drop n) (xs.drop n)
  | _, _, 0, h => by simpa using h
  | [], _, _ + 1, h => by cases (show _ = [] from h); rfl
  | d :: ds, _, n + 1, h => by
    obtain ⟨x, r, q, t, u⟩ := h
    subst q
    simpa using Rps.drop n u
theorem Rps.set : ∀ {ds : List D} {xs : List V} (n : Nat) {d : D} {x : V}, Rps K al M H ds xs → Rp K al M H d x → Rps K al M H (ds.set n d) (xs.set n x)
  | [], _, _, _, _, h, _ => by cases (show _ = [] from h); rfl
  | d :: ds, _, 0, _, _, h, g => by
    obtain ⟨x, r, q, t, u⟩ := h
    subst q
    exact ⟨_, _, rfl, g, u⟩
  | d :: ds, _, n + 1, _, _, h, g => by
    obtain ⟨x, r, q, t, u⟩ := h
    subst q
    exact ⟨x, _, rfl, t, Rps.set n u g⟩
end

/-- a dict's pairs, an object's fields -/
def Rpk {κ : Type} (K : PySem.W.Frag) (al : Al) (M : Mem) (H : Hp) (ds : List (κ × D)) (xs : List (κ × V)) : Prop := ds.map (·.1) = xs.map (·.1) ∧ Rps K al M H (ds.map (·.2)) (xs.map (·.2))
theorem Rpk.mono {κ : Type} {K : PySem.W.Frag} {al al' : Al} {M M' : Mem} {H H' : Hp} {ds : List (κ × D)} {xs : List (κ × V)} (s : Stp al M H al' M' H') (h : Rpk K al M H ds xs) : Rpk K al' M' H' ds xs := ⟨h.1, h.2.mono s⟩
theorem Rpk.nil {κ : Type} {K : PySem.W.Frag} {al : Al} {M : Mem} {H : Hp} : Rpk (κ := κ) K al M H [] [] := ⟨rfl, rfl⟩
theorem Rpk.cons {κ : Type} {K : PySem.W.Frag} {al : Al} {M : Mem} {H : Hp} {k : κ} {d : D} {x : V} {ds : List (κ × D)} {xs : List (κ × V)} (r : Rp K al M H d x) (h : Rpk K al M H ds xs) : Rpk K al M H ((k, d) :: ds) ((k, x) :: xs) :=
  ⟨by simp [h.1], ⟨x, _, rfl, r, h.2⟩⟩
theorem Rpk.cases {κ : Type} {K : PySem.W.Frag} {al : Al} {M : Mem} {H : Hp} {k : κ} {d : D} {ds : List (κ × D)} {xs : List (κ × V)} (h : Rpk K al M H ((k, d) :: ds) xs) : ∃ x r, xs = (k, x) :: r ∧ Rp K al M H d x ∧ Rpk K al M H ds r := by
  obtain ⟨h1, x, r, e, q, t⟩ := h
  cases xs with
  | nil => simp at h1
  | cons y ys =>
    obtain ⟨y1, y2⟩ := y
    simp at h1 e
    obtain ⟨rfl, h1⟩ := h1
    obtain ⟨rfl, rfl⟩ := e
    exact ⟨y2, ys, rfl, q, h1, t⟩
def Rpd (K : PySem.W.Frag) (al : Al) (M : Mem) (H : Hp) (ks : List (List Int)) (ds : List D) (L : Ents) : Prop := (L.map (·.1) = ks ∧ ds.take ks.length = ks.map kD) ∧ Rps K al M H ds (Lv L)
theorem Rpd.mono {K : PySem.W.Frag} {al al' : Al} {M M' : Mem} {H H' : Hp} {ks : List (List Int)} {ds : List D} {L : Ents} (s : Stp al M H al' M' H') (h : Rpd K al M H ks ds L) : Rpd K al' M' H' ks ds L := ⟨h.1, h.2.mono s⟩
/-- the mutable thing at a -/
def RpM (K : PySem.W.Frag) (al : Al) (M : Mem) (H : Hp) (a : Addr) : MO → Prop
  | .lst ds => ∃ xs, H a = some (.lst xs) ∧ Rps K al M H ds xs
  | .dK kvs => ∃ ys, H a = some (.dK ys) ∧ Rpk K al M H kvs ys
  | .dT ks ds => ∃ L, H a = some (DicO a L) ∧ Rpd K al M H ks ds L
  | .ins C fs => ∃ dx ys, H a = some (.ins C dx ys) ∧ Rpk K al M H fs ys
/-- the exception's record -/
def RpX (K : PySem.W.Frag) (al : Al) (M : Mem) (H : Hp) (x : Exn) (cls : Value) (d : Option Addr) : Prop := cls = .ref x.C ∧ ∃ dx ys, d = some dx ∧ H dx = some (.xd ys) ∧ Rpk K al M H x.fs ys

/-- a dict is no code object -/
theorem dic_code {a c : Addr} {L : Ents} {q : Str} (h : DicO a L = LamX.CodeO c q) : False := by
  unfold DicO LamX.CodeO at h
  injection h with h
  let ob : Obj := { cls := .none, data := .fields #[.none, .str q 0] }
  let hp : Heap := ⟨Array.replicate (c + 1) ob, {}⟩
  have key : ∀ b o, hp.get? b = some o → o = ob := fun b o e => by
    have e1 : (match (Array.replicate (c + 1) ob)[b]? with
      | some ⟨_, _, .freed, _⟩ => none
      | o => o) = some o := e
    by_cases hb : b < c + 1
    · rw [Array.getElem?_eq_getElem (by simpa using hb), Array.getElem_replicate] at e1
      exact (Option.some.inj e1).symm
    · rw [Array.getElem?_eq_none (by simpa using hb)] at e1
      cases e1
  have at_ : hp.get? c = some ob := by
    show (match (Array.replicate (c + 1) ob)[c]? with
      | some ⟨_, _, .freed, _⟩ => none
      | o => o) = some ob
    rw [Array.getElem?_eq_getElem (by simp), Array.getElem_replicate]
  have e := congrFun h hp
  have yes := e.mpr ⟨ob, _, 0, at_, rfl, rfl⟩
  obtain ⟨_, _, _, _, o, es, ep, h1, _, h3, _⟩ := yes
  have := key _ _ h1
  subst this
  cases h3
/-- what may be in the making: a comprehension's list or dict -/
def HidO (a : Addr) (o : HO) : Prop := (∃ xs, o = .lst xs) ∨ (∃ kvs, o = .dK kvs) ∨ (∃ L, o = DicO a L) ∨ ∃ od u, o = .frz od u
theorem HidO.tbl {a : Addr} {o : HO} (h : HidO a o) (ps : Array Value) : o ≠ .tbl ps := fun z => by
  rcases h with ⟨_, rfl⟩ | ⟨_, rfl⟩ | ⟨_, rfl⟩ | ⟨_, _, rfl⟩ <;> cases z
theorem HidO.xd {a : Addr} {o : HO} (h : HidO a o) (fs : List (Str × V)) : o ≠ .xd fs := fun z => by
  rcases h with ⟨_, rfl⟩ | ⟨_, rfl⟩ | ⟨_, rfl⟩ | ⟨_, _, rfl⟩ <;> cases z
theorem HidO.code {a : Addr} {o : HO} (h : HidO a o) (c : Addr) (q : Str) : o ≠ LamX.CodeO c q := fun z => by
  rcases h with ⟨_, rfl⟩ | ⟨_, rfl⟩ | ⟨_, rfl⟩ | ⟨_, _, rfl⟩
  · unfold LamX.CodeO at z; cases z
  · unfold LamX.CodeO at z; cases z
  · exact dic_code z
  · unfold LamX.CodeO at z; cases z
structure Wf (K : PySem.W.Frag) (Tb : List (Addr × Str)) (al : Al) (H : Hp) (M : Mem) : Prop where
  len : al.a.length = M.length
  nd : al.a.Nodup
  rep : ∀ (i : Nat) (a : Addr) (mo : MO), al.a[i]? = some a → M[i]? = some (some mo) → RpM K al M H a mo
  there : ∀ (i : Nat) (a : Addr), al.a[i]? = some a → ∃ o, H a = some o ∧ ∀ ps, o ≠ .tbl ps
  tb : LamX.Tabs Tb H
  hth : ∀ a ∈ al.h, ∃ o, H a = some o ∧ HidO a o
  hdis : ∀ (i : Nat) (a : Addr) (mo : MO), al.a[i]? = some a → M[i]? = some (some mo) → a ∉ al.h
/-- the slots -/
def RpS (K : PySem.W.Frag) (al : Al) (M : Mem) (H : Hp) (σ : L2.St) (rho : Rho) : Prop := rho.length = σ.length ∧ ∀ (i : Nat) (d : D), rho[i]? = some (some d) → ∃ v, σ[i]? = some (some v) ∧ Rp K al M H d v
theorem RpS.mono {K : PySem.W.Frag} {al al' : Al} {M M' : Mem} {H H' : Hp} {σ : L2.St} {rho : Rho} (s : Stp al M H al' M' H') (h : RpS K al M H σ rho) : RpS K al' M' H' σ rho :=
  ⟨h.1, fun i d e => let ⟨v, e1, r⟩ := h.2 i d e; ⟨v, e1, r.mono s⟩⟩
theorem RpS.set {K : PySem.W.Frag} {al : Al} {M : Mem} {H : Hp} {σ : L2.St} {rho : Rho} (h : RpS K al M H σ rho) (i : Nat) {d : D} {v : V} (r : Rp K al M H d v) : RpS K al M H (σ.set i (some v)) (rho.set i (some d)) := by
  refine ⟨by simpa using h.1, fun j e q => ?_⟩
  by_cases hj : i = j
  · subst hj
    rw [List.getElem?_set] at q
    simp at q
    obtain ⟨q1, rfl⟩ := q
    exact ⟨v, by rw [List.getElem?_set]; simp; rw [← h.1]; exact q1, r⟩
  · rw [List.getElem?_set_ne hj] at q ⊢
    exact h.2 j e q
theorem RpS.wipe1 {K : PySem.W.Frag} {al : Al} {M : Mem} {H : Hp} {σ : L2.St} {rho : Rho} (h : RpS K al M H σ rho) (i : Nat) {v : Option V} : RpS K al M H (σ.set i v) (rho.set i none) := by
  refine ⟨by simpa using h.1, fun j e q => ?_⟩
  by_cases hj : i = j
  · subst hj
    rw [List.getElem?_set] at q
    simp at q
  · rw [List.getElem?_set_ne hj] at q ⊢
    exact h.2 j e q

/-! ### readings -/
abbrev TED := XD → Rho → Mem → VD → Prop
abbrev TTD := XD → Rho → Mem → (Bool → Mem → Prop) → Prop
abbrev TAD := XD → Rho → Mem → (List D → Mem → Prop) → Prop
structure DEnds where
  nx : Rho → Mem → Prop
  rt : VD
  bk : Rho → Mem → Prop := fun _ _ => False
  ct : Rho → Mem → Prop := fun _ _ => False
abbrev TSD := XD → DEnds → Rho → Mem → Prop

/-- what is wanted at data level becomes what is wanted at value level -/
def PostV (K : PySem.W.Frag) (Tb : List (Addr × Str)) (al : Al) (M : Mem) (H : Hp) (Q : VD) (QV : VK) : Prop := ∀ al' d M' v H', Stp al M H al' M' H' → Wf K Tb al' H' M' → Rp K al' M' H' d v → Q d M' → QV v H'
def PostX (K : PySem.W.Frag) (Tb : List (Addr × Str)) (al : Al) (M : Mem) (H : Hp) (E : XD) (EV : XK) : Prop := ∀ al' x M' cls dct H', Stp al M H al' M' H' → Wf K Tb al' H' M' → RpX K al' M' H' x cls dct → E x M' → EV cls dct H'
def PostT (K : PySem.W.Frag) (Tb : List (Addr × Str)) (al : Al) (M : Mem) (H : Hp) (Q : Bool → Mem → Prop) (QV : Bool → Hp → Prop) : Prop := ∀ al' b M' H', Stp al M H al' M' H' → Wf K Tb al' H' M' → Q b M' → QV b H'
def PostA (K : PySem.W.Frag) (Tb : List (Addr × Str)) (al : Al) (M : Mem) (H : Hp) (Q : List D → Mem → Prop) (QV : List V → Hp → Prop) : Prop := ∀ al' ds M' vs H', Stp al M H al' M' H' → Wf K Tb al' H' M' → Rps K al' M' H' ds vs → Q ds M' → QV vs H'
def PostS (K : PySem.W.Frag) (Tb : List (Addr × Str)) (al : Al) (M : Mem) (H : Hp) (Q : Rho → Mem → Prop) (QV : L2.St → Hp → Prop) : Prop := ∀ al' rho' M' σ' H', Stp al M H al' M' H' → Wf K Tb al' H' M' → RpS K al' M' H' σ' rho' → Q rho' M' → QV σ' H'
theorem PostX.mono {K : PySem.W.Frag} {Tb : List (Addr × Str)} {al al1 : Al} {M M1 : Mem} {H H1 : Hp} {E : XD} {EV : XK} (s : Stp al M H al1 M1 H1) (p : PostX K Tb al M H E EV) : PostX K Tb al1 M1 H1 E EV :=
  fun _ _ _ _ _ _ s' => p _ _ _ _ _ _ (s.trans s')
theorem PostV.mono {K : PySem.W.Frag} {Tb : List (Addr × Str)} {al al1 : Al} {M M1 : Mem} {H H1 : Hp} {Q : VD} {QV : VK} (s : Stp al M H al1 M1 H1) (p : PostV K Tb al M H Q QV) : PostV K Tb al1 M1 H1 Q QV :=
  fun _ _ _ _ _ s' => p _ _ _ _ _ (s.trans s')
theorem PostT.mono {K : PySem.W.Frag} {Tb : List (Addr × Str)} {al al1 : Al} {M M1 : Mem} {H H1 : Hp} {Q : Bool → Mem → Prop} {QV : Bool → Hp → Prop} (s : Stp al M H al1 M1 H1) (p : PostT K Tb al M H Q QV) : PostT K Tb al1 M1 H1 Q QV :=
  fun _ _ _ _ s' => p _ _ _ _ (s.trans s')
theorem PostA.mono {K : PySem.W.Frag} {Tb : List (Addr × Str)} {al al1 : Al} {M M1 : Mem} {H H1 : Hp} {Q : List D → Mem → Prop} {QV : List V → Hp → Prop} (s : Stp al M H al1 M1 H1) (p : PostA K Tb al M H Q QV) : PostA K Tb al1 M1 H1 Q QV :=
  fun _ _ _ _ _ s' => p _ _ _ _ _ (s.trans s')
theorem PostS.mono {K : PySem.W.Frag} {Tb : List (Addr × Str)} {al al1 : Al} {M M1 : Mem} {H H1 : Hp} {Q : Rho → Mem → Prop} {QV : L2.St → Hp → Prop} (s : Stp al M H al1 M1 H1) (p : PostS K Tb al M H Q QV) : PostS K Tb al1 M1 H1 Q QV :=
  fun _ _ _ _ _ s' => p _ _ _ _ _ (s.trans s')

/-- the common ground: the state at value level is that of data level -/
structure At (K : PySem.W.Frag) (Tb : List (Addr × Str)) (EV : XK) (al : Al) (σ : L2.St) (H : Hp) (rho : Rho) (M : Mem) (E : XD) : Prop where
  wf : Wf K Tb al H M
  sl : RpS K al M H σ rho
  ex : PostX K Tb al M H E EV
theorem At.go {K : PySem.W.Frag} {Tb : List (Addr × Str)} {EV : XK} {al al' : Al} {σ : L2.St} {H H' : Hp} {rho : Rho} {M M' : Mem} {E : XD} (a : At K Tb EV al σ H rho M E) (s : Stp al M H al' M' H') (w : Wf K Tb al' H' M') : At K Tb EV al' σ H' rho M' E :=
  ⟨w, a.sl.mono s, a.ex.mono s⟩

def lift (K : PySem.W.Frag) (Tb : List (Addr × Str)) (EV : XK) (t : TED) : TE := fun σ H QV => ∃ al rho M E Q, At K Tb EV al σ H rho M E ∧ t E rho M Q ∧ PostV K Tb al M H Q QV
def liftT (K : PySem.W.Frag) (Tb : List (Addr × Str)) (EV : XK) (t : TTD) : TT := fun σ H QV => ∃ al rho M E Q, At K Tb EV al σ H rho M E ∧ t E rho M Q ∧ PostT K Tb al M H Q QV
def liftA (K : PySem.W.Frag) (Tb : List (Addr × Str)) (EV : XK) (t : TAD) : TA := fun σ H QV => ∃ al rho M E Q, At K Tb EV al σ H rho M E ∧ t E rho M Q ∧ PostA K Tb al M H Q QV
structure PostE (K : PySem.W.Frag) (Tb : List (Addr × Str)) (al : Al) (M : Mem) (H : Hp) (DD : DEnds) (DV : Ends) : Prop where
  nx : PostS K Tb al M H DD.nx DV.nx
  rt : PostV K Tb al M H DD.rt DV.rt
  bk : PostS K Tb al M H DD.bk DV.bk
  ct : PostS K Tb al M H DD.ct DV.ct
theorem PostE.mono {K : PySem.W.Frag} {Tb : List (Addr × Str)} {al al1 : Al} {M M1 : Mem} {H H1 : Hp} {DD : DEnds} {DV : Ends} (s : Stp al M H al1 M1 H1) (p : PostE K Tb al M H DD DV) : PostE K Tb al1 M1 H1 DD DV :=
  ⟨p.nx.mono s, p.rt.mono s, p.bk.mono s, p.ct.mono s⟩
def liftS (K : PySem.W.Frag) (Tb : List (Addr × Str)) (EV : XK) (t : TSD) : TS := fun DV σ H => ∃ al rho M E DD, At K Tb EV al σ H rho M E ∧ t E DD rho M ∧ PostE K Tb al M H DD DV

section
variable {X : Cx} {Tb : List (Addr × Str)} {EV : XK}
/-- the judgements at data level -/
abbrev PD (X : Cx) (Tb : List (Addr × Str)) (EV : XK) (e : Expr) (t : TED) : Prop := PE X e (lift X.K Tb EV t)
abbrev PDT (X : Cx) (Tb : List (Addr × Str)) (EV : XK) (e : Expr) (t : TTD) : Prop := PT X e (liftT X.K Tb EV t)
abbrev PDA (X : Cx) (Tb : List (Addr × Str)) (EV : XK) (es : List Expr) (t : TAD) : Prop := PA X es (liftA X.K Tb EV t)
abbrev PDS (X : Cx) (Tb : List (Addr × Str)) (EV : XK) (st : Stmt) (t : TSD) : Prop := PS X st (liftS X.K Tb EV t)
abbrev PDSs (X : Cx) (Tb : List (Addr × Str)) (EV : XK) (st : List Stmt) (t : TSD) : Prop := PSs X st (liftS X.K Tb EV t)
theorem pe_imp {e : Expr} {t t' : TE} (h : PE X e t) (w : ∀ σ H Q, t' σ H Q → t σ H Q) : PE X e t' := ⟨fun pins s σ H Q I q => h.run pins s σ H Q I (w σ H Q q)⟩
theorem pt_imp {e : Expr} {t t' : TT} (h : PT X e t) (w : ∀ σ H Q, t' σ H Q → t σ H Q) : PT X e t' := ⟨fun pins s σ H Q I q => h.run pins s σ H Q I (w σ H Q q)⟩
theorem pw_imp {e : Expr} {t t' : TT} (h : PW X e t) (w : ∀ σ H Q, t' σ H Q → t σ H Q) : PW X e t' := ⟨fun wh pins s σ H Q I q => h.run wh pins s σ H Q I (w σ H Q q)⟩
theorem pa_imp {e : List Expr} {t t' : TA} (h : PA X e t) (w : ∀ σ H Q, t' σ H Q → t σ H Q) : PA X e t' := ⟨fun pos pins s σ H Q I q => h.run pos pins s σ H Q I (w σ H Q q)⟩
theorem ps_imp {e : Stmt} {t t' : TS} (h : PS X e t) (w : ∀ D σ H, t' D σ H → t D σ H) : PS X e t' := ⟨fun pins s σ H D I q => h.run pins s σ H D I (w D σ H q)⟩
theorem pss_imp {e : List Stmt} {t t' : TS} (h : PSs X e t) (w : ∀ D σ H, t' D σ H → t D σ H) : PSs X e t' := ⟨fun pins s σ H D I q => h.run pins s σ H D I (w D σ H q)⟩
end

mutual
theorem hideRp {K : PySem.W.Frag} {al al' : Al} {M : Mem} {H H' : Hp} (fz : ∀ b o, H b = some o → Fz al M b → Fz al' M b) (up : ∀ b o, H b = some o → Fz al M b → H' b = some o) (ha : al'.a = al.a := by rfl) : ∀ (d : D) (v : V), Rp K al M H d v → Rp K al' M H' d v
  | .non, _, h => h
  | .bl _, _, h => h
  | .int _, _, h => h
  | .str _, _, h => h
  | .ty _, _, h => h
  | .ref _, _, h => h
  | .mt i, _, h => by
    obtain ⟨a, e, q⟩ := h
    exact ⟨a, by rw [ha]; exact e, q⟩
  | .tup ds, _, h => by
    obtain ⟨a, xs, e, q, r⟩ := h
    refine ⟨a, xs, e, ?_, hideRps fz up ha _ _ r⟩
    rcases q with ⟨q, f⟩ | q
    · exact .inl ⟨up _ _ q f, fz _ _ q f⟩
    · exact .inr q
  | .rol ds, _, h => by
    obtain ⟨a, xs, e, q, r⟩ := h
    refine ⟨a, xs, e, ?_, hideRps fz up ha _ _ r⟩
    rcases q with ⟨q | ⟨o, q⟩, f⟩ | q
    · exact .inl ⟨.inl (up _ _ q f), fz _ _ q f⟩
    · exact .inl ⟨.inr ⟨o, up _ _ q f⟩, fz _ _ q f⟩
    · exact .inr q
  | .lst ds, _, h => by
    obtain ⟨a, xs, e, q, f, r⟩ := h
    exact ⟨a, xs, e, up _ _ q f, fz _ _ q f, hideRps fz up ha _ _ r⟩
  | .obj C ns ds, _, h => by
    obtain ⟨a, dx, xs, e, q, f, l, r⟩ := h
    exact ⟨a, dx, xs, e, up _ _ q f, fz _ _ q f, l, hideRps fz up ha _ _ r⟩
  | .dk C ds, _, h => by
    obtain ⟨a, dx, xs, e, q, f, l, r⟩ := h
    exact ⟨a, dx, xs, e, up _ _ q f, fz _ _ q f, l, hideRps fz up ha _ _ r⟩
  | .dt C ds, _, h => by
    obtain ⟨a, dx, xs, e, q, f, l, r⟩ := h
    exact ⟨a, dx, xs, e, up _ _ q f, fz _ _ q f, l, hideRps fz up ha _ _ r⟩
  | .exc C ns ds, _, h => by
    obtain ⟨a, dx, xs, e, q, f, q2, f2, l, r⟩ := h
    exact ⟨a, dx, xs, e, up _ _ q f, fz _ _ q f, up _ _ q2 f2, fz _ _ q2 f2, l, hideRps fz up ha _ _ r⟩
theorem hideRps {K : PySem.W.Frag} {al al' : Al} {M : Mem} {H H' : Hp} (fz : ∀ b o, H b = some o → Fz al M b → Fz al' M b) (up : ∀ b o, H b = some o → Fz al M b → H' b = some o) (ha : al'.a = al.a := by rfl) : ∀ (d : List D) (v : List V), Rps K al M H d v → Rps K al' M H' d v
  | [], _, h => h
  | d :: ds, _, h => by
    obtain ⟨x, r, e, q, t⟩ := h
    exact ⟨x, r, e, hideRp fz up ha d x q, hideRps fz up ha ds r t⟩
end

/-! ### memory -/
section
variable {K : PySem.W.Frag} {Tb : List (Addr × Str)} {al : Al} {M : Mem} {H : Hp} {p a : Addr}
theorem Wf.nohid (w : Wf K Tb al H M) (hp : H p = none) : p ∉ al.h := fun hm => by
  obtain ⟨xs, h, _⟩ := w.hth p hm
  rw [hp] at h; cases h
theorem Wf.fresh (w : Wf K Tb al H M) (hp : H p = none) : Fz al M p := ⟨w.nohid hp, fun i mo e _ => by
  obtain ⟨o, h, _⟩ := w.there i p e
  rw [hp] at h; cases h⟩
theorem stp_new (w : Wf K Tb al H M) (hp : H p = none) (u : HO) : Stp al M H al M (upd H p u) :=
  ⟨fun _ _ h => h, fun b o h _ f => ⟨by rw [upd_ne (ne_of_none h hp)]; exact h, f⟩, rfl, fun b hb => upd_ne fun z => w.nohid hp (z ▸ hb)⟩
theorem RpM.mono {al' : Al} {M' : Mem} {H' : Hp} {mo : MO} (s : Stp al M H al' M' H') (e : ∀ o, H a = some o → H' a = some o) (h : RpM K al M H a mo) : RpM K al' M' H' a mo := by
  cases mo with
  | lst ds => obtain ⟨xs, h1, h2⟩ := h; exact ⟨xs, e _ h1, h2.mono s⟩
  | dK kvs => obtain ⟨xs, h1, h2⟩ := h; exact ⟨xs, e _ h1, h2.mono s⟩
  | dT ks ds => obtain ⟨xs, h1, h2⟩ := h; exact ⟨xs, e _ h1, h2.mono s⟩
  | ins C fs => obtain ⟨dx, xs, h1, h2⟩ := h; exact ⟨dx, xs, e _ h1, h2.mono s⟩
theorem wf_new (w : Wf K Tb al H M) (hp : H p = none) (u : HO) : Wf K Tb al (upd H p u) M :=
  ⟨w.len, w.nd, fun i b mo h1 h2 => (w.rep i b mo h1 h2).mono (stp_new w hp u) fun o h => by rw [upd_ne (ne_of_none h hp)]; exact h,
    fun i b h => let ⟨o, h1, h2⟩ := w.there i b h; ⟨o, by rw [upd_ne (ne_of_none h1 hp)]; exact h1, h2⟩, w.tb.ext fun b o h => by rw [upd_ne (ne_of_none h hp)]; exact h,
    fun b hb => let ⟨xs, h, z⟩ := w.hth b hb; ⟨xs, by rw [upd_ne (ne_of_none h hp)]; exact h, z⟩, w.hdis⟩
theorem rp_tup (w : Wf K Tb al H M) (hp : H p = none) {ds : List D} {xs : List V} (r : Rps K al M H ds xs) : Rp K al M (upd H p (.tup xs)) (.tup ds) (.ref p) :=
  ⟨p, xs, rfl, .inl ⟨upd_same, w.fresh hp⟩, r.mono (stp_new w hp _)⟩
theorem rp_lst (w : Wf K Tb al H M) (hp : H p = none) {ds : List D} {xs : List V} (r : Rps K al M H ds xs) : Rp K al M (upd H p (.lst xs)) (.lst ds) (.ref p) :=
  ⟨p, xs, rfl, upd_same, w.fresh hp, r.mono (stp_new w hp _)⟩
/-- a new mutable thing -/
theorem stp_mut (w : Wf K Tb al H M) (hp : H p = none) (u : HO) (mo : MO) : Stp al M H (al.push p) (M ++ [some mo]) (upd H p u) := by
  refine ⟨fun i b h => by show (al.a ++ [p])[i]? = _; rw [List.getElem?_append_left (List.getElem?_eq_some_iff.mp h).1]; exact h, fun b o h _ f => ⟨by rw [upd_ne (ne_of_none h hp)]; exact h, f.1, fun i m e1 e2 => ?_⟩, rfl, fun b hb => upd_ne fun z => w.nohid hp (z ▸ hb)⟩
  have e1 : (al.a ++ [p])[i]? = some b := e1
  by_cases hi : i < al.a.length
  · rw [List.getElem?_append_left hi] at e1
    rw [List.getElem?_append_left (by rw [← w.len]; exact hi)] at e2
    exact f.2 i m e1 e2
  · rw [List.getElem?_append_right (by omega)] at e1
    have : b = p := by
      cases hk : i - al.a.length with
      | zero => rw [hk] at e1; simpa using e1.symm
      | succ k => rw [hk] at e1; simp at e1
    subst this
    rw [hp] at h; cases h
theorem push_cases {i : Nat} {b : Addr} (e : (al.push p).a[i]? = some b) : (i < al.a.length ∧ al.a[i]? = some b) ∨ (i = al.a.length ∧ b = p) := by
  have e : (al.a ++ [p])[i]? = some b := e
  by_cases hi : i < al.a.length
  · rw [List.getElem?_append_left hi] at e
    exact .inl ⟨hi, e⟩
  · have hi' : i = al.a.length := by
      have := (List.getElem?_eq_some_iff.mp e).1
      simp at this; omega
    subst hi'
    simp at e
    exact .inr ⟨rfl, e.symm⟩
theorem wf_mut (w : Wf K Tb al H M) (hp : H p = none) {u : HO} {mo : MO} (hu : ∀ ps, u ≠ .tbl ps) (r : RpM K (al.push p) (M ++ [some mo]) (upd H p u) p mo) : Wf K Tb (al.push p) (upd H p u) (M ++ [some mo]) := by
  have hn : p ∉ al.a := fun hm => by
    obtain ⟨i, hi⟩ := List.getElem?_of_mem hm
    obtain ⟨o, h, _⟩ := w.there i p hi
    rw [hp] at h; cases h
  refine ⟨by simp [w.len, Al.push], ?_, fun i b m e1 e2 => ?_, fun i b e1 => ?_, w.tb.ext fun b o h => by rw [upd_ne (ne_of_none h hp)]; exact h, fun b hb => ?_, fun i b m e1 e2 => ?_⟩
  · show (al.a ++ [p]).Nodup
    rw [List.nodup_append]
    exact ⟨w.nd, by simp, fun x hx y hy => by simp at hy; subst hy; exact fun z => hn (z ▸ hx)⟩
  · rcases push_cases e1 with ⟨hi, e1⟩ | ⟨hi, rfl⟩
    · rw [List.getElem?_append_left (by rw [← w.len]; exact hi)] at e2
      exact (w.rep i b m e1 e2).mono (stp_mut w hp u mo) fun o h => by rw [upd_ne (ne_of_none h hp)]; exact h
    · subst hi
      rw [w.len] at e2
      simp at e2
      subst e2
      exact r
  · rcases push_cases e1 with ⟨hi, e1⟩ | ⟨hi, rfl⟩
    · obtain ⟨o, h1, h2⟩ := w.there i b e1
      exact ⟨o, by rw [upd_ne (ne_of_none h1 hp)]; exact h1, h2⟩
    · exact ⟨u, upd_same, hu⟩
  · obtain ⟨xs, h, z⟩ := w.hth b hb
    exact ⟨xs, by rw [upd_ne (ne_of_none h hp)]; exact h, z⟩
  · rcases push_cases e1 with ⟨hi, e1⟩ | ⟨hi, rfl⟩
    · rw [List.getElem?_append_left (by rw [← w.len]; exact hi)] at e2
      exact w.hdis i b m e1 e2
    · exact w.nohid hp
theorem al_last (w : Wf K Tb al H M) : (al.push p).a[M.length]? = some p := by show (al.a ++ [p])[M.length]? = some p; rw [← w.len]; simp
/-- a mutable thing is changed -/
theorem stp_set (w : Wf K Tb al H M) {i : Nat} {mo mo' : MO} (hi : al.a[i]? = some a) (hm : M[i]? = some (some mo)) (u : HO) : Stp al M H al (M.set i (some mo')) (upd H a u) := by
  refine ⟨fun _ _ h => h, fun b o h _ f => ?_, rfl, fun b hb => upd_ne fun z => w.hdis i a mo hi hm (z ▸ hb)⟩
  have hb : b ≠ a := fun z => by subst z; exact f.2 i mo hi hm
  refine ⟨by rw [upd_ne hb]; exact h, f.1, fun j m e1 e2 => ?_⟩
  by_cases hj : i = j
  · subst hj
    rw [hi] at e1
    exact hb (Option.some.inj e1).symm
  · rw [List.getElem?_set_ne hj] at e2
    exact f.2 j m e1 e2
theorem wf_set (w : Wf K Tb al H M) {i : Nat} {mo mo' : MO} (hi : al.a[i]? = some a) (hm : M[i]? = some (some mo)) {u : HO} (hu : ∀ ps, u ≠ .tbl ps) (r : RpM K al (M.set i (some mo')) (upd H a u) a mo') (ht : ∀ c q, H a ≠ some (LamX.CodeO c q)) :
    Wf K Tb al (upd H a u) (M.set i (some mo')) := by
  obtain ⟨oa, hoa, hoa'⟩ := w.there i a hi
  refine ⟨by simp [w.len], w.nd, fun j b m e1 e2 => ?_, fun j b e1 => ?_, fun q hq => ?_, fun b hb => ?_, fun j b m e1 e2 => ?_⟩
  · by_cases hj : i = j
    · subst hj
      rw [hi] at e1; cases e1
      rw [List.getElem?_set_self (List.getElem?_eq_some_iff.mp hm).1] at e2
      cases e2
      exact r
    · rw [List.getElem?_set_ne hj] at e2
      have hb : b ≠ a := fun z => by
        subst z
        exact hj ((List.getElem?_inj (List.getElem?_eq_some_iff.mp hi).1 w.nd).mp (hi.trans e1.symm))
      exact (w.rep j b m e1 e2).mono (stp_set w hi hm u) fun o h => by rw [upd_ne hb]; exact h
  · by_cases hb : b = a
    · subst hb; exact ⟨u, upd_same, hu⟩
    · obtain ⟨o, h1, h2⟩ := w.there j b e1
      exact ⟨o, by rw [upd_ne hb]; exact h1, h2⟩
  · obtain ⟨ps, h1, h2, h3⟩ := w.tb q hq
    refine ⟨ps, ?_, h2, fun pos cv hc => ?_⟩
    · rw [upd_ne fun z => ?_]
      · exact h1
      · rw [z, hoa] at h1
        exact hoa' ps (Option.some.inj h1)
    · obtain ⟨c, e1, e2⟩ := h3 pos cv hc
      refine ⟨c, e1, ?_⟩
      rw [upd_ne fun z => ?_]
      · exact e2
      · rw [z] at e2
        exact ht _ _ e2
  · obtain ⟨xs, h, hz⟩ := w.hth b hb
    exact ⟨xs, by rw [upd_ne (fun (z : b = a) => w.hdis i a mo hi hm (z ▸ hb))]; exact h, hz⟩
  · by_cases hj : i = j
    · subst hj
      rw [hi] at e1; cases e1
      exact w.hdis _ _ _ hi hm
    · rw [List.getElem?_set_ne hj] at e2
      exact w.hdis j b m e1 e2
/-- a mutable thing is frozen -/
theorem stp_fz {i : Nat} : Stp al M H al (M.set i none) H := by
  refine ⟨fun _ _ h => h, fun b o h _ f => ⟨h, f.1, fun j m e1 e2 => ?_⟩, rfl, fun _ _ => rfl⟩
  by_cases hj : i = j
  · subst hj
    rw [List.getElem?_set] at e2
    simp at e2
  · rw [List.getElem?_set_ne hj] at e2
    exact f.2 j m e1 e2
theorem wf_fz (w : Wf K Tb al H M) (i : Nat) : Wf K Tb al H (M.set i none) := by
  have key : ∀ (j : Nat) (m : MO), (M.set i none)[j]? = some (some m) → M[j]? = some (some m) := fun j m e2 => by
    by_cases hj : i = j
    · subst hj
      rw [List.getElem?_set] at e2
      simp at e2
    · rw [List.getElem?_set_ne hj] at e2
      exact e2
  exact ⟨by simp [w.len], w.nd, fun j b m e1 e2 => (w.rep j b m e1 (key j m e2)).mono stp_fz fun _ h => h, w.there, w.tb, w.hth, fun j b m e1 e2 => w.hdis j b m e1 (key j m e2)⟩
theorem fz_at (w : Wf K Tb al H M) {i : Nat} {mo : MO} (hi : al.a[i]? = some a) (hm : M[i]? = some (some mo)) : Fz al (M.set i none) a := ⟨w.hdis i a mo hi hm, fun j m e1 e2 => by
  by_cases hj : i = j
  · subst hj
    rw [List.getElem?_set] at e2
    simp at e2
  · exact hj ((List.getElem?_inj (List.getElem?_eq_some_iff.mp hi).1 w.nd).mp (hi.trans e1.symm))⟩
/-! ### a list that is being made -/
def Al.hide (al : Al) (p : Addr) : Al := ⟨al.a, p :: al.h⟩
theorem hide_stp (w : Wf K Tb al H M) (hp : H p = none) (u : HO) (hu : HidO p u) : Wf K Tb (al.hide p) (upd H p u) M ∧ (∀ (d : D) (v : V), Rp K al M H d v → Rp K (al.hide p) M (upd H p u) d v) := by
  have fz' : ∀ b o, H b = some o → Fz al M b → Fz (al.hide p) M b := fun b o h f => ⟨fun hm => by
    rcases List.mem_cons.mp hm with z | z
    · exact absurd (z ▸ h) (by rw [hp]; intro q; cases q)
    · exact f.1 z, f.2⟩
  have up : ∀ b o, H b = some o → upd H p u b = some o := fun b o h => by rw [upd_ne (ne_of_none h hp)]; exact h
  have all : (∀ (d : D) (v : V), Rp K al M H d v → Rp K (al.hide p) M (upd H p u) d v) := hideRp fz' fun b o h _ => up b o h
  have alls : (∀ (d : List D) (v : List V), Rps K al M H d v → Rps K (al.hide p) M (upd H p u) d v) := hideRps fz' fun b o h _ => up b o h
  refine ⟨⟨w.len, w.nd, fun i b mo e1 e2 => ?_, fun i b e => ?_, w.tb.ext up, fun b hb => ?_, fun i b mo e1 e2 hm => ?_⟩, all⟩
  · have r := w.rep i b mo e1 e2
    cases mo with
    | lst ds => obtain ⟨ys, h1, h2⟩ := r; exact ⟨ys, up _ _ h1, alls _ _ h2⟩
    | dK kvs => obtain ⟨ys, h1, h2⟩ := r; exact ⟨ys, up _ _ h1, h2.1, alls _ _ h2.2⟩
    | dT ks ds => obtain ⟨ys, h1, h2⟩ := r; exact ⟨ys, up _ _ h1, h2.1, alls _ _ h2.2⟩
    | ins C fs => obtain ⟨dx, ys, h1, h2⟩ := r; exact ⟨dx, ys, up _ _ h1, h2.1, alls _ _ h2.2⟩
  · obtain ⟨o, h1, h2⟩ := w.there i b e
    exact ⟨o, up _ _ h1, h2⟩
  · rcases List.mem_cons.mp hb with z | z
    · exact ⟨u, by rw [z]; exact upd_same, z ▸ hu⟩
    · obtain ⟨ys, h, q⟩ := w.hth b z
      exact ⟨ys, up _ _ h, q⟩
  · rcases List.mem_cons.mp hm with z | z
    · obtain ⟨o, h, _⟩ := w.there i b e1
      rw [z, hp] at h; cases h
    · exact w.hdis i b mo e1 e2 z
end
end DL

namespace DL
open PySem PySem.Spec PyProof.Rows L2

section
variable {K : PySem.W.Frag} {Tb : List (Addr × Str)} {EV : XK} {al : Al} {σ : L2.St} {H : Hp} {rho : Rho} {M : Mem} {E : XD}
theorem seq1 {ta : TED} {R : VD} {RV : VK} (a : At K Tb EV al σ H rho M E) (h : ta E rho M R)
    (k : ∀ al1 x M1 vx H1, Stp al M H al1 M1 H1 → At K Tb EV al1 σ H1 rho M1 E → Rp K al1 M1 H1 x vx → R x M1 → RV vx H1) : lift K Tb EV ta σ H RV :=
  ⟨al, rho, M, E, R, a, h, fun al' d M' v H' s w r q => k al' d M' v H' s (a.go s w) r q⟩
theorem seqT {ta : TTD} {R : Bool → Mem → Prop} {RV : Bool → Hp → Prop} (a : At K Tb EV al σ H rho M E) (h : ta E rho M R)
    (k : ∀ al1 b M1 H1, Stp al M H al1 M1 H1 → At K Tb EV al1 σ H1 rho M1 E → R b M1 → RV b H1) : liftT K Tb EV ta σ H RV :=
  ⟨al, rho, M, E, R, a, h, fun al' d M' H' s w q => k al' d M' H' s (a.go s w) q⟩
theorem seqA {ta : TAD} {R : List D → Mem → Prop} {RV : List V → Hp → Prop} (a : At K Tb EV al σ H rho M E) (h : ta E rho M R)
    (k : ∀ al1 x M1 vx H1, Stp al M H al1 M1 H1 → At K Tb EV al1 σ H1 rho M1 E → Rps K al1 M1 H1 x vx → R x M1 → RV vx H1) : liftA K Tb EV ta σ H RV :=
  ⟨al, rho, M, E, R, a, h, fun al' d M' v H' s w r q => k al' d M' v H' s (a.go s w) r q⟩
end

/-! ### names and constants -/
def dVar (i : Nat) : TED := fun _ rho M Q => match rho[i]? with
  | some (some d) => Q d M
  | _ => False
abbrev dC (d : D) : TED := fun _ _ M Q => Q d M
section
variable {X : Cx} {Tb : List (Addr × Str)} {EV : XK}
theorem dv_var (i : Nat) {x : Str} {pos : Pos} (hN : X.N[i]? = some x := by rfl) (hv : Vis X.env.scope x := by first | exact Or.inl rfl | exact Or.inr (Or.inl rfl) | exact Or.inr (Or.inr rfl)) (hd : (x == ("__debug__" : Str)) = false := by decide)
    (hcd : (x == ("__classdict__" : Str)) = false := by decide) : PD X Tb EV (.Name x pos) (dVar i) := pe_imp (pe_var (i := i) hN hv hd hcd) fun σ H QV h => by
  obtain ⟨al, rho, M, E, Q, a, t, p⟩ := h
  unfold dVar at t
  split at t
  · rename_i d e
    obtain ⟨v, e1, r⟩ := a.sl.2 i d e
    exact ⟨v, e1, p al d M v H (Stp.refl ..) a.wf r t⟩
  · exact t.elim
theorem dv_of_tC {e : Expr} {v : V} {d : D} (h : PE X e (tC v)) (r : ∀ al M H, Rp X.K al M H d v) : PD X Tb EV e (dC d) := pe_imp h fun σ H QV q => by
  obtain ⟨al, rho, M, E, Q, a, t, p⟩ := q
  exact p al d M v H (Stp.refl ..) a.wf (r _ _ _) t
theorem dv_int {i : Int} {j pos} : PD X Tb EV (.Constant (.int i) j pos) (dC (.int i)) := dv_of_tC pe_int fun _ _ _ => rfl
theorem dv_bl {b : Bool} {j pos} : PD X Tb EV (.Constant (.bool b) j pos) (dC (.bl b)) := dv_of_tC pe_bl fun _ _ _ => rfl
theorem dv_non {j pos} : PD X Tb EV (.Constant .none j pos) (dC .non) := dv_of_tC pe_non fun _ _ _ => rfl
theorem dv_str {x : Str} {j pos} : PD X Tb EV (.Constant (.str x) j pos) (dC (.str x)) := dv_of_tC pe_str fun _ _ _ => rfl
/-- a module's constant -/
theorem dv_glob {x : Str} {v : V} {u : Value} {d : D} {pos : Pos} (hg : Gl X x) (hm : X.mg x = some u) (rv : RelV v u) (r : ∀ al M H, Rp X.K al M H d v) (hd : (x == ("__debug__" : Str)) = false := by decide) : PD X Tb EV (.Name x pos) (dC d) := dv_of_tC (pe_glob hg hm rv hd) r
/-- a built-in's name as a value -/
theorem dv_bltn {x : Str} {v : V} {u : Value} {d : D} {pos : Pos} (hg : Gl X x) (hm : X.mg x = none) (hv : bootBuiltins x = some u) (rv : RelV v u) (r : ∀ al M H, Rp X.K al M H d v) (hn : x ≠ "__name__" := by decide) (hd : (x == ("__debug__" : Str)) = false := by decide) : PD X Tb EV (.Name x pos) (dC d) := dv_of_tC (pe_bltn hg hm hv rv hn hd) r
end

/-! ### operators -/
abbrev RD2 := D → D → Mem → VD → Prop
def RefOp (K : PySem.W.Frag) (Tb : List (Addr × Str)) (r : R2) (rD : RD2) : Prop :=
  ∀ al M H x y dx dy Q QV, Wf K Tb al H M → Rp K al M H dx x → Rp K al M H dy y → rD dx dy M Q → PostV K Tb al M H Q QV → r x y H QV
abbrev dOp (rD : RD2) (ta tb : TED) : TED := fun E rho M Q => ta E rho M fun x M1 => tb E rho M1 fun y M2 => rD x y M2 Q
section
variable {X : Cx} {Tb : List (Addr × Str)} {EV : XK} {a b c : Expr} {ta tb tc : TED} {pos : Pos}
theorem op_lift {r : R2} {rD : RD2} (hr : RefOp X.K Tb r rD) {σ : L2.St} {H : Hp} {QV : VK} (h : lift X.K Tb EV (dOp rD ta tb) σ H QV) : tOp r (lift X.K Tb EV ta) (lift X.K Tb EV tb) σ H QV := by
  obtain ⟨al, rho, M, E, Q, a, t, p⟩ := h
  refine seq1 a t fun al1 x M1 vx H1 s1 a1 r1 q1 => seq1 a1 q1 fun al2 y M2 vy H2 s2 a2 r2 q2 => ?_
  exact hr al2 M2 H2 vx vy x y Q QV a2.wf (r1.mono s2) r2 q2 (p.mono (s1.trans s2))
theorem dv_op {op : Operator} {r : R2} {rD : RD2} (ho : OpR X (binaryOp op) r) (hr : RefOp X.K Tb r rD) (ha : PD X Tb EV a ta) (hb : PD X Tb EV b tb) : PD X Tb EV (.BinOp a op b pos) (dOp rD ta tb) :=
  pe_imp (pe_op ho ha hb) fun _ _ _ h => op_lift hr h
theorem dv_cmp {op : CmpOp} {r : R2} {rD : RD2} (ho : OpR X (compareOp op) r) (hr : RefOp X.K Tb r rD) (ha : PD X Tb EV a ta) (hb : PD X Tb EV b tb) (hm : behindInMarks op b = false) : PD X Tb EV (.Compare a [op] [b] pos) (dOp rD ta tb) :=
  pe_imp (pe_cmpR ho ha hb hm) fun _ _ _ h => op_lift hr h
/-- a value that is a bool, as a test -/
abbrev dB (t : TED) : TTD := fun E rho M Q => t E rho M fun x M1 => match x with
  | .bl k => Q k M1
  | _ => False
theorem dt_cmp {op : CmpOp} {r : R2} {rD : RD2} (ho : OpR X (compareOp op) r) (hr : RefOp X.K Tb r rD) (ha : PD X Tb EV a ta) (hb : PD X Tb EV b tb) (hm : behindInMarks op b = false) : PDT X Tb EV (.Compare a [op] [b] pos) (dB (dOp rD ta tb)) :=
  pt_imp (pt_cmpR ho ha hb hm) fun σ H QV h => by
    obtain ⟨al, rho, M, E, Q, a, t, p⟩ := h
    refine op_lift hr ⟨al, rho, M, E, _, a, t, fun al' d M' v H' s w r q => ?_⟩
    cases d with
    | bl k => exact ⟨k, r, p _ _ _ _ s w q⟩
    | _ => exact (show False from q).elim
end

/-! ### ints -/
/-- sizes -/
def CDivX (j : Int) : Prop := j ≠ 0 ∧ j.natAbs.log2 < 9000
theorem op_fdivX {X : Cx} : OpR X (binaryOp .FloorDiv) (rI (fun _ j => CDivX j) fun i j => .int (i.fdiv j)) := opI fun _ _ _ _ _ _ _ hc q => floordiv_int hc.1 q (.inl (PyProof.noPylong_of_log2 hc.2))
theorem op_mulO {X : Cx} : OpR X (binaryOp .Mult) (rI IntMulOk fun i j => .int (i * j)) := opI fun _ _ _ _ _ _ _ hc q => mul_int q hc
def rIntD (C : Int → Int → Prop) (g : Int → Int → D) : RD2 := fun x y M Q => match x, y with
  | .int i, .int j => C i j ∧ Q (g i j) M
  | _, _ => False
abbrev rInt0D (g : Int → Int → D) : RD2 := fun x y M Q => match x, y with
  | .int i, .int j => Q (g i j) M
  | _, _ => False
section
variable {X : Cx} {Tb : List (Addr × Str)} {K : PySem.W.Frag}
theorem ref_int {C : Int → Int → Prop} {g : Int → Int → V} {gD : Int → Int → D} (hg : ∀ i j al M H, Rp K al M H (gD i j) (g i j)) : RefOp K Tb (rI C g) (rIntD C gD) := by
  intro al M H x y dx dy Q QV w rx ry h p
  unfold rIntD at h
  split at h
  · rename_i i j
    exact ⟨i, j, rx, ry, h.1, p al _ M _ H (Stp.refl ..) w (hg i j al M H) h.2⟩
  · exact h.elim
theorem ref_int0 {g : Int → Int → V} {gD : Int → Int → D} (hg : ∀ i j al M H, Rp K al M H (gD i j) (g i j)) : RefOp K Tb (rI0 g) (rInt0D gD) := by
  intro al M H x y dx dy Q QV w rx ry h p
  unfold rInt0D at h
  split at h
  · rename_i i j
    exact ⟨i, j, rx, ry, p al _ M _ H (Stp.refl ..) w (hg i j al M H) h⟩
  · exact h.elim
end
abbrev rSub_ : RD2 := rInt0D fun i j => .int (i - j)
abbrev rMul_ : RD2 := rIntD IntMulOk fun i j => .int (i * j)
abbrev rDiv_ : RD2 := rIntD (fun _ j => CDivX j) fun i j => .int (i.fdiv j)
abbrev rMod_ : RD2 := rIntD (fun _ j => j ≠ 0) fun i j => .int (i.fmod j)
abbrev rPow_ : RD2 := rIntD CPow fun i j => .int (i ^ j.toNat)
abbrev rLt_ : RD2 := rInt0D fun i j => .bl (decide (i < j))
abbrev rLe_ : RD2 := rInt0D fun i j => .bl (decide (i ≤ j))
abbrev rGt_ : RD2 := rInt0D fun i j => .bl (decide (j < i))
abbrev rGe_ : RD2 := rInt0D fun i j => .bl (decide (j ≤ i))
section
variable {X : Cx} {Tb : List (Addr × Str)} {EV : XK} {a b c : Expr} {ta tb tc : TED} {pos : Pos}
theorem dv_sub (ha : PD X Tb EV a ta) (hb : PD X Tb EV b tb) : PD X Tb EV (.BinOp a .Sub b pos) (dOp rSub_ ta tb) := dv_op op_sub (ref_int0 fun _ _ _ _ _ => rfl) ha hb
theorem dv_mul (ha : PD X Tb EV a ta) (hb : PD X Tb EV b tb) : PD X Tb EV (.BinOp a .Mult b pos) (dOp rMul_ ta tb) := dv_op op_mulO (ref_int fun _ _ _ _ _ => rfl) ha hb
theorem dv_fdiv (ha : PD X Tb EV a ta) (hb : PD X Tb EV b tb) : PD X Tb EV (.BinOp a .FloorDiv b pos) (dOp rDiv_ ta tb) := dv_op op_fdivX (ref_int fun _ _ _ _ _ => rfl) ha hb
theorem dv_mod (ha : PD X Tb EV a ta) (hb : PD X Tb EV b tb) : PD X Tb EV (.BinOp a .Mod b pos) (dOp rMod_ ta tb) := dv_op op_modN (ref_int fun _ _ _ _ _ => rfl) ha hb
theorem dv_pow (ha : PD X Tb EV a ta) (hb : PD X Tb EV b tb) : PD X Tb EV (.BinOp a .Pow b pos) (dOp rPow_ ta tb) := dv_op op_pow (ref_int fun _ _ _ _ _ => rfl) ha hb
theorem dt_lt (ha : PD X Tb EV a ta) (hb : PD X Tb EV b tb) : PDT X Tb EV (.Compare a [.Lt] [b] pos) (dB (dOp rLt_ ta tb)) := dt_cmp op_lt (ref_int0 fun _ _ _ _ _ => rfl) ha hb (nomark _)
theorem dt_le (ha : PD X Tb EV a ta) (hb : PD X Tb EV b tb) : PDT X Tb EV (.Compare a [.LtE] [b] pos) (dB (dOp rLe_ ta tb)) := dt_cmp op_le (ref_int0 fun _ _ _ _ _ => rfl) ha hb (nomark _)
theorem dt_gt (ha : PD X Tb EV a ta) (hb : PD X Tb EV b tb) : PDT X Tb EV (.Compare a [.Gt] [b] pos) (dB (dOp rGt_ ta tb)) := dt_cmp op_gt (ref_int0 fun _ _ _ _ _ => rfl) ha hb (nomark _)
theorem dt_ge (ha : PD X Tb EV a ta) (hb : PD X Tb EV b tb) : PDT X Tb EV (.Compare a [.GtE] [b] pos) (dB (dOp rGe_ ta tb)) := dt_cmp op_ge (ref_int0 fun _ _ _ _ _ => rfl) ha hb (nomark _)
theorem dv_lt (ha : PD X Tb EV a ta) (hb : PD X Tb EV b tb) : PD X Tb EV (.Compare a [.Lt] [b] pos) (dOp rLt_ ta tb) := dv_cmp op_lt (ref_int0 fun _ _ _ _ _ => rfl) ha hb (nomark _)
theorem dv_le (ha : PD X Tb EV a ta) (hb : PD X Tb EV b tb) : PD X Tb EV (.Compare a [.LtE] [b] pos) (dOp rLe_ ta tb) := dv_cmp op_le (ref_int0 fun _ _ _ _ _ => rfl) ha hb (nomark _)
theorem dv_gt (ha : PD X Tb EV a ta) (hb : PD X Tb EV b tb) : PD X Tb EV (.Compare a [.Gt] [b] pos) (dOp rGt_ ta tb) := dv_cmp op_gt (ref_int0 fun _ _ _ _ _ => rfl) ha hb (nomark _)
theorem dv_ge (ha : PD X Tb EV a ta) (hb : PD X Tb EV b tb) : PD X Tb EV (.Compare a [.GtE] [b] pos) (dOp rGe_ ta tb) := dv_cmp op_ge (ref_int0 fun _ _ _ _ _ => rfl) ha hb (nomark _)
/-- -a -/
abbrev dNeg (ta : TED) : TED := fun E rho M Q => ta E rho M fun x M1 => match x with
  | .int i => Q (.int (-i)) M1
  | _ => False
theorem dv_neg (ha : PD X Tb EV a ta) : PD X Tb EV (.UnaryOp .USub a pos) (dNeg ta) := pe_imp (pe_un un_neg ha) fun σ H QV h => by
  obtain ⟨al, rho, M, E, Q, a, t, p⟩ := h
  refine seq1 a t fun al1 x M1 vx H1 s1 a1 r1 q1 => ?_
  cases x with
  | int i => exact ⟨i, r1, p _ (.int (-i)) _ _ _ s1 a1.wf rfl q1⟩
  | _ => exact (show False from q1).elim
/-! ### and, or, not, if -/
abbrev dNot (t : TTD) : TTD := fun E rho M Q => t E rho M fun k M1 => Q (!k) M1
abbrev dAnd (t u : TTD) : TTD := fun E rho M Q => t E rho M fun k M1 => if k = true then u E rho M1 Q else Q false M1
abbrev dOr (t u : TTD) : TTD := fun E rho M Q => t E rho M fun k M1 => if k = true then Q true M1 else u E rho M1 Q
variable {tA tB' : TTD} {rest : List Expr}
abbrev PDW (X : Cx) (Tb : List (Addr × Str)) (EV : XK) (e : Expr) (t : TTD) : Prop := PW X e (liftT X.K Tb EV t)
theorem dt_not (h : PDT X Tb EV a tA) : PDT X Tb EV (.UnaryOp .Not a pos) (dNot tA) := pt_imp (pt_not h) fun σ H QV h => by
  obtain ⟨al, rho, M, E, Q, a, t, p⟩ := h
  exact seqT a t fun al1 k M1 H1 s1 a1 q1 => p _ _ _ _ s1 a1.wf q1
theorem dw_and1 (h : PDT X Tb EV a tA) : PDW X Tb EV (.BoolOp .And [a] pos) tA := pw_and1 h
theorem dw_or1 (h : PDT X Tb EV a tA) : PDW X Tb EV (.BoolOp .Or [a] pos) tA := pw_or1 h
theorem dw_and (ha : PDT X Tb EV a tA) (hb : PDW X Tb EV (.BoolOp .And (b :: rest) pos) tB') : PDW X Tb EV (.BoolOp .And (a :: b :: rest) pos) (dAnd tA tB') := pw_imp (pw_and ha hb) fun σ H QV h => by
  obtain ⟨al, rho, M, E, Q, a, t, p⟩ := h
  refine seqT a t fun al1 k M1 H1 s1 a1 q1 => ?_
  cases k with
  | true => exact ⟨al1, rho, M1, E, Q, a1, q1, p.mono s1⟩
  | false => exact p _ _ _ _ s1 a1.wf q1
theorem dw_or (ha : PDT X Tb EV a tA) (hb : PDW X Tb EV (.BoolOp .Or (b :: rest) pos) tB') : PDW X Tb EV (.BoolOp .Or (a :: b :: rest) pos) (dOr tA tB') := pw_imp (pw_or ha hb) fun σ H QV h => by
  obtain ⟨al, rho, M, E, Q, a, t, p⟩ := h
  refine seqT a t fun al1 k M1 H1 s1 a1 q1 => ?_
  cases k with
  | true => exact p _ _ _ _ s1 a1.wf q1
  | false => exact ⟨al1, rho, M1, E, Q, a1, q1, p.mono s1⟩
theorem dt_w {e : Expr} (h : PDW X Tb EV e tA) : PDT X Tb EV e tA := h.pt
/-- .. as values (bools) -/
abbrev dAndV (t u : TED) : TED := fun E rho M Q => t E rho M fun x M1 => match x with
  | .bl k => if k = true then u E rho M1 Q else Q (.bl false) M1
  | _ => False
abbrev dOrV (t u : TED) : TED := fun E rho M Q => t E rho M fun x M1 => match x with
  | .bl k => if k = true then Q (.bl true) M1 else u E rho M1 Q
  | _ => False
abbrev dNotV (t : TED) : TED := fun E rho M Q => t E rho M fun x M1 => match x with
  | .bl k => Q (.bl (!k)) M1
  | _ => False
theorem dv_one {op} (h : PD X Tb EV a ta) : PD X Tb EV (.BoolOp op [a] pos) ta := pe_one h
theorem dv_and (ha : PD X Tb EV a ta) (hb : PD X Tb EV (.BoolOp .And (b :: rest) pos) tb) : PD X Tb EV (.BoolOp .And (a :: b :: rest) pos) (dAndV ta tb) := pe_imp (pe_and ha hb) fun σ H QV h => by
  obtain ⟨al, rho, M, E, Q, a, t, p⟩ := h
  refine seq1 a t fun al1 x M1 vx H1 s1 a1 r1 q1 => ?_
  cases x with
  | bl k =>
    refine ⟨k, r1, ?_⟩
    cases k with
    | true => exact ⟨al1, rho, M1, E, Q, a1, q1, p.mono s1⟩
    | false => exact p _ (.bl false) _ _ _ s1 a1.wf rfl q1
  | _ => exact (show False from q1).elim
theorem dv_or (ha : PD X Tb EV a ta) (hb : PD X Tb EV (.BoolOp .Or (b :: rest) pos) tb) : PD X Tb EV (.BoolOp .Or (a :: b :: rest) pos) (dOrV ta tb) := pe_imp (pe_or ha hb) fun σ H QV h => by
  obtain ⟨al, rho, M, E, Q, a, t, p⟩ := h
  refine seq1 a t fun al1 x M1 vx H1 s1 a1 r1 q1 => ?_
  cases x with
  | bl k =>
    refine ⟨k, r1, ?_⟩
    cases k with
    | true => exact p _ (.bl true) _ _ _ s1 a1.wf rfl q1
    | false => exact ⟨al1, rho, M1, E, Q, a1, q1, p.mono s1⟩
  | _ => exact (show False from q1).elim
theorem dv_not (ha : PD X Tb EV a ta) : PD X Tb EV (.UnaryOp .Not a pos) (dNotV ta) := pe_imp (pe_not ha) fun σ H QV h => by
  obtain ⟨al, rho, M, E, Q, a, t, p⟩ := h
  refine seq1 a t fun al1 x M1 vx H1 s1 a1 r1 q1 => ?_
  cases x with
  | bl k => exact ⟨k, r1, p _ (.bl (!k)) _ _ _ s1 a1.wf rfl q1⟩
  | _ => exact (show False from q1).elim
abbrev dIf (t : TTD) (ta tb : TED) : TED := fun E rho M Q => t E rho M fun k M1 => if k = true then ta E rho M1 Q else tb E rho M1 Q
theorem dv_if (hc : PDT X Tb EV c tA) (ha : PD X Tb EV a ta) (hb : PD X Tb EV b tb) : PD X Tb EV (.IfExp c a b pos) (dIf tA ta tb) := pe_imp (pe_ifExp hc ha hb) fun σ H QV h => by
  obtain ⟨al, rho, M, E, Q, a, t, p⟩ := h
  refine seqT a t fun al1 k M1 H1 s1 a1 q1 => ?_
  cases k with
  | true => exact ⟨al1, rho, M1, E, Q, a1, q1, p.mono s1⟩
  | false => exact ⟨al1, rho, M1, E, Q, a1, q1, p.mono s1⟩
/-- a op1 b op2 c -/
def dChain (r r' : RD2) (ta tb tc : TED) : TED := fun E rho M Q => ta E rho M fun x M1 => tb E rho M1 fun y M2 => r x y M2 fun z M3 => match z with
  | .bl k => if k = true then tc E rho M3 fun w M4 => r' y w M4 Q else Q (.bl false) M3
  | _ => False
theorem chain_lift {r r' : R2} {rD rD' : RD2} (hr : RefOp X.K Tb r rD) (hr' : RefOp X.K Tb r' rD') {σ : L2.St} {H : Hp} {QV : VK} (h : lift X.K Tb EV (dChain rD rD' ta tb tc) σ H QV) : tChain r r' (lift X.K Tb EV ta) (lift X.K Tb EV tb) (lift X.K Tb EV tc) σ H QV := by
  obtain ⟨al, rho, M, E, Q, a, t, p⟩ := h
  refine seq1 a t fun al1 x M1 vx H1 s1 a1 r1 q1 => seq1 a1 q1 fun al2 y M2 vy H2 s2 a2 r2 q2 => ?_
  refine hr al2 M2 H2 vx vy x y _ _ a2.wf (r1.mono s2) r2 q2 fun al3 z M3 vz H3 s3 w3 r3 q3 => ?_
  cases z with
  | bl k =>
    refine ⟨k, r3, ?_⟩
    cases k with
    | true =>
      rw [if_pos rfl]
      refine seq1 (a2.go s3 w3) q3 fun al4 u M4 vu H4 s4 a4 r4 q4 => ?_
      exact hr' al4 M4 H4 vy vu y u Q QV a4.wf (r2.mono (s3.trans s4)) r4 q4 (p.mono (((s1.trans s2).trans s3).trans s4))
    | false => exact p _ (.bl false) _ _ _ ((s1.trans s2).trans s3) w3 rfl q3
  | _ => exact (show False from q3).elim
theorem dv_chain {op op' : CmpOp} {r r' : R2} {rD rD' : RD2} (ho : OpR X (compareOp op) r) (hr : RefOp X.K Tb r rD) (ho' : OpR X (compareOp op') r') (hr' : RefOp X.K Tb r' rD') (ha : PD X Tb EV a ta) (hb : PD X Tb EV b tb) (hc : PD X Tb EV c tc)
    (hm : lastMarks [op, op'] [b, c] = false := by with_unfolding_all rfl) : PD X Tb EV (.Compare a [op, op'] [b, c] pos) (dChain rD rD' ta tb tc) := pe_imp (pe_chain ho ho' ha hb hc hm) fun _ _ _ h => chain_lift hr hr' h
theorem dt_chain {op op' : CmpOp} {r r' : R2} {rD rD' : RD2} (ho : OpR X (compareOp op) r) (hr : RefOp X.K Tb r rD) (ho' : OpR X (compareOp op') r') (hr' : RefOp X.K Tb r' rD') (ha : PD X Tb EV a ta) (hb : PD X Tb EV b tb) (hc : PD X Tb EV c tc)
    (hm : lastMarks [op, op'] [b, c] = false := by with_unfolding_all rfl) : PDT X Tb EV (.Compare a [op, op'] [b, c] pos) (dB (dChain rD rD' ta tb tc)) := pt_imp (pt_chain ho ho' ha hb hc hm) fun σ H QV h => by
  obtain ⟨al, rho, M, E, Q, a, t, p⟩ := h
  refine chain_lift hr hr' ⟨al, rho, M, E, _, a, t, fun al' d M' v H' s w r q => ?_⟩
  cases d with
  | bl k => exact ⟨k, r, p _ _ _ _ s w q⟩
  | _ => exact (show False from q).elim
end
/-! ### tests whose answer is open -/
theorem ifd {p : Prop} [Decidable p] {A B : Prop} (h1 : p → A) (h2 : ¬ p → B) : if decide p = true then A else B := by
  by_cases h : p
  · rw [decide_eq_true h]; exact h1 h
  · rw [decide_eq_false h]; exact h2 h
theorem ifn {p : Prop} [Decidable p] {A B : Prop} (h1 : ¬ p → A) (h2 : p → B) : if (!decide p) = true then A else B := by
  by_cases h : p
  · rw [decide_eq_true h]; exact h2 h
  · rw [decide_eq_false h]; exact h1 h
theorem ifb {b : Bool} {A B : Prop} (h1 : b = true → A) (h2 : b = false → B) : if b = true then A else B := by
  cases b
  · exact h2 rfl
  · exact h1 rfl
end DL

namespace DL
open PySem PySem.Spec PyProof.Rows L2

/-! ### sequences -/
def memL (M : Mem) (i : Nat) : Option (List D) := match M[i]? with
  | some (some (.lst xs)) => some xs
  | _ => none
/-- a list of one's own (no locked one) -/
def asL (M : Mem) : D → Option (List D)
  | .lst xs => some xs
  | .mt i => memL M i
  | _ => none
def seqD (M : Mem) : D → Option (List D)
  | .tup xs => some xs
  | .lst xs => some xs
  | .rol xs => some xs
  | .mt i => memL M i
  | _ => none
section
variable {K : PySem.W.Frag} {Tb : List (Addr × Str)} {al : Al} {M : Mem} {H : Hp}
theorem memL_ok (w : Wf K Tb al H M) {i : Nat} {ds : List D} (h : memL M i = some ds) {v : V} (r : Rp K al M H (.mt i) v) : ∃ a xs, v = .ref a ∧ al.a[i]? = some a ∧ M[i]? = some (some (.lst ds)) ∧ H a = some (.lst xs) ∧ Rps K al M H ds xs := by
  obtain ⟨a, e, rfl⟩ := r
  unfold memL at h
  split at h
  · rename_i xs e2
    cases h
    obtain ⟨ys, h1, h2⟩ := w.rep i a _ e e2
    exact ⟨a, ys, rfl, e, e2, h1, h2⟩
  · cases h
theorem asL_ok (w : Wf K Tb al H M) {d : D} {ds : List D} (h : asL M d = some ds) {v : V} (r : Rp K al M H d v) : ∃ a xs, v = .ref a ∧ H a = some (.lst xs) ∧ Rps K al M H ds xs := by
  cases d with
  | lst xs =>
    cases h
    obtain ⟨a, ys, e, h1, _, h2⟩ := r
    exact ⟨a, ys, e, h1, h2⟩
  | mt i =>
    obtain ⟨a, xs, e, _, _, h1, h2⟩ := memL_ok w h r
    exact ⟨a, xs, e, h1, h2⟩
  | _ => cases h
theorem seqD_ok (w : Wf K Tb al H M) {d : D} {ds : List D} (h : seqD M d = some ds) {v : V} (r : Rp K al M H d v) : ∃ a xs, v = .ref a ∧ (SqL K H a xs ∨ SqT K H a xs) ∧ Rps K al M H ds xs := by
  cases d with
  | tup xs =>
    cases h
    obtain ⟨a, ys, e, h1, h2⟩ := r
    exact ⟨a, ys, e, .inr h1.sq, h2⟩
  | lst xs =>
    cases h
    obtain ⟨a, ys, e, h1, _, h2⟩ := r
    exact ⟨a, ys, e, .inl (SqL.of h1), h2⟩
  | rol xs =>
    cases h
    obtain ⟨a, ys, e, h1, h2⟩ := r
    exact ⟨a, ys, e, .inl h1.sq, h2⟩
  | mt i =>
    obtain ⟨a, xs, e, _, _, h1, h2⟩ := memL_ok w h r
    exact ⟨a, xs, e, .inl (SqL.of h1), h2⟩
  | _ => cases h
theorem Rps.atI {ds : List D} {xs : List V} {i : Int} {d : D} (r : Rps K al M H ds xs) (h : L2.atI ds i = some d) : ∃ v, L2.atI xs i = some v ∧ Rp K al M H d v := by
  unfold L2.atI at h ⊢
  rw [r.length] at h
  cases e : ixN xs.length i with
  | none => rw [e] at h; cases h
  | some j =>
    rw [e] at h
    exact r.get h
end

/-! ### arguments, displays -/
abbrev dNil : TAD := fun _ _ M Q => Q [] M
abbrev dCons (t : TED) (u : TAD) : TAD := fun E rho M Q => t E rho M fun x M1 => u E rho M1 fun xs M2 => Q (x :: xs) M2
abbrev dTup (t : TAD) : TED := fun E rho M Q => t E rho M fun xs M1 => xs.length ≤ sizeLine ∧ Q (.tup xs) M1
abbrev dLst (t : TAD) : TED := fun E rho M Q => t E rho M fun xs M1 => xs.length ≤ sizeLine ∧ Q (.lst xs) M1
/-- .. a list that will be changed -/
abbrev dLstM (t : TAD) : TED := fun E rho M Q => t E rho M fun xs M1 => xs.length ≤ sizeLine ∧ Q (.mt M1.length) (M1 ++ [some (.lst xs)])
section
variable {X : Cx} {Tb : List (Addr × Str)} {EV : XK} {e : Expr} {es : List Expr} {te : TED} {t : TAD} {pos : Pos}
theorem da_nil : PDA X Tb EV [] dNil := pa_imp pa_nil fun σ H QV h => by
  obtain ⟨al, rho, M, E, Q, a, t, p⟩ := h
  exact p _ [] _ _ _ (Stp.refl ..) a.wf rfl t
theorem da_cons (ha : PD X Tb EV e te) (hr : PDA X Tb EV es t) (hs : starEach (e :: es) X.env = (false, eval e X.env) :: starEach es X.env := by rfl) : PDA X Tb EV (e :: es) (dCons te t) := pa_imp (pa_cons ha hr hs) fun σ H QV h => by
  obtain ⟨al, rho, M, E, Q, a, t, p⟩ := h
  refine seq1 a t fun al1 x M1 vx H1 s1 a1 r1 q1 => seqA a1 q1 fun al2 xs M2 vs H2 s2 a2 r2 q2 => ?_
  exact p _ (x :: xs) _ _ _ (s1.trans s2) a2.wf ⟨vx, vs, rfl, r1.mono s2, r2⟩ q2
theorem dv_tup {x1} (h : PDA X Tb EV es t) : PD X Tb EV (.Tuple es x1 pos) (dTup t) := pe_imp (pe_tup h) fun σ H QV h => by
  obtain ⟨al, rho, M, E, Q, a, t, p⟩ := h
  refine seqA a t fun al1 xs M1 vs H1 s1 a1 r1 q1 => ⟨by rw [← r1.length]; exact q1.1, fun b hb => ?_⟩
  exact p _ _ _ _ _ (s1.trans (stp_new a1.wf hb _)) (wf_new a1.wf hb _) (rp_tup a1.wf hb r1) q1.2
theorem dv_lst (h : PDA X Tb EV es t) : PD X Tb EV (.List es pos) (dLst t) := pe_imp (pe_lst h) fun σ H QV h => by
  obtain ⟨al, rho, M, E, Q, a, t, p⟩ := h
  refine seqA a t fun al1 xs M1 vs H1 s1 a1 r1 q1 => ⟨by rw [← r1.length]; exact q1.1, fun b hb => ?_⟩
  exact p _ _ _ _ _ (s1.trans (stp_new a1.wf hb _)) (wf_new a1.wf hb _) (rp_lst a1.wf hb r1) q1.2
/-- a new mutable list at p -/
theorem mut_lst {K : PySem.W.Frag} {al : Al} {M : Mem} {H : Hp} {p : Addr} {ds : List D} {xs : List V} (w : Wf K Tb al H M) (hp : H p = none) (r : Rps K al M H ds xs) :
    Stp al M H (al.push p) (M ++ [some (.lst ds)]) (upd H p (.lst xs)) ∧ Wf K Tb (al.push p) (upd H p (.lst xs)) (M ++ [some (.lst ds)]) ∧ Rp K (al.push p) (M ++ [some (.lst ds)]) (upd H p (.lst xs)) (.mt M.length) (.ref p) :=
  have s := stp_mut w hp (.lst xs) (.lst ds)
  ⟨s, wf_mut w hp (fun _ z => by cases z) ⟨xs, upd_same, r.mono s⟩, ⟨p, al_last w, rfl⟩⟩
theorem dv_lstM (h : PDA X Tb EV es t) : PD X Tb EV (.List es pos) (dLstM t) := pe_imp (pe_lst h) fun σ H QV h => by
  obtain ⟨al, rho, M, E, Q, a, t, p⟩ := h
  refine seqA a t fun al1 xs M1 vs H1 s1 a1 r1 q1 => ⟨by rw [← r1.length]; exact q1.1, fun b hb => ?_⟩
  obtain ⟨h1, h2, h3⟩ := mut_lst a1.wf hb r1
  exact p _ _ _ _ _ (s1.trans h1) h2 h3 q1.2
end

/-! ### + -/
def rAdd_ : RD2 := fun x y M Q => match x, y with
  | .int i, .int j => Q (.int (i + j)) M
  | .str i, .str j => i.length + j.length ≤ sizeLine ∧ Q (.str (i ++ j)) M
  | .tup xs, .tup ys => xs.length + ys.length ≤ sizeLine ∧ Q (.tup (xs ++ ys)) M
  | x, y => match asL M x, asL M y with
    | some xs, some ys => xs.length + ys.length ≤ sizeLine ∧ Q (.lst (xs ++ ys)) M
    | _, _ => False
section
variable {X : Cx} {Tb : List (Addr × Str)} {EV : XK} {a b c : Expr} {ta tb tc : TED} {pos : Pos}
theorem Rps.nil_of {K : PySem.W.Frag} {al : Al} {M : Mem} {H : Hp} {ds : List D} {xs : List V} (r : Rps K al M H ds xs) : ds = [] ↔ xs = [] := by
  have := r.length
  constructor
  · rintro rfl; cases xs with | nil => rfl | cons => simp at this
  · rintro rfl; cases ds with | nil => rfl | cons => simp at this
theorem Rps.nil {K : PySem.W.Frag} {al : Al} {M : Mem} {H : Hp} : Rps K al M H [] [] := rfl
theorem ref_add : RefOp X.K Tb (fun x y H Q => (rI0 fun i j => V.int (i + j)) x y H Q ∨ (∃ i j, x = .str i ∧ y = .str j ∧ i.length + j.length ≤ sizeLine ∧ Q (.str (i ++ j)) H) ∨ rCatA X.K x y H Q ∨ rCat x y H Q) rAdd_ := by
  intro al M H x y dx dy Q QV w rx ry h p
  unfold rAdd_ at h
  split at h
  · rename_i i j
    exact .inl ⟨i, j, rx, ry, p al (.int (i + j)) M _ H (Stp.refl ..) w rfl h⟩
  · rename_i i j
    exact .inr (.inl ⟨i, j, rx, ry, h.1, p al (.str (i ++ j)) M _ H (Stp.refl ..) w rfl h.2⟩)
  · rename_i xs ys
    obtain ⟨a, us, rfl, h1, h2⟩ := rx
    obtain ⟨b, ws, rfl, h3, h4⟩ := ry
    refine .inr (.inr (.inl ⟨a, b, us, ws, rfl, rfl, h1.sq, h3.sq, by rw [← h2.length, ← h4.length]; exact h.1, fun e => ?_, fun _ e => ?_, fun _ _ q hq => ?_⟩))
    · have e' := h2.nil_of.mpr e
      subst e'
      exact p al (.tup ys) M _ H (Stp.refl ..) w ⟨b, ws, rfl, h3, h4⟩ (by simpa using h.2)
    · have e' := h4.nil_of.mpr e
      subst e'
      exact p al (.tup xs) M _ H (Stp.refl ..) w ⟨a, us, rfl, h1, h2⟩ (by simpa using h.2)
    · exact p _ _ _ _ _ (stp_new w hq _) (wf_new w hq _) (rp_tup w hq (h2.append h4)) h.2
  · split at h
    · rename_i xs ys e1 e2
      obtain ⟨a, us, rfl, h1, h2⟩ := asL_ok w e1 rx
      obtain ⟨b, ws, rfl, h3, h4⟩ := asL_ok w e2 ry
      exact .inr (.inr (.inr ⟨a, b, us, ws, rfl, rfl, h1, h3, by rw [← h2.length, ← h4.length]; exact h.1, fun q hq => p _ _ _ _ _ (stp_new w hq _) (wf_new w hq _) (rp_lst w hq (h2.append h4)) h.2⟩))
    · exact h.elim
theorem dv_add (ha : PD X Tb EV a ta) (hb : PD X Tb EV b tb) : PD X Tb EV (.BinOp a .Add b pos) (dOp rAdd_ ta tb) := dv_op (op_add.or (op_add_str.or (op_catA.or op_cat))) ref_add ha hb
/-! ### items -/
def rIx_ : RD2 := fun x y M Q => match y with
  | .int i => match seqD M x with
    | some ds => (match L2.atI ds i with
      | some d => Q d M
      | none => False)
    | none => match x with
      | .str z => z.length ≤ sizeLine ∧ (match L2.atI z.cps.toList i with
        | some c => Q (.str ⟨#[c]⟩) M
        | none => False)
      | _ => False
  | _ => False
theorem ref_ix : RefOp X.K Tb (rIx X.K) rIx_ := by
  intro al M H x y dx dy Q QV w rx ry h p
  unfold rIx_ at h
  split at h
  · rename_i i
    split at h
    · rename_i ds e
      split at h
      · rename_i d e2
        obtain ⟨a, xs, rfl, hq, r⟩ := seqD_ok w e rx
        obtain ⟨v, e3, rv⟩ := r.atI e2
        rcases hq with hq | hq
        · exact .inl ⟨a, xs, i, v, rfl, ry, hq, e3, p _ _ _ _ _ (Stp.refl ..) w rv h⟩
        · exact .inr (.inl ⟨a, xs, i, v, rfl, ry, hq, e3, p _ _ _ _ _ (Stp.refl ..) w rv h⟩)
      · exact h.elim
    · split at h
      · rename_i z _
        obtain ⟨h1, h⟩ := h
        split at h
        · rename_i c e2
          exact .inr (.inr ⟨z, i, c, rx, ry, h1, e2, p _ (.str ⟨#[c]⟩) _ _ _ (Stp.refl ..) w rfl h⟩)
        · exact h.elim
      · exact h.elim
  · exact h.elim
theorem dv_ix (ha : PD X Tb EV a ta) (hb : PD X Tb EV b tb) (hs : PlainIx b := by intro _ _; rfl) : PD X Tb EV (.Subscript a b pos) (dOp rIx_ ta tb) := pe_imp (pe_ix ix_seq ha hb hs) fun _ _ _ h => op_lift ref_ix h
end

/-! ### slices -/
abbrev TOD := XD → Rho → Mem → (Option Int → Mem → Prop) → Prop
def liftO (K : PySem.W.Frag) (Tb : List (Addr × Str)) (EV : XK) (t : TOD) : TO := fun σ H QV => ∃ al rho M E Q, At K Tb EV al σ H rho M E ∧ t E rho M Q ∧ ∀ al' o M' H', Stp al M H al' M' H' → Wf K Tb al' H' M' → Q o M' → QV o H'
abbrev oNone : TOD := fun _ _ M Q => Q none M
abbrev oSome (t : TED) : TOD := fun E rho M Q => t E rho M fun x M1 => match x with
  | .int i => Q (some i) M1
  | _ => False
def cutL {α : Type} (xs : List α) (lo hi : Option Int) : List α := (xs.drop (HT.sIx xs.length 0 lo)).take (HT.sIx xs.length xs.length hi - HT.sIx xs.length 0 lo)
theorem Rps.cut {K : PySem.W.Frag} {al : Al} {M : Mem} {H : Hp} {ds : List D} {xs : List V} (r : Rps K al M H ds xs) (lo hi : Option Int) : Rps K al M H (cutL ds lo hi) (cutV xs lo hi) := by
  unfold cutL cutV
  rw [r.length]
  exact (r.drop _).take _
def rSl_ (x : D) (lo hi : Option Int) (M : Mem) (Q : VD) : Prop := match x with
  | .str z => z.length ≤ sizeLine ∧ Q (.str (cutS z lo hi)) M
  | .tup xs => Q (.tup (cutL xs lo hi)) M
  | .rol xs => Q (.lst (cutL xs lo hi)) M
  | x => match asL M x with
    | some xs => Q (.lst (cutL xs lo hi)) M
    | none => False
abbrev dSl (te : TED) (tl th : TOD) : TED := fun E rho M Q => te E rho M fun x M1 => tl E rho M1 fun l M2 => th E rho M2 fun u M3 => rSl_ x l u M3 Q
section
variable {X : Cx} {Tb : List (Addr × Str)} {EV : XK} {e : Expr} {lo hi : Option Expr} {te : TED} {tl th : TOD} {pos p2 : Pos}
theorem do_none : PO X none (liftO X.K Tb EV oNone) := ⟨fun pins s σ H Q I h => by
  obtain ⟨al, rho, M, E, Q', a, t, p⟩ := h
  exact po_none.run pins s σ H Q I (p _ _ _ _ (Stp.refl ..) a.wf t)⟩
theorem do_some (h : PD X Tb EV e te) : PO X (some e) (liftO X.K Tb EV (oSome te)) := ⟨fun pins s σ H Q I q => by
  obtain ⟨al, rho, M, E, Q', a, t, p⟩ := q
  refine (po_some h).run pins s σ H Q I (seq1 a t fun al1 x M1 vx H1 s1 a1 r1 q1 => ?_)
  cases x with
  | int i => exact ⟨i, r1, p _ _ _ _ s1 a1.wf q1⟩
  | _ => exact (show False from q1).elim⟩
theorem dv_slice (he : PD X Tb EV e te) (hl : PO X lo (liftO X.K Tb EV tl)) (hu : PO X hi (liftO X.K Tb EV th)) : PD X Tb EV (.Subscript e (.Slice lo hi none p2) pos) (dSl te tl th) :=
  pe_imp (pe_slice (sl_list.or (sl_tupA.or sl_str)) he hl hu) fun σ H QV h => by
    obtain ⟨al, rho, M, E, Q, a, t, p⟩ := h
    refine seq1 a t fun al1 x M1 vx H1 s1 a1 r1 q1 => ⟨al1, rho, M1, E, _, a1, q1, fun al2 l M2 H2 s2 w2 q2 => ⟨al2, rho, M2, E, _, a1.go s2 w2, q2, fun al3 u M3 H3 s3 w3 q3 => ?_⟩⟩
    have r3 := r1.mono (s2.trans s3)
    have p3 := p.mono (s1.trans (s2.trans s3))
    unfold rSl_ at q3
    split at q3
    · rename_i z
      exact .inr (.inr ⟨z, r3, q3.1, p3 _ (.str (cutS z l u)) _ _ _ (Stp.refl ..) w3 rfl q3.2⟩)
    · rename_i xs
      obtain ⟨b, ys, rfl, h1, h2⟩ := r3
      refine .inr (.inl ⟨b, ys, rfl, h1.sq, fun hw => ?_, fun hw q hq => p3 _ _ _ _ _ (stp_new w3 hq _) (wf_new w3 hq _) (rp_tup w3 hq (h2.cut l u)) q3⟩)
      have e : cutL xs l u = xs := by
        unfold cutL
        rw [h2.length, hw.1, hw.2]
        simp [← h2.length]
      rw [e] at q3
      exact p3 _ (.tup xs) _ _ _ (Stp.refl ..) w3 ⟨b, ys, rfl, h1, h2⟩ q3
    · rename_i xs
      obtain ⟨b, ys, rfl, h1, h2⟩ := r3
      exact .inl ⟨b, ys, rfl, h1.sq, fun q hq => p3 _ _ _ _ _ (stp_new w3 hq _) (wf_new w3 hq _) (rp_lst w3 hq (h2.cut l u)) q3⟩
    · split at q3
      · rename_i xs e1
        obtain ⟨b, ys, rfl, h1, h2⟩ := asL_ok w3 e1 r3
        exact .inl ⟨b, ys, rfl, SqL.of h1, fun q hq => p3 _ _ _ _ _ (stp_new w3 hq _) (wf_new w3 hq _) (rp_lst w3 hq (h2.cut l u)) q3⟩
      · exact q3.elim
end

/-! ### equality -/
mutual
def toPy : D → Option PyData
  | .non => some .none
  | .bl b => some (.bool b)
  | .int i => some (.int i)
  | .str x => some (.str x)
  | .tup xs => (toPys xs).map .tuple
  | .lst xs => (toPys xs).map .list
  | .rol xs => (toPys xs).map .list
  | _ => none
def toPys : List D → Option (List PyData)
  | [] => some []
  | x :: xs => match toPy x, toPys xs with
    | some p, some ps => some (p :: ps)
    | _, _ => none
end
def toPyM (M : Mem) : D → Option PyData
  | .mt i => match memL M i with
    | some xs => (toPys xs).map .list
    | none => none
  | d => toPy d
section
variable {K : PySem.W.Frag} {Tb : List (Addr × Str)} {al : Al} {M : Mem} {H : Hp}
mutual
theorem toPy_ok : ∀ {d : D} {p : PyData} {v : V}, toPy d = some p → Rp K al M H d v → Dp K H v p
  | .non, _, _, e, r => by cases e; cases (show _ = _ from r); exact .non
  | .bl b, _, _, e, r => by cases e; cases (show _ = _ from r); exact .bl b
  | .int i, _, _, e, r => by cases e; cases (show _ = _ from r); exact .int i
  | .str x, _, _, e, r => by cases e; cases (show _ = _ from r); exact .str x
  | .tup xs, _, _, e, r => by
    obtain ⟨a, ys, rfl, h1, h2⟩ := r
    unfold toPy at e
    cases q : toPys xs with
    | none => rw [q] at e; cases e
    | some ps => rw [q] at e; cases e; exact .tup h1.sq (toPys_ok q h2)
  | .lst xs, _, _, e, r => by
    obtain ⟨a, ys, rfl, h1, _, h2⟩ := r
    unfold toPy at e
    cases q : toPys xs with
    | none => rw [q] at e; cases e
    | some ps => rw [q] at e; cases e; exact .lst (SqL.of h1) (toPys_ok q h2)
  | .rol xs, _, _, e, r => by
    obtain ⟨a, ys, rfl, h1, h2⟩ := r
    unfold toPy at e
    cases q : toPys xs with
    | none => rw [q] at e; cases e
    | some ps => rw [q] at e; cases e; exact .lst h1.sq (toPys_ok q h2)
  | .ty _, _, _, e, _ => by cases e
  | .obj _ _ _, _, _, e, _ => by cases e
  | .exc _ _ _, _, _, e, _ => by cases e
  | .dk _ _, _, _, e, _ => by cases e
  | .dt _ _, _, _, e, _ => by cases e
  | .ref _, _, _, e, _ => by cases e
  | .mt _, _, _, e, _ => by cases e
theorem toPys_ok : ∀ {ds : List D} {ps : List PyData} {xs : List V}, toPys ds = some ps → Rps K al M H ds xs → DpAll K H xs ps
  | [], _, _, e, r => by cases e; cases (show _ = [] from r); exact .nil
  | d :: ds, _, _, e, r => by
    obtain ⟨x, xs, rfl, h1, h2⟩ := r
    unfold toPys at e
    split at e
    · rename_i p ps e1 e2
      cases e
      exact .cons (toPy_ok e1 h1) (toPys_ok e2 h2)
    · cases e
end
theorem toPyM_ok (w : Wf K Tb al H M) {d : D} {p : PyData} {v : V} (e : toPyM M d = some p) (r : Rp K al M H d v) : Dp K H v p := by
  unfold toPyM at e
  split at e
  · rename_i i
    split at e
    · rename_i xs e1
      obtain ⟨a, ys, rfl, _, _, h1, h2⟩ := memL_ok w e1 r
      cases q : toPys xs with
      | none => rw [q] at e; cases e
      | some ps => rw [q] at e; cases e; exact .lst (SqL.of h1) (toPys_ok q h2)
    · cases e
  · exact toPy_ok e r
end
/-- scalars: what == says of them -/
def scalD : D → D → Option Bool
  | .int i, .int j => some (decide (i = j))
  | .str x, .str y => some (decide (x = y))
  | .bl a, .bl b => some (decide (a = b))
  | .non, .non => some true
  | .non, .int _ => some false | .int _, .non => some false | .non, .bl _ => some false | .bl _, .non => some false | .non, .str _ => some false | .str _, .non => some false
  | .int _, .str _ => some false | .str _, .int _ => some false | .bl _, .str _ => some false | .str _, .bl _ => some false
  | _, _ => none
theorem scalD_ok {K : PySem.W.Frag} {al : Al} {M : Mem} {H : Hp} {dx dy : D} {x y : V} {b : Bool} (e : scalD dx dy = some b) (rx : Rp K al M H dx x) (ry : Rp K al M H dy y) : scal x y = true ∧ decide (x = y) = b := by
  cases dx <;> cases dy <;> first | (cases (show (none : Option Bool) = some b from e)) | skip
  all_goals
    cases (show _ = _ from rx)
    cases (show _ = _ from ry)
    have e' := Option.some.inj e
    subst e'
    exact ⟨rfl, by simp⟩
def rEq_ : RD2 := fun x y M Q => match scalD x y with
  | some b => Q (.bl b) M
  | none => match toPyM M x, toPyM M y with
    | some p, some q => SeqAt.shaped p = true ∧ SeqAt.shaped q = true ∧ Q (.bl (PyData.eqv p q)) M
    | _, _ => False
def rNe_ : RD2 := fun x y M Q => match scalD x y with
  | some b => Q (.bl (!b)) M
  | none => match toPyM M x, toPyM M y with
    | some p, some q => SeqAt.shaped p = true ∧ SeqAt.shaped q = true ∧ Q (.bl (!PyData.eqv p q)) M
    | _, _ => False
section
variable {X : Cx} {Tb : List (Addr × Str)} {EV : XK} {a b c : Expr} {ta tb tc : TED} {pos : Pos}
theorem ref_eq : RefOp X.K Tb (fun x y H Q => rEq x y H Q ∨ L2.rEqD X.K x y H Q) rEq_ := by
  intro al M H x y dx dy Q QV w rx ry h p
  unfold rEq_ at h
  split at h
  · rename_i b e
    obtain ⟨h1, h2⟩ := scalD_ok e rx ry
    exact .inl ⟨h1, by rw [h2]; exact p _ (.bl b) _ _ _ (Stp.refl ..) w rfl (by simpa using h)⟩
  · split at h
    · rename_i p1 p2 e1 e2
      exact .inr ⟨p1, p2, toPyM_ok w e1 rx, toPyM_ok w e2 ry, h.1, h.2.1, p _ (.bl _) _ _ _ (Stp.refl ..) w rfl (by simpa using h.2.2)⟩
    · exact h.elim
theorem ref_ne : RefOp X.K Tb (fun x y H Q => rNe x y H Q ∨ L2.rNeD X.K x y H Q) rNe_ := by
  intro al M H x y dx dy Q QV w rx ry h p
  unfold rNe_ at h
  split at h
  · rename_i b e
    obtain ⟨h1, h2⟩ := scalD_ok e rx ry
    exact .inl ⟨h1, by rw [h2]; exact p _ (.bl (!b)) _ _ _ (Stp.refl ..) w rfl (by simpa using h)⟩
  · split at h
    · rename_i p1 p2 e1 e2
      exact .inr ⟨p1, p2, toPyM_ok w e1 rx, toPyM_ok w e2 ry, h.1, h.2.1, p _ (.bl _) _ _ _ (Stp.refl ..) w rfl (by simpa using h.2.2)⟩
    · exact h.elim
theorem dv_eq (hu : X.A.units + 64 < cLine) (ha : PD X Tb EV a ta) (hb : PD X Tb EV b tb) : PD X Tb EV (.Compare a [.Eq] [b] pos) (dOp rEq_ ta tb) := dv_cmp (op_eq.or (op_eqD hu)) ref_eq ha hb (nomark _)
theorem dv_ne (hu : X.A.units + 64 < cLine) (ha : PD X Tb EV a ta) (hb : PD X Tb EV b tb) : PD X Tb EV (.Compare a [.NotEq] [b] pos) (dOp rNe_ ta tb) := dv_cmp (op_ne.or (op_neD hu)) ref_ne ha hb (nomark _)
theorem dt_eq (hu : X.A.units + 64 < cLine) (ha : PD X Tb EV a ta) (hb : PD X Tb EV b tb) : PDT X Tb EV (.Compare a [.Eq] [b] pos) (dB (dOp rEq_ ta tb)) := dt_cmp (op_eq.or (op_eqD hu)) ref_eq ha hb (nomark _)
theorem dt_ne (hu : X.A.units + 64 < cLine) (ha : PD X Tb EV a ta) (hb : PD X Tb EV b tb) : PDT X Tb EV (.Compare a [.NotEq] [b] pos) (dB (dOp rNe_ ta tb)) := dt_cmp (op_ne.or (op_neD hu)) ref_ne ha hb (nomark _)
/-! ### is None -/
def isNon : D → Bool
  | .non => true
  | _ => false
def rIs_ : RD2 := fun x y M Q => match y with
  | .non => Q (.bl (isNon x)) M
  | _ => False
def rIsNot_ : RD2 := fun x y M Q => match y with
  | .non => Q (.bl (!isNon x)) M
  | _ => False
theorem isNon_ok {K : PySem.W.Frag} {al : Al} {M : Mem} {H : Hp} {d : D} {v : V} (r : Rp K al M H d v) : decide (v = .non) = isNon d := by
  cases d with
  | non => cases (show _ = _ from r); rfl
  | bl => cases (show _ = _ from r); rfl
  | int => cases (show _ = _ from r); rfl
  | str => cases (show _ = _ from r); rfl
  | ty => cases (show _ = _ from r); rfl
  | ref => cases (show _ = _ from r); rfl
  | tup => obtain ⟨_, _, rfl, _⟩ := r; rfl
  | lst => obtain ⟨_, _, rfl, _⟩ := r; rfl
  | rol => obtain ⟨_, _, rfl, _⟩ := r; rfl
  | obj => obtain ⟨_, _, _, rfl, _⟩ := r; rfl
  | dk => obtain ⟨_, _, _, rfl, _⟩ := r; rfl
  | dt => obtain ⟨_, _, _, rfl, _⟩ := r; rfl
  | exc => obtain ⟨_, _, _, rfl, _⟩ := r; rfl
  | mt => obtain ⟨_, _, rfl⟩ := r; rfl
theorem ref_is : RefOp X.K Tb (fun x y H Q => y = .non ∧ Q (.bl (decide (x = .non))) H) rIs_ := by
  intro al M H x y dx dy Q QV w rx ry h p
  unfold rIs_ at h
  split at h
  · exact ⟨ry, by rw [isNon_ok rx]; exact p _ (.bl _) _ _ _ (Stp.refl ..) w rfl (by simpa using h)⟩
  · exact h.elim
theorem ref_isnot : RefOp X.K Tb (fun x y H Q => y = .non ∧ Q (.bl (!decide (x = .non))) H) rIsNot_ := by
  intro al M H x y dx dy Q QV w rx ry h p
  unfold rIsNot_ at h
  split at h
  · exact ⟨ry, by rw [isNon_ok rx]; exact p _ (.bl _) _ _ _ (Stp.refl ..) w rfl (by simpa using h)⟩
  · exact h.elim
theorem dt_is (ha : PD X Tb EV a ta) (hb : PD X Tb EV b tb) : PDT X Tb EV (.Compare a [.Is] [b] pos) (dB (dOp rIs_ ta tb)) := dt_cmp op_isN ref_is ha hb (nomark _)
theorem dt_isnot (ha : PD X Tb EV a ta) (hb : PD X Tb EV b tb) : PDT X Tb EV (.Compare a [.IsNot] [b] pos) (dB (dOp rIsNot_ ta tb)) := dt_cmp op_notN ref_isnot ha hb (nomark _)
theorem dv_is (ha : PD X Tb EV a ta) (hb : PD X Tb EV b tb) : PD X Tb EV (.Compare a [.Is] [b] pos) (dOp rIs_ ta tb) := dv_cmp op_isN ref_is ha hb (nomark _)
theorem dv_isnot (ha : PD X Tb EV a ta) (hb : PD X Tb EV b tb) : PD X Tb EV (.Compare a [.IsNot] [b] pos) (dOp rIsNot_ ta tb) := dv_cmp op_notN ref_isnot ha hb (nomark _)
/-! ### truth of a value -/
abbrev truD (x : D) (M : Mem) (Q : Bool → Mem → Prop) : Prop := match x with
  | .bl k => Q k M
  | .int i => Q (i != 0) M
  | .non => Q false M
  | .str z => z.length ≤ sizeLine ∧ Q ((z.length : Int) != 0) M
  | x => match seqD M x with
    | some xs => Q (!xs.isEmpty) M
    | none => False
abbrev dTru (t : TED) : TTD := fun E rho M Q => t E rho M fun x M1 => truD x M1 Q
theorem dt_tru (ha : PD X Tb EV a ta) (he : ∀ whole, isTrue a X.env whole = (do let v ← whole; standAt a.pos; holding [v] (truthy v)) := by intro _; rfl) : PDT X Tb EV a (dTru ta) := pt_imp (pt_truth ha he) fun σ H QV h => by
  obtain ⟨al, rho, M, E, Q, a, t, p⟩ := h
  refine seq1 a t fun al1 x M1 vx H1 s1 a1 r1 q1 => ?_
  unfold truD at q1
  split at q1
  · rename_i k; cases (show _ = _ from r1); exact ⟨k, rfl, p _ _ _ _ s1 a1.wf q1⟩
  · rename_i i; cases (show _ = _ from r1); exact ⟨_, rfl, p _ _ _ _ s1 a1.wf q1⟩
  · cases (show _ = _ from r1); exact ⟨_, rfl, p _ _ _ _ s1 a1.wf q1⟩
  · rename_i z; cases (show _ = _ from r1); exact ⟨_, ⟨q1.1, rfl⟩, p _ _ _ _ s1 a1.wf q1.2⟩
  · split at q1
    · rename_i xs e
      obtain ⟨b, ys, rfl, hq, r⟩ := seqD_ok a1.wf e r1
      have hz : (!ys.isEmpty) = !xs.isEmpty := by
        have := r.length
        cases xs <;> cases ys <;> simp_all
      refine ⟨!ys.isEmpty, ?_, by rw [hz]; exact p _ _ _ _ s1 a1.wf q1⟩
      rcases hq with hq | hq
      · exact .inl ⟨ys, hq, rfl⟩
      · exact .inr (.inl ⟨ys, hq, rfl⟩)
    · exact q1.elim
end
end DL

namespace DL
open PySem PySem.Spec PyProof.Rows L2

/-! ### handles below a bound -/
mutual
def D.hb (n : Nat) : D → Bool
  | .mt i => decide (i < n)
  | .tup xs => D.hbs n xs
  | .lst xs => D.hbs n xs
  | .rol xs => D.hbs n xs
  | .obj _ _ xs => D.hbs n xs
  | .exc _ _ xs => D.hbs n xs
  | .dk _ xs => D.hbs n xs
  | .dt _ xs => D.hbs n xs
  | _ => true
def D.hbs (n : Nat) : List D → Bool
  | [] => true
  | x :: xs => D.hb n x && D.hbs n xs
end
def MO.hb (n : Nat) : MO → Bool
  | .lst xs => D.hbs n xs
  | .dK kvs => D.hbs n (kvs.map (·.2))
  | .dT _ xs => D.hbs n xs
  | .ins _ fs => D.hbs n (fs.map (·.2))
def okM (n : Nat) (M : Mem) : Prop := ∀ (i : Nat) (mo : MO), i < n → M[i]? = some (some mo) → mo.hb n = true
section
variable {K : PySem.W.Frag} {Tb : List (Addr × Str)} {al : Al} {M : Mem} {H : Hp}
mutual
theorem Rp.hb : ∀ {d : D} {v : V}, Rp K al M H d v → D.hb al.a.length d = true
  | .mt i, _, h => by
    obtain ⟨a, e, _⟩ := h
    exact decide_eq_true (List.getElem?_eq_some_iff.mp e).1
  | .tup xs, _, h => by obtain ⟨_, _, _, _, r⟩ := h; exact Rps.hb r
  | .lst xs, _, h => by obtain ⟨_, _, _, _, _, r⟩ := h; exact Rps.hb r
  | .rol xs, _, h => by obtain ⟨_, _, _, _, r⟩ := h; exact Rps.hb r
  | .obj _ _ xs, _, h => by obtain ⟨_, _, _, _, _, _, _, r⟩ := h; exact Rps.hb r
  | .exc _ _ xs, _, h => by obtain ⟨_, _, _, _, _, _, _, _, _, r⟩ := h; exact Rps.hb r
  | .dk _ xs, _, h => by obtain ⟨_, _, _, _, _, _, _, r⟩ := h; exact Rps.hb r
  | .dt _ xs, _, h => by obtain ⟨_, _, _, _, _, _, _, r⟩ := h; exact Rps.hb r
  | .non, _, _ => rfl
  | .bl _, _, _ => rfl
  | .int _, _, _ => rfl
  | .str _, _, _ => rfl
  | .ty _, _, _ => rfl
  | .ref _, _, _ => rfl
theorem Rps.hb : ∀ {ds : List D} {vs : List V}, Rps K al M H ds vs → D.hbs al.a.length ds = true
  | [], _, _ => rfl
  | d :: ds, _, h => by
    obtain ⟨_, _, _, r, t⟩ := h
    show (D.hb _ d && D.hbs _ ds) = true
    rw [Rp.hb r, Rps.hb t]; rfl
end
theorem Wf.okM (w : Wf K Tb al H M) : okM M.length M := fun i mo hi e => by
  obtain ⟨a, ha⟩ : ∃ a, al.a[i]? = some a := by rw [List.getElem?_eq_some_iff.mpr ⟨by rw [w.len]; exact hi, rfl⟩]; exact ⟨_, rfl⟩
  have r := w.rep i a mo ha e
  rw [← w.len]
  cases mo with
  | lst xs => obtain ⟨_, _, r⟩ := r; exact r.hb
  | dK kvs => obtain ⟨_, _, r⟩ := r; exact r.2.hb
  | dT ks ds => obtain ⟨_, _, r⟩ := r; exact r.2.hb
  | ins C fs => obtain ⟨_, _, _, r⟩ := r; exact r.2.hb
theorem cut_lt {n i : Nat} {a : Addr} (e : (al.cut n).a[i]? = some a) : i < n ∧ al.a[i]? = some a := by
  have e : (al.a.take n)[i]? = some a := e
  have hi : i < n := by
    have := (List.getElem?_eq_some_iff.mp e).1
    simp at this; omega
  rw [List.getElem?_take_of_lt hi] at e
  exact ⟨hi, e⟩
theorem lt_cut {n i : Nat} {a : Addr} (hi : i < n) (e : al.a[i]? = some a) : (al.cut n).a[i]? = some a := by
  show (al.a.take n)[i]? = some a
  rw [List.getElem?_take_of_lt hi]; exact e
theorem Fz.cut {n : Nat} {a : Addr} (f : Fz al M a) : Fz (al.cut n) (M.take n) a := ⟨f.1, fun i mo e1 e2 => by
  obtain ⟨hi, e1⟩ := cut_lt e1
  rw [List.getElem?_take_of_lt hi] at e2
  exact f.2 i mo e1 e2⟩
mutual
theorem Rp.cutH {n : Nat} : ∀ {d : D} {v : V}, Rp K al M H d v → D.hb n d = true → Rp K (al.cut n) (M.take n) H d v
  | .mt i, _, h, b => by
    obtain ⟨a, e, q⟩ := h
    have hi : i < n := of_decide_eq_true b
    exact ⟨a, lt_cut hi e, q⟩
  | .tup xs, _, h, b => by
    obtain ⟨a, ys, e, q, r⟩ := h
    refine ⟨a, ys, e, ?_, Rps.cutH r b⟩
    rcases q with ⟨q, f⟩ | q
    · exact .inl ⟨q, f.cut⟩
    · exact .inr q
  | .lst xs, _, h, b => by
    obtain ⟨a, ys, e, q, f, r⟩ := h
    exact ⟨a, ys, e, q, f.cut, Rps.cutH r b⟩
  | .rol xs, _, h, b => by
    obtain ⟨a, ys, e, q, r⟩ := h
    refine ⟨a, ys, e, ?_, Rps.cutH r b⟩
    rcases q with ⟨q, f⟩ | q
    · exact .inl ⟨q, f.cut⟩
    · exact .inr q
  | .obj _ _ xs, _, h, b => by
    obtain ⟨a, dx, ys, e, q, f, l, r⟩ := h
    exact ⟨a, dx, ys, e, q, f.cut, l, Rps.cutH r b⟩
  | .dk _ xs, _, h, b => by
    obtain ⟨a, dx, ys, e, q, f, l, r⟩ := h
    exact ⟨a, dx, ys, e, q, f.cut, l, Rps.cutH r b⟩
  | .dt _ xs, _, h, b => by
    obtain ⟨a, dx, ys, e, q, f, l, r⟩ := h
    exact ⟨a, dx, ys, e, q, f.cut, l, Rps.cutH r b⟩
  | .exc _ _ xs, _, h, b => by
    obtain ⟨a, dx, ys, e, q, f, q2, f2, l, r⟩ := h
    exact ⟨a, dx, ys, e, q, f.cut, q2, f2.cut, l, Rps.cutH r b⟩
  | .non, _, h, _ => h
  | .bl _, _, h, _ => h
  | .int _, _, h, _ => h
  | .str _, _, h, _ => h
  | .ty _, _, h, _ => h
  | .ref _, _, h, _ => h
theorem Rps.cutH {n : Nat} : ∀ {ds : List D} {vs : List V}, Rps K al M H ds vs → D.hbs n ds = true → Rps K (al.cut n) (M.take n) H ds vs
  | [], _, h, _ => h
  | d :: ds, _, h, b => by
    obtain ⟨x, r, e, q, t⟩ := h
    have b' : (D.hb n d && D.hbs n ds) = true := b
    rw [Bool.and_eq_true] at b'
    exact ⟨x, r, e, Rp.cutH q b'.1, Rps.cutH t b'.2⟩
end
theorem Rpk.cutH {κ : Type} {n : Nat} {ds : List (κ × D)} {xs : List (κ × V)} (h : Rpk K al M H ds xs) (b : D.hbs n (ds.map (·.2)) = true) : Rpk K (al.cut n) (M.take n) H ds xs := ⟨h.1, h.2.cutH b⟩
theorem Rpd.cutH {n : Nat} {ks : List (List Int)} {ds : List D} {L : Ents} (h : Rpd K al M H ks ds L) (b : D.hbs n ds = true) : Rpd K (al.cut n) (M.take n) H ks ds L := ⟨h.1, h.2.cutH b⟩
theorem wf_cut {n : Nat} (w : Wf K Tb al H M) (ok : DL.okM n M) : Wf K Tb (al.cut n) H (M.take n) := by
  refine ⟨by simp [w.len, Al.cut], w.nd.sublist (List.take_sublist _ _), fun i a mo e1 e2 => ?_, fun i a e1 => ?_, w.tb, w.hth, fun i a mo e1 e2 => ?_⟩
  · obtain ⟨hi, e1⟩ := cut_lt e1
    rw [List.getElem?_take_of_lt hi] at e2
    have r := w.rep i a mo e1 e2
    have b := ok i mo hi e2
    cases mo with
    | lst xs => obtain ⟨ys, h1, h2⟩ := r; exact ⟨ys, h1, h2.cutH b⟩
    | dK kvs => obtain ⟨ys, h1, h2⟩ := r; exact ⟨ys, h1, h2.cutH b⟩
    | dT ks ds => obtain ⟨ys, h1, h2⟩ := r; exact ⟨ys, h1, h2.cutH b⟩
    | ins C fs => obtain ⟨dx, ys, h1, h2⟩ := r; exact ⟨dx, ys, h1, h2.cutH b⟩
  · obtain ⟨hi, e1⟩ := cut_lt e1
    exact w.there i a e1
  · obtain ⟨hi, e1⟩ := cut_lt e1
    rw [List.getElem?_take_of_lt hi] at e2
    exact w.hdis i a mo e1 e2
theorem stp_cut {al' : Al} {M' : Mem} {H' : Hp} {m : Nat} (w : Wf K Tb al H M) (hm : M.length ≤ m) (s : Stp al M H al' M' H') : Stp al M H (al'.cut m) (M'.take m) H' :=
  ⟨fun i a e => lt_cut (Nat.lt_of_lt_of_le (by rw [← w.len]; exact (List.getElem?_eq_some_iff.mp e).1) hm) (s.pre i a e), fun a o h n f => ⟨(s.fz a o h n f).1, (s.fz a o h n f).2.cut⟩, s.hh, s.hid⟩
end
/-- what a def hands back, its own mutable things forgotten -/
def Cut (n : Nat) (Q : VD) : VD := fun d M' => ∃ m, n ≤ m ∧ d.hb m = true ∧ okM m M' ∧ Q d (M'.take m)
def CutX (n : Nat) (E : XD) : XD := fun x M' => D.hbs n (x.fs.map (·.2)) = true ∧ okM n M' ∧ E x (M'.take n)
theorem Cut.same {Q : VD} {d : D} {M : Mem} (h : d.hb M.length = true) (ok : okM M.length M) (q : Q d M) : Cut M.length Q d M := ⟨M.length, Nat.le_refl _, h, ok, by rw [List.take_length]; exact q⟩
/-- one thing of M is changed -/
theorem okM.set {n i : Nat} {M : Mem} {mo : MO} (ok : okM n M) (h : mo.hb n = true) : okM n (M.set i (some mo)) := fun j m hj e => by
  by_cases hij : i = j
  · subst hij
    rw [List.getElem?_set] at e
    simp at e
    rw [← e.2]; exact h
  · rw [List.getElem?_set_ne hij] at e
    exact ok j m hj e
theorem Cut.set {Q : VD} {d : D} {M : Mem} {i : Nat} {mo : MO} (h : d.hb M.length = true) (ok : okM M.length M) (hm : mo.hb M.length = true) (q : Q d (M.set i (some mo))) : Cut M.length Q d (M.set i (some mo)) :=
  ⟨M.length, Nat.le_refl _, h, ok.set hm, by rw [List.take_of_length_le (by simp)]; exact q⟩
theorem CutX.same {E : XD} {x : Exn} {M : Mem} (h : D.hbs M.length (x.fs.map (·.2)) = true) (ok : okM M.length M) (q : E x M) : CutX M.length E x M := ⟨h, ok, by rw [List.take_length]; exact q⟩

/-! ### defs -/
abbrev DSp := List D → Mem → VD → XD → Prop
def liftSp (K : PySem.W.Frag) (Tb : List (Addr × Str)) (dsp : DSp) : Sp := fun vs H QV EV => ∃ al M ds Q E, Wf K Tb al H M ∧ Rps K al M H ds vs ∧ dsp ds M Q E ∧ PostV K Tb al M H Q QV ∧ PostX K Tb al M H E EV
structure FnD (P : Program) (w : World) (K : PySem.W.Frag) (mg : Str → Option Value) (base : Heap) (Tb : List (Addr × Str)) (k : Nat) (f : Addr) (fd : FuncData) (ps : List Str) (dsp : DSp) : Prop where
  ok : FnOk P w K mg base (L2.CX P w) k f fd ps (liftSp K Tb dsp)
theorem FnD.mono {P : Program} {w : World} {K : PySem.W.Frag} {mg : Str → Option Value} {base : Heap} {Tb : List (Addr × Str)} {j k : Nat} {f : Addr} {fd : FuncData} {ps : List Str} {dsp : DSp} (F : FnD P w K mg base Tb j f fd ps dsp) (h : j ≤ k) : FnD P w K mg base Tb k f fd ps dsp := ⟨F.ok.mono h⟩
abbrev dCall (dsp : DSp) (t : TAD) : TED := fun E rho M Q => t E rho M fun ds M1 => dsp ds M1 Q E
section
variable {X : Cx} {Tb : List (Addr × Str)} {EV : XK} {k : Nat} {f : Addr} {fd : FuncData} {ps : List Str} {dsp : DSp} {x : Str} {p pos : Pos} {e : Expr} {es : List Expr} {t : TAD}
theorem call_lift {σ : L2.St} {H : Hp} {QV : VK} (h : lift X.K Tb EV (dCall dsp t) σ H QV) : tCall (liftSp X.K Tb dsp) [] EV (liftA X.K Tb EV t) σ H QV := by
  obtain ⟨al, rho, M, E, Q, a, t, p⟩ := h
  refine seqA a t fun al1 ds M1 vs H1 s1 a1 r1 q1 => ?_
  rw [List.append_nil]
  exact ⟨al1, M1, ds, Q, E, a1.wf, r1, q1, p.mono s1, a1.ex⟩
theorem dv_call (F : FnD X.prog X.w X.K X.mg X.base Tb k f fd ps dsp) (hr : Room k X.A) (hg : Gl X x) (hm : X.mg x = some (.ref f)) (hk : PySem.W.keepIn X.K (.ref f) = true) (hb : Binds X.K fd ps []) (hx : Passes (L2.CX X.prog X.w) X EV)
    (ha : PDA X Tb EV (e :: es) t) (hdb : (x == ("__debug__" : Str)) = false := by decide) (he : starEach (e :: es) X.env = (false, eval e X.env) :: starEach es X.env := by rfl) (hpl : (backTo pos (starEach es X.env)).any (·.1) = false := by rfl) :
    PD X Tb EV (.Call (.Name x p) (e :: es) [] pos) (dCall dsp t) := pe_imp (pe_call F.ok hr hg hm hk hb .nil hx ha hdb he hpl) fun _ _ _ h => call_lift h
theorem dv_call0 (F : FnD X.prog X.w X.K X.mg X.base Tb k f fd ps dsp) (hr : Room k X.A) (hg : Gl X x) (hm : X.mg x = some (.ref f)) (hk : PySem.W.keepIn X.K (.ref f) = true) (hb : Binds X.K fd ps []) (hx : Passes (L2.CX X.prog X.w) X EV)
    (hdb : (x == ("__debug__" : Str)) = false := by decide) :
    PD X Tb EV (.Call (.Name x p) [] [] pos) (dCall dsp dNil) := pe_imp (pe_call0 F.ok hr hg hm hk hb .nil hx hdb) fun σ H QV h => by
  obtain ⟨al, rho, M, E, Q, a, t, p⟩ := h
  exact ⟨al, M, [], Q, E, a.wf, rfl, t, p, a.ex⟩
end
def startD (N : List Str) (ds : List D) : Rho := ds.map some ++ List.replicate (N.length - ds.length) none
theorem start_ok {K : PySem.W.Frag} {al : Al} {M : Mem} {H : Hp} {N : List Str} {ds : List D} {vs : List V} (r : Rps K al M H ds vs) : RpS K al M H (L2.start N vs) (startD N ds) := by
  have hl := r.length
  unfold L2.start startD
  refine ⟨by simp [hl], fun i d e => ?_⟩
  by_cases hi : i < ds.length
  · rw [List.getElem?_append_left (by simpa using hi), List.getElem?_map] at e
    cases q : ds[i]? with
    | none => rw [q] at e; cases e
    | some d' =>
      rw [q] at e; cases e
      obtain ⟨v, e2, rv⟩ := r.get q
      exact ⟨v, by rw [List.getElem?_append_left (by rw [List.length_map, ← hl]; exact hi), List.getElem?_map, e2]; rfl, rv⟩
  · rw [List.getElem?_append_right (by simpa using hi), List.getElem?_replicate] at e
    split at e <;> cases e
section
variable {P : Program} {w : World} {K : PySem.W.Frag} {mg : Str → Option Value} {base : Heap} {Tb : List (Addr × Str)}
/-- THE RULE for a def -/
theorem fnD_of {x qual : Str} {params : Arguments} {body : List Stmt} {scope : Scope} {dvs : List V} {kws : List (Str × V)} {f : Addr} {fd : FuncData} {N ps : List Str} {k : Nat} {dsp : DSp} (tb : TSD) (F : FunD K x qual params body scope dvs kws f fd) (S : FnScope N ps scope)
    (len : ∀ ds M Q E, dsp ds M Q E → ds.length = ps.length)
    (hbody : ∀ (cdv : Value) (A : Around) (outer : List Env) (s : Shared) (H : Hp) (EV : XK), Room k (A.deeper (envOfC qual scope s.heap.objs.size f cdv)) → PDSs (cxOf (L2.CX P w) P w K mg base N qual scope f cdv A outer s H EV) Tb EV body tb)
    (hq : ∀ ds M Q E, okM M.length M → D.hbs M.length ds = true → dsp ds M Q E → tb (CutX M.length E) { nx := fun _ M' => Cut M.length Q .non M', rt := Cut M.length Q } (startD N ds) M) : FnD P w K mg base Tb (k + 1) f fd ps dsp := by
  refine ⟨F.ok S (fun vs H Q E h => ?_) fun cdv A outer s H vs QV EV hr h => ?_⟩
  · obtain ⟨al, M, ds, Q, E, wf, r, q, _⟩ := h
    rw [← r.length]; exact len _ _ _ _ q
  · obtain ⟨al, M, ds, Q, E, wf, r, q, p, px⟩ := h
    have pv : PostV K Tb al M H (Cut M.length Q) QV := fun al' d M' v H' s' w' r' q' =>
      let ⟨m, hm, q1, q2, q3⟩ := q'; p _ _ _ _ _ (stp_cut wf hm s') (wf_cut w' q2) (r'.cutH q1) q3
    refine ⟨_, hbody cdv A outer s H EV hr, al, startD N ds, M, CutX M.length E, _, ⟨wf, start_ok r, fun al' y M' cls dct H' s' w' r' q' => ?_⟩, hq ds M Q E wf.okM (by rw [← wf.len]; exact r.hb) q, ?_⟩
    · obtain ⟨e1, dx, ys, e2, h1, h2⟩ := r'
      exact px _ y _ cls dct _ (stp_cut wf (Nat.le_refl _) s') (wf_cut w' q'.2.1) ⟨e1, dx, ys, e2, h1, h2.cutH q'.1⟩ q'.2.2
    · refine ⟨fun al' rho' M' σ' H' s' w' _ q' => ?_, pv, fun _ _ _ _ _ _ _ _ q' => q'.elim, fun _ _ _ _ _ _ _ _ q' => q'.elim⟩
      exact pv al' .non M' .non H' s' w' rfl q'
end

/-! ### statements -/
abbrev dNext : TSD := fun _ DD rho M => DD.nx rho M
def dSeq (t u : TSD) : TSD := fun E DD rho M => t E { DD with nx := u E DD } rho M
abbrev dBreak : TSD := fun _ DD rho M => DD.bk rho M
abbrev dCont : TSD := fun _ DD rho M => DD.ct rho M
abbrev dDrop (te : TED) : TSD := fun E DD rho M => te E rho M fun _ M1 => DD.nx rho M1
abbrev dRet (te : TED) : TSD := fun E DD rho M => te E rho M DD.rt
abbrev dRetN : TSD := fun _ DD _ M => DD.rt .non M
abbrev dIfS (c : TTD) (t u : TSD) : TSD := fun E DD rho M => c E rho M fun b M1 => if b = true then t E DD rho M1 else u E DD rho M1
def dNever : TSD := fun _ _ _ _ => False
section
variable {X : Cx} {Tb : List (Addr × Str)} {EV : XK} {st : Stmt} {rest : List Stmt} {t u : TSD} {e : Expr} {te : TED} {pos : Pos}
theorem ds_nil : PDSs X Tb EV [] dNext := pss_imp pss_nil fun DV σ H h => by
  obtain ⟨al, rho, M, E, DD, a, t, p⟩ := h
  exact p.nx _ _ _ _ _ (Stp.refl ..) a.wf a.sl t
theorem ds_cons (h1 : PDS X Tb EV st t) (h2 : PDSs X Tb EV rest u) : PDSs X Tb EV (st :: rest) (dSeq t u) := pss_imp (pss_cons h1 h2) fun DV σ H h => by
  obtain ⟨al, rho, M, E, DD, a, t, p⟩ := h
  exact ⟨al, rho, M, E, _, a, t, ⟨fun al' rho' M' σ' H' s w r q => ⟨al', rho', M', E, DD, ⟨w, r, a.ex.mono s⟩, q, p.mono s⟩, p.rt, p.bk, p.ct⟩⟩
theorem ds_one (h1 : PDS X Tb EV st t) : PDSs X Tb EV [st] t := pss_one h1
theorem dp_pass : PDS X Tb EV (.Pass pos) dNext := ps_imp ps_pass fun DV σ H h => by
  obtain ⟨al, rho, M, E, DD, a, t, p⟩ := h
  exact p.nx _ _ _ _ _ (Stp.refl ..) a.wf a.sl t
theorem dp_break : PDS X Tb EV (.Break pos) dBreak := ps_imp ps_break fun DV σ H h => by
  obtain ⟨al, rho, M, E, DD, a, t, p⟩ := h
  exact p.bk _ _ _ _ _ (Stp.refl ..) a.wf a.sl t
theorem dp_continue : PDS X Tb EV (.Continue pos) dCont := ps_imp ps_continue fun DV σ H h => by
  obtain ⟨al, rho, M, E, DD, a, t, p⟩ := h
  exact p.ct _ _ _ _ _ (Stp.refl ..) a.wf a.sl t
theorem dp_expr (he : PD X Tb EV e te) (hs : swapsWith e none pos.line X.env = pure false := by rfl) : PDS X Tb EV (.Expr e pos) (dDrop te) := ps_imp (ps_expr he hs) fun DV σ H h => by
  obtain ⟨al, rho, M, E, DD, a, t, p⟩ := h
  exact seq1 a t fun al1 x M1 vx H1 s1 a1 r1 q1 => p.nx _ _ _ _ _ s1 a1.wf a1.sl q1
theorem dp_ret (he : PD X Tb EV e te) : PDS X Tb EV (.Return (some e) pos) (dRet te) := ps_imp (ps_ret he) fun DV σ H h => by
  obtain ⟨al, rho, M, E, DD, a, t, p⟩ := h
  exact ⟨al, rho, M, E, DD.rt, a, t, p.rt⟩
theorem dp_retN : PDS X Tb EV (.Return none pos) dRetN := ps_imp ps_retN fun DV σ H h => by
  obtain ⟨al, rho, M, E, DD, a, t, p⟩ := h
  exact p.rt _ .non _ _ _ (Stp.refl ..) a.wf rfl t
theorem dp_if {c : Expr} {ss us : List Stmt} {tc : TTD} (hc : PDT X Tb EV c tc) (ha : PDSs X Tb EV ss t) (hb : PDSs X Tb EV us u) : PDS X Tb EV (.If c ss us pos) (dIfS tc t u) := ps_imp (ps_if hc ha hb) fun DV σ H h => by
  obtain ⟨al, rho, M, E, DD, a, t, p⟩ := h
  refine seqT a t fun al1 k M1 H1 s1 a1 q1 => ?_
  cases k with
  | true => exact ⟨al1, rho, M1, E, DD, a1, q1, p.mono s1⟩
  | false => exact ⟨al1, rho, M1, E, DD, a1, q1, p.mono s1⟩
theorem ds_never {sts : List Stmt} : PDSs X Tb EV sts dNever := pss_imp pss_never fun DV σ H h => by
  obtain ⟨al, rho, M, E, DD, a, t, p⟩ := h
  exact t
end
/-! ### targets -/
abbrev TGD := D → XD → Rho → Mem → (Rho → Mem → Prop) → Prop
abbrev TGsD := List D → XD → Rho → Mem → (Rho → Mem → Prop) → Prop
def liftG (K : PySem.W.Frag) (Tb : List (Addr × Str)) (EV : XK) (t : TGD) : TG := fun v σ H QS => ∃ al rho M E d Q, At K Tb EV al σ H rho M E ∧ Rp K al M H d v ∧ t d E rho M Q ∧ PostS K Tb al M H Q QS
def liftGs (K : PySem.W.Frag) (Tb : List (Addr × Str)) (EV : XK) (t : TGsD) : TGs := fun vs σ H QS => ∃ al rho M E ds Q, At K Tb EV al σ H rho M E ∧ Rps K al M H ds vs ∧ t ds E rho M Q ∧ PostS K Tb al M H Q QS
abbrev PDG (X : Cx) (Tb : List (Addr × Str)) (EV : XK) (e : Expr) (t : TGD) : Prop := PG X e (liftG X.K Tb EV t)
abbrev PDGs (X : Cx) (Tb : List (Addr × Str)) (EV : XK) (es : List Expr) (t : TGsD) : Prop := PGs X es (liftGs X.K Tb EV t)
abbrev hName (i : Nat) : TGD := fun d _ rho M Q => Q (rho.set i (some d)) M
abbrev hNil : TGsD := fun ds _ rho M Q => match ds with
  | [] => Q rho M
  | _ => False
abbrev hCons (t : TGD) (u : TGsD) : TGsD := fun ds E rho M Q => match ds with
  | d :: r => t d E rho M fun rho' M' => u r E rho' M' Q
  | [] => False
def hTup (n : Nat) (t : TGsD) : TGD := fun d E rho M Q => match d with
  | .tup xs => xs.length = n ∧ t xs E rho M Q
  | _ => False
abbrev dAsg (te : TED) (g : TGD) : TSD := fun E DD rho M => te E rho M fun x M1 => g x E rho M1 DD.nx
section
variable {X : Cx} {Tb : List (Addr × Str)} {EV : XK} {pos : Pos}
theorem dg_name (i : Nat) {x : Str} (hN : X.N.Nodup) (hi : X.N[i]? = some x := by rfl) (hx : Loc X.env.scope x := by first | exact Or.inl rfl | exact Or.inr rfl) (hf : X.fn x = true ∨ X.env.scope.names.lookup x = some .local := by first | exact .inl rfl | exact .inr rfl | assumption) : PDG X Tb EV (.Name x pos) (hName i) := by
  refine ⟨fun pins s σ H v u Q I r h => (pg_name hN hi hx hf).run pins s σ H v u Q I r ?_⟩
  obtain ⟨al, rho, M, E, d, Q', a, rd, t, p⟩ := h
  exact p _ _ _ _ _ (Stp.refl ..) a.wf (a.sl.set i rd) t
theorem dgs_nil : PDGs X Tb EV [] hNil := by
  refine ⟨fun pins s σ H vs us Q I r h => pgs_nil.run pins s σ H vs us Q I r ?_⟩
  obtain ⟨al, rho, M, E, d, Q', a, rd, t, p⟩ := h
  unfold hNil at t
  split at t
  · exact ⟨rd, p _ _ _ _ _ (Stp.refl ..) a.wf a.sl t⟩
  · exact t.elim
theorem dgs_cons {e : Expr} {es : List Expr} {t : TGD} {u : TGsD} (h1 : PDG X Tb EV e t) (h2 : PDGs X Tb EV es u)
    (hs : (assignEach (e :: es) X.env).map (·.2) = assign e X.env :: (assignEach es X.env).map (·.2) := by rfl) : PDGs X Tb EV (e :: es) (hCons t u) := by
  refine ⟨fun pins s σ H vs us Q I r h => (pgs_cons h1 h2 hs).run pins s σ H vs us Q I r ?_⟩
  obtain ⟨al, rho, M, E, ds, Q', a, rd, t, p⟩ := h
  unfold hCons at t
  split at t
  · obtain ⟨x, xs, rfl, rx, rxs⟩ := rd
    exact ⟨x, xs, rfl, al, rho, M, E, _, _, a, rx, t, fun al' rho' M' σ' H' s w r q => ⟨al', rho', M', E, _, Q', ⟨w, r, a.ex.mono s⟩, rxs.mono s, q, p.mono s⟩⟩
  · exact t.elim
theorem dg_tup {es : List Expr} {k : Nat} {t : TGsD} {n : Nat} (hc : X.calm = true) (hg : PDGs X Tb EV es t)
    (hn : (assignEach es X.env).length = n := by rfl) (hst : (assignEach es X.env).findIdx? (·.1) = none := by rfl) : PDG X Tb EV (.Tuple es k pos) (hTup n t) := by
  refine ⟨fun pins s σ H v u Q I r h => (pg_tup hc hg hn hst).run pins s σ H v u Q I r ?_⟩
  obtain ⟨al, rho, M, E, d, Q', a, rd, t, p⟩ := h
  unfold hTup at t
  split at t
  · obtain ⟨b, ys, rfl, q1, q2⟩ := rd
    exact ⟨b, ys, rfl, q1.sq, by rw [← q2.length]; exact t.1, al, rho, M, E, _, Q', a, q2, t.2, p⟩
  · exact t.elim
theorem dp_asg {tg e : Expr} {te : TED} {g : TGD} (he : PD X Tb EV e te) (hg : PDG X Tb EV tg g) (hs : swapsWithSole [tg] e pos.line X.env = pure false := by rfl) (hw : swappedStores [tg] e X.env = pure none := by rfl)
    (h1 : (assignEach [tg] X.env).map (·.2) = [assign tg X.env] := by rfl) : PDS X Tb EV (.Assign [tg] e pos) (dAsg te g) := ps_imp (ps_asg he hg hs hw h1) fun DV σ H h => by
  obtain ⟨al, rho, M, E, DD, a, t, p⟩ := h
  exact seq1 a t fun al1 x M1 vx H1 s1 a1 r1 q1 => ⟨al1, rho, M1, E, x, _, a1, r1, q1, p.nx.mono s1⟩
/-- name = value -/
theorem dp_set (i : Nat) {x : Str} {e : Expr} {te : TED} {pos' : Pos} (hN : X.N.Nodup) (he : PD X Tb EV e te) (hi : X.N[i]? = some x := by rfl) (hx : Loc X.env.scope x := by first | exact Or.inl rfl | exact Or.inr rfl) (hs : swapsWith e (some (.Name x pos')) pos.line X.env = pure false := by rfl) (hf : X.fn x = true ∨ X.env.scope.names.lookup x = some .local := by first | exact .inl rfl | exact .inr rfl | assumption) :
    PDS X Tb EV (.Assign [.Name x pos'] e pos) (dAsg te (hName i)) := ps_imp (ps_set hN hi hx he hs hf) fun DV σ H h => by
  obtain ⟨al, rho, M, E, DD, a, t, p⟩ := h
  exact seq1 a t fun al1 x M1 vx H1 s1 a1 r1 q1 => p.nx _ _ _ _ _ s1 a1.wf (a1.sl.set i r1) q1
/-- a, b = x, y (plain local names) -/
abbrev dPar (i j : Nat) (ta : TAD) : TSD := fun E DD rho M => ta E rho M fun ds M1 => match ds with
  | [d, d'] => DD.nx ((rho.set i (some d)).set j (some d')) M1
  | _ => False
theorem dp_par (i j : Nat) {x y : Str} {a b : Expr} {ta : TAD} {px py pt : Pos} {kt k2 pt2} (hc : X.calm = true) (hN : X.N.Nodup) (ha : PDA X Tb EV [a, b] ta)
    (hw : swappedStores [.Tuple [.Name x px, .Name y py] kt pt] (.Tuple [a, b] k2 pt2) X.env = pure (some [x, y])) (hi : X.N[i]? = some x := by rfl) (hj : X.N[j]? = some y := by rfl) (hij : i ≠ j := by decide)
    (hx : X.env.scope.names.lookup x = some .local := by rfl) (hy : X.env.scope.names.lookup y = some .local := by rfl)
    (hs : swapsWithSole [.Tuple [.Name x px, .Name y py] kt pt] (.Tuple [a, b] k2 pt2) pos.line X.env = pure false := by rfl) :
    PDS X Tb EV (.Assign [.Tuple [.Name x px, .Name y py] kt pt] (.Tuple [a, b] k2 pt2) pos) (dPar i j ta) := ps_imp (ps_par hc hN hi hj hij hx hy ha hw hs) fun DV σ H h => by
  obtain ⟨al, rho, M, E, DD, a, t, p⟩ := h
  refine seqA a t fun al1 ds M1 vs H1 s1 a1 r1 q1 => ?_
  split at q1
  · rename_i d d'
    obtain ⟨v, r, rfl, rv, v', r', rfl, rv', e⟩ := r1
    cases (show _ = [] from e)
    exact ⟨v, v', rfl, p.nx _ _ _ _ _ s1 a1.wf ((a1.sl.set i rv).set j rv') q1⟩
  · exact q1.elim
/-- name op= e -/
def dAug (i : Nat) (te : TED) (r : RD2) : TSD := fun E DD rho M => match rho[i]? with
  | some (some x) => te E rho M fun y M1 => r x y M1 fun z M2 => DD.nx (rho.set i (some z)) M2
  | _ => False
theorem dp_aug (i : Nat) {x : Str} {e : Expr} {te : TED} {op : Operator} {r : R2} {rD : RD2} {pos' : Pos} (hN : X.N.Nodup) (he : PD X Tb EV e te) (ho : OpR X (inplaceOp op) r) (hr : RefOp X.K Tb r rD) (hi : X.N[i]? = some x := by rfl) (hx : Loc X.env.scope x := by first | exact Or.inl rfl | exact Or.inr rfl) (hf : X.fn x = true ∨ X.env.scope.names.lookup x = some .local := by first | exact .inl rfl | exact .inr rfl | assumption) :
    PDS X Tb EV (.AugAssign (.Name x pos') op e pos) (dAug i te rD) := ps_imp (ps_aug (ti := r) hN hi hx he ho hf) fun DV σ H h => by
  obtain ⟨al, rho, M, E, DD, a, t, p⟩ := h
  unfold dAug at t
  split at t
  · rename_i d e
    obtain ⟨v, e1, rv⟩ := a.sl.2 i d e
    refine ⟨v, e1, seq1 a t fun al1 y M1 vy H1 s1 a1 r1 q1 => hr _ _ _ _ _ _ _ _ _ a1.wf (rv.mono s1) r1 q1 fun al2 z M2 vz H2 s2 w2 r2 q2 => ?_⟩
    exact p.nx _ _ _ _ _ (s1.trans s2) w2 ((a1.sl.mono s2).set i r2) q2
  · exact t.elim
theorem dp_augAdd (i : Nat) {x : Str} {e : Expr} {te : TED} {pos' : Pos} (hN : X.N.Nodup) (he : PD X Tb EV e te) (hi : X.N[i]? = some x := by rfl) (hx : Loc X.env.scope x := by first | exact Or.inl rfl | exact Or.inr rfl) (hf : X.fn x = true ∨ X.env.scope.names.lookup x = some .local := by first | exact .inl rfl | exact .inr rfl | assumption) :
    PDS X Tb EV (.AugAssign (.Name x pos') .Add e pos) (dAug i te (rInt0D fun i j => .int (i + j))) := dp_aug i hN he iop_add (ref_int0 fun _ _ _ _ _ => rfl) hi hx hf
/-- o[i] = e of a list -/
def hSub (to ti : TED) : TGD := fun d E rho M Q => to E rho M fun o M1 => ti E rho M1 fun i M2 => match o, i with
  | .mt n, .int k => match memL M2 n with
    | some xs => (match ixN xs.length k with
      | some j => Q rho (M2.set n (some (.lst (xs.set j d))))
      | none => False)
    | none => False
  | _, _ => False
theorem lst_not_code {xs : List V} {c : Addr} {q : Str} : HO.lst xs ≠ LamX.CodeO c q := fun z => by unfold LamX.CodeO at z; cases z
/-- a mutable list changed -/
theorem set_lst {K : PySem.W.Frag} {al : Al} {M : Mem} {H : Hp} {a : Addr} {n : Nat} {ds : List D} {xs ys : List V} {es : List D} (w : Wf K Tb al H M) (hi : al.a[n]? = some a) (hm : M[n]? = some (some (.lst ds))) (hH : H a = some (.lst xs)) (r : Rps K al M H es ys) :
    Stp al M H al (M.set n (some (.lst es))) (upd H a (.lst ys)) ∧ Wf K Tb al (upd H a (.lst ys)) (M.set n (some (.lst es))) :=
  have s : Stp al M H al (M.set n (some (.lst es))) (upd H a (.lst ys)) := stp_set w hi hm _
  ⟨s, wf_set w hi hm (fun _ z => by cases z) ⟨ys, upd_same, r.mono s⟩ fun c q z => lst_not_code (Option.some.inj (hH.symm.trans z))⟩
theorem dg_sub {o i : Expr} {to ti : TED} (ho : PD X Tb EV o to) (hi : PD X Tb EV i ti)
    (ha : ∀ v, assign (.Subscript o i pos) X.env v = (do
      let ov ← holding [v] (eval o X.env)
      let iv ← holding [v, ov] (eval i X.env)
      standAt pos
      holding [v, ov, iv] (setItem ov iv v)
      release [v, ov, iv] []) := by intro _; rfl) : PDG X Tb EV (.Subscript o i pos) (hSub to ti) := by
  refine ⟨fun pins s σ H v u Q I r h => (pg_sub ho hi set_list ha).run pins s σ H v u Q I r ?_⟩
  obtain ⟨al, rho, M, E, d, Q', a, rd, t, p⟩ := h
  refine seq1 a t fun al1 o M1 vo H1 s1 a1 r1 q1 => seq1 a1 q1 fun al2 i M2 vi H2 s2 a2 r2 q2 => ?_
  split at q2
  · rename_i n k
    split at q2
    · rename_i xs e1
      split at q2
      · rename_i j e2
        obtain ⟨b, ys, rfl, hb, hm, hH, rr⟩ := memL_ok a2.wf e1 (r1.mono s2)
        obtain ⟨g1, g2⟩ := set_lst a2.wf hb hm hH (rr.set j (rd.mono (s1.trans s2)))
        exact ⟨b, ys, k, j, rfl, r2, hH, by rw [← rr.length]; exact e2, p _ _ _ _ _ ((s1.trans s2).trans g1) g2 (a2.sl.mono g1) q2⟩
      · exact q2.elim
    · exact q2.elim
  · exact q2.elim
end

/-! ### while -/
/-- n turns at most -/
def whU (c : TTD) (tb : TSD) : Nat → TSD
  | 0 => fun _ _ _ _ => False
  | n + 1 => fun E DD rho M => c E rho M fun b M1 => if b = true then tb E { DD with nx := whU c tb n E DD, ct := whU c tb n E DD, bk := DD.nx } rho M1 else DD.nx rho M1
def dWhile (c : TTD) (tb : TSD) : TSD := fun E DD rho M => ∃ n, whU c tb n E DD rho M
theorem dp_while {X : Cx} {Tb : List (Addr × Str)} {EV : XK} {pos : Pos} {c : Expr} {body : List Stmt} {tc : TTD} {tb : TSD} (hp : PassesOwn (model X.prog X.w) X.A X.env X.xe) (hc : PDT X Tb EV c tc) (hb : PDSs X Tb EV body tb) : PDS X Tb EV (.While c body [] pos) (dWhile tc tb) := ps_imp (ps_while hp hc hb) fun DV σ H h => by
  obtain ⟨al, rho, M, E, DD, a, ⟨n, t⟩, p⟩ := h
  refine ⟨fun m σ' H' => ∃ al' rho' M', Stp al M H al' M' H' ∧ At X.K Tb EV al' σ' H' rho' M' E ∧ whU tc tb m E DD rho' M', ⟨n, al, rho, M, Stp.refl .., a, t⟩, ?_⟩
  rintro m σ' H' ⟨al', rho', M', s', a', t'⟩
  cases m with
  | zero => exact t'.elim
  | succ m =>
    refine seqT a' t' fun al1 k M1 H1 s1 a1 q1 => ?_
    cases k with
    | true =>
      refine ⟨fun σ2 H2 => ∃ al2 rho2 M2, Stp al M H al2 M2 H2 ∧ At X.K Tb EV al2 σ2 H2 rho2 M2 E ∧ whU tc tb m E DD rho2 M2, fun σ2 H2 h2 => ⟨m, Nat.lt_succ_self m, h2⟩, al1, rho', M1, E, _, a1, q1, ?_⟩
      have st := s'.trans s1
      exact ⟨fun al2 rho2 M2 σ2 H2 s2 w2 r2 q2 => ⟨al2, rho2, M2, st.trans s2, ⟨w2, r2, a1.ex.mono s2⟩, q2⟩, p.rt.mono st, p.nx.mono st, fun al2 rho2 M2 σ2 H2 s2 w2 r2 q2 => ⟨al2, rho2, M2, st.trans s2, ⟨w2, r2, a1.ex.mono s2⟩, q2⟩⟩
    | false => exact p.nx _ _ _ _ _ (s'.trans s1) a1.wf a1.sl q1
end DL

namespace DL
open PySem PySem.Spec PyProof.Rows L2

/-- a step that may have begun to make a list -/
structure Stw (al : Al) (M : Mem) (H : Hp) (al' : Al) (M' : Mem) (H' : Hp) : Prop where
  pre : ∀ (i : Nat) (a : Addr), al.a[i]? = some a → al'.a[i]? = some a
  fz : ∀ a o, H a = some o → (∀ ps, o ≠ .tbl ps) → Fz al M a → H' a = some o ∧ Fz al' M' a
  hid : ∀ a ∈ al.h, a ∈ al'.h ∧ H' a = H a
theorem Stp.stw {al al' : Al} {M M' : Mem} {H H' : Hp} (s : Stp al M H al' M' H') : Stw al M H al' M' H' := ⟨s.pre, s.fz, fun a ha => ⟨by rw [s.hh]; exact ha, s.hid a ha⟩⟩
theorem Stw.stp {al al1 al2 : Al} {M M1 M2 : Mem} {H H1 H2 : Hp} (a : Stw al M H al1 M1 H1) (b : Stp al1 M1 H1 al2 M2 H2) : Stw al M H al2 M2 H2 :=
  ⟨fun i x h => b.pre i x (a.pre i x h), fun x o h n f => b.fz x o (a.fz x o h n f).1 n (a.fz x o h n f).2, fun x hx => ⟨by rw [b.hh]; exact (a.hid x hx).1, (b.hid x (a.hid x hx).1).trans (a.hid x hx).2⟩⟩
theorem SqTz.monow {K : PySem.W.Frag} {al al' : Al} {M M' : Mem} {H H' : Hp} {a : Addr} {xs : List V} (s : Stw al M H al' M' H') (h : SqTz K al M H a xs) : SqTz K al' M' H' a xs := by
  rcases h with ⟨h, f⟩ | h
  · exact .inl ⟨(s.fz _ _ h (fun _ z => by cases z) f).1, (s.fz _ _ h (fun _ z => by cases z) f).2⟩
  · exact .inr h
theorem SqLz.monow {K : PySem.W.Frag} {al al' : Al} {M M' : Mem} {H H' : Hp} {a : Addr} {xs : List V} (s : Stw al M H al' M' H') (h : SqLz K al M H a xs) : SqLz K al' M' H' a xs := by
  rcases h with ⟨h | ⟨o, h⟩, f⟩ | h
  · exact .inl ⟨.inl (s.fz _ _ h (fun _ z => by cases z) f).1, (s.fz _ _ h (fun _ z => by cases z) f).2⟩
  · exact .inl ⟨.inr ⟨o, (s.fz _ _ h (fun _ z => by cases z) f).1⟩, (s.fz _ _ h (fun _ z => by cases z) f).2⟩
  · exact .inr h
mutual
theorem Rp.monow {K : PySem.W.Frag} {al al' : Al} {M M' : Mem} {H H' : Hp} (s : Stw al M H al' M' H') : ∀ {d : D} {v : V}, Rp K al M H d v → Rp K al' M' H' d v
  | .non, _, h => h
  | .bl _, _, h => h
  | .int _, _, h => h
  | .str _, _, h => h
  | .ty _, _, h => h
  | .tup ds, _, h => by
    obtain ⟨a, xs, e, q, r⟩ := h
    exact ⟨a, xs, e, q.monow s, Rps.monow s r⟩
  | .lst ds, _, h => by
    obtain ⟨a, xs, e, q, f, r⟩ := h
    exact ⟨a, xs, e, (s.fz _ _ q (fun _ z => by cases z) f).1, (s.fz _ _ q (fun _ z => by cases z) f).2, Rps.monow s r⟩
  | .rol ds, _, h => by
    obtain ⟨a, xs, e, q, r⟩ := h
    exact ⟨a, xs, e, q.monow s, Rps.monow s r⟩
  | .obj C ns ds, _, h => by
    obtain ⟨a, dx, xs, e, q, f, l, r⟩ := h
    exact ⟨a, dx, xs, e, (s.fz _ _ q (fun _ z => by cases z) f).1, (s.fz _ _ q (fun _ z => by cases z) f).2, l, Rps.monow s r⟩
  | .dk C ds, _, h => by
    obtain ⟨a, dx, xs, e, q, f, l, r⟩ := h
    exact ⟨a, dx, xs, e, (s.fz _ _ q (fun _ z => by cases z) f).1, (s.fz _ _ q (fun _ z => by cases z) f).2, l, Rps.monow s r⟩
  | .dt C ds, _, h => by
    obtain ⟨a, dx, xs, e, q, f, l, r⟩ := h
    exact ⟨a, dx, xs, e, (s.fz _ _ q (fun _ z => by cases z) f).1, (s.fz _ _ q (fun _ z => by cases z) f).2, l, Rps.monow s r⟩
  | .exc C ns ds, _, h => by
    obtain ⟨a, dx, xs, e, q, f, q2, f2, l, r⟩ := h
    exact ⟨a, dx, xs, e, (s.fz _ _ q (fun _ z => by cases z) f).1, (s.fz _ _ q (fun _ z => by cases z) f).2, (s.fz _ _ q2 (fun _ z => by cases z) f2).1, (s.fz _ _ q2 (fun _ z => by cases z) f2).2, l, Rps.monow s r⟩
  | .ref _, _, h => h
  | .mt i, _, h => by
    obtain ⟨a, e, q⟩ := h
    exact ⟨a, s.pre _ _ e, q⟩
theorem Rps.monow {K : PySem.W.Frag} {al al' : Al} {M M' : Mem} {H H' : Hp} (s : Stw al M H al' M' H') : ∀ {ds : List D} {xs : List V}, Rps K al M H ds xs → Rps K al' M' H' ds xs
  | [], _, h => h
  | d :: ds, _, h => by
    obtain ⟨x, r, e, q, t⟩ := h
    exact ⟨x, r, e, Rp.monow s q, Rps.monow s t⟩
end

/-! ### what is walked -/
structure ItOk (K : PySem.W.Frag) (Tb : List (Addr × Str)) (al : Al) (M : Mem) (H : Hp) (J : It) (ds : List D) : Prop where
  stop : ∀ al1 M1 H1, Stw al M H al1 M1 H1 → Wf K Tb al1 H1 M1 → J.stop ds.length H1
  go : ∀ al1 M1 H1, Stw al M H al1 M1 H1 → Wf K Tb al1 H1 M1 → ∀ (i : Nat) (d : D), ds[i]? = some d → J.go i H1
  yld : ∀ al1 M1 H1, Stw al M H al1 M1 H1 → Wf K Tb al1 H1 M1 → ∀ (i : Nat) (d : D) x H2, ds[i]? = some d → J.yld i H1 x H2 → Stp al1 M1 H1 al1 M1 H2 ∧ Wf K Tb al1 H2 M1 ∧ Rp K al1 M1 H2 d x
theorem ItOk.later {K : PySem.W.Frag} {Tb : List (Addr × Str)} {al al1 : Al} {M M1 : Mem} {H H1 : Hp} {J : It} {ds : List D} (t : ItOk K Tb al M H J ds) (s : Stp al M H al1 M1 H1) : ItOk K Tb al1 M1 H1 J ds :=
  have k : ∀ {al2 M2 H2}, Stw al1 M1 H1 al2 M2 H2 → Stw al M H al2 M2 H2 := fun b =>
    ⟨fun i x h => b.pre i x (s.pre i x h), fun x o h n f => b.fz x o (s.fz x o h n f).1 n (s.fz x o h n f).2, fun x hx => ⟨(b.hid x (by rw [s.hh]; exact hx)).1, (b.hid x (by rw [s.hh]; exact hx)).2.trans (s.hid x hx)⟩⟩
  ⟨fun _ _ _ a => t.stop _ _ _ (k a), fun _ _ _ a => t.go _ _ _ (k a), fun _ _ _ a => t.yld _ _ _ (k a)⟩
abbrev TID := XD → Rho → Mem → (List D → Mem → Prop) → Prop
def liftI (K : PySem.W.Frag) (Tb : List (Addr × Str)) (EV : XK) (t : TID) : TI := fun σ H R => ∃ al rho M E Q, At K Tb EV al σ H rho M E ∧ t E rho M Q ∧
  ∀ al' ds M' H' J, Stp al M H al' M' H' → Wf K Tb al' H' M' → ItOk K Tb al' M' H' J ds → Q ds M' → R J H'
abbrev PDI (X : Cx) (Tb : List (Addr × Str)) (EV : XK) (tg iter : Expr) (t : TID) : Prop := PI X tg iter (liftI X.K Tb EV t)
section
variable {K : PySem.W.Frag} {Tb : List (Addr × Str)} {al : Al} {M : Mem} {H : Hp}
theorem it_list {a : Addr} {ds : List D} {xs : List V} (h : SqLz K al M H a xs) (r : Rps K al M H ds xs) : ItOk K Tb al M H (Itl K a) ds where
  stop := fun al1 M1 H1 s w => ⟨xs, (h.monow s).sq, by rw [r.length]; exact Nat.le_refl _⟩
  go := fun al1 M1 H1 s w i d e => by
    obtain ⟨x, ex, _⟩ := r.get e
    exact ⟨xs, x, (h.monow s).sq, ex⟩
  yld := fun al1 M1 H1 s w i d x H2 e y => by
    obtain ⟨rfl, y⟩ := y
    obtain ⟨z, ez, rz⟩ := r.get e
    have := (y xs (h.monow s).sq).symm.trans ez
    cases this
    exact ⟨Stp.refl .., w, rz.monow s⟩
theorem it_tup {a : Addr} {ds : List D} {xs : List V} (h : SqTz K al M H a xs) (r : Rps K al M H ds xs) : ItOk K Tb al M H (Itt K a) ds where
  stop := fun al1 M1 H1 s w => ⟨xs, (h.monow s).sq, by rw [r.length]; exact Nat.le_refl _⟩
  go := fun al1 M1 H1 s w i d e => by
    obtain ⟨x, ex, _⟩ := r.get e
    exact ⟨xs, x, (h.monow s).sq, ex⟩
  yld := fun al1 M1 H1 s w i d x H2 e y => by
    obtain ⟨rfl, y⟩ := y
    obtain ⟨z, ez, rz⟩ := r.get e
    have := (y xs (h.monow s).sq).symm.trans ez
    cases this
    exact ⟨Stp.refl .., w, rz.monow s⟩
def rangeD (lo : Int) (n : Nat) : List D := (List.range n).map fun i => D.int (lo + (i : Nat))
theorem it_range {lo : Int} {n : Nat} : ItOk K Tb al M H (Itr lo n) (rangeD lo n) where
  stop := fun al1 M1 H1 s w => by show n ≤ (rangeD lo n).length; simp [rangeD]
  go := fun al1 M1 H1 s w i d e => by
    have := (List.getElem?_eq_some_iff.mp e).1
    show i < n
    simpa [rangeD] using this
  yld := fun al1 M1 H1 s w i d x H2 e y => by
    obtain ⟨rfl, rfl⟩ := y
    refine ⟨Stp.refl .., w, ?_⟩
    have hi := (List.getElem?_eq_some_iff.mp e).1
    simp [rangeD] at hi
    simp [rangeD, hi] at e
    subst e
    rfl
def signsD (z : Str) : List D := z.cps.toList.map fun c => D.str ⟨#[c]⟩
theorem it_str {z : Str} : ItOk K Tb al M H (Its z) (signsD z) where
  stop := fun al1 M1 H1 s w => by show z.cps.size ≤ (signsD z).length; simp [signsD]
  go := fun al1 M1 H1 s w i d e => by
    have := (List.getElem?_eq_some_iff.mp e).1
    show i < z.cps.size
    simpa [signsD] using this
  yld := fun al1 M1 H1 s w i d x H2 e y => by
    obtain ⟨rfl, c, ec, rfl⟩ := y
    refine ⟨Stp.refl .., w, ?_⟩
    simp [signsD, ec] at e
    subst e
    rfl
end
abbrev iSeq (t : TED) : TID := fun E rho M Q => t E rho M fun x M1 => match x with
  | .lst xs => Q xs M1
  | .rol xs => Q xs M1
  | .tup xs => Q xs M1
  | .str z => Q (signsD z) M1
  | _ => False
def iRange1 (t : TAD) : TID := fun E rho M Q => t E rho M fun ds M1 => match ds with
  | [.int j] => (-(2 ^ 62) ≤ j ∧ j < 2 ^ 62) ∧ Q (rangeD 0 j.toNat) M1
  | _ => False
def iRange2 (t : TAD) : TID := fun E rho M Q => t E rho M fun ds M1 => match ds with
  | [.int i, .int j] => (-(2 ^ 62) ≤ i ∧ i < 2 ^ 62 ∧ -(2 ^ 62) ≤ j ∧ j < 2 ^ 62) ∧ Q (rangeD i (j - i).toNat) M1
  | _ => False
section
variable {X : Cx} {Tb : List (Addr × Str)} {EV : XK} {tg : Expr}
theorem di_seq {l : Expr} {tl : TED} (hl : PD X Tb EV l tl) : PDI X Tb EV tg l (iSeq tl) := by
  refine ⟨fun pins s σ H R I h => ?_⟩
  obtain ⟨al, rho, M, E, Q, a, t, p⟩ := h
  refine thn (hl.run pins s σ H _ I (seq1 a t fun al1 x M1 vx H1 s1 a1 r1 q1 => (show (∃ z, vx = .str z ∧ R (Its z) H1) ∨ ∃ a, vx = .ref a ∧ (((∃ xs, SqL X.K H1 a xs) ∧ R (Itl X.K a) H1) ∨ ((∃ xs, SqT X.K H1 a xs) ∧ R (Itt X.K a) H1)) from ?_))) fun v s1 ⟨x, H1, I1, r1, q1⟩ => ?_
  · split at q1
    · obtain ⟨b, ys, rfl, h1, h2, h3⟩ := r1
      exact .inr ⟨b, rfl, .inl ⟨⟨ys, SqL.of h1⟩, p _ _ _ _ _ s1 a1.wf (it_list (.inl ⟨.inl h1, h2⟩) h3) q1⟩⟩
    · obtain ⟨b, ys, rfl, h1, h3⟩ := r1
      exact .inr ⟨b, rfl, .inl ⟨⟨ys, h1.sq⟩, p _ _ _ _ _ s1 a1.wf (it_list h1 h3) q1⟩⟩
    · obtain ⟨b, ys, rfl, h1, h3⟩ := r1
      exact .inr ⟨b, rfl, .inr ⟨⟨ys, h1.sq⟩, p _ _ _ _ _ s1 a1.wf (it_tup h1 h3) q1⟩⟩
    · rename_i z
      exact .inl ⟨z, r1, p _ _ _ _ _ s1 a1.wf it_str q1⟩
    · exact q1.elim
  · rcases q1 with ⟨z, e, q⟩ | ⟨a, e, ⟨⟨xs, hq⟩, q⟩ | ⟨⟨xs, hq⟩, q⟩⟩
    · subst e
      obtain ⟨t, rfl⟩ := r1
      cases ha : z.cps.all (· < 128)
      · exact wpAny_pyIter_wide ha (pi_one (tk := s1.toks) I1 _ (turn_str _ z t "str_iterator" (.inr rfl)) ⟨_, Heap.get?_push_size _ rfl, rfl, rfl⟩ q)
      · exact wpAny_pyIter_ascii ha (pi_one (tk := s1.toks) I1 _ (turn_str _ z t "str_ascii_iterator" (.inl rfl)) ⟨_, Heap.get?_push_size _ rfl, rfl, rfl⟩ q)
    · subst e
      cases r1
      obtain ⟨its, rv, p, hz⟩ := I1.list hq
      refine wpAny_pyIter_list p.isList ?_
      refine ⟨s1.heap.objs.size, [s1.heap.objs.size], _, _, H1, rfl, I1.kept (t' := s1.toks) fun b o e => Heap.get?_push_of_some _ e, turn_list a _, ⟨_, Heap.get?_push_size _ rfl, rfl, rfl⟩, fun b hb => ?_, q⟩
      have e : b = s1.heap.objs.size := by simpa using hb
      subst e
      exact I1.fpOk (Nat.le_refl _) (I1.hok.fresh (Nat.le_refl _))
    · subst e
      cases r1
      obtain ⟨its, rv, p, hz⟩ := I1.tuple hq
      refine wpAny_pyIter_tuple (show s1.heap.IsTuple a its.toArray from p) ?_
      refine ⟨s1.heap.objs.size, [s1.heap.objs.size], _, _, H1, rfl, I1.kept (t' := s1.toks) fun b o e => Heap.get?_push_of_some _ e, turn_tuple a _, ⟨_, Heap.get?_push_size _ rfl, rfl, rfl⟩, fun b hb => ?_, q⟩
      have e : b = s1.heap.objs.size := by simpa using hb
      subst e
      exact I1.fpOk (Nat.le_refl _) (I1.hok.fresh (Nat.le_refl _))
theorem pi_imp {iter : Expr} {t t' : TI} (h : PI X tg iter t) (w : ∀ σ H R, t' σ H R → t σ H R) : PI X tg iter t' := ⟨fun pins s σ H R I q => h.run pins s σ H R I (w σ H R q)⟩
theorem Rps.one {K : PySem.W.Frag} {al : Al} {M : Mem} {H : Hp} {d : D} {vs : List V} (r : Rps K al M H [d] vs) : ∃ v, vs = [v] ∧ Rp K al M H d v := by
  obtain ⟨v, w, rfl, r, e⟩ := r
  cases (show _ = [] from e)
  exact ⟨v, rfl, r⟩
theorem Rps.two {K : PySem.W.Frag} {al : Al} {M : Mem} {H : Hp} {d d' : D} {vs : List V} (r : Rps K al M H [d, d'] vs) : ∃ v v', vs = [v, v'] ∧ Rp K al M H d v ∧ Rp K al M H d' v' := by
  obtain ⟨v, w, rfl, r, r2⟩ := r
  obtain ⟨v', rfl, r3⟩ := r2.one
  exact ⟨v, v', rfl, r, r3⟩
theorem di_range1 {a : Expr} {ta : TAD} {p pos : Pos} (hg : Gl X "range") (hm : X.mg "range" = none) (ha : PDA X Tb EV [a] ta) (hs : starEach [a] X.env = [(false, eval a X.env)] := by rfl) : PDI X Tb EV tg (.Call (.Name "range" p) [a] [] pos) (iRange1 ta) :=
  pi_imp (pi_range1 hg hm ha hs) fun σ H R h => by
    obtain ⟨al, rho, M, E, Q, a, t, p⟩ := h
    refine seqA a t fun al1 ds M1 vs H1 s1 a1 r1 q1 => ?_
    split at q1
    · rename_i j
      obtain ⟨v, rfl, rfl⟩ := r1.one
      exact ⟨j, rfl, q1.1.1, q1.1.2, p _ _ _ _ _ s1 a1.wf it_range q1.2⟩
    · exact q1.elim
theorem di_range2 {a b : Expr} {ta : TAD} {p pos : Pos} (hg : Gl X "range") (hm : X.mg "range" = none) (ha : PDA X Tb EV [a, b] ta) (hs : starEach [a, b] X.env = [(false, eval a X.env), (false, eval b X.env)] := by rfl) (hs2 : starEach [b] X.env = [(false, eval b X.env)] := by rfl) : PDI X Tb EV tg (.Call (.Name "range" p) [a, b] [] pos) (iRange2 ta) :=
  pi_imp (pi_range2 hg hm ha hs hs2) fun σ H R h => by
    obtain ⟨al, rho, M, E, Q, a, t, p⟩ := h
    refine seqA a t fun al1 ds M1 vs H1 s1 a1 r1 q1 => ?_
    split at q1
    · rename_i i j
      obtain ⟨v, v', rfl, rfl, rfl⟩ := r1.two
      exact ⟨i, j, rfl, q1.1, p _ _ _ _ _ s1 a1.wf it_range q1.2⟩
    · exact q1.elim
end

/-! ### for -/
def forU (g : TGD) (tb : TSD) : List D → TSD
  | [] => fun _ DD rho M => DD.nx rho M
  | d :: r => fun E DD rho M => g d E rho M fun rho' M' => tb E { DD with nx := forU g tb r E DD, ct := forU g tb r E DD, bk := DD.nx } rho' M'
abbrev dFor (it : TID) (g : TGD) (tb : TSD) : TSD := fun E DD rho M => it E rho M fun ds M1 => forU g tb ds E DD rho M1
theorem dp_for {X : Cx} {Tb : List (Addr × Str)} {EV : XK} {tg iter : Expr} {body : List Stmt} {it : TID} {g : TGD} {tb : TSD} {pos : Pos} (hp : PassesOwn (model X.prog X.w) X.A X.env X.xe) (hc : X.calm = true) (hi : PDI X Tb EV tg iter it) (hg : PDG X Tb EV tg g) (hb : PDSs X Tb EV body tb)
    (hs : ∀ x, foldedSetIterable iter X.env x = pure x := by intro _; rfl) : PDS X Tb EV (.For tg iter body [] pos) (dFor it g tb) := ps_imp (ps_for hp hc hi hg hb hs) fun DV σ H h => by
  obtain ⟨al, rho, M, E, DD, a, t, p⟩ := h
  refine ⟨al, rho, M, E, _, a, t, fun al0 ds M0 H0 J s0 w0 ok q => ?_⟩
  refine ⟨fun i m σ1 H1 => m = ds.length - i ∧ i ≤ ds.length ∧ ∃ al1 rho1 M1, Stp al0 M0 H0 al1 M1 H1 ∧ At X.K Tb EV al1 σ1 H1 rho1 M1 E ∧ forU g tb (ds.drop i) E DD rho1 M1, ⟨ds.length, by simp, Nat.zero_le _, al0, rho, M0, Stp.refl .., a.go s0 w0, by simpa using q⟩, ?_⟩
  rintro i m σ1 H1 ⟨rfl, hi, al1, rho1, M1, s1, a1, t1⟩
  by_cases hlt : i < ds.length
  · have e : ds[i]? = some ds[i] := by simp [hlt]
    have ed : ds.drop i = ds[i] :: ds.drop (i + 1) := List.drop_eq_getElem_cons hlt
    rw [ed] at t1
    refine .inr ⟨ok.go _ _ _ s1.stw a1.wf i _ e, fun σ2 H2 => ∃ al2 rho2 M2, Stp al0 M0 H0 al2 M2 H2 ∧ At X.K Tb EV al2 σ2 H2 rho2 M2 E ∧ forU g tb (ds.drop (i + 1)) E DD rho2 M2, fun σ2 H2 h2 => ⟨ds.length - (i + 1), by omega, rfl, hlt, h2⟩, fun x H2 y => ?_⟩
    obtain ⟨s2, w2, r2⟩ := ok.yld _ _ _ s1.stw a1.wf i _ x H2 e y
    have a2 := a1.go s2 w2
    have st := s0.trans (s1.trans s2)
    refine ⟨al1, rho1, M1, E, _, _, a2, r2, t1, fun al3 rho3 M3 σ3 H3 s3 w3 r3 q3 => ⟨al3, rho3, M3, E, _, ⟨w3, r3, a2.ex.mono s3⟩, q3, ?_⟩⟩
    have st3 := st.trans s3
    exact ⟨fun al4 rho4 M4 σ4 H4 s4 w4 r4 q4 => ⟨al4, rho4, M4, (s1.trans s2).trans (s3.trans s4), ⟨w4, r4, (a2.ex.mono s3).mono s4⟩, q4⟩, p.rt.mono st3, p.nx.mono st3, fun al4 rho4 M4 σ4 H4 s4 w4 r4 q4 => ⟨al4, rho4, M4, (s1.trans s2).trans (s3.trans s4), ⟨w4, r4, (a2.ex.mono s3).mono s4⟩, q4⟩⟩
  · have e : i = ds.length := by omega
    subst e
    refine .inl ⟨ok.stop _ _ _ s1.stw a1.wf, ?_⟩
    simp [forU] at t1
    exact p.nx _ _ _ _ _ (s0.trans s1) a1.wf a1.sl t1

/-! ### list comprehensions -/
def wipeD (rho : Rho) : List Nat → Rho
  | [] => rho
  | v :: vs => (wipeD rho vs).set v none
theorem wipe_ok {K : PySem.W.Frag} {al : Al} {M : Mem} {H : Hp} {σ : L2.St} {rho : Rho} (h : RpS K al M H σ rho) : ∀ vs : List Nat, RpS K al M H (wipe σ vs) (wipeD rho vs)
  | [] => h
  | v :: vs => by
    show RpS K al M H ((wipe σ vs).set v none) ((wipeD rho vs).set v none)
    exact (wipe_ok h vs).wipe1 v
theorem wipe_in {σ : L2.St} {i : Nat} : ∀ {vs : List Nat}, i ∈ vs → i < σ.length → (wipe σ vs)[i]? = some none
  | v :: vs, h, hl => by
    show ((wipe σ vs).set v none)[i]? = some none
    by_cases e : v = i
    · subst e
      rw [List.getElem?_set_self (by rw [wipe_length]; exact hl)]
    · rw [List.getElem?_set_ne e]
      exact wipe_in ((List.mem_cons.mp h).resolve_left fun z => e z.symm) hl
theorem wipe_set {σ : L2.St} {i : Nat} {v : Option V} {vs : List Nat} (hi : i ∈ vs) : wipe (σ.set i v) vs = wipe σ vs := by
  apply List.ext_getElem?
  intro j
  by_cases hj : j ∈ vs
  · by_cases hl : j < σ.length
    · rw [wipe_in hj (by simpa using hl), wipe_in hj hl]
    · rw [List.getElem?_eq_none (by rw [wipe_length]; simp; omega), List.getElem?_eq_none (by rw [wipe_length]; omega)]
  · rw [wipe_out hj, wipe_out hj, List.getElem?_set_ne (fun (z : i = j) => hj (z ▸ hi))]
theorem wipe_wipe {σ : L2.St} : ∀ {vs ws : List Nat}, (∀ i ∈ ws, i ∈ vs) → wipe (wipe σ ws) vs = wipe σ vs
  | vs, [], _ => rfl
  | vs, w :: ws, h => by
    show wipe ((wipe σ ws).set w none) vs = wipe σ vs
    rw [wipe_set (h w (by simp)), wipe_wipe fun i hi => h i (by simp [hi])]
/-- a target of names alone -/
def TgN (K : PySem.W.Frag) (gV : TG) (gD : TGD) (vs : List Nat) : Prop := ∀ al rho M E d x σ H Q QS, RpS K al M H σ rho → Rp K al M H d x → gD d E rho M Q → (∀ σ' rho', wipe σ' vs = wipe σ vs → RpS K al M H σ' rho' → Q rho' M → QS σ' H) → gV x σ H QS
theorem tgn_name {K : PySem.W.Frag} {i : Nat} {vs : List Nat} (hi : i ∈ vs) : TgN K (gName i) (hName i) vs := fun al rho M E d x σ H Q QS a r t k =>
  k _ _ (wipe_set hi) (a.set i r) t
def TgNs (K : PySem.W.Frag) (gV : TGs) (gD : TGsD) (vs : List Nat) : Prop := ∀ al rho M E ds xs σ H Q QS, RpS K al M H σ rho → Rps K al M H ds xs → gD ds E rho M Q → (∀ σ' rho', wipe σ' vs = wipe σ vs → RpS K al M H σ' rho' → Q rho' M → QS σ' H) → gV xs σ H QS
theorem tgns_nil {K : PySem.W.Frag} {vs : List Nat} : TgNs K gNil hNil vs := fun al rho M E ds xs σ H Q QS a r t k => by
  unfold hNil at t
  split at t
  · exact ⟨r, k _ _ rfl a t⟩
  · exact t.elim
theorem tgns_cons {K : PySem.W.Frag} {vs : List Nat} {g : TG} {gD : TGD} {u : TGs} {uD : TGsD} (h1 : TgN K g gD vs) (h2 : TgNs K u uD vs) : TgNs K (gCons g u) (hCons gD uD) vs := fun al rho M E ds xs σ H Q QS a r t k => by
  unfold hCons at t
  split at t
  · obtain ⟨x, ys, rfl, rx, rys⟩ := r
    exact ⟨x, ys, rfl, h1 _ _ _ _ _ _ _ _ _ _ a rx t fun σ' rho' e1 a1 t1 => h2 _ _ _ _ _ _ _ _ _ _ a1 rys t1 fun σ2 rho2 e2 a2 t2 => k _ _ (e2.trans e1) a2 t2⟩
  · exact t.elim
theorem tgn_tup {K : PySem.W.Frag} {n : Nat} {vs : List Nat} {u : TGs} {uD : TGsD} (h : TgNs K u uD vs) : TgN K (gTup K n u) (hTup n uD) vs := fun al rho M E d x σ H Q QS a r t k => by
  unfold hTup at t
  split at t
  · obtain ⟨b, ys, rfl, q1, q2⟩ := r
    exact ⟨b, ys, rfl, q1.sq, by rw [← q2.length]; exact t.1, h _ _ _ _ _ _ _ _ _ _ a q2 t.2 k⟩
  · exact t.elim
def noE : XD := fun _ _ => False
def lcU (g : TGD) (tt : TTD) (te : TED) (vs : List Nat) : List D → List D → Rho → Mem → VD → Prop
  | [], acc => fun _ M Q => Q (.lst acc) M
  | d :: r, acc => fun rho M Q => g d noE (wipeD rho vs) M fun rho' M1 => tt noE rho' M1 fun b M2 => if b = true then te noE rho' M2 (fun y M3 => acc.length < sizeLine ∧ lcU g tt te vs r (acc ++ [y]) rho M3 Q) else lcU g tt te vs r acc rho M2 Q
abbrev dLc (it : TID) (g : TGD) (tt : TTD) (te : TED) (vs : List Nat) : TED := fun E rho M Q => it E rho M fun ds M1 => lcU g tt te vs ds [] rho M1 Q
abbrev dYes : TTD := fun _ _ M Q => Q true M
section
variable {K : PySem.W.Frag} {Tb : List (Addr × Str)} {al : Al} {M : Mem} {H : Hp} {D0 : Addr}
theorem Al.eta {al : Al} {p : Addr} {l : List Addr} (h : al.h = p :: l) : al = Al.hide ⟨al.a, l⟩ p := by
  obtain ⟨a, h'⟩ := al
  cases h
  rfl
theorem fz_unhide {a : Addr} (f : Fz (al.hide D0) M a) : a ≠ D0 ∧ Fz al M a := ⟨fun z => f.1 (by rw [z]; exact List.mem_cons_self), fun hm => f.1 (List.mem_cons_of_mem _ hm), f.2⟩
/-- the hidden list changed -/
theorem hid_set (w : Wf K Tb (al.hide D0) H M) (u : HO) (hu : HidO D0 u) : Wf K Tb (al.hide D0) (upd H D0 u) M ∧ (∀ (d : D) (v : V), Rp K (al.hide D0) M H d v → Rp K (al.hide D0) M (upd H D0 u) d v) ∧ (∀ (d : List D) (v : List V), Rps K (al.hide D0) M H d v → Rps K (al.hide D0) M (upd H D0 u) d v) := by
  obtain ⟨xs0, hD, hz⟩ := w.hth D0 List.mem_cons_self
  have up : ∀ b o, H b = some o → Fz (al.hide D0) M b → upd H D0 u b = some o := fun b o h f => by rw [upd_ne (fz_unhide f).1]; exact h
  have all := hideRp (K := K) (al := al.hide D0) (al' := al.hide D0) (M := M) (fun _ _ _ f => f) up
  have alls := hideRps (K := K) (al := al.hide D0) (al' := al.hide D0) (M := M) (fun _ _ _ f => f) up
  have live : ∀ (i : Nat) (b : Addr) (mo : MO), al.a[i]? = some b → M[i]? = some (some mo) → b ≠ D0 := fun i b mo e1 e2 z => w.hdis i b mo e1 e2 (by rw [z]; exact List.mem_cons_self)
  refine ⟨⟨w.len, w.nd, fun i b mo e1 e2 => ?_, fun i b e => ?_, fun q hq => ?_, fun b hb => ?_, w.hdis⟩, all, alls⟩
  · have r := w.rep i b mo e1 e2
    have ne := live i b mo e1 e2
    cases mo with
    | lst ds => obtain ⟨zs, h1, h2⟩ := r; exact ⟨zs, by rw [upd_ne ne]; exact h1, alls _ _ h2⟩
    | dK kvs => obtain ⟨zs, h1, h2⟩ := r; exact ⟨zs, by rw [upd_ne ne]; exact h1, h2.1, alls _ _ h2.2⟩
    | dT ks ds => obtain ⟨zs, h1, h2⟩ := r; exact ⟨zs, by rw [upd_ne ne]; exact h1, h2.1, alls _ _ h2.2⟩
    | ins C fs => obtain ⟨dx, zs, h1, h2⟩ := r; exact ⟨dx, zs, by rw [upd_ne ne]; exact h1, h2.1, alls _ _ h2.2⟩
  · by_cases hb : b = D0
    · exact ⟨_, by rw [hb]; exact upd_same, hu.tbl⟩
    · obtain ⟨o, h1, h2⟩ := w.there i b e
      exact ⟨o, by rw [upd_ne hb]; exact h1, h2⟩
  · obtain ⟨ps, h1, h2, h3⟩ := w.tb q hq
    refine ⟨ps, ?_, h2, fun pos cv hc => ?_⟩
    · rw [upd_ne (fun (z : q.1 = D0) => by rw [z, hD] at h1; exact hz.tbl _ (Option.some.inj h1))]
      exact h1
    · obtain ⟨c, e1, e2⟩ := h3 pos cv hc
      refine ⟨c, e1, ?_⟩
      rw [upd_ne (fun (z : c = D0) => by rw [z, hD] at e2; exact hz.code _ _ (Option.some.inj e2))]
      exact e2
  · by_cases hbD : b = D0
    · exact ⟨u, by rw [hbD]; exact upd_same, hbD ▸ hu⟩
    · obtain ⟨zs, h, q⟩ := w.hth b hb
      exact ⟨zs, by rw [upd_ne hbD]; exact h, q⟩
theorem unhide (w : Wf K Tb (al.hide D0) H M) : Wf K Tb al H M ∧ (∀ (d : D) (v : V), Rp K (al.hide D0) M H d v → Rp K al M H d v) ∧ (∀ (d : List D) (v : List V), Rps K (al.hide D0) M H d v → Rps K al M H d v) := by
  have all := hideRp (K := K) (al := al.hide D0) (al' := al) (M := M) (H := H) (H' := H) (fun _ _ _ f => (fz_unhide f).2) fun _ _ h _ => h
  have alls := hideRps (K := K) (al := al.hide D0) (al' := al) (M := M) (H := H) (H' := H) (fun _ _ _ f => (fz_unhide f).2) fun _ _ h _ => h
  refine ⟨⟨w.len, w.nd, fun i b mo e1 e2 => ?_, w.there, w.tb, fun b hb => w.hth b (List.mem_cons_of_mem _ hb), fun i b mo e1 e2 hm => w.hdis i b mo e1 e2 (List.mem_cons_of_mem _ hm)⟩, all, alls⟩
  have r := w.rep i b mo e1 e2
  cases mo with
  | lst ds => obtain ⟨zs, h1, h2⟩ := r; exact ⟨zs, h1, alls _ _ h2⟩
  | dK kvs => obtain ⟨zs, h1, h2⟩ := r; exact ⟨zs, h1, h2.1, alls _ _ h2.2⟩
  | dT ks ds => obtain ⟨zs, h1, h2⟩ := r; exact ⟨zs, h1, h2.1, alls _ _ h2.2⟩
  | ins C fs => obtain ⟨dx, zs, h1, h2⟩ := r; exact ⟨dx, zs, h1, h2.1, alls _ _ h2.2⟩
end
theorem lc_lift {K : PySem.W.Frag} {Tb : List (Addr × Str)} {EV : XK} {it : TID} {gV : TG} {g : TGD} {tt : TTD} {te : TED} {vs : List Nat} (hN : TgN K gV g vs) {σ : L2.St} {H : Hp} {QV : VK} (h : lift K Tb EV (dLc it g tt te vs) σ H QV) :
    tLc (liftI K Tb EV it) gV (liftT K Tb E0 tt) (lift K Tb E0 te) vs σ H QV := by
  obtain ⟨al, rho, M, E, Q, a, t, p⟩ := h
  refine ⟨al, rho, M, E, _, a, t, fun al0 ds M0 H0 J s0 w0 ok q D0 hD0 => ?_⟩
  have a0 := a.go s0 w0
  refine ⟨fun i m H1 => m = ds.length - i ∧ i ≤ ds.length ∧ ∃ (l1 : List Addr) (M1 : Mem) (acc : List D) (ys : List V), Stw al0 M0 H0 (Al.hide ⟨l1, al0.h⟩ D0) M1 H1 ∧ Wf K Tb (Al.hide ⟨l1, al0.h⟩ D0) H1 M1 ∧ RpS K (Al.hide ⟨l1, al0.h⟩ D0) M1 H1 σ rho ∧
      Rps K (Al.hide ⟨l1, al0.h⟩ D0) M1 H1 acc ys ∧ H1 D0 = some (.lst ys) ∧ lcU g tt te vs (ds.drop i) acc rho M1 Q, ⟨ds.length, by simp, Nat.zero_le _, al0.a, M0, [], [], ?_⟩, ?_⟩
  · obtain ⟨w1, r1⟩ := hide_stp w0 hD0 (.lst []) (.inl ⟨_, rfl⟩)
    refine ⟨⟨fun _ _ h => h, fun b o h _ f => ⟨by rw [upd_ne (ne_of_none h hD0)]; exact h, fun hm => ?_, f.2⟩, fun b hb => ⟨List.mem_cons_of_mem _ hb, upd_ne fun z => w0.nohid hD0 (z ▸ hb)⟩⟩, w1, ⟨a0.sl.1, fun i d e => let ⟨v, e1, r⟩ := a0.sl.2 i d e; ⟨v, e1, r1 _ _ r⟩⟩, rfl, upd_same, by simpa using q⟩
    rcases List.mem_cons.mp hm with z | z
    · exact absurd (z ▸ h) (by rw [hD0]; intro q; cases q)
    · exact f.1 z
  · rintro i m H1 ⟨rfl, hi, l1, M1, acc, ys, s1, w1, sl1, racc, hD1, t1⟩
    by_cases hlt : i < ds.length
    · have e : ds[i]? = some ds[i] := by simp [hlt]
      have ed : ds.drop i = ds[i] :: ds.drop (i + 1) := List.drop_eq_getElem_cons hlt
      rw [ed] at t1
      refine .inr ⟨ok.go _ _ _ s1 w1 i _ e, fun H2 => ∃ (l2 : List Addr) (M2 : Mem) (acc : List D) (ys : List V), Stw al0 M0 H0 (Al.hide ⟨l2, al0.h⟩ D0) M2 H2 ∧ Wf K Tb (Al.hide ⟨l2, al0.h⟩ D0) H2 M2 ∧ RpS K (Al.hide ⟨l2, al0.h⟩ D0) M2 H2 σ rho ∧
        Rps K (Al.hide ⟨l2, al0.h⟩ D0) M2 H2 acc ys ∧ H2 D0 = some (.lst ys) ∧ lcU g tt te vs (ds.drop (i + 1)) acc rho M2 Q, fun H2 h2 => ⟨ds.length - (i + 1), by omega, rfl, hlt, h2⟩, fun x H2 y => ?_⟩
      obtain ⟨s2, w2, r2⟩ := ok.yld _ _ _ s1 w1 i _ x H2 e y
      have sl2 := sl1.mono s2
      refine hN _ _ _ _ _ _ _ _ _ _ (wipe_ok sl2 vs) r2 t1 fun σ' rho' ew sl' t2 => ⟨by rw [ew]; exact wipe_wipe fun _ h => h, ?_⟩
      have aB : At K Tb E0 (Al.hide ⟨l1, al0.h⟩ D0) σ' H2 rho' M1 noE := ⟨w2, sl', fun _ _ _ _ _ _ _ _ _ z => z⟩
      have hD2 : H2 D0 = some (.lst ys) := (s2.hid D0 List.mem_cons_self).trans hD1
      refine seqT aB t2 fun al3 b M3 H3 s3 a3 q3 => ?_
      have hh3 : al3 = Al.hide ⟨al3.a, al0.h⟩ D0 := Al.eta (show al3.h = D0 :: al0.h from s3.hh)
      have hD3 : H3 D0 = some (.lst ys) := (s3.hid D0 List.mem_cons_self).trans hD2
      cases b with
      | false =>
        rw [if_neg Bool.false_ne_true]
        refine ⟨al3.a, M3, acc, ys, ?_, ?_, ?_, ?_, hD3, q3⟩
        · rw [← hh3]; exact (s1.stp s2).stp s3
        · rw [← hh3]; exact a3.wf
        · rw [← hh3]; exact sl2.mono s3
        · rw [← hh3]; exact (racc.mono s2).mono s3
      | true =>
        rw [if_pos rfl]
        refine seq1 a3 q3 fun al4 d4 M4 v4 H4 s4 a4 r4 q4 => ?_
        have hh4 : al4 = Al.hide ⟨al4.a, al0.h⟩ D0 := Al.eta (show al4.h = D0 :: al0.h from s4.hh.trans s3.hh)
        have hm3 : D0 ∈ al3.h := by rw [hh3]; exact List.mem_cons_self
        have hD4 : H4 D0 = some (.lst ys) := (s4.hid D0 hm3).trans hD3
        have S4 := ((s1.stp s2).stp s3).stp s4
        have W4 := a4.wf
        have L4 := (sl2.mono s3).mono s4
        have R4 := ((racc.mono s2).mono s3).mono s4
        rw [hh4] at S4 W4 L4 R4 r4
        obtain ⟨w5, u1, u2⟩ := hid_set W4 (.lst (ys ++ [v4])) (.inl ⟨_, rfl⟩)
        refine ⟨ys, hD4, by rw [← racc.length]; exact q4.1, al4.a, M4, acc ++ [d4], ys ++ [v4], ⟨S4.pre, fun b o h n f => ⟨?_, (S4.fz b o h n f).2⟩, fun b hb => ⟨(S4.hid b hb).1, ?_⟩⟩, w5, ⟨L4.1, fun i d e => let ⟨v, e1, r⟩ := L4.2 i d e; ⟨v, e1, u1 _ _ r⟩⟩, u2 _ _ (R4.append ⟨v4, [], rfl, r4, rfl⟩), upd_same, q4.2⟩
        · rw [upd_ne (ne_of_none h hD0)]; exact (S4.fz b o h n f).1
        · rw [upd_ne (fun (z : b = D0) => w0.nohid hD0 (z ▸ hb))]; exact (S4.hid b hb).2
    · have e : i = ds.length := by omega
      subst e
      refine .inl ⟨ok.stop _ _ _ s1 w1, ?_⟩
      simp [lcU] at t1
      obtain ⟨w2, u1, u2⟩ := unhide w1
      refine p ⟨l1, al0.h⟩ (.lst acc) M1 _ H1 (s0.trans ⟨s1.pre, fun b o h n f => ⟨(s1.fz b o h n f).1, (fz_unhide (s1.fz b o h n f).2).2⟩, rfl, fun b hb => (s1.hid b hb).2⟩) w2 ⟨D0, ys, rfl, hD1, ⟨fun hm => ?_, fun j mo e1 e2 => w1.hdis j D0 mo e1 e2 List.mem_cons_self⟩, u2 _ _ racc⟩ t1
      exact w0.nohid hD0 hm
section
variable {X : Cx} {Tb : List (Addr × Str)} {EV : XK} {elt tg iter : Expr} {ifs : List Expr} {scope : Scope} {own : List (Str × Nat)} {pos : Pos} {it : TID} {gV : TG} {g : TGD} {tt : TTD} {te : TED}
theorem dv_lc (hc : X.calm = true) (hN : X.N.Nodup) (hi : PDI X Tb EV tg iter it) (ok : BlkOk X.N X.env.scope scope own) (hT : TgN X.K gV g (own.map (·.2)))
    (hg : ∀ (s : Shared) (H : Hp) (C : Addr) (cl : List (Str × Addr)) (fp : List Addr), PG (X.blk s H scope (compEnvC scope cl C X.env) fp) tg gV) (ht : ∀ (s : Shared) (H : Hp) (C : Addr) (cl : List (Str × Addr)) (fp : List Addr), PTs (X.blk s H scope (compEnvC scope cl C X.env) fp) ifs (liftT X.K Tb E0 tt))
    (he : ∀ (s : Shared) (H : Hp) (C : Addr) (cl : List (Str × Addr)) (fp : List Addr), PD (X.blk s H scope (compEnvC scope cl C X.env) fp) Tb E0 elt te) (hs : ∀ x, foldedSetIterable iter X.env x = pure x := by intro _; rfl) :
    PD X Tb EV (.ListComp elt [⟨tg, iter, ifs, 0⟩] scope pos) (dLc it g tt te (own.map (·.2))) := pe_imp (pe_lc hc hN hi ok hg ht he hs) fun _ _ _ h => lc_lift hT h
theorem dp_setLc (i : Nat) {y : Str} {py spos : Pos} (hc : X.calm = true) (hN : X.N.Nodup) (hi : PDI X Tb EV tg iter it) (ok : BlkOk X.N X.env.scope scope own) (hT : TgN X.K gV g (own.map (·.2)))
    (hg : ∀ (s : Shared) (H : Hp) (C : Addr) (cl : List (Str × Addr)) (fp : List Addr), PG (X.blk s H scope (compEnvC scope cl C X.env) fp) tg gV) (ht : ∀ (s : Shared) (H : Hp) (C : Addr) (cl : List (Str × Addr)) (fp : List Addr), PTs (X.blk s H scope (compEnvC scope cl C X.env) fp) ifs (liftT X.K Tb E0 tt))
    (he : ∀ (s : Shared) (H : Hp) (C : Addr) (cl : List (Str × Addr)) (fp : List Addr), PD (X.blk s H scope (compEnvC scope cl C X.env) fp) Tb E0 elt te) 
    (hsw : swapsWith (.ListComp elt [⟨tg, iter, ifs, 0⟩] scope pos) (some (.Name y py)) spos.line X.env = pure true) (hy : X.N[i]? = some y := by rfl) (hyl : X.env.scope.names.lookup y = some .local := by rfl) (hs : ∀ x, foldedSetIterable iter X.env x = pure x := by intro _; rfl) :
    PDS X Tb EV (.Assign [.Name y py] (.ListComp elt [⟨tg, iter, ifs, 0⟩] scope pos) spos) (dAsg (dLc it g tt te (own.map (·.2))) (hName i)) := ps_imp (ps_setLc hc hN hy hyl hsw hi ok hg ht he hs) fun DV σ H h => by
  obtain ⟨al, rho, M, E, DD, a, t, p⟩ := h
  refine lc_lift hT ⟨al, rho, M, E, _, a, t, fun al' d M' v H' s w r q => ?_⟩
  exact p.nx _ _ _ _ _ s w ((a.sl.mono s).set i r) q
theorem dts_nil {X : Cx} {K : PySem.W.Frag} {EV : XK} : PTs X [] (liftT K Tb EV dYes) := ⟨fun pins s σ H Q I h => pts_nil.run pins s σ H Q I (by
  obtain ⟨al, rho, M, E, Q', a, t, p⟩ := h
  exact p _ _ _ _ (Stp.refl ..) a.wf t)⟩
end
end DL

namespace DL
open PySem PySem.Spec PyProof.Rows L2

/-! ### built-in functions and types, called -/
abbrev RDC := List D → Mem → VD → Prop
def RefC (K : PySem.W.Frag) (Tb : List (Addr × Str)) (r : List V → Hp → VK → Prop) (rD : RDC) : Prop :=
  ∀ al M H xs ds Q QV, Wf K Tb al H M → Rps K al M H ds xs → rD ds M Q → PostV K Tb al M H Q QV → r xs H QV
abbrev dCB (rD : RDC) (t : TAD) : TED := fun E rho M Q => t E rho M fun ds M1 => rD ds M1 Q
section
variable {X : Cx} {Tb : List (Addr × Str)} {EV : XK} {x : Str} {p pos : Pos} {e : Expr} {es : List Expr} {t : TAD} {id T : String} {r : List V → Hp → VK → Prop} {rD : RDC}
theorem cb_lift (hr : RefC X.K Tb r rD) {σ : L2.St} {H : Hp} {QV : VK} (h : lift X.K Tb EV (dCB rD t) σ H QV) : tCB r (liftA X.K Tb EV t) σ H QV := by
  obtain ⟨al, rho, M, E, Q, a, t, p⟩ := h
  exact seqA a t fun al1 ds M1 vs H1 s1 a1 r1 q1 => hr _ _ _ _ _ _ _ a1.wf r1 q1 (p.mono s1)
theorem dv_callB (hc : CallR X (.builtin id) r) (hr : RefC X.K Tb r rD) (hg : Gl X x) (hm : X.mg x = none) (hv : bootBuiltins x = some (.builtin id)) (ha : PDA X Tb EV (e :: es) t) (hn : x ≠ "__name__" := by decide) (hdb : (x == ("__debug__" : Str)) = false := by decide)
    (he : starEach (e :: es) X.env = (false, eval e X.env) :: starEach es X.env := by rfl) (hpl : (backTo pos (starEach es X.env)).any (·.1) = false := by rfl) : PD X Tb EV (.Call (.Name x p) (e :: es) [] pos) (dCB rD t) := pe_imp (pe_callB hc hg hm hv ha hn hdb he hpl) fun _ _ _ h => cb_lift hr h
theorem dv_callTy (hc : CallR X (.type T) r) (hr : RefC X.K Tb r rD) (hg : Gl X x) (hm : X.mg x = none) (hv : bootBuiltins x = some (.type T)) (ha : PDA X Tb EV (e :: es) t) (hn : x ≠ "__name__" := by decide) (hdb : (x == ("__debug__" : Str)) = false := by decide)
    (he : starEach (e :: es) X.env = (false, eval e X.env) :: starEach es X.env := by rfl) (hpl : (backTo pos (starEach es X.env)).any (·.1) = false := by rfl) : PD X Tb EV (.Call (.Name x p) (e :: es) [] pos) (dCB rD t) := pe_imp (pe_callTy hc hg hm hv ha hn hdb he hpl) fun _ _ _ h => cb_lift hr h
end
/-- len -/
def rLen_ : RDC := fun ds M Q => match ds with
  | [x] => (match seqD M x with
    | some xs => Q (.int xs.length) M
    | none => match x with
      | .str z => z.length ≤ sizeLine ∧ Q (.int z.length) M
      | _ => False)
  | _ => False
def rAbs_ : RDC := fun ds M Q => match ds with
  | [.int i] => Q (.int i.natAbs) M
  | _ => False
def rList_ : RDC := fun ds M Q => match ds with
  | [x] => (match seqD M x with
    | some xs => Q (.lst xs) M
    | none => False)
  | _ => False
def rListM_ : RDC := fun ds M Q => match ds with
  | [x] => (match seqD M x with
    | some xs => Q (.mt M.length) (M ++ [some (.lst xs)])
    | none => False)
  | _ => False
def rTuple_ : RDC := fun ds M Q => match ds with
  | [x] => (match seqD M x with
    | some xs => Q (.tup xs) M
    | none => False)
  | _ => False
def rInt_ : RDC := fun ds M Q => match ds with
  | [.int i] => Q (.int i) M
  | [.bl k] => Q (.int (if k then 1 else 0)) M
  | [.str a] => (match PySem.intText? a with
    | some n => a.length ≤ 640 ∧ Q (.int n) M
    | none => False)
  | _ => False
def rStr_ : RDC := fun ds M Q => match ds with
  | [.int i] => i.natAbs.log2 < 1920 ∧ Q (.str (toString i)) M
  | _ => False
def bls : List D → Option (List Bool)
  | [] => some []
  | .bl b :: r => (bls r).map (b :: ·)
  | _ => none
def rAll_ : RDC := fun ds M Q => match ds with
  | [x] => (match asL M x with
    | some xs => (match bls xs with
      | some bs => Q (.bl (bs.all _root_.id)) M
      | none => False)
    | none => False)
  | _ => False
def rAny_ : RDC := fun ds M Q => match ds with
  | [x] => (match asL M x with
    | some xs => (match bls xs with
      | some bs => Q (.bl (bs.any _root_.id)) M
      | none => False)
    | none => False)
  | _ => False
section
variable {K : PySem.W.Frag} {Tb : List (Addr × Str)} {al : Al} {M : Mem} {H : Hp}
theorem bls_ok : ∀ {ds : List D} {bs : List Bool} {xs : List V}, bls ds = some bs → Rps K al M H ds xs → xs = bs.map V.bl
  | [], _, _, e, r => by cases e; exact r
  | .bl b :: ds, _, _, e, r => by
    obtain ⟨x, ys, rfl, rx, ry⟩ := r
    unfold bls at e
    cases q : bls ds with
    | none => rw [q] at e; cases e
    | some bs' =>
      rw [q] at e; cases e
      cases (show x = .bl b from rx)
      rw [bls_ok q ry]; rfl
  | .non :: _, _, _, e, _ => by cases e
  | .int _ :: _, _, _, e, _ => by cases e
  | .str _ :: _, _, _, e, _ => by cases e
  | .ty _ :: _, _, _, e, _ => by cases e
  | .tup _ :: _, _, _, e, _ => by cases e
  | .lst _ :: _, _, _, e, _ => by cases e
  | .rol _ :: _, _, _, e, _ => by cases e
  | .obj _ _ _ :: _, _, _, e, _ => by cases e
  | .exc _ _ _ :: _, _, _, e, _ => by cases e
  | .dk _ _ :: _, _, _, e, _ => by cases e
  | .dt _ _ :: _, _, _, e, _ => by cases e
  | .ref _ :: _, _, _, e, _ => by cases e
  | .mt _ :: _, _, _, e, _ => by cases e
theorem ref_len {X : Cx} : RefC X.K Tb (fun xs H Q => ∃ x n, xs = [x] ∧ LenV X.K x H n ∧ Q (.int n) H) rLen_ := by
  intro al M H xs ds Q QV w r h p
  unfold rLen_ at h
  split at h
  · rename_i x
    obtain ⟨v, rfl, rv⟩ := r.one
    split at h
    · rename_i ys e
      obtain ⟨a, zs, rfl, hq, rz⟩ := seqD_ok w e rv
      refine ⟨_, ys.length, rfl, ?_, p _ (.int ys.length) _ _ _ (Stp.refl ..) w rfl h⟩
      rcases hq with hq | hq
      · exact .inl ⟨zs, hq, rz.length⟩
      · exact .inr ⟨zs, hq, rz.length⟩
    · split at h
      · rename_i z _
        cases (show _ = _ from rv)
        exact ⟨_, z.length, rfl, ⟨h.1, rfl⟩, p _ (.int z.length) _ _ _ (Stp.refl ..) w rfl h.2⟩
      · exact h.elim
  · exact h.elim
theorem ref_abs : RefC K Tb (fun xs H Q => ∃ i, xs = [.int i] ∧ Q (.int (if i < 0 then -i else i)) H) rAbs_ := by
  intro al M H xs ds Q QV w r h p
  unfold rAbs_ at h
  split at h
  · rename_i i
    obtain ⟨v, rfl, rfl⟩ := r.one
    refine ⟨i, rfl, ?_⟩
    have e : (if i < 0 then -i else i) = (i.natAbs : Int) := by split <;> omega
    rw [e]
    exact p _ (.int i.natAbs) _ _ _ (Stp.refl ..) w rfl h
  · exact h.elim
theorem ref_list {X : Cx} : RefC X.K Tb (fun xs H Q => ∃ p ys, xs = [.ref p] ∧ (SqL X.K H p ys ∨ SqT X.K H p ys) ∧ ∀ l, H l = none → Q (.ref l) (upd H l (.lst ys))) rList_ := by
  intro al M H xs ds Q QV w r h p
  unfold rList_ at h
  split at h
  · obtain ⟨v, rfl, rv⟩ := r.one
    split at h
    · rename_i ys e
      obtain ⟨a, zs, rfl, hq, rz⟩ := seqD_ok w e rv
      exact ⟨a, zs, rfl, hq, fun l hl => p _ _ _ _ _ (stp_new w hl _) (wf_new w hl _) (rp_lst w hl rz) h⟩
    · exact h.elim
  · exact h.elim
theorem ref_listM {X : Cx} : RefC X.K Tb (fun xs H Q => ∃ p ys, xs = [.ref p] ∧ (SqL X.K H p ys ∨ SqT X.K H p ys) ∧ ∀ l, H l = none → Q (.ref l) (upd H l (.lst ys))) rListM_ := by
  intro al M H xs ds Q QV w r h p
  unfold rListM_ at h
  split at h
  · obtain ⟨v, rfl, rv⟩ := r.one
    split at h
    · rename_i ys e
      obtain ⟨a, zs, rfl, hq, rz⟩ := seqD_ok w e rv
      refine ⟨a, zs, rfl, hq, fun l hl => ?_⟩
      obtain ⟨h1, h2, h3⟩ := mut_lst w hl rz
      exact p _ _ _ _ _ h1 h2 h3 h
    · exact h.elim
  · exact h.elim
theorem ref_tuple {X : Cx} : RefC X.K Tb (fun xs H Q => ∃ p ys, xs = [.ref p] ∧ ((SqL X.K H p ys ∧ ∀ l, H l = none → Q (.ref l) (upd H l (.tup ys))) ∨ (SqT X.K H p ys ∧ Q (.ref p) H))) rTuple_ := by
  intro al M H xs ds Q QV w r h p
  unfold rTuple_ at h
  split at h
  · rename_i d
    obtain ⟨v, rfl, rv⟩ := r.one
    split at h
    · rename_i ys e
      by_cases ht : ∃ zs, d = .tup zs
      · obtain ⟨zs, rfl⟩ := ht
        cases e
        obtain ⟨a, us, rfl, h1, h2⟩ := rv
        exact ⟨a, us, rfl, .inr ⟨h1.sq, p _ (.tup ys) _ _ _ (Stp.refl ..) w ⟨a, us, rfl, h1, h2⟩ h⟩⟩
      · have hL : ∃ a zs, v = .ref a ∧ SqL X.K H a zs ∧ Rps X.K al M H ys zs := by
          cases d with
          | tup zs => exact absurd ⟨zs, rfl⟩ ht
          | lst zs => cases e; obtain ⟨a, us, rfl, h1, _, h2⟩ := rv; exact ⟨a, us, rfl, SqL.of h1, h2⟩
          | rol zs => cases e; obtain ⟨a, us, rfl, h1, h2⟩ := rv; exact ⟨a, us, rfl, h1.sq, h2⟩
          | mt i => obtain ⟨a, us, rfl, _, _, h1, h2⟩ := memL_ok w e rv; exact ⟨a, us, rfl, SqL.of h1, h2⟩
          | _ => cases e
        obtain ⟨a, zs, rfl, hq, rz⟩ := hL
        exact ⟨a, zs, rfl, .inl ⟨hq, fun l hl => p _ _ _ _ _ (stp_new w hl _) (wf_new w hl _) (rp_tup w hl rz) h⟩⟩
    · exact h.elim
  · exact h.elim
theorem ref_int1 : RefC K Tb (fun xs H Q => ((∃ i, xs = [.int i] ∧ Q (.int i) H) ∨ ∃ k, xs = [.bl k] ∧ Q (.int (if k then 1 else 0)) H) ∨ ∃ a n, xs = [.str a] ∧ PySem.intText? a = some n ∧ a.length ≤ 640 ∧ Q (.int n) H) rInt_ := by
  intro al M H xs ds Q QV w r h p
  unfold rInt_ at h
  split at h
  · rename_i i
    obtain ⟨v, rfl, rfl⟩ := r.one
    exact .inl (.inl ⟨i, rfl, p _ (.int i) _ _ _ (Stp.refl ..) w rfl h⟩)
  · rename_i k
    obtain ⟨v, rfl, rfl⟩ := r.one
    exact .inl (.inr ⟨k, rfl, p _ (.int _) _ _ _ (Stp.refl ..) w rfl h⟩)
  · rename_i a
    obtain ⟨v, rfl, rfl⟩ := r.one
    split at h
    · rename_i n e
      exact .inr ⟨a, n, rfl, e, h.1, p _ (.int n) _ _ _ (Stp.refl ..) w rfl h.2⟩
    · exact h.elim
  · exact h.elim
theorem ref_str : RefC K Tb (fun xs H Q => ∃ i, xs = [.int i] ∧ i.natAbs.log2 < 1920 ∧ Q (.str (toString i)) H) rStr_ := by
  intro al M H xs ds Q QV w r h p
  unfold rStr_ at h
  split at h
  · rename_i i
    obtain ⟨v, rfl, rfl⟩ := r.one
    exact ⟨i, rfl, h.1, p _ (.str _) _ _ _ (Stp.refl ..) w rfl h.2⟩
  · exact h.elim
theorem ref_all {X : Cx} : RefC X.K Tb (L2.rAll X.K) rAll_ := by
  intro al M H xs ds Q QV w r h p
  unfold rAll_ at h
  split at h
  · obtain ⟨v, rfl, rv⟩ := r.one
    split at h
    · rename_i ys e
      split at h
      · rename_i bs e2
        obtain ⟨a, zs, rfl, h1, h2⟩ := asL_ok w e rv
        have := bls_ok e2 h2
        subst this
        exact ⟨a, bs, rfl, SqL.of h1, p _ (.bl _) _ _ _ (Stp.refl ..) w rfl h⟩
      · exact h.elim
    · exact h.elim
  · exact h.elim
theorem ref_any {X : Cx} : RefC X.K Tb (L2.rAny X.K) rAny_ := by
  intro al M H xs ds Q QV w r h p
  unfold rAny_ at h
  split at h
  · obtain ⟨v, rfl, rv⟩ := r.one
    split at h
    · rename_i ys e
      split at h
      · rename_i bs e2
        obtain ⟨a, zs, rfl, h1, h2⟩ := asL_ok w e rv
        have := bls_ok e2 h2
        subst this
        exact ⟨a, bs, rfl, SqL.of h1, p _ (.bl _) _ _ _ (Stp.refl ..) w rfl h⟩
      · exact h.elim
    · exact h.elim
  · exact h.elim
end
/-! ### isinstance -/
def tyM : Option (Option MO) → Option String
  | some (some (.lst _)) => some "list"
  | some (some (.dK _)) => some "dict"
  | _ => none
/-- the type of a value -/
def tyN (M : Mem) : D → Option String
  | .non => some "NoneType"
  | .bl _ => some "bool"
  | .int _ => some "int"
  | .str _ => some "str"
  | .tup _ => some "tuple"
  | .lst _ => some "list"
  | .rol _ => some "list"
  | .mt i => tyM M[i]?
  | _ => none
theorem tyN_ok {K : PySem.W.Frag} {Tb : List (Addr × Str)} {al : Al} {M : Mem} {H : Hp} (w : Wf K Tb al H M) {d : D} {v : V} {n : String} (e : tyN M d = some n) (r : Rp K al M H d v) : TyX K H v (.type n) := by
  cases d with
  | non => cases e; cases (show _ = _ from r); exact .base .non
  | bl b => cases e; cases (show _ = _ from r); exact .base (.bl b)
  | int i => cases e; cases (show _ = _ from r); exact .base (.int i)
  | str x => cases e; cases (show _ = _ from r); exact .base (.str x)
  | tup xs =>
    cases e
    obtain ⟨a, ys, rfl, h, _⟩ := r
    rcases h with ⟨h, _⟩ | (h | ⟨o, h⟩) | ⟨o, its, n, h1, h2, _⟩
    · exact .base (.tup h)
    · cases h
    · cases h
    · exact .kTuple h1 h2
  | lst xs =>
    cases e
    obtain ⟨a, ys, rfl, h, _⟩ := r
    exact .base (.lst h)
  | rol xs =>
    cases e
    obtain ⟨a, ys, rfl, h, _⟩ := r
    rcases h with ⟨h | ⟨o, h⟩, _⟩ | (h | ⟨o, h⟩) | ⟨o, its, n, h1, h2, _⟩
    · exact .base (.lst h)
    · exact .base (.frz h)
    · cases h
    · cases h
    · exact .kList h1 h2
  | mt i =>
    obtain ⟨a, ea, rfl⟩ := r
    have e : tyM M[i]? = some n := e
    unfold tyM at e
    split at e
    · rename_i xs em
      cases e
      obtain ⟨ys, h, _⟩ := w.rep i a _ ea em
      exact .base (.lst h)
    · rename_i xs em
      cases e
      obtain ⟨ys, h, _⟩ := w.rep i a _ ea em
      exact .base (.dK h)
    · cases e
  | _ => cases e
def tyTab : List String := ["NoneType", "bool", "int", "str", "tuple", "list", "dict"]
def isTab (t u : String) : Bool := t == u || (t == "bool" && u == "int")
theorem kit_tab : (tyTab.all fun t => ["bool", "int", "str", "tuple", "list", "dict"].all fun u => kitB t u == some (isTab t u)) = true := by decide +kernel
theorem tyN_tab {M : Mem} {d : D} {n : String} (e : tyN M d = some n) : n ∈ tyTab := by
  cases d with
  | mt i =>
    have e : tyM M[i]? = some n := e
    unfold tyM at e
    split at e <;> first | (cases e; decide) | cases e
  | _ => first | (cases e; decide) | cases e
def clTab : List String := ["bool", "int", "str", "tuple", "list", "dict"]
theorem kit_at {K : PySem.W.Frag} {t u : String} (ht : t ∈ tyTab) (hu : clTab.contains u = true) : PySem.W.kitOne K (.type t) (.type u) = some (isTab t u) := by
  have h := List.all_eq_true.mp (List.all_eq_true.mp kit_tab t ht) u (List.contains_iff_mem.mp hu)
  exact kit_ty (by simpa using h)
def tyNames : List D → Option (List String)
  | [] => some []
  | .ty n :: r => (tyNames r).map (n :: ·)
  | _ => none
def rIsi_ : RDC := fun ds M Q => match ds with
  | [x, .ty u] => (match tyN M x with
    | some t => clTab.contains u = true ∧ Q (.bl (isTab t u)) M
    | none => False)
  | [x, .tup cs] => (match tyN M x, tyNames cs with
    | some t, some us => us.all clTab.contains = true ∧ Q (.bl (us.any (isTab t))) M
    | _, _ => False)
  | _ => False
theorem tyNames_ok {K : PySem.W.Frag} {al : Al} {M : Mem} {H : Hp} : ∀ {ds : List D} {us : List String} {xs : List V}, tyNames ds = some us → Rps K al M H ds xs → xs = us.map V.ty
  | [], _, _, e, r => by cases e; exact r
  | .ty b :: ds, _, _, e, r => by
    obtain ⟨x, ys, rfl, rx, ry⟩ := r
    unfold tyNames at e
    cases q : tyNames ds with
    | none => rw [q] at e; cases e
    | some bs' =>
      rw [q] at e; cases e
      cases (show x = .ty b from rx)
      rw [tyNames_ok q ry]; rfl
  | .non :: _, _, _, e, _ => by cases e
  | .int _ :: _, _, _, e, _ => by cases e
  | .str _ :: _, _, _, e, _ => by cases e
  | .bl _ :: _, _, _, e, _ => by cases e
  | .tup _ :: _, _, _, e, _ => by cases e
  | .lst _ :: _, _, _, e, _ => by cases e
  | .rol _ :: _, _, _, e, _ => by cases e
  | .obj _ _ _ :: _, _, _, e, _ => by cases e
  | .exc _ _ _ :: _, _, _, e, _ => by cases e
  | .dk _ _ :: _, _, _, e, _ => by cases e
  | .dt _ _ :: _, _, _, e, _ => by cases e
  | .ref _ :: _, _, _, e, _ => by cases e
  | .mt _ :: _, _, _, e, _ => by cases e
theorem clsV_all : ∀ us : List String, Paired ClsV (us.map V.ty) (us.map Value.type)
  | [] => .nil
  | u :: us => .cons (.ty u) (clsV_all us)
theorem kitAny_tab {K : PySem.W.Frag} {t : String} (ht : t ∈ tyTab) : ∀ us : List String, us.all clTab.contains = true → PySem.W.kitAny K (.type t) (us.map Value.type) = some (us.any (isTab t))
  | [], _ => kitAny_nil
  | u :: us, h => by
    simp only [List.all_cons, Bool.and_eq_true] at h
    refine kitAny_cons (kit_at ht h.1) (fun e => ?_) fun e => ?_
    · rw [kitAny_tab ht us h.2]
      simp [e]
    · simp [e]
theorem ref_isi {X : Cx} {Tb : List (Addr × Str)} : RefC X.K Tb (fun xs H Q => L2.rIsi X.K xs H Q ∨ L2.rIsiT X.K xs H Q ∨ L2.rIsiK X.K xs H Q) rIsi_ := by
  intro al M H xs ds Q QV w r h p
  unfold rIsi_ at h
  split at h
  · rename_i x u
    obtain ⟨v, v', rfl, rv, rfl⟩ := r.two
    split at h
    · rename_i t e
      exact .inl ⟨v, .ty u, .type t, .type u, isTab t u, rfl, .ty u, tyN_ok w e rv, kit_at (tyN_tab e) h.1, p _ (.bl _) _ _ _ (Stp.refl ..) w rfl h.2⟩
    · exact h.elim
  · rename_i x cs
    obtain ⟨v, v', rfl, rv, rt⟩ := r.two
    split at h
    · rename_i t us e1 e2
      obtain ⟨a, ys, rfl, hq, ry⟩ := rt
      have ey := tyNames_ok e2 ry
      subst ey
      have K1 := kitAny_tab (K := X.K) (tyN_tab e1) us h.1
      rcases hq with ⟨hq, _⟩ | (hq | ⟨o, hq⟩) | ⟨o, its, n, h1, h2, h3, h4, h5⟩
      · exact .inr (.inl ⟨v, a, us.map V.ty, .type t, us.map Value.type, _, rfl, hq, clsV_all us, tyN_ok w e1 rv, K1, p _ (.bl _) _ _ _ (Stp.refl ..) w rfl h.2⟩)
      · cases hq
      · cases hq
      · have ei := ClsV.all (clsV_all us) h5
        obtain ⟨oc, od, dt, sl⟩ := o
        simp only at h2 h3
        subst h2 h3
        have ej : its = (us.map Value.type).toArray := by rw [← ei]
        subst ej
        exact .inr (.inr ⟨v, a, od, us.map Value.type, n, sl, .type t, _, rfl, h1, tyN_ok w e1 rv, K1, p _ (.bl _) _ _ _ (Stp.refl ..) w rfl h.2⟩)
    · exact h.elim
  · exact h.elim
/-! ### in -/
def vOf : D → Option V
  | .non => some .non
  | .bl b => some (.bl b)
  | .int i => some (.int i)
  | .str z => some (.str z)
  | _ => none
def vsOf : List D → Option (List V)
  | [] => some []
  | d :: r => match vOf d, vsOf r with
    | some v, some vs => some (v :: vs)
    | _, _ => none
theorem vOf_ok {K : PySem.W.Frag} {al : Al} {M : Mem} {H : Hp} {d : D} {v u : V} (e : vOf d = some u) (r : Rp K al M H d v) : v = u ∧ L2.flatV u = true := by
  cases d <;> first | (cases e; exact ⟨r, rfl⟩) | cases e
theorem vsOf_ok {K : PySem.W.Frag} {al : Al} {M : Mem} {H : Hp} : ∀ {ds : List D} {vs us : List V}, vsOf ds = some us → Rps K al M H ds vs → vs = us ∧ us.all L2.flatV = true
  | [], _, _, e, r => by cases e; exact ⟨r, rfl⟩
  | d :: ds, _, _, e, r => by
    obtain ⟨x, ys, rfl, rx, ry⟩ := r
    unfold vsOf at e
    split at e
    · rename_i v vs h1 h2
      cases e
      obtain ⟨rfl, f1⟩ := vOf_ok h1 rx
      obtain ⟨rfl, f2⟩ := vsOf_ok h2 ry
      exact ⟨rfl, by simp [f1, f2]⟩
    · cases e
def rInX (neg : Bool) : RD2 := fun x y M Q => match x, y with
  | .str c, .str z => (match c.cps.toList with
    | [k] => Q (.bl (if neg then !decide (k ∈ z.cps.toList) else decide (k ∈ z.cps.toList))) M
    | _ => False)
  | x, y => (match seqD M y with
    | some ds => (match vOf x, vsOf ds with
      | some v, some vs => Q (.bl (if neg then !L2.inV v vs else L2.inV v vs)) M
      | _, _ => False)
    | none => False)
abbrev rIn_ : RD2 := rInX false
abbrev rNotIn_ : RD2 := rInX true
section
variable {X : Cx} {Tb : List (Addr × Str)} {EV : XK} {a b c : Expr} {ta tb tc : TED} {pos : Pos}
theorem str_one {c : Str} {k : Nat} (h : c.cps.toList = [k]) : c = ⟨#[k]⟩ := by
  obtain ⟨⟨l⟩⟩ := c
  have : l = [k] := h
  subst this
  rfl
theorem ref_inX {neg : Bool} : RefOp X.K Tb (fun x y H Q => (∃ (c : Nat) (z : Str), x = .str ⟨#[c]⟩ ∧ y = .str z ∧ Q (.bl (if neg then !decide (c ∈ z.cps.toList) else decide (c ∈ z.cps.toList))) H) ∨ L2.rIn X.K neg x y H Q) (rInX neg) := by
  intro al M H x y dx dy Q QV w rx ry h p
  unfold rInX at h
  split at h
  · rename_i c z
    split at h
    · rename_i k e
      rw [str_one e] at rx
      exact .inl ⟨k, z, rx, ry, p _ (.bl _) _ _ _ (Stp.refl ..) w rfl (by simpa using h)⟩
    · exact h.elim
  · split at h
    · rename_i ds e
      split at h
      · rename_i v vs h1 h2
        obtain ⟨a, xs, rfl, hq, r⟩ := seqD_ok w e ry
        obtain ⟨rfl, f1⟩ := vOf_ok h1 rx
        obtain ⟨rfl, f2⟩ := vsOf_ok h2 r
        exact .inr ⟨a, _, rfl, hq, f1, f2, p _ (.bl _) _ _ _ (Stp.refl ..) w rfl h⟩
      · exact h.elim
    · exact h.elim
theorem dv_in (ha : PD X Tb EV a ta) (hb : PD X Tb EV b tb) (hm : behindInMarks .In b = false := by rfl) : PD X Tb EV (.Compare a [.In] [b] pos) (dOp rIn_ ta tb) := dv_cmp (op_in_sign.or op_in_seq) (ref_inX (neg := false)) ha hb hm
theorem dt_in (ha : PD X Tb EV a ta) (hb : PD X Tb EV b tb) (hm : behindInMarks .In b = false := by rfl) : PDT X Tb EV (.Compare a [.In] [b] pos) (dB (dOp rIn_ ta tb)) := dt_cmp (op_in_sign.or op_in_seq) (ref_inX (neg := false)) ha hb hm
theorem dt_notin (ha : PD X Tb EV a ta) (hb : PD X Tb EV b tb) (hm : behindInMarks .NotIn b = false := by rfl) : PDT X Tb EV (.Compare a [.NotIn] [b] pos) (dB (dOp rNotIn_ ta tb)) := dt_cmp (op_notIn_sign.or op_notIn_seq) (ref_inX (neg := true)) ha hb hm
end
/-! ### methods of built-in types -/
def strsD : List D → Option (List Str)
  | [] => some []
  | .str z :: r => (strsD r).map (z :: ·)
  | _ => none
theorem strsD_ok {K : PySem.W.Frag} {al : Al} {M : Mem} {H : Hp} : ∀ {ds : List D} {us : List Str} {xs : List V}, strsD ds = some us → Rps K al M H ds xs → xs = us.map V.str
  | [], _, _, e, r => by cases e; exact r
  | .str b :: ds, _, _, e, r => by
    obtain ⟨x, ys, rfl, rx, ry⟩ := r
    unfold strsD at e
    cases q : strsD ds with
    | none => rw [q] at e; cases e
    | some bs' =>
      rw [q] at e; cases e
      cases (show x = .str b from rx)
      rw [strsD_ok q ry]; rfl
  | .non :: _, _, _, e, _ => by cases e
  | .int _ :: _, _, _, e, _ => by cases e
  | .ty _ :: _, _, _, e, _ => by cases e
  | .bl _ :: _, _, _, e, _ => by cases e
  | .tup _ :: _, _, _, e, _ => by cases e
  | .lst _ :: _, _, _, e, _ => by cases e
  | .rol _ :: _, _, _, e, _ => by cases e
  | .obj _ _ _ :: _, _, _, e, _ => by cases e
  | .exc _ _ _ :: _, _, _, e, _ => by cases e
  | .dk _ _ :: _, _, _, e, _ => by cases e
  | .dt _ _ :: _, _, _, e, _ => by cases e
  | .ref _ :: _, _, _, e, _ => by cases e
  | .mt _ :: _, _, _, e, _ => by cases e
def tyB (T : String) (M : Mem) : D → Bool
  | .str _ => T == "str"
  | .int _ => T == "int"
  | .lst _ => T == "list"
  | .rol _ => T == "list"
  | .mt i => tyM M[i]? == some T
  | _ => false
abbrev RDM := D → List D → Mem → VD → Prop
def RefM (K : PySem.W.Frag) (Tb : List (Addr × Str)) (r : V → List V → Hp → VK → Prop) (rD : RDM) : Prop :=
  ∀ al M H x xs d ds Q QV, Wf K Tb al H M → Rp K al M H d x → Rps K al M H ds xs → rD d ds M Q → PostV K Tb al M H Q QV → r x xs H QV
abbrev dBM (T : String) (rD : RDM) (to : TED) (t : TAD) : TED := fun E rho M Q => to E rho M fun x M1 => tyB T M1 x = true ∧ t E rho M1 fun ds M2 => rD x ds M2 Q
abbrev dBM0 (T : String) (rD : RDM) (to : TED) : TED := fun E rho M Q => to E rho M fun x M1 => tyB T M1 x = true ∧ rD x [] M1 Q
theorem tyB_ok {K : PySem.W.Frag} {Tb : List (Addr × Str)} {al : Al} {M : Mem} {H : Hp} (w : Wf K Tb al H M) {T : String} {d : D} {v : V} (h : tyB T M d = true) (r : Rp K al M H d v) : tyV K T v H := by
  cases d with
  | str z => cases (show _ = _ from r); exact eq_of_beq h
  | int z => cases (show _ = _ from r); exact eq_of_beq h
  | lst xs => obtain ⟨a, ys, rfl, h1, _⟩ := r; exact .inl ⟨eq_of_beq h, ys, SqL.of h1⟩
  | rol xs => obtain ⟨a, ys, rfl, h1, _⟩ := r; exact .inl ⟨eq_of_beq h, ys, h1.sq⟩
  | mt i =>
    obtain ⟨a, ea, rfl⟩ := r
    have e : tyM M[i]? = some T := eq_of_beq h
    unfold tyM at e
    split at e
    · rename_i xs em
      cases e
      obtain ⟨ys, h, _⟩ := w.rep i a _ ea em
      exact .inl ⟨rfl, ys, SqL.of h⟩
    · rename_i xs em
      cases e
      obtain ⟨ys, h, _⟩ := w.rep i a _ ea em
      exact .inr (.inr (.inl ⟨rfl, .inl ⟨ys, h⟩⟩))
    · cases e
  | _ => cases h
section
variable {X : Cx} {Tb : List (Addr × Str)} {EV : XK} {o e : Expr} {es : List Expr} {to : TED} {t : TAD} {name : Str} {apos cpos : Pos} {T id : String} {r : V → List V → Hp → VK → Prop} {rD : RDM}
theorem dv_bm (pa : PlainAttrs T) (slot : Slot T name id) (hty : typeOf (.builtin id) = pure (.type "method_descriptor")) (hm : MtR X id r) (hr : RefM X.K Tb r rD) (ho : PD X Tb EV o to) (ha : PDA X Tb EV (e :: es) t)
    (hbase : attributeBase o name X.env (eval o X.env) = eval o X.env := by rfl)
    (hfew : ((backTo cpos (starEach (e :: es) X.env)).all (fun x => !x.1) && (backToKw cpos (keywordEach [] X.env)).all (fun x => x.1.isSome)
      && decide ((e :: es).length + ([] : List Keyword).length + (if ([] : List Keyword).isEmpty then 0 else 1) < 30)) = true := by rfl)
    (hline : (apos.endLine == cpos.line) = true := by rfl) (hs : starEach (e :: es) X.env = (false, eval e X.env) :: starEach es X.env := by rfl) (hplain : (backTo cpos (starEach es X.env)).any (·.1) = false := by rfl) :
    PD X Tb EV (.Call (.Attribute o name apos) (e :: es) [] cpos) (dBM T rD to t) := pe_imp (pe_bm pa slot hty hm ho ha hbase hfew hline hs hplain) fun σ H QV h => by
  obtain ⟨al, rho, M, E, Q, a, t, p⟩ := h
  refine seq1 a t fun al1 x M1 vx H1 s1 a1 r1 q1 => ⟨tyB_ok a1.wf q1.1 r1, seqA a1 q1.2 fun al2 ds M2 vs H2 s2 a2 r2 q2 => ?_⟩
  exact hr _ _ _ _ _ _ _ _ _ a2.wf (r1.mono s2) r2 q2 (p.mono (s1.trans s2))
theorem dv_bm0 (pa : PlainAttrs T) (slot : Slot T name id) (hty : typeOf (.builtin id) = pure (.type "method_descriptor")) (hm : MtR X id r) (hr : RefM X.K Tb r rD) (ho : PD X Tb EV o to)
    (hbase : attributeBase o name X.env (eval o X.env) = eval o X.env := by rfl) (hline : (apos.endLine == cpos.line) = true := by rfl) :
    PD X Tb EV (.Call (.Attribute o name apos) [] [] cpos) (dBM0 T rD to) := pe_imp (pe_bm0 pa slot hty hm ho hbase hline) fun σ H QV h => by
  obtain ⟨al, rho, M, E, Q, a, t, p⟩ := h
  exact seq1 a t fun al1 x M1 vx H1 s1 a1 r1 q1 => ⟨tyB_ok a1.wf q1.1 r1, hr _ _ _ _ _ _ _ _ _ a1.wf r1 Rps.nil q1.2 (p.mono s1)⟩
end
/-- sep.join(xs) -/
def rJoin_ : RDM := fun x ds M Q => match x, ds with
  | .str a, [y] => (match seqD M y with
    | some ds => (match strsD ds with
      | some ys => (ys.map (·.length)).sum + ys.length * a.length ≤ 16777216 ∧ Q (.str (Txt.join a ys)) M
      | none => False)
    | none => False)
  | _, _ => False
/-- xs.append(e) -/
def rApp_ : RDM := fun x ds M Q => match x, ds with
  | .mt i, [y] => (match memL M i with
    | some xs => xs.length < sizeLine ∧ Q .non (M.set i (some (.lst (xs ++ [y]))))
    | none => False)
  | _, _ => False
def rExt_ : RDM := fun x ds M Q => match x, ds with
  | .mt i, [y] => (match memL M i, asL M y with
    | some xs, some ys => xs.length + ys.length ≤ sizeLine ∧ Q .non (M.set i (some (.lst (xs ++ ys))))
    | _, _ => False)
  | _, _ => False
section
variable {X : Cx} {Tb : List (Addr × Str)} {EV : XK} {o e : Expr} {to te : TED} {t : TAD} {pos apos : Pos}
theorem ref_join : RefM X.K Tb (fun x xs H Q => ∃ a p, ∃ ys : List Str, x = .str a ∧ xs = [.ref p] ∧ (SqL X.K H p (ys.map V.str) ∨ SqT X.K H p (ys.map V.str)) ∧ (ys.map (·.length)).sum + ys.length * a.length ≤ 16777216 ∧ Q (.str (Txt.join a ys)) H) rJoin_ := by
  intro al M H x xs d ds Q QV w rx rs h p
  unfold rJoin_ at h
  split at h
  · rename_i a y
    obtain ⟨v, rfl, rv⟩ := rs.one
    split at h
    · rename_i zs e1
      split at h
      · rename_i ys e2
        obtain ⟨b, us, rfl, hq, ru⟩ := seqD_ok w e1 rv
        have := strsD_ok e2 ru
        subst this
        exact ⟨a, b, ys, rx, rfl, hq, h.1, p _ (.str _) _ _ _ (Stp.refl ..) w rfl h.2⟩
      · exact h.elim
    · exact h.elim
  · exact h.elim
theorem ref_app : RefM X.K Tb rAppend rApp_ := by
  intro al M H x xs d ds Q QV w rx rs h p
  unfold rApp_ at h
  split at h
  · rename_i i y
    obtain ⟨v, rfl, rv⟩ := rs.one
    split at h
    · rename_i zs e1
      obtain ⟨b, us, rfl, hb, hm, hH, ru⟩ := memL_ok w e1 rx
      obtain ⟨g1, g2⟩ := set_lst w hb hm hH (ru.append (show Rps X.K al M H [y] [v] from ⟨v, [], rfl, rv, rfl⟩))
      exact ⟨b, us, v, rfl, rfl, hH, by rw [← ru.length]; exact h.1, p _ .non _ _ _ g1 g2 rfl h.2⟩
    · exact h.elim
  · exact h.elim
theorem ref_ext : RefM X.K Tb rExtend rExt_ := by
  intro al M H x xs d ds Q QV w rx rs h p
  unfold rExt_ at h
  split at h
  · rename_i i y
    obtain ⟨v, rfl, rv⟩ := rs.one
    split at h
    · rename_i zs ys e1 e2
      obtain ⟨b, us, rfl, hb, hm, hH, ru⟩ := memL_ok w e1 rx
      obtain ⟨c, ws, rfl, hc, rw'⟩ := asL_ok w e2 rv
      obtain ⟨g1, g2⟩ := set_lst w hb hm hH (ru.append rw')
      exact ⟨b, c, us, ws, rfl, rfl, hH, hc, by rw [← ru.length, ← rw'.length]; exact h.1, p _ .non _ _ _ g1 g2 rfl h.2⟩
    · exact h.elim
  · exact h.elim
end
end DL

namespace DL
open PySem PySem.Spec PyProof.Rows L2

/-! ### how arguments come to parameters -/
def pick {α : Type} (is : List Nat) (xs : List α) : List α := is.filterMap (xs[·]?)
theorem pick_cons {α : Type} (i : Nat) (is : List Nat) (xs : List α) : pick (i :: is) xs = match xs[i]? with
  | some x => x :: pick is xs
  | none => pick is xs := by
  unfold pick
  rw [List.filterMap_cons]
  cases xs[i]? <;> rfl
theorem pick_vals {vs : List V} {us : List Value} (r : Vals vs us) : ∀ is : List Nat, Vals (pick is vs) (pick is us)
  | [] => .nil
  | i :: is => by
    rw [pick_cons, pick_cons]
    cases e : vs[i]? with
    | none => rw [r.none_of e]; exact pick_vals r is
    | some v =>
      obtain ⟨u, e2, rv⟩ := r.get e
      rw [e2]
      exact .cons rv (pick_vals r is)
theorem pick_rps {K : PySem.W.Frag} {al : Al} {M : Mem} {H : Hp} {ds : List D} {vs : List V} (r : Rps K al M H ds vs) : ∀ is : List Nat, Rps K al M H (pick is ds) (pick is vs)
  | [] => rfl
  | i :: is => by
    rw [pick_cons, pick_cons]
    cases e : ds[i]? with
    | none =>
      have : vs[i]? = none := by
        rw [List.getElem?_eq_none_iff] at e ⊢
        rw [← r.length]; exact e
      rw [this]; exact pick_rps r is
    | some d =>
      obtain ⟨v, e2, rv⟩ := r.get e
      rw [e2]
      exact ⟨v, _, rfl, rv, pick_rps r is⟩
/-- constants that stand as defaults -/
def CsD (K : PySem.W.Frag) (ds : List D) (vs : List V) : Prop := ∀ al M H, Rps K al M H ds vs
theorem CsD.nil {K : PySem.W.Frag} : CsD K [] [] := fun _ _ _ => rfl
/-- n positional values, keywords ks, defaults dvs; is: where each parameter's value is found in (positional, defaults, keywords) -/
def KBp (K : PySem.W.Frag) (fd : FuncData) (ps : List Str) (n : Nat) (ks : List Str) (is : List Nat) (dvs : List V) : Prop :=
  ∃ dfl : List Value, Vals dvs dfl ∧ ∀ (s : Shared) (us ws : List Value), K.In s.heap → us.length = n → ws.length = ks.length → BindsTo s fd ⟨us, ks.zip ws⟩ (ps.zip (pick is (us ++ dfl ++ ws)))
theorem KBp.kbn {K : PySem.W.Frag} {fd : FuncData} {ps : List Str} {n : Nat} {ks : List Str} {is : List Nat} {dvs : List V} (h : KBp K fd ps n ks is dvs) : ∃ g, KBn K fd ps n ks g (fun vs zs => pick is (vs ++ dvs ++ zs)) := by
  obtain ⟨dfl, hd, h⟩ := h
  exact ⟨fun us ws => pick is (us ++ dfl ++ ws), h, fun r1 r2 => pick_vals ((r1.append hd).append r2) is⟩
section
variable {K : PySem.W.Frag} {x qual : Str} {params : Arguments} {body : List Stmt} {scope : Scope} {dvs : List V} {kws : List (Str × V)} {f : Addr} {fd : FuncData} {ps : List Str}
/-- no defaults are used -/
theorem kbp_plain (F : FunD K x qual params body scope [] kws f fd) (n : Nat) (ks : List Str) (is : List Nat)
    (h : ∀ (kV doc pm : Value) (an : Option Addr) (cdv ct : Value) (us ws : List Value), us.length = n → ws.length = ks.length → bindArgs (PySem.W.fnOf x qual params body scope .none kV doc pm an cdv ct) ⟨us, ks.zip ws⟩ = pure (ps.zip (pick is (us ++ [] ++ ws)))) : KBp K fd ps n ks is [] := by
  obtain ⟨oc, od, dV, kV, doc, pm, an, cdv, ct, osl, rfl, lk, hcd, hD, hK⟩ := F.ex
  rcases hD with ⟨_, rfl⟩ | ⟨e, _⟩
  · exact ⟨[], .nil, fun s us ws _ l1 l2 => .of_eq (h kV doc pm an cdv ct us ws l1 l2)⟩
  · exact absurd rfl e
/-- positional defaults, all of them looked at -/
theorem kbp_dfl (F : FunD K x qual params body scope dvs kws f fd) (hd : dvs ≠ []) (n : Nat) (ks : List Str) (is : List Nat)
    (h : ∀ (T : Addr) (kV doc pm : Value) (an : Option Addr) (cdv ct : Value) (us its ws : List Value), us.length = n → its.length = dvs.length → ws.length = ks.length →
      ∃ k, bindArgs (PySem.W.fnOf x qual params body scope (.ref T) kV doc pm an cdv ct) ⟨us, ks.zip ws⟩ = seqItems? (.ref T) >>= k ∧ k (some its.toArray) = pure (ps.zip (pick is (us ++ its ++ ws)))) : KBp K fd ps n ks is dvs := by
  obtain ⟨oc, od, dV, kV, doc, pm, an, cdv, ct, osl, rfl, lk, hcd, hD, hK⟩ := F.ex
  rcases hD with ⟨e, _⟩ | ⟨_, T, o, its, m, rfl, lT, oT, rT⟩
  · exact absurd e hd
  · refine ⟨its, rT, fun s us ws X l1 l2 => ?_⟩
    obtain ⟨k, e1, e2⟩ := h T kV doc pm an cdv ct us its ws l1 rT.length.symm l2
    refine BindsTo.of_looks fun M => ?_
    rw [e1]
    exact looks_items X lT oT (.of_pure e2)
/-- keyword-only defaults ms -/
theorem kbp_kw (F : FunD K x qual params body scope [] kws f fd) (n : Nat) (ks : List Str) (ms : List (Str × V)) (is : List Nat) (hk : kws ≠ []) (hms : ∀ q ∈ ms, q ∈ kws)
    (h : ∀ (D : Addr) (doc pm : Value) (an : Option Addr) (cdv ct : Value) (us mv ws : List Value), us.length = n → mv.length = ms.length → ws.length = ks.length →
      KwChain D ((ms.map (·.1)).zip mv) (bindArgs (PySem.W.fnOf x qual params body scope .none (.ref D) doc pm an cdv ct) ⟨us, ks.zip ws⟩) (ps.zip (pick is (us ++ mv ++ ws)))) : KBp K fd ps n ks is (ms.map (·.2)) := by
  obtain ⟨oc, od, dV, kV, doc, pm, an, cdv, ct, osl, rfl, lk, hcd, hD, hK⟩ := F.ex
  rcases hD with ⟨_, rfl⟩ | ⟨e, _⟩
  · rcases hK with e | ⟨D, rfl, hq⟩
    · exact absurd e hk
    · obtain ⟨mv, hl, rk, hks⟩ := kwd_vals (ms := ms) fun q hm => hq q (hms q hm)
      exact ⟨mv, rk, fun s us ws X l1 l2 => BindsTo.of_looks fun M => KwChain.looks X hks (h D doc pm an cdv ct us mv ws l1 hl l2)⟩
  · exact absurd rfl e
end
/-! ### calls with keywords and defaults -/
def liftK := liftA
abbrev PDK (X : Cx) (Tb : List (Addr × Str)) (EV : XK) (kws : List Keyword) (t : TAD) : Prop := PK X kws (liftA X.K Tb EV t)
/-- the values, then the keywords' values; dds the defaults -/
abbrev dCallK (n m : Nat) (is : List Nat) (dds : List D) (dsp : DSp) (t tk : TAD) : TED := fun E rho M Q => t E rho M fun ds M1 => tk E rho M1 fun es M2 => ds.length = n ∧ es.length = m ∧ dsp (pick is (ds ++ dds ++ es)) M2 Q E
section
variable {X : Cx} {Tb : List (Addr × Str)} {EV : XK} {k n : Nat} {f : Addr} {fd : FuncData} {ps ks : List Str} {dsp : DSp} {x : Str} {p pos kpos : Pos} {e : Expr} {es : List Expr} {t tk : TAD} {te : TED} {kws : List Keyword} {nm : Option Str} {is : List Nat} {dvs : List V} {dds : List D}
theorem dk_nil : PDK X Tb EV [] dNil := ⟨fun pos pins s σ H Q I h => pk_nil.run pos pins s σ H Q I (by
  obtain ⟨al, rho, M, E, Q', a, t, p⟩ := h
  exact p _ [] _ _ _ (Stp.refl ..) a.wf rfl t)⟩
theorem dk_cons (ha : PD X Tb EV e te) (hr : PDK X Tb EV kws t) : PDK X Tb EV (⟨nm, e, kpos⟩ :: kws) (dCons te t) := ⟨fun pos pins s σ H Q I h => (pk_cons ha hr).run pos pins s σ H Q I (by
  obtain ⟨al, rho, M, E, Q', a, t, p⟩ := h
  refine seq1 a t fun al1 x M1 vx H1 s1 a1 r1 q1 => seqA a1 q1 fun al2 xs M2 vs H2 s2 a2 r2 q2 => ?_
  exact p _ (x :: xs) _ _ _ (s1.trans s2) a2.wf ⟨vx, vs, rfl, r1.mono s2, r2⟩ q2)⟩
theorem callK_lift (hc : CsD X.K dds dvs) {σ : L2.St} {H : Hp} {QV : VK} (h : lift X.K Tb EV (dCallK n ks.length is dds dsp t tk) σ H QV) : tCallN n ks.length (liftSp X.K Tb dsp) (fun vs zs => pick is (vs ++ dvs ++ zs)) EV (liftA X.K Tb EV t) (liftA X.K Tb EV tk) σ H QV := by
  obtain ⟨al, rho, M, E, Q, a, t, p⟩ := h
  refine seqA a t fun al1 ds M1 vs H1 s1 a1 r1 q1 => seqA a1 q1 fun al2 es M2 zs H2 s2 a2 r2 q2 => ?_
  have r1' := r1.mono s2
  exact ⟨by rw [← r1.length]; exact q2.1, by rw [← r2.length]; exact q2.2.1, al2, M2, _, Q, E, a2.wf, pick_rps ((r1'.append (hc _ _ _)).append r2) is, q2.2.2, p.mono (s1.trans s2), a2.ex⟩
theorem dv_callK (F : FnD X.prog X.w X.K X.mg X.base Tb k f fd ps dsp) (hr : Room k X.A) (hg : Gl X x) (hm : X.mg x = some (.ref f)) (hk : PySem.W.keepIn X.K (.ref f) = true) (hb : KBp X.K fd ps n ks is dvs) (hc : CsD X.K dds dvs) (hx : Passes (L2.CX X.prog X.w) X EV)
    (ha : PDA X Tb EV (e :: es) t) (hkw : PDK X Tb EV kws tk) (hall : (backToKw pos (keywordEach kws X.env)).all (·.1.isSome) = true := by rfl) (hks : (backToKw pos (keywordEach kws X.env)).filterMap (·.1) = ks := by rfl)
    (hdb : (x == ("__debug__" : Str)) = false := by decide) (he : starEach (e :: es) X.env = (false, eval e X.env) :: starEach es X.env := by rfl)
    (hpl : ((backTo pos (starEach (e :: es) X.env)).any (·.1) || (backToKw pos (keywordEach kws X.env)).any (·.1.isNone)) = false := by rfl) :
    PD X Tb EV (.Call (.Name x p) (e :: es) kws pos) (dCallK n ks.length is dds dsp t tk) := by
  obtain ⟨g, kb⟩ := hb.kbn
  exact pe_imp (pe_callN F.ok hr hg hm hk kb hx ha hkw hall hks hdb he hpl) fun _ _ _ h => callK_lift hc h
theorem dv_callK0 (F : FnD X.prog X.w X.K X.mg X.base Tb k f fd ps dsp) (hr : Room k X.A) (hg : Gl X x) (hm : X.mg x = some (.ref f)) (hk : PySem.W.keepIn X.K (.ref f) = true) (hb : KBp X.K fd ps 0 ks is dvs) (hc : CsD X.K dds dvs) (hx : Passes (L2.CX X.prog X.w) X EV)
    (hkw : PDK X Tb EV kws tk) (hall : (backToKw pos (keywordEach kws X.env)).all (·.1.isSome) = true := by rfl) (hks : (backToKw pos (keywordEach kws X.env)).filterMap (·.1) = ks := by rfl)
    (hdb : (x == ("__debug__" : Str)) = false := by decide)
    (hpl : ((backTo pos (starEach [] X.env)).any (·.1) || (backToKw pos (keywordEach kws X.env)).any (·.1.isNone)) = false := by rfl) :
    PD X Tb EV (.Call (.Name x p) [] kws pos) (dCallK 0 ks.length is dds dsp dNil tk) := by
  obtain ⟨g, kb⟩ := hb.kbn
  refine ⟨fun pins s σ H QV I h => ?_⟩
  obtain ⟨al, rho, M, E, Q, a, t, p⟩ := h
  refine wpAny_Call_Name_kw (ld_glob I hg hm ?_ hdb)
  refine PySem.W.callWith_KW0 (h₀ := X.base) I.ok.mod.kin hk hall ?_ hpl
  refine thn (hkw.run _ pins s σ H (fun zs H2 => zs.length = ks.length ∧ liftSp X.K Tb dsp (pick is ([] ++ dvs ++ zs)) H2 QV EV) I (seqA a t fun al2 es M2 zs H2 s2 a2 r2 q2 => ?_)) fun ws s2 ⟨zs, H2, I2, rz, l2, q2⟩ => ⟨I2.kIn, ?_⟩
  · exact ⟨by rw [← r2.length]; exact q2.2.1, al2, M2, _, Q, E, a2.wf, pick_rps ((Rps.append Rps.nil (hc _ _ _)).append r2) is, q2.2.2, p.mono s2, a2.ex⟩
  · rw [hks]
    exact run_fnN (us := []) (vs := []) F.ok hr kb hx I2 .nil rz rfl l2 q2
end
end DL
namespace DL
open PySem PySem.Spec PyProof.Rows L2
/-- a def that is called: where it stands, what it keeps -/
structure Cal (P : Program) (w : World) (K : PySem.W.Frag) (mg : Str → Option Value) (base : Heap) (Tb : List (Addr × Str)) (x qual : Str) (st : Stmt) (dvs : List V) (kws : List (Str × V)) (k : Nat) (ps : List Str) (dsp : DSp) where
  f : Addr
  fd : FuncData
  F : FunD K x qual (defArgs st) (defBody st) (defScope st) dvs kws f fd
  fn : FnD P w K mg base Tb k f fd ps dsp
  mgx : mg x = some (.ref f)
theorem hxF {P : Program} {w : World} {K : PySem.W.Frag} {mg : Str → Option Value} {base : Heap} {N : List Str} {qual : Str} {scope : Scope} {f : Addr} {cdv : Value} {A : Around} {outer : List Env} {s : Shared} {H : Hp} {EV : XK} :
    Passes (L2.CX P w) (cxOf (L2.CX P w) P w K mg base N qual scope f cdv A outer s H EV) EV := passes_call (takes_of rfl rfl rfl rfl) fun _ _ _ _ h => h
theorem boot_list : bootBuiltins "list" = some (.type "list") := by decide +kernel
theorem boot_tuple : bootBuiltins "tuple" = some (.type "tuple") := by decide +kernel
theorem boot_int : bootBuiltins "int" = some (.type "int") := by decide +kernel
theorem boot_str : bootBuiltins "str" = some (.type "str") := by decide +kernel
theorem boot_bool : bootBuiltins "bool" = some (.type "bool") := by decide +kernel
theorem boot_dict : bootBuiltins "dict" = some (.type "dict") := by decide +kernel
theorem dts_one {X : Cx} {Tb : List (Addr × Str)} {EV : XK} {c : Expr} {t : TTD} (h : PDT X Tb EV c t) : PTs X [c] (liftT X.K Tb EV t) := pts_one h
/-- a loop by its invariant: over the items left -/
theorem for_inv {g : TGD} {tb : TSD} {E : XD} {DD : DEnds} (Pv : List D → Rho → Mem → Prop)
    (hs : ∀ d r rho M (N : Rho → Mem → Prop), Pv (d :: r) rho M → (∀ rho' M', Pv r rho' M' → N rho' M') → g d E rho M fun rho' M' => tb E { DD with nx := N, ct := N, bk := DD.nx } rho' M')
    (hd : ∀ rho M, Pv [] rho M → DD.nx rho M) : ∀ ds rho M, Pv ds rho M → forU g tb ds E DD rho M
  | [], rho, M, h => hd rho M h
  | d :: r, rho, M, h => hs d r rho M _ h fun rho' M' h' => for_inv Pv hs hd r rho' M' h'
/-- a while by an invariant and a measure -/
theorem wh_inv {c : TTD} {tb : TSD} {E : XD} {DD : DEnds} (Pv : Rho → Mem → Prop) (mu : Rho → Mem → Nat)
    (hs : ∀ rho M (N : Rho → Mem → Prop), Pv rho M → (∀ rho' M', Pv rho' M' → mu rho' M' < mu rho M → N rho' M') → c E rho M fun b M1 => if b = true then tb E { DD with nx := N, ct := N, bk := DD.nx } rho M1 else DD.nx rho M1)
    (rho : Rho) (M : Mem) (h : Pv rho M) : dWhile c tb E DD rho M := by
  have key : ∀ n rho M, mu rho M < n → Pv rho M → whU c tb n E DD rho M := by
    intro n
    induction n with
    | zero => intro rho M hl _; omega
    | succ n ih => intro rho M hl h; exact hs rho M _ h fun rho' M' h' hm => ih rho' M' (by omega) h'
  exact ⟨mu rho M + 1, key _ _ _ (Nat.lt_succ_self _) h⟩
/-- a comprehension by an invariant over the items left and what is made -/
theorem lc_inv {g : TGD} {tt : TTD} {te : TED} {vs : List Nat} {rho : Rho} {Q : VD} (Pv : List D → List D → Mem → Prop)
    (hs : ∀ d r acc M (N : List D → Mem → Prop), Pv (d :: r) acc M → (∀ acc' M', Pv r acc' M' → N acc' M') → g d noE (wipeD rho vs) M fun rho' M1 => tt noE rho' M1 fun b M2 => if b = true then te noE rho' M2 (fun y M3 => acc.length < sizeLine ∧ N (acc ++ [y]) M3) else N acc M2)
    (hd : ∀ acc M, Pv [] acc M → Q (.lst acc) M) : ∀ ds acc M, Pv ds acc M → lcU g tt te vs ds acc rho M Q
  | [], acc, M, h => hd acc M h
  | d :: r, acc, M, h => hs d r acc M (fun acc M => lcU g tt te vs r acc rho M Q) h fun acc' M' h' => lc_inv Pv hs hd r acc' M' h'
end DL
namespace DL
open PySem PySem.Spec PyProof.Rows L2
/-- a module's constant -/
def CcD (K : PySem.W.Frag) (mg : Str → Option Value) (x : Str) (d : D) : Prop := ∃ (v : V) (u : Value), mg x = some u ∧ RelV v u ∧ ∀ al M H, Rp K al M H d v
theorem dv_gl {X : Cx} {Tb : List (Addr × Str)} {EV : XK} {x : Str} {d : D} {pos : Pos} (c : CcD X.K X.mg x d) (hg : Gl X x) (hd : (x == ("__debug__" : Str)) = false := by decide) : PD X Tb EV (.Name x pos) (dC d) := by
  obtain ⟨v, u, hm, rv, r⟩ := c
  exact dv_glob hg hm rv r hd
end DL

/-! Plain mathematics: greatest common divisors, fractions, sizes. -/
namespace Mt
/-- Euclid on natural numbers, n turns -/
def euc : Nat → Nat → Nat → Nat
  | 0, a, _ => a
  | n + 1, a, b => if b = 0 then a else euc n b (a % b)
theorem euc_gcd : ∀ (n a b : Nat), b ≤ n → euc n a b = Nat.gcd a b
  | 0, a, b, h => by
    have : b = 0 := by omega
    subst this; simp [euc]
  | n + 1, a, b, h => by
    unfold euc
    split
    · rename_i e; subst e; simp
    · rename_i e
      have hb : 0 < b := Nat.pos_of_ne_zero e
      have := Nat.mod_lt a hb
      rw [euc_gcd n b (a % b) (by omega), Nat.gcd_comm a b, Nat.gcd_rec b a, Nat.gcd_comm]
theorem fdiv_exact {a g c : Int} (hg : g ≠ 0) (h : a = g * c) : a.fdiv g = c := by
  subst h
  exact Int.mul_fdiv_cancel_left c hg
/-- lowest terms -/
theorem low_num (a b : Int) (hb : b ≠ 0) : a.fdiv (if b < 0 then -(Int.gcd a b : Int) else (Int.gcd a b : Int)) = (Rat.divInt a b).num := by
  have hg : (Int.gcd a b : Int) ≠ 0 := by
    intro h
    have : Int.gcd a b = 0 := by omega
    exact hb (Int.gcd_eq_zero_iff.mp this).2
  have hd : (Int.gcd a b : Int) ∣ a := Int.gcd_dvd_left ..
  rw [Rat.num_divInt, Int.gcd_comm b a]
  obtain ⟨c, hc⟩ := hd
  by_cases hneg : b < 0
  · rw [if_pos hneg, Int.sign_eq_neg_one_of_neg hneg]
    rw [fdiv_exact (c := -c) (by omega) (by rw [Int.neg_mul_neg]; exact hc)]
    have : -1 * a = (Int.gcd a b : Int) * (-c) := by rw [Int.mul_neg, ← hc]; omega
    rw [this, Int.mul_ediv_cancel_left _ hg]
  · have hp : 0 < b := by omega
    rw [if_neg hneg, Int.sign_eq_one_of_pos hp, Int.one_mul]
    rw [fdiv_exact (c := c) hg hc]
    generalize (Int.gcd a b : Int) = g at hc hg
    subst hc
    rw [Int.mul_ediv_cancel_left _ hg]
theorem low_den (a b : Int) (hb : b ≠ 0) : b.fdiv (if b < 0 then -(Int.gcd a b : Int) else (Int.gcd a b : Int)) = ((Rat.divInt a b).den : Int) := by
  have hg : (Int.gcd a b : Int) ≠ 0 := by
    intro h
    have : Int.gcd a b = 0 := by omega
    exact hb (Int.gcd_eq_zero_iff.mp this).2
  have hd : (Int.gcd a b : Int) ∣ b := Int.gcd_dvd_right ..
  rw [Rat.den_divInt, if_neg hb, Int.gcd_comm b a]
  obtain ⟨c, hc⟩ := hd
  have hg' : 0 < (Int.gcd a b : Int) := by omega
  by_cases hneg : b < 0
  · rw [if_pos hneg]
    rw [fdiv_exact (c := -c) (by omega) (by rw [Int.neg_mul_neg]; exact hc)]
    have e : (b.natAbs : Int) = (Int.gcd a b : Int) * (-c) := by rw [Int.mul_neg, ← hc]; omega
    rw [Int.natCast_ediv, e, Int.mul_ediv_cancel_left _ hg]
  · rw [if_neg hneg]
    rw [fdiv_exact (c := c) hg hc]
    have e : (b.natAbs : Int) = (Int.gcd a b : Int) * c := by rw [← hc]; omega
    rw [Int.natCast_ediv, e, Int.mul_ediv_cancel_left _ hg]
/-! ### sizes in bits -/
def bs (n : Nat) : Nat := if n = 0 then 0 else n.log2 + 1
theorem bs_lt (n : Nat) : n < 2 ^ bs n := by
  unfold bs
  split
  · subst_vars; decide
  · exact Nat.lt_log2_self
theorem bs_le {n k : Nat} (h : n < 2 ^ k) : bs n ≤ k := by
  unfold bs
  split
  · omega
  · rename_i e
    have := (Nat.log2_lt e).mpr h
    omega
theorem bs_mono {a b : Nat} (h : a ≤ b) : bs a ≤ bs b := bs_le (Nat.lt_of_le_of_lt h (bs_lt b))
theorem bs_mul (a b : Nat) : bs (a * b) ≤ bs a + bs b := bs_le (by rw [Nat.pow_add]; exact Nat.mul_lt_mul'' (bs_lt a) (bs_lt b))
theorem bs_add (a b : Nat) : bs (a + b) ≤ max (bs a) (bs b) + 1 := by
  refine bs_le ?_
  have h1 := bs_lt a
  have h2 := bs_lt b
  have h3 : 2 ^ bs a ≤ 2 ^ max (bs a) (bs b) := Nat.pow_le_pow_right (by decide) (Nat.le_max_left ..)
  have h4 : 2 ^ bs b ≤ 2 ^ max (bs a) (bs b) := Nat.pow_le_pow_right (by decide) (Nat.le_max_right ..)
  rw [Nat.pow_succ]
  omega
/-- of an int, of a fraction -/
def bz (i : Int) : Nat := bs i.natAbs
theorem bi_mul (a b : Int) : bz (a * b) ≤ bz a + bz b := by unfold bz; rw [Int.natAbs_mul]; exact bs_mul ..
theorem bi_add (a b : Int) : bz (a + b) ≤ max (bz a) (bz b) + 1 := by
  unfold bz
  exact Nat.le_trans (bs_mono (Int.natAbs_add_le a b)) (bs_add ..)
theorem bi_neg (a : Int) : bz (-a) = bz a := by unfold bz; rw [Int.natAbs_neg]
theorem bi_sub (a b : Int) : bz (a - b) ≤ max (bz a) (bz b) + 1 := by
  rw [Int.sub_eq_add_neg]
  have := bi_add a (-b)
  rwa [bi_neg] at this
def qs (q : Rat) : Nat := max (bz q.num) (bs q.den)
theorem qs_num (q : Rat) : bz q.num ≤ qs q := Nat.le_max_left ..
theorem qs_den (q : Rat) : bs q.den ≤ qs q := Nat.le_max_right ..
theorem qs_den' (q : Rat) : bz (q.den : Int) ≤ qs q := qs_den q
theorem qs_divInt (a b : Int) (hb : b ≠ 0) : qs (Rat.divInt a b) ≤ max (bz a) (bz b) := by
  unfold qs
  refine Nat.max_le.mpr ⟨?_, ?_⟩
  · refine Nat.le_trans (bs_mono ?_) (Nat.le_max_left ..)
    rw [Rat.num_divInt]
    have h1 : (b.sign * a).natAbs = a.natAbs := by
      rw [Int.natAbs_mul]
      rcases Int.lt_or_gt_of_ne hb with h | h
      · rw [Int.sign_eq_neg_one_of_neg h]; simp
      · rw [Int.sign_eq_one_of_pos h]; simp
    rw [← h1]
    have hg : (b.gcd a : Int) ∣ (b.sign * a) := Int.dvd_mul_of_dvd_right (Int.gcd_dvd_right ..)
    rw [Int.natAbs_ediv_of_dvd hg]
    exact Nat.div_le_self ..
  · refine Nat.le_trans (bs_mono ?_) (Nat.le_max_right ..)
    rw [Rat.den_divInt, if_neg hb]
    exact Nat.div_le_self ..
theorem divInt_add (a b : Rat) : Rat.divInt (a.num * b.den + b.num * a.den) (a.den * b.den) = a + b := by
  rw [Rat.add_def']
  rw [show ((a.den : Int) * (b.den : Int)) = ((a.den * b.den : Nat) : Int) from rfl, Rat.divInt_ofNat]
theorem divInt_sub (a b : Rat) : Rat.divInt (a.num * b.den - b.num * a.den) (a.den * b.den) = a - b := by
  rw [Rat.sub_def']
  rw [show ((a.den : Int) * (b.den : Int)) = ((a.den * b.den : Nat) : Int) from rfl, Rat.divInt_ofNat]
theorem divInt_mul (a b : Rat) : Rat.divInt (a.num * b.num) (a.den * b.den) = a * b := by
  rw [Rat.mul_def']
  rw [show ((a.den : Int) * (b.den : Int)) = ((a.den * b.den : Nat) : Int) from rfl, Rat.divInt_ofNat]
theorem divInt_div (a b : Rat) (h : b ≠ 0) : Rat.divInt (a.num * b.den) (a.den * b.num) = a / b := by
  rw [Rat.div_def, Rat.inv_def]
  conv => rhs; rw [← Rat.num_divInt_den a]
  rw [Rat.divInt_mul_divInt]
theorem den_ne (a b : Rat) : ((a.den : Int) * (b.den : Int)) ≠ 0 := by
  have := a.den_pos
  have := b.den_pos
  exact Int.mul_ne_zero (by omega) (by omega)
theorem qs_add (a b : Rat) : qs (a + b) ≤ qs a + qs b + 1 := by
  rw [← divInt_add]
  refine Nat.le_trans (qs_divInt _ _ (den_ne a b)) (Nat.max_le.mpr ⟨?_, ?_⟩)
  · have h1 := bi_add (a.num * b.den) (b.num * a.den)
    have h2 := bi_mul a.num b.den
    have h3 := bi_mul b.num a.den
    have := qs_num a; have := qs_num b; have := qs_den' a; have := qs_den' b
    omega
  · have h2 := bi_mul a.den b.den
    have := qs_den' a; have := qs_den' b
    omega
theorem qs_sub (a b : Rat) : qs (a - b) ≤ qs a + qs b + 1 := by
  rw [← divInt_sub]
  refine Nat.le_trans (qs_divInt _ _ (den_ne a b)) (Nat.max_le.mpr ⟨?_, ?_⟩)
  · have h1 := bi_sub (a.num * b.den) (b.num * a.den)
    have h2 := bi_mul a.num b.den
    have h3 := bi_mul b.num a.den
    have := qs_num a; have := qs_num b; have := qs_den' a; have := qs_den' b
    omega
  · have h2 := bi_mul a.den b.den
    have := qs_den' a; have := qs_den' b
    omega
theorem qs_mul (a b : Rat) : qs (a * b) ≤ qs a + qs b := by
  rw [← divInt_mul]
  refine Nat.le_trans (qs_divInt _ _ (den_ne a b)) (Nat.max_le.mpr ⟨?_, ?_⟩)
  · have h2 := bi_mul a.num b.num
    have := qs_num a; have := qs_num b
    omega
  · have h2 := bi_mul a.den b.den
    have := qs_den' a; have := qs_den' b
    omega
theorem num_ne {b : Rat} (h : b ≠ 0) : b.num ≠ 0 := fun z => h (Rat.num_eq_zero.mp z)
theorem qs_div (a b : Rat) : qs (a / b) ≤ qs a + qs b := by
  by_cases h : b = 0
  · subst h
    have : a / 0 = 0 := by rw [Rat.div_def, Rat.inv_zero, Rat.mul_zero]
    rw [this]
    have : qs (0 : Rat) = 1 := by decide
    have h1 : 1 ≤ bs a.den := by
      unfold bs
      have := a.den_pos
      split <;> omega
    have := qs_den a
    omega
  · rw [← divInt_div a b h]
    have hne : ((a.den : Int) * b.num) ≠ 0 := Int.mul_ne_zero (by have := a.den_pos; omega) (num_ne h)
    refine Nat.le_trans (qs_divInt _ _ hne) (Nat.max_le.mpr ⟨?_, ?_⟩)
    · have h2 := bi_mul a.num b.den
      have := qs_num a; have := qs_den' b
      omega
    · have h2 := bi_mul a.den b.num
      have := qs_den' a; have := qs_num b
      omega
theorem qs_neg (a : Rat) : qs (-a) = qs a := by
  unfold qs
  rw [Rat.neg_num, Rat.neg_den, bi_neg]
theorem qs_int (i : Int) : qs (i : Rat) ≤ max (bz i) 1 := by
  unfold qs
  rw [Rat.num_intCast, Rat.den_intCast]
  exact Nat.le_refl _
end Mt

namespace DL
open PySem PySem.Spec PyProof.Rows L2 Mt

/-! ### sizes -/
theorem mok_r {i j : Int} (h1 : -(2 ^ 64) < j) (h2 : j < 2 ^ 64) : IntMulOk i j := .of_right (intBits_le_64 h1 h2)
theorem mok_l {i j : Int} (h1 : -(2 ^ 64) < i) (h2 : i < 2 ^ 64) : IntMulOk i j := .of_left (intBits_le_64 h1 h2)
theorem log2_bs (n : Nat) : n.log2 ≤ bs n := by
  unfold bs
  split
  · subst_vars; decide
  · omega
theorem mok_b {i j : Int} (h : bz i + bz j ≤ 900000) : IntMulOk i j := CMulW.ok (by
  unfold CMulW
  have := log2_bs i.natAbs
  have := log2_bs j.natAbs
  unfold bz at h
  omega)
theorem cdx {j : Int} (h : j ≠ 0) (hb : bz j ≤ 8900) : CDivX j := ⟨h, by
  have := log2_bs j.natAbs
  unfold bz at hb
  omega⟩
theorem cdx_small {j : Int} (h : 0 < j) (h2 : j < 2 ^ 8000) : CDivX j := cdx (by omega) (by
  have : bz j ≤ 8000 := bs_le (by
    have h3 : ((j.natAbs : Nat) : Int) < ((2 ^ 8000 : Nat) : Int) := by
      rw [Int.natCast_pow]
      have : (j.natAbs : Int) = j := by omega
      rw [this]
      exact h2
    exact Int.ofNat_lt.mp h3)
  omega)
theorem cpow {i j : Int} (h0 : 0 ≤ j) (h1 : j ≤ 1000000) (h2 : -(2 ^ 64) < i) (h3 : i < 2 ^ 64) : CPow i j := ⟨h0, h1, by omega⟩

/-! ### the law's draws -/
structure Rng where
  ns : List Int
  p : Int
  c : Int
  s : Int
  k : Int
def Rng.items (r : Rng) : List D := [.lst (r.ns.map D.int), .int r.p, .int r.c, .int r.s, .int r.k]
def Rng.mo (r : Rng) : MO := .lst r.items
structure Rng.Ok (r : Rng) : Prop where
  p0 : 0 ≤ r.p
  c0 : 0 ≤ r.c
  s0 : 0 ≤ r.s
  s1 : r.s < 2147483647
  k0 : 0 ≤ r.k
theorem hbs_ints (n : Nat) : ∀ ns : List Int, D.hbs n (ns.map D.int) = true
  | [] => rfl
  | _ :: r => by show (true && D.hbs n (r.map D.int)) = true; rw [hbs_ints n r]; rfl
theorem Rng.hb (r : Rng) (n : Nat) : r.mo.hb n = true := by
  show (D.hbs n (r.ns.map D.int) && (true && (true && (true && (true && true))))) = true
  rw [hbs_ints]; rfl
def RgAt (M : Mem) (i : Nat) : Prop := ∃ r : Rng, M[i]? = some (some r.mo) ∧ r.Ok
def RgTo (M : Mem) (i : Nat) (M' : Mem) : Prop := ∃ r : Rng, r.Ok ∧ M' = M.set i (some r.mo)
theorem RgTo.at {M M' : Mem} {i : Nat} (a : RgAt M i) (t : RgTo M i M') : RgAt M' i := by
  obtain ⟨r, ok, rfl⟩ := t
  obtain ⟨q, e, _⟩ := a
  exact ⟨r, by rw [List.getElem?_set_self (List.getElem?_eq_some_iff.mp e).1], ok⟩
theorem RgTo.trans {M M1 M2 : Mem} {i : Nat} (a : RgTo M i M1) (b : RgTo M1 i M2) : RgTo M i M2 := by
  obtain ⟨r, ok, rfl⟩ := a
  obtain ⟨q, ok2, rfl⟩ := b
  exact ⟨q, ok2, by rw [List.set_set]⟩
theorem RgTo.refl {M : Mem} {i : Nat} (a : RgAt M i) : RgTo M i M := by
  obtain ⟨r, e, ok⟩ := a
  refine ⟨r, ok, ?_⟩
  apply List.ext_getElem?
  intro j
  by_cases h : i = j
  · subst h
    rw [List.getElem?_set_self (List.getElem?_eq_some_iff.mp e).1, e]
  · rw [List.getElem?_set_ne h]
theorem RgTo.len {M M' : Mem} {i : Nat} (t : RgTo M i M') : M'.length = M.length := by
  obtain ⟨r, _, rfl⟩ := t
  simp
theorem RgTo.okM {M M' : Mem} {i : Nat} (t : RgTo M i M') (ok : okM M.length M) : DL.okM M.length M' := by
  obtain ⟨r, _, rfl⟩ := t
  exact ok.set (r.hb _)
theorem RgTo.ne {M M' : Mem} {i j : Nat} (t : RgTo M i M') (h : i ≠ j) : M'[j]? = M[j]? := by
  obtain ⟨r, _, rfl⟩ := t
  rw [List.getElem?_set_ne h]
/-- the end of a def that draws -/
theorem Cut.rg {Q : VD} {d : D} {M M' : Mem} {i : Nat} (t : RgTo M i M') (h : d.hb M.length = true) (ok : okM M.length M) (q : Q d M') : Cut M.length Q d M' :=
  ⟨M.length, Nat.le_refl _, h, t.okM ok, by rw [List.take_of_length_le (by rw [t.len]; exact Nat.le_refl _)]; exact q⟩

/-! ### fractions -/
def fr (a b : Int) : D := .tup [.int a, .int b]
def qD (q : Rat) : D := fr q.num q.den
theorem qD_hb (q : Rat) (n : Nat) : (qD q).hb n = true := rfl
theorem fmod_pos {a b : Int} (h : 0 < b) : 0 ≤ a.fmod b ∧ a.fmod b < b := ⟨Int.fmod_nonneg_of_pos a h, Int.fmod_lt_of_pos a h⟩
theorem fmod_nat (a b : Nat) : (a : Int).fmod (b : Int) = ((a % b : Nat) : Int) := by
  rw [Int.fmod_eq_emod_of_nonneg _ (by omega)]
  rfl
end DL

/-! one step at the head of a reading -/
namespace DL
open PySem PySem.Spec PyProof.Rows L2 Mt
def hSubC (o j : D) : TGD := hSub (dC o) (dC j)
section
variable {E : XD} {DD : DEnds} {rho : Rho} {M : Mem} {Q : VD} {ta tb tc : TED} {t u : TSD} {c c' : TTD} {aa : TAD} {rD rD' : RD2} {R : Bool → Mem → Prop} {N : Rho → Mem → Prop} {L : List D → Mem → Prop} {d d' : D} {i n : Nat} {k k' : Int} {xs ys : List D} {r : RDC}
theorem e_seq (h : t E { DD with nx := u E DD } rho M) : dSeq t u E DD rho M := h
theorem e_next (h : DD.nx rho M) : dNext E DD rho M := h
theorem e_brk (h : DD.bk rho M) : dBreak E DD rho M := h
theorem e_cont (h : DD.ct rho M) : dCont E DD rho M := h
theorem e_drop (h : ta E rho M fun _ M1 => DD.nx rho M1) : dDrop ta E DD rho M := h
theorem e_ret (h : ta E rho M DD.rt) : dRet ta E DD rho M := h
theorem e_retN (h : DD.rt .non M) : dRetN E DD rho M := h
theorem e_if (h : c E rho M fun b M1 => if b = true then t E DD rho M1 else u E DD rho M1) : dIfS c t u E DD rho M := h
theorem e_asg {g : TGD} (h : ta E rho M fun x M1 => g x E rho M1 DD.nx) : dAsg ta g E DD rho M := h
theorem e_name (h : N (rho.set i (some d)) M) : hName i d E rho M N := h
theorem e_var (e : rho[i]? = some (some d)) (h : Q d M) : dVar i E rho M Q := by
  unfold dVar; rw [e]; exact h
theorem e_c (h : Q d M) : dC d E rho M Q := h
theorem e_op (h : ta E rho M fun x M1 => tb E rho M1 fun y M2 => rD x y M2 Q) : dOp rD ta tb E rho M Q := h
theorem e_b (h : ta E rho M fun x M1 => match x with
  | .bl k => R k M1
  | _ => False) : dB ta E rho M R := h
theorem e_not (h : c E rho M fun k M1 => R (!k) M1) : dNot c E rho M R := h
theorem e_and (h : c E rho M fun k M1 => if k = true then c' E rho M1 R else R false M1) : dAnd c c' E rho M R := h
theorem e_or (h : c E rho M fun k M1 => if k = true then R true M1 else c' E rho M1 R) : dOr c c' E rho M R := h
theorem e_int {C : Int → Int → Prop} {g : Int → Int → D} (h1 : C k k') (h2 : Q (g k k') M) : rIntD C g (.int k) (.int k') M Q := ⟨h1, h2⟩
theorem e_int0 {g : Int → Int → D} (h2 : Q (g k k') M) : rInt0D g (.int k) (.int k') M Q := h2
theorem e_add (h : Q (.int (k + k')) M) : rAdd_ (.int k) (.int k') M Q := h
theorem e_ix (h1 : seqD M d = some xs) (h2 : L2.atI xs k = some d') (h : Q d' M) : rIx_ d (.int k) M Q := by
  unfold rIx_; simp only [h1, h2]; exact h
theorem e_eqi (h : Q (.bl (decide (k = k'))) M) : rEq_ (.int k) (.int k') M Q := h
theorem e_nei (h : Q (.bl (!decide (k = k'))) M) : rNe_ (.int k) (.int k') M Q := h
theorem e_nil (h : L [] M) : dNil E rho M L := h
theorem e_cons (h : ta E rho M fun x M1 => aa E rho M1 fun xs M2 => L (x :: xs) M2) : dCons ta aa E rho M L := h
theorem e_cb (h : aa E rho M fun ds M1 => r ds M1 Q) : dCB r aa E rho M Q := h
theorem e_len (h1 : seqD M d = some xs) (h : Q (.int xs.length) M) : rLen_ [d] M Q := by
  unfold rLen_; simp only [h1]; exact h
theorem e_call {dsp : DSp} (h : aa E rho M fun ds M1 => dsp ds M1 Q E) : dCall dsp aa E rho M Q := h
theorem e_tup (h : aa E rho M fun xs M1 => xs.length ≤ sizeLine ∧ Q (.tup xs) M1) : dTup aa E rho M Q := h
theorem e_lst (h : aa E rho M fun xs M1 => xs.length ≤ sizeLine ∧ Q (.lst xs) M1) : dLst aa E rho M Q := h
theorem e_lstM (h : aa E rho M fun xs M1 => xs.length ≤ sizeLine ∧ Q (.mt M1.length) (M1 ++ [some (.lst xs)])) : dLstM aa E rho M Q := h
theorem e_ite (h : c E rho M fun k M1 => if k = true then ta E rho M1 Q else tb E rho M1 Q) : dIf c ta tb E rho M Q := h
/-- a list's item is set -/
theorem e_sub (h : ta E rho M fun o M1 => tb E rho M1 fun j M2 => hSubC o j d E rho M2 N) : hSub ta tb d E rho M N := h
theorem e_subc {j : Nat} (h1 : M[i]? = some (some (.lst xs))) (h2 : ixN xs.length k = some j) (h : ∀ M', M' = M.set i (some (.lst (xs.set j d))) → M'[i]? = some (some (.lst (xs.set j d))) → N rho M') : hSubC (.mt i) (.int k) d E rho M N := by
  show (match memL M i with
    | some xs => (match ixN xs.length k with
      | some j => N rho (M.set i (some (.lst (xs.set j d))))
      | none => False)
    | none => False)
  unfold memL
  rw [h1]
  simp only [h2]
  exact h _ rfl (by rw [List.getElem?_set_self (List.getElem?_eq_some_iff.mp h1).1])
theorem memL_at (h : M[i]? = some (some (.lst xs))) : memL M i = some xs := by unfold memL; rw [h]
theorem seq_at (h : M[i]? = some (some (.lst xs))) : seqD M (.mt i) = some xs := memL_at h
end
mutual
theorem D.hb_mono {n m : Nat} (h : n ≤ m) : ∀ {d : D}, D.hb n d = true → D.hb m d = true
  | .mt i, e => decide_eq_true (Nat.lt_of_lt_of_le (of_decide_eq_true e) h)
  | .tup xs, e => D.hbs_mono h (ds := xs) e
  | .lst xs, e => D.hbs_mono h (ds := xs) e
  | .rol xs, e => D.hbs_mono h (ds := xs) e
  | .obj _ _ xs, e => D.hbs_mono h (ds := xs) e
  | .exc _ _ xs, e => D.hbs_mono h (ds := xs) e
  | .dk _ xs, e => D.hbs_mono h (ds := xs) e
  | .dt _ xs, e => D.hbs_mono h (ds := xs) e
  | .non, _ => rfl
  | .bl _, _ => rfl
  | .int _, _ => rfl
  | .str _, _ => rfl
  | .ty _, _ => rfl
  | .ref _, _ => rfl
theorem D.hbs_mono {n m : Nat} (h : n ≤ m) : ∀ {ds : List D}, D.hbs n ds = true → D.hbs m ds = true
  | [], _ => rfl
  | d :: ds, e => by
    have e : (D.hb n d && D.hbs n ds) = true := e
    rw [Bool.and_eq_true] at e
    show (D.hb m d && D.hbs m ds) = true
    rw [D.hb_mono h e.1, D.hbs_mono h e.2]; rfl
end
theorem MO.hb_mono {n m : Nat} (h : n ≤ m) : ∀ {o : MO}, o.hb n = true → o.hb m = true
  | .lst xs, e => D.hbs_mono h (ds := xs) e
  | .dK kvs, e => D.hbs_mono h (ds := kvs.map Prod.snd) e
  | .dT _ xs, e => D.hbs_mono h (ds := xs) e
  | .ins _ fs, e => D.hbs_mono h (ds := fs.map Prod.snd) e
theorem okM.app {M : Mem} {o : MO} (ok : okM M.length M) (h : o.hb (M.length + 1) = true) : okM (M.length + 1) (M ++ [some o]) := fun i mo hi e => by
  by_cases q : i < M.length
  · rw [List.getElem?_append_left q] at e
    exact MO.hb_mono (Nat.le_succ _) (ok i mo q e)
  · have : i = M.length := by omega
    subst this
    rw [List.getElem?_concat_length] at e
    cases e
    exact h
/-- a new thing is handed back -/
theorem Cut.new {Q : VD} {M : Mem} {o : MO} (ok : okM M.length M) (h : o.hb (M.length + 1) = true) (q : Q (.mt M.length) (M ++ [some o])) : Cut M.length Q (.mt M.length) (M ++ [some o]) :=
  ⟨M.length + 1, Nat.le_succ _, decide_eq_true (Nat.lt_succ_self _), ok.app h, by rw [List.take_of_length_le (by simp)]; exact q⟩
end DL
namespace DL
theorem nz {j : Int} (h : j ≠ 0) : j ≠ 0 := h
end DL
namespace DL
/-- a sequence, cut in two by what holds between -/
theorem e_cut {t u : TSD} {E : XD} {DD : DEnds} {rho : Rho} {M : Mem} (I : Rho → Mem → Prop) (h2 : ∀ rho M, I rho M → u E DD rho M) (h1 : ∀ N : Rho → Mem → Prop, (∀ rho M, I rho M → N rho M) → t E { DD with nx := N } rho M) : dSeq t u E DD rho M := h1 _ h2
end DL
namespace DL
theorem RgTo.same {M : Mem} {i : Nat} {o : Option MO} (e : M[i]? = some o) : M = M.set i o := by
  apply List.ext_getElem?
  intro j
  by_cases h : i = j
  · subst h
    rw [List.getElem?_set_self (List.getElem?_eq_some_iff.mp e).1, e]
  · rw [List.getElem?_set_ne h]
end DL
namespace DL
theorem cdx_d {j : Int} (h : (0 < j ∧ j < 1000000000000)) : CDivX j := cdx_small h.1 (Int.lt_trans h.2 (by decide +kernel))
end DL
namespace DL
open PySem PySem.Spec PyProof.Rows L2 Mt
theorem at_pos {α : Type} {xs : List α} {p : Int} (h0 : 0 ≤ p) (h1 : p < xs.length) : L2.atI xs p = xs[p.toNat]? := by
  unfold L2.atI L2.ixN
  rw [if_pos h0, if_pos h1]
  rfl
theorem at_ex {α : Type} {xs : List α} {p : Int} (h0 : 0 ≤ p) (h1 : p < xs.length) : ∃ x, L2.atI xs p = some x ∧ x ∈ xs := by
  rw [at_pos h0 h1]
  have h : p.toNat < xs.length := by omega
  exact ⟨xs[p.toNat], List.getElem?_eq_getElem h, List.getElem_mem h⟩
end DL

namespace DL
open PySem PySem.Spec PyProof.Rows L2 Mt
/-! ### more steps -/
section
variable {E : XD} {DD : DEnds} {rho : Rho} {M : Mem} {Q : VD} {ta tb tc : TED} {t u : TSD} {c c' : TTD} {aa : TAD} {rD rD' : RD2} {R : Bool → Mem → Prop} {N : Rho → Mem → Prop} {L : List D → Mem → Prop} {d d' : D} {i n : Nat} {k k' : Int} {xs ys : List D} {r : RDC} {b b' : Bool}
theorem e_tru (h : ta E rho M fun x M1 => truD x M1 R) : dTru ta E rho M R := h
theorem e_trub (h : R b M) : truD (.bl b) M R := h
theorem e_andV (h : ta E rho M fun x M1 => match x with
  | .bl k => if k = true then tb E rho M1 Q else Q (.bl false) M1
  | _ => False) : dAndV ta tb E rho M Q := h
theorem e_orV (h : ta E rho M fun x M1 => match x with
  | .bl k => if k = true then Q (.bl true) M1 else tb E rho M1 Q
  | _ => False) : dOrV ta tb E rho M Q := h
theorem e_is (h : Q (.bl (isNon d)) M) : rIs_ d .non M Q := h
theorem e_isn (h : Q (.bl (!isNon d)) M) : rIsNot_ d .non M Q := h
theorem e_eqb (h : Q (.bl (decide (b = b'))) M) : rEq_ (.bl b) (.bl b') M Q := h
theorem e_neb (h : Q (.bl (!decide (b = b'))) M) : rNe_ (.bl b) (.bl b') M Q := h
theorem e_lc {it : TID} {g : TGD} {tt : TTD} {vs : List Nat} (h : it E rho M fun ds M1 => lcU g tt ta vs ds [] rho M1 Q) : dLc it g tt ta vs E rho M Q := h
theorem e_for {it : TID} {g : TGD} (h : it E rho M fun ds M1 => forU g t ds E DD rho M1) : dFor it g t E DD rho M := h
theorem e_iseq {I : List D → Mem → Prop} (h : ta E rho M fun x M1 => match x with
  | .lst xs => I xs M1
  | .rol xs => I xs M1
  | .tup xs => I xs M1
  | .str z => I (signsD z) M1
  | _ => False) : iSeq ta E rho M I := h
theorem e_rg1 {I : List D → Mem → Prop} (h : aa E rho M fun ds M1 => match ds with
  | [.int j] => (-(2 ^ 62) ≤ j ∧ j < 2 ^ 62) ∧ I (rangeD 0 j.toNat) M1
  | _ => False) : iRange1 aa E rho M I := h
end
/-! ### data, compared -/
mutual
def smD : D → D → Bool
  | .tup xs, .tup ys => smDs xs ys
  | .lst xs, .lst ys => smDs xs ys
  | .lst xs, .rol ys => smDs xs ys
  | .rol xs, .lst ys => smDs xs ys
  | .rol xs, .rol ys => smDs xs ys
  | .int i, .int j => decide (i = j)
  | .str x, .str y => decide (x = y)
  | .bl a, .bl b => decide (a = b)
  | .non, .non => true
  | _, _ => false
def smDs : List D → List D → Bool
  | [], [] => true
  | x :: xs, y :: ys => smD x y && smDs xs ys
  | _, _ => false
end
mutual
def dp : D → Nat
  | .tup xs => dps xs + 1
  | .lst xs => dps xs + 1
  | .rol xs => dps xs + 1
  | _ => 0
def dps : List D → Nat
  | [] => 0
  | x :: xs => max (dp x) (dps xs)
end
mutual
def pu : D → Bool
  | .non => true
  | .bl _ => true
  | .int _ => true
  | .str _ => true
  | .tup xs => decide (xs.length ≤ sizeLine) && pus xs
  | .lst xs => decide (xs.length ≤ sizeLine) && pus xs
  | .rol xs => decide (xs.length ≤ sizeLine) && pus xs
  | _ => false
def pus : List D → Bool
  | [] => true
  | x :: xs => pu x && pus xs
end
mutual
theorem smD_refl : ∀ {d : D}, pu d = true → smD d d = true
  | .non, _ => rfl
  | .bl _, _ => decide_eq_true rfl
  | .int _, _ => decide_eq_true rfl
  | .str _, _ => decide_eq_true rfl
  | .tup xs, h => smDs_refl (ds := xs) (by have h : (decide (xs.length ≤ sizeLine) && pus xs) = true := h; rw [Bool.and_eq_true] at h; exact h.2)
  | .lst xs, h => smDs_refl (ds := xs) (by have h : (decide (xs.length ≤ sizeLine) && pus xs) = true := h; rw [Bool.and_eq_true] at h; exact h.2)
  | .rol xs, h => smDs_refl (ds := xs) (by have h : (decide (xs.length ≤ sizeLine) && pus xs) = true := h; rw [Bool.and_eq_true] at h; exact h.2)
theorem smDs_refl : ∀ {ds : List D}, pus ds = true → smDs ds ds = true
  | [], _ => rfl
  | x :: xs, h => by
    have h : (pu x && pus xs) = true := h
    rw [Bool.and_eq_true] at h
    show (smD x x && smDs xs xs) = true
    rw [smD_refl h.1, smDs_refl h.2]; rfl
end
theorem pus_at : ∀ {xs : List D} {j : Nat} {x : D}, pus xs = true → xs[j]? = some x → pu x = true
  | [], _, _, _, e => by simp at e
  | y :: ys, j, x, h, e => by
    have h : (pu y && pus ys) = true := h
    rw [Bool.and_eq_true] at h
    cases j with
    | zero => simp at e; subst e; exact h.1
    | succ j => exact pus_at h.2 (by simpa using e)
theorem dps_at : ∀ {xs : List D} {j : Nat} {x : D}, xs[j]? = some x → dp x ≤ dps xs
  | [], _, _, e => by simp at e
  | y :: ys, j, x, e => by
    show dp x ≤ max (dp y) (dps ys)
    cases j with
    | zero => simp at e; subst e; omega
    | succ j => have := dps_at (xs := ys) (j := j) (x := x) (by simpa using e); omega
theorem smDs_len : ∀ {xs ys : List D}, smDs xs ys = true → xs.length = ys.length
  | [], [], _ => rfl
  | x :: xs, y :: ys, h => by
    have h : (smD x y && smDs xs ys) = true := h
    rw [Bool.and_eq_true] at h
    simp [smDs_len h.2]
  | [], _ :: _, h => by cases h
  | _ :: _, [], h => by cases h
theorem smDs_zip : ∀ {xs ys : List D}, xs.length = ys.length → smDs xs ys = (List.zipWith smD xs ys).all _root_.id
  | [], [], _ => rfl
  | x :: xs, y :: ys, h => by
    show (smD x y && smDs xs ys) = (smD x y && (List.zipWith smD xs ys).all _root_.id)
    rw [smDs_zip (by simpa using h)]
  | [], _ :: _, h => by simp at h
  | _ :: _, [], h => by simp at h
def isLst : D → Bool
  | .lst _ => true
  | .rol _ => true
  | _ => false
def isTup : D → Bool
  | .tup _ => true
  | _ => false
def isBl : D → Bool
  | .bl _ => true
  | _ => false
def isInt : D → Bool
  | .int _ => true
  | .bl _ => true
  | _ => false
def isStr : D → Bool
  | .str _ => true
  | _ => false
theorem isi_of {u : String} {b : Bool} {d : D} {M : Mem} {Q : VD} (t : String) (h1 : tyN M d = some t) (h2 : clTab.contains u = true) (h3 : isTab t u = b) (h : Q (.bl b) M) : rIsi_ [d, .ty u] M Q := by
  unfold rIsi_; simp only [h1]; exact ⟨h2, by rw [h3]; exact h⟩
section
variable {d : D} {M : Mem} {Q : VD} (p : pu d = true)
include p
theorem isi_l (h : Q (.bl (isLst d)) M) : rIsi_ [d, .ty "list"] M Q := by
  cases d with
  | mt i => cases p
  | obj _ _ _ => cases p
  | exc _ _ _ => cases p
  | dk _ _ => cases p
  | dt _ _ => cases p
  | ref _ => cases p
  | ty _ => cases p
  | _ => first | exact isi_of (b := false) _ rfl (by decide +kernel) (by decide +kernel) h | exact isi_of (b := true) _ rfl (by decide +kernel) (by decide +kernel) h
theorem isi_t (h : Q (.bl (isTup d)) M) : rIsi_ [d, .ty "tuple"] M Q := by
  cases d with
  | mt i => cases p
  | obj _ _ _ => cases p
  | exc _ _ _ => cases p
  | dk _ _ => cases p
  | dt _ _ => cases p
  | ref _ => cases p
  | ty _ => cases p
  | _ => first | exact isi_of (b := false) _ rfl (by decide +kernel) (by decide +kernel) h | exact isi_of (b := true) _ rfl (by decide +kernel) (by decide +kernel) h
theorem isi_b (h : Q (.bl (isBl d)) M) : rIsi_ [d, .ty "bool"] M Q := by
  cases d with
  | mt i => cases p
  | obj _ _ _ => cases p
  | exc _ _ _ => cases p
  | dk _ _ => cases p
  | dt _ _ => cases p
  | ref _ => cases p
  | ty _ => cases p
  | _ => first | exact isi_of (b := false) _ rfl (by decide +kernel) (by decide +kernel) h | exact isi_of (b := true) _ rfl (by decide +kernel) (by decide +kernel) h
theorem isi_i (h : Q (.bl (isInt d)) M) : rIsi_ [d, .ty "int"] M Q := by
  cases d with
  | mt i => cases p
  | obj _ _ _ => cases p
  | exc _ _ _ => cases p
  | dk _ _ => cases p
  | dt _ _ => cases p
  | ref _ => cases p
  | ty _ => cases p
  | _ => first | exact isi_of (b := false) _ rfl (by decide +kernel) (by decide +kernel) h | exact isi_of (b := true) _ rfl (by decide +kernel) (by decide +kernel) h
theorem isi_s (h : Q (.bl (isStr d)) M) : rIsi_ [d, .ty "str"] M Q := by
  cases d with
  | mt i => cases p
  | obj _ _ _ => cases p
  | exc _ _ _ => cases p
  | dk _ _ => cases p
  | dt _ _ => cases p
  | ref _ => cases p
  | ty _ => cases p
  | _ => first | exact isi_of (b := false) _ rfl (by decide +kernel) (by decide +kernel) h | exact isi_of (b := true) _ rfl (by decide +kernel) (by decide +kernel) h
theorem isi_lt (h : Q (.bl (isLst d || isTup d)) M) : rIsi_ [d, .tup [.ty "list", .ty "tuple"]] M Q := by
  have key : ∀ (t : String) (b : Bool), tyN M d = some t → (["list", "tuple"].any (isTab t)) = b → Q (.bl b) M → rIsi_ [d, .tup [.ty "list", .ty "tuple"]] M Q := by
    intro t b h1 h3 h
    show (match tyN M d, tyNames [.ty "list", .ty "tuple"] with
      | some t, some us => us.all clTab.contains = true ∧ Q (.bl (us.any (isTab t))) M
      | _, _ => False)
    rw [h1]
    exact ⟨by decide +kernel, by rw [h3]; exact h⟩
  cases d with
  | mt i => cases p
  | obj _ _ _ => cases p
  | exc _ _ _ => cases p
  | dk _ _ => cases p
  | dt _ _ => cases p
  | ref _ => cases p
  | ty _ => cases p
  | _ => first | exact key _ false rfl (by decide +kernel) h | exact key _ true rfl (by decide +kernel) h
end
theorem bls_map : ∀ bs : List Bool, bls (bs.map D.bl) = some bs
  | [] => rfl
  | b :: r => by show (bls (r.map D.bl)).map (b :: ·) = _; rw [bls_map r]; rfl
theorem e_all {bs : List Bool} {M : Mem} {Q : VD} (h : Q (.bl (bs.all _root_.id)) M) : rAll_ [.lst (bs.map D.bl)] M Q := by
  show (match bls (bs.map D.bl) with
      | some bs => Q (.bl (bs.all _root_.id)) M
      | none => False)
  rw [bls_map]; exact h
theorem e_any {bs : List Bool} {M : Mem} {Q : VD} (h : Q (.bl (bs.any _root_.id)) M) : rAny_ [.lst (bs.map D.bl)] M Q := by
  show (match bls (bs.map D.bl) with
      | some bs => Q (.bl (bs.any _root_.id)) M
      | none => False)
  rw [bls_map]; exact h
theorem range_drop {n j : Nat} (h : j < n) : (rangeD 0 n).drop j = .int (j : Int) :: (rangeD 0 n).drop (j + 1) := by
  have hl : j < (rangeD 0 n).length := by simp [rangeD]; exact h
  rw [List.drop_eq_getElem_cons hl]
  congr 1
  simp [rangeD]
/-- a comprehension over range(n) -/
theorem lc_range {g : TGD} {tt : TTD} {te : TED} {vs : List Nat} {rho : Rho} {Q : VD} {n : Nat} {M : Mem} (Pv : Nat → List D → Mem → Prop) (h0 : Pv 0 [] M)
    (hs : ∀ j acc M (N : List D → Mem → Prop), j < n → Pv j acc M → (∀ acc' M', Pv (j + 1) acc' M' → N acc' M') → g (.int (j : Int)) noE (wipeD rho vs) M fun rho' M1 => tt noE rho' M1 fun b M2 => if b = true then te noE rho' M2 (fun y M3 => acc.length < sizeLine ∧ N (acc ++ [y]) M3) else N acc M2)
    (hd : ∀ acc M, Pv n acc M → Q (.lst acc) M) : lcU g tt te vs (rangeD 0 n) [] rho M Q := by
  refine lc_inv (fun ds acc M => ∃ j, j ≤ n ∧ ds = (rangeD 0 n).drop j ∧ Pv j acc M) ?_ ?_ _ _ _ ⟨0, Nat.zero_le _, rfl, h0⟩
  · rintro d r acc M N ⟨j, hj, e, p⟩ hN
    have hj' : j < n := by
      rcases Nat.lt_or_ge j n with h | h
      · exact h
      · have : (rangeD 0 n).drop j = [] := List.drop_of_length_le (by simp [rangeD]; exact h)
        rw [this] at e; cases e
    rw [range_drop hj'] at e
    cases e
    exact hs j acc M N hj' p fun acc' M' q => hN _ _ ⟨j + 1, hj', rfl, q⟩
  · rintro acc M ⟨j, hj, e, p⟩
    have : j = n := by
      rcases Nat.lt_or_ge j n with h | h
      · rw [range_drop h] at e; cases e
      · omega
    subst this
    exact hd _ _ p
/-- a loop over range(n) -/
theorem for_range {g : TGD} {tb : TSD} {E : XD} {DD : DEnds} {n : Nat} {rho : Rho} {M : Mem} (Pv : Nat → Rho → Mem → Prop) (h0 : Pv 0 rho M)
    (hs : ∀ j rho M (N : Rho → Mem → Prop), j < n → Pv j rho M → (∀ rho' M', Pv (j + 1) rho' M' → N rho' M') → g (.int (j : Int)) E rho M fun rho' M' => tb E { DD with nx := N, ct := N, bk := DD.nx } rho' M')
    (hd : ∀ rho M, Pv n rho M → DD.nx rho M) : forU g tb (rangeD 0 n) E DD rho M := by
  refine for_inv (fun ds rho M => ∃ j, j ≤ n ∧ ds = (rangeD 0 n).drop j ∧ Pv j rho M) ?_ ?_ _ _ _ ⟨0, Nat.zero_le _, rfl, h0⟩
  · rintro d r rho M N ⟨j, hj, e, p⟩ hN
    have hj' : j < n := by
      rcases Nat.lt_or_ge j n with h | h
      · exact h
      · have : (rangeD 0 n).drop j = [] := List.drop_of_length_le (by simp [rangeD]; exact h)
        rw [this] at e; cases e
    rw [range_drop hj'] at e
    cases e
    exact hs j rho M N hj' p fun rho' M' q => hN _ _ ⟨j + 1, hj', rfl, q⟩
  · rintro rho M ⟨j, hj, e, p⟩
    have : j = n := by
      rcases Nat.lt_or_ge j n with h | h
      · rw [range_drop h] at e; cases e
      · omega
    subst this
    exact hd _ _ p
theorem at_nat {α : Type} {xs : List α} {j : Nat} (h : j < xs.length) : L2.atI xs (j : Int) = some xs[j] := by
  rw [at_pos (by omega) (by omega)]
  simp [h]
end DL
namespace DL
open PySem PySem.Spec PyProof.Rows L2 Mt
theorem hbs_mem {n : Nat} : ∀ {xs : List D} {d : D}, D.hbs n xs = true → d ∈ xs → d.hb n = true
  | [], _, _, h => by cases h
  | x :: xs, d, e, h => by
    have e : (D.hb n x && D.hbs n xs) = true := e
    rw [Bool.and_eq_true] at e
    cases h with
    | head => exact e.1
    | tail _ h => exact hbs_mem e.2 h
theorem seq_hb {n : Nat} {x : D} {xs : List D} (h : ∀ M, seqD M x = some xs) (hx : x.hb n = true) : ∀ d ∈ xs, d.hb n = true := fun d hd => by
  cases x with
  | mt i => have := h []; cases this
  | tup ys => cases h []; exact hbs_mem (xs := xs) hx hd
  | lst ys => cases h []; exact hbs_mem (xs := xs) hx hd
  | rol ys => cases h []; exact hbs_mem (xs := xs) hx hd
  | _ => cases h []
end DL
namespace DL
open PySem PySem.Spec PyProof.Rows L2 Mt
def gapS (g : Int) : Int := if g = 0 then 0 else if 0 < g then 1 else -1
theorem bi_lt {i : Int} {k : Nat} (h1 : -(2 ^ k : Int) < i) (h2 : i < (2 ^ k : Int)) : bz i ≤ k := bs_le (by
  have : ((2 ^ k : Nat) : Int) = (2 : Int) ^ k := by simp
  omega)
end DL
namespace DL
open PySem PySem.Spec PyProof.Rows L2 Mt
theorem e_sz {xs : List D} {p : Prop} (h : Nat.ble xs.length sizeLine = true) (q : p) : xs.length ≤ sizeLine ∧ p := ⟨Nat.le_of_ble_eq_true h, q⟩
theorem pu_seq {xs : List D} (h : (decide (xs.length ≤ sizeLine) && pus xs) = true) : xs.length ≤ sizeLine ∧ pus xs = true := by
  rw [Bool.and_eq_true] at h; exact ⟨of_decide_eq_true h.1, h.2⟩
theorem seq_case {f d : D} (pf : pu f = true) (pd : pu d = true) (h0 : (isLst d || isTup d) = true) (h1 : isLst f = isLst d) (h2 : isTup f = isTup d) :
    ∃ xs ys : List D, (∀ M, seqD M f = some xs) ∧ (∀ M, seqD M d = some ys) ∧ pus xs = true ∧ pus ys = true ∧ xs.length ≤ sizeLine ∧ ys.length ≤ sizeLine ∧ dp d = dps ys + 1 ∧ smD f d = smDs xs ys := by
  cases d with
  | tup ys =>
    cases f with
    | tup xs => exact ⟨xs, ys, fun _ => rfl, fun _ => rfl, (pu_seq pf).2, (pu_seq pd).2, (pu_seq pf).1, (pu_seq pd).1, rfl, rfl⟩
    | _ => first | (cases h1; done) | (cases h2; done)
  | lst ys =>
    cases f with
    | lst xs => exact ⟨xs, ys, fun _ => rfl, fun _ => rfl, (pu_seq pf).2, (pu_seq pd).2, (pu_seq pf).1, (pu_seq pd).1, rfl, rfl⟩
    | rol xs => exact ⟨xs, ys, fun _ => rfl, fun _ => rfl, (pu_seq pf).2, (pu_seq pd).2, (pu_seq pf).1, (pu_seq pd).1, rfl, rfl⟩
    | _ => first | (cases h1; done) | (cases h2; done)
  | rol ys =>
    cases f with
    | lst xs => exact ⟨xs, ys, fun _ => rfl, fun _ => rfl, (pu_seq pf).2, (pu_seq pd).2, (pu_seq pf).1, (pu_seq pd).1, rfl, rfl⟩
    | rol xs => exact ⟨xs, ys, fun _ => rfl, fun _ => rfl, (pu_seq pf).2, (pu_seq pd).2, (pu_seq pf).1, (pu_seq pd).1, rfl, rfl⟩
    | _ => first | (cases h1; done) | (cases h2; done)
  | _ => cases h0
theorem sm_l {f d : D} (h : ¬ isLst f = isLst d) : smD f d = false := by
  cases f <;> cases d <;> first | rfl | exact absurd rfl h
theorem sm_t {f d : D} (h : ¬ isTup f = isTup d) : smD f d = false := by
  cases f <;> cases d <;> first | rfl | exact absurd rfl h
theorem sm_b {f d : D} (h : ¬ isBl d = isBl f) : smD f d = false := by
  cases f <;> cases d <;> first | rfl | exact absurd rfl h
theorem sm_i {f d : D} (h : ¬ isInt d = isInt f) : smD f d = false := by
  cases f <;> cases d <;> first | rfl | exact absurd rfl h
theorem sm_s {f d : D} (h : ¬ isStr d = isStr f) : smD f d = false := by
  cases f <;> cases d <;> first | rfl | exact absurd rfl h
theorem sm_n1 {f d : D} (h1 : isNon f = true) (h2 : isNon d = true) : smD f d = true := by
  cases f <;> cases d <;> first | rfl | (cases h1; done) | (cases h2; done)
theorem sm_n2 {f d : D} (h1 : isNon f = true) (h2 : isNon d = false) : smD f d = false := by
  cases f <;> cases d <;> first | rfl | (cases h1; done) | (cases h2; done)
theorem sm_n3 {f d : D} (h1 : isNon f = false) (h2 : isNon d = true) : smD f d = false := by
  cases f <;> cases d <;> first | rfl | (cases h1; done) | (cases h2; done)
theorem sm_eq {f d : D} {M : Mem} {Q : VD} (pf : pu f = true) (pd : pu d = true) (h0 : (isLst d || isTup d) = false) (n1 : isNon f = false) (n2 : isNon d = false) (h1 : isBl d = isBl f) (h2 : isInt d = isInt f) (h3 : isStr d = isStr f) (h : Q (.bl (smD f d)) M) : rEq_ f d M Q := by
  cases f <;> cases d <;> first | exact h | (cases pf; done) | (cases pd; done) | (cases h0; done) | (cases n1; done) | (cases n2; done) | (cases h1; done) | (cases h2; done) | (cases h3; done)
def sm_sp (n : Nat) : DSp := fun ds M Q E => ∃ f d, ds = [f, d] ∧ pu f = true ∧ pu d = true ∧ dp d < n ∧ Q (.bl (smD f d)) M
end DL
namespace DL
theorem e_yes {E : XD} {rho : Rho} {M : Mem} {R : Bool → Mem → Prop} (h : R true M) : dYes E rho M R := h
theorem e_ift {A B : Prop} (h : A) : if true = true then A else B := h
theorem e_iff {A B : Prop} (h : B) : if false = true then A else B := h
end DL
namespace DL
open PySem PySem.Spec PyProof.Rows L2 Mt
section
variable {E : XD} {DD : DEnds} {rho : Rho} {M : Mem} {Q : VD} {aa ak : TAD} {dsp : DSp} {n m i j : Nat} {is : List Nat} {dds : List D}
theorem e_callK (h : aa E rho M fun ds M1 => ak E rho M1 fun es M2 => ds.length = n ∧ es.length = m ∧ dsp (pick is (ds ++ dds ++ es)) M2 Q E) : dCallK n m is dds dsp aa ak E rho M Q := h
theorem e_par (h : aa E rho M fun ds M1 => match ds with
  | [d, d'] => DD.nx ((rho.set i (some d)).set j (some d')) M1
  | _ => False) : dPar i j aa E DD rho M := h
end
theorem Cut.app {Q : VD} {d : D} {M L : Mem} (h : d.hb M.length = true) (ok : okM M.length M) (q : Q d M) : Cut M.length Q d (M ++ L) :=
  ⟨M.length, Nat.le_refl _, h, fun i mo hi e => ok i mo hi (by rw [List.getElem?_append_left hi] at e; exact e), by rw [List.take_left']; exact q; rfl⟩
theorem RgTo.last {M M' : Mem} {o : Option MO} (t : RgTo (M ++ [o]) M.length M') : ∃ r : Rng, r.Ok ∧ M' = M ++ [some r.mo] := by
  obtain ⟨r, ok, rfl⟩ := t
  exact ⟨r, ok, by rw [List.set_append_right _ _ (Nat.le_refl _)]; simp⟩
theorem RgAt.last {M : Mem} {r : Rng} (ok : r.Ok) : RgAt (M ++ [some r.mo]) M.length := ⟨r, List.getElem?_concat_length .., ok⟩
theorem gapS_neg (g : Int) : gapS (-g) = - gapS g := by
  unfold gapS
  split
  · rw [if_pos (by omega)]; rfl
  · split
    · rw [if_neg (by omega), if_neg (by omega)]; rfl
    · rw [if_neg (by omega), if_pos (by omega)]
end DL
namespace DL
open PySem PySem.Spec PyProof.Rows L2 Mt
theorem e_int1 {A B : Prop} (h : B) : if (!true) = true then A else B := h
theorem e_int2 {A B : Prop} (h : A) : if (!false) = true then A else B := h
theorem e_ib {k : Bool} {M : Mem} {Q : VD} (h : Q (.int (if k then 1 else 0)) M) : rInt_ [.bl k] M Q := h
theorem e_ii {k : Int} {M : Mem} {Q : VD} (h : Q (.int k) M) : rInt_ [.int k] M Q := h
theorem e_neg {E : XD} {rho : Rho} {M : Mem} {Q : VD} {ta : TED} (h : ta E rho M fun x M1 => match x with
  | .int i => Q (.int (-i)) M1
  | _ => False) : dNeg ta E rho M Q := h
theorem den_dvd (q : Rat) : ((q.den : Int) ∣ q.num) ↔ q.den = 1 := by
  constructor
  · intro h
    exact Nat.Coprime.eq_one_of_dvd q.reduced.symm (Int.ofNat_dvd_left.mp h)
  · intro h
    rw [h]; exact Int.one_dvd _
theorem ceil_floor (q : Rat) : -((-q.num).fdiv q.den) - q.num.fdiv q.den = if q.den = 1 then 0 else 1 := by
  have hd : (0 : Int) < q.den := by have := q.den_nz; omega
  rw [Int.fdiv_eq_ediv_of_nonneg _ (Int.le_of_lt hd), Int.fdiv_eq_ediv_of_nonneg _ (Int.le_of_lt hd), Int.neg_ediv, Int.sign_eq_one_of_pos hd]
  by_cases h : q.den = 1
  · rw [if_pos ((den_dvd q).mpr h), if_pos h]; omega
  · rw [if_neg (fun z => h ((den_dvd q).mp z)), if_neg h]; omega
end DL
namespace DL
open PySem PySem.Spec PyProof.Rows L2 Mt
/-- what may be picked from -/
def PkD (x : D) (xs : List D) : Prop := (∀ M, seqD M x = some xs) ∨ ∃ z : Str, x = .str z ∧ z.length ≤ sizeLine ∧ xs = signsD z
theorem signs_len (z : Str) : (signsD z).length = z.length := by simp [signsD]; rfl
theorem pk_len {x : D} {xs : List D} {M : Mem} {Q : VD} (h : PkD x xs) (q : Q (.int xs.length) M) : rLen_ [x] M Q := by
  rcases h with h | ⟨z, rfl, hz, rfl⟩
  · exact e_len (h M) q
  · rw [signs_len] at q
    exact ⟨hz, q⟩
theorem pk_ix {x d : D} {xs : List D} {M : Mem} {Q : VD} {k : Int} (h : PkD x xs) (e : L2.atI xs k = some d) (q : Q d M) : rIx_ x (.int k) M Q := by
  rcases h with h | ⟨z, rfl, hz, rfl⟩
  · exact e_ix (h M) e q
  · refine ⟨hz, ?_⟩
    unfold signsD L2.atI at e
    rw [List.length_map] at e
    cases q2 : L2.ixN z.cps.toList.length k with
    | none => rw [q2] at e; cases e
    | some j =>
      rw [q2] at e
      have e : (z.cps.toList.map fun c => D.str ⟨#[c]⟩)[j]? = some d := e
      rw [List.getElem?_map] at e
      cases q3 : z.cps.toList[j]? with
      | none => rw [q3] at e; cases e
      | some c =>
        rw [q3] at e
        cases e
        have : L2.atI z.cps.toList k = some c := by unfold L2.atI; rw [q2]; exact q3
        rw [this]
        exact q
theorem pk_hb {n : Nat} {x : D} {xs : List D} (h : PkD x xs) (hx : x.hb n = true) : ∀ d ∈ xs, d.hb n = true := by
  rcases h with h | ⟨z, rfl, hz, rfl⟩
  · exact seq_hb h hx
  · intro d hd
    obtain ⟨c, _, rfl⟩ := List.mem_map.mp hd
    rfl
theorem sign_ex {z : Str} {d : D} (h : d ∈ signsD z) : ∃ c ∈ z.cps.toList, d = .str ⟨#[c]⟩ := by
  obtain ⟨c, hc, rfl⟩ := List.mem_map.mp h
  exact ⟨c, hc, rfl⟩
end DL
namespace DL
open PySem PySem.Spec PyProof.Rows L2 Mt
section
variable {E : XD} {DD : DEnds} {rho : Rho} {M : Mem} {Q : VD} {ta tb tc to : TED} {aa : TAD} {r r' : RD2} {tl th : TOD} {O : Option Int → Mem → Prop}
theorem e_chain (h : ta E rho M fun x M1 => tb E rho M1 fun y M2 => r x y M2 fun z M3 => match z with
  | .bl k => if k = true then tc E rho M3 fun w M4 => r' y w M4 Q else Q (.bl false) M3
  | _ => False) : dChain r r' ta tb tc E rho M Q := h
theorem e_in {c : Nat} {z : Str} (h : Q (.bl (decide (c ∈ z.cps.toList))) M) : rIn_ (.str ⟨#[c]⟩) (.str z) M Q := h
theorem e_lenS {z : Str} (h0 : z.length ≤ sizeLine) (h : Q (.int z.length) M) : rLen_ [.str z] M Q := ⟨h0, h⟩
theorem e_bm {T : String} {rD : RDM} (h : to E rho M fun x M1 => tyB T M1 x = true ∧ aa E rho M1 fun ds M2 => rD x ds M2 Q) : dBM T rD to aa E rho M Q := h
theorem e_sl (h : ta E rho M fun x M1 => tl E rho M1 fun l M2 => th E rho M2 fun u M3 => rSl_ x l u M3 Q) : dSl ta tl th E rho M Q := h
theorem e_osome (h : ta E rho M fun x M1 => match x with
  | .int i => O (some i) M1
  | _ => False) : oSome ta E rho M O := h
theorem e_onone (h : O none M) : oNone E rho M O := h
end
end DL
namespace DL
open PySem PySem.Spec PyProof.Rows L2 Mt
/-- a comprehension that maps -/
theorem lc_map {α : Type} {g : TGD} {te : TED} {vs : List Nat} {rho : Rho} {Q : VD} {M : Mem} (e f : α → D) (cs : List α) (hl : cs.length ≤ sizeLine)
    (h : ∀ c ∈ cs, ∀ N : VD, N (f c) M → g (e c) noE (wipeD rho vs) M fun rho' M1 => te noE rho' M1 N) (hq : Q (.lst (cs.map f)) M) : lcU g dYes te vs (cs.map e) [] rho M Q := by
  have key : ∀ (r a : List α), cs = a ++ r → lcU g dYes te vs (r.map e) (a.map f) rho M Q := by
    intro r
    induction r with
    | nil => intro a ha; rw [List.append_nil] at ha; subst ha; exact hq
    | cons c r ih =>
      intro a ha
      refine h c (by rw [ha]; simp) (fun y M3 => (a.map f).length < sizeLine ∧ lcU g dYes te vs (r.map e) (a.map f ++ [y]) rho M3 Q) ⟨?_, ?_⟩
      · rw [ha] at hl; simp at hl ⊢; omega
      · have := ih (a ++ [c]) (by rw [ha]; simp)
        simpa using this
  exact key cs [] rfl
end DL
namespace DL
open PySem PySem.Spec PyProof.Rows L2 Mt
theorem e_allM {α : Type} {f : α → Bool} {cs : List α} {M : Mem} {Q : VD} (h : Q (.bl ((cs.map f).all _root_.id)) M) : rAll_ [.lst (cs.map fun c => D.bl (f c))] M Q := by
  have := e_all (bs := cs.map f) h
  rwa [List.map_map] at this
theorem e_anyM {α : Type} {f : α → Bool} {cs : List α} {M : Mem} {Q : VD} (h : Q (.bl ((cs.map f).any _root_.id)) M) : rAny_ [.lst (cs.map fun c => D.bl (f c))] M Q := by
  have := e_any (bs := cs.map f) h
  rwa [List.map_map] at this
theorem strsD_map : ∀ ys : List Str, strsD (ys.map D.str) = some ys
  | [] => rfl
  | y :: r => by show (strsD (r.map D.str)).map (y :: ·) = _; rw [strsD_map r]; rfl
theorem e_join {a : Str} {ys : List Str} {M : Mem} {Q : VD} (h0 : (ys.map (·.length)).sum + ys.length * a.length ≤ 16777216) (h : Q (.str (Txt.join a ys)) M) : rJoin_ (.str a) [.lst (ys.map D.str)] M Q := by
  show (match strsD (ys.map D.str) with
      | some ys => (ys.map (·.length)).sum + ys.length * a.length ≤ 16777216 ∧ Q (.str (Txt.join a ys)) M
      | none => False)
  rw [strsD_map]; exact ⟨h0, h⟩
end DL
namespace DL
open PySem PySem.Spec PyProof.Rows L2 Mt
theorem joinL_chars : ∀ cs : List Nat, TL.joinL [] (cs.map fun c => [c]) = cs
  | [] => rfl
  | [c] => rfl
  | c :: d :: r => by
    show [c] ++ ([] ++ TL.joinL [] ((d :: r).map fun c => [c])) = _
    rw [joinL_chars (d :: r)]; rfl
theorem join_chars (cs : List Nat) : Txt.join "" (cs.map fun c => ⟨#[c]⟩) = SX.S cs := by
  have := SX.join_S [] (cs.map fun c => [c])
  rw [joinL_chars] at this
  rw [← this, List.map_map]
  rfl
theorem cut_len (z : Str) (lo hi : Option Int) : (cutS z lo hi).length ≤ z.length := by
  unfold cutS
  show (List.toArray _).size ≤ z.cps.size
  simp
  omega
theorem e_adds {a b : Str} {M : Mem} {Q : VD} (h0 : a.length + b.length ≤ sizeLine) (h : Q (.str (a ++ b)) M) : rAdd_ (.str a) (.str b) M Q := ⟨h0, h⟩
theorem e_sls {z : Str} {lo hi : Option Int} {M : Mem} {Q : VD} (h0 : z.length ≤ sizeLine) (h : Q (.str (cutS z lo hi)) M) : rSl_ (.str z) lo hi M Q := ⟨h0, h⟩
theorem sum_ones (cs : List Nat) : ((cs.map fun c => (⟨#[c]⟩ : Str)).map (·.length)).sum = cs.length := by
  induction cs with
  | nil => rfl
  | cons c r ih => simp at ih ⊢; rw [ih]; show 1 + _ = _; omega
end DL
namespace DL
open PySem PySem.Spec PyProof.Rows L2 Mt
theorem e_tyS {z : Str} {M : Mem} {p : Prop} (h : p) : tyB "str" M (.str z) = true ∧ p := ⟨by show ("str" == "str") = true; decide +kernel, h⟩
abbrev Rg1 (M M' : Mem) : Prop := ∃ r : Rng, r.Ok ∧ M' = M ++ [some r.mo]
def drawSp : DSp := fun ds M Q E => ∃ (i : Nat) (m : Int), ds = [.mt i, .int m] ∧ RgAt M i ∧ 0 < m ∧ m < 2 ^ 8000 ∧ ∀ (k : Int) (M' : Mem), RgTo M i M' → 0 ≤ k → k < m → Q (.int k) M'
def pickSp : DSp := fun ds M Q E => ∃ (i : Nat) (x : D) (xs : List D), ds = [.mt i, x] ∧ RgAt M i ∧ PkD x xs ∧ xs ≠ [] ∧ xs.length ≤ sizeLine ∧ ∀ (d : D) (M' : Mem), RgTo M i M' → d ∈ xs → Q d M'
theorem draw_last {M M' : Mem} {Q : VD} {E : XD} {m : Int} (g : Rg1 M M') (h0 : 0 < m) (h1 : m < 2 ^ 64) (h : ∀ (k : Int) (M' : Mem), Rg1 M M' → 0 ≤ k → k < m → Q (.int k) M') : drawSp [D.mt M.length, .int m] M' Q E := by
  obtain ⟨r, ok, rfl⟩ := g
  exact ⟨_, _, rfl, .last ok, h0, Int.lt_trans h1 (by decide +kernel), fun k M'' t k0 k1 => h k M'' t.last k0 k1⟩
theorem pick_last {M M' : Mem} {Q : VD} {E : XD} {x : D} {xs : List D} (g : Rg1 M M') (hx : PkD x xs) (h0 : xs ≠ []) (h1 : xs.length ≤ sizeLine) (h : ∀ (d : D) (M' : Mem), Rg1 M M' → d ∈ xs → Q d M') : pickSp [D.mt M.length, x] M' Q E := by
  obtain ⟨r, ok, rfl⟩ := g
  exact ⟨_, _, xs, rfl, .last ok, hx, h0, h1, fun d M'' t hd => h d M'' t.last hd⟩
end DL
namespace DL
theorem fmod_abs {a b : Int} (h : b ≠ 0) : (a.fmod b).natAbs < b.natAbs := by
  rcases Int.lt_or_gt_of_ne h with h | h
  · have e := Int.neg_fmod_neg (-a) (-b)
    rw [Int.neg_neg, Int.neg_neg] at e
    have h1 := Int.fmod_nonneg_of_pos (-a) (b := -b) (by omega)
    have h2 := Int.fmod_lt_of_pos (-a) (b := -b) (by omega)
    rw [e]; omega
  · have h1 := Int.fmod_nonneg_of_pos a h
    have h2 := Int.fmod_lt_of_pos a h
    omega
theorem fmod_gcd (a b : Int) : Int.gcd b (a.fmod b) = Int.gcd a b := by
  rw [Int.fmod_def, Int.gcd_sub_mul_left_right, Int.gcd_comm]
end DL

namespace DL
open PySem PySem.Spec PyProof.Rows L2 Mt
/-- what a law promises -/
def lawSp : DSp := fun ds M Q E => ∃ ns : List Int, ns.length ≤ 63 ∧ ds = [.rol (ns.map D.int)] ∧ Q (.bl true) M
theorem rps_ints {K : PySem.W.Frag} {al : Al} {M : Mem} {H : Hp} : ∀ ns : List Int, Rps K al M H (ns.map D.int) (ns.map V.int)
  | [] => rfl
  | n :: r => ⟨_, _, rfl, rfl, rps_ints r⟩
theorem law_start {K : PySem.W.Frag} {dsp : DSp} (hl : ∀ ds Q E, lawSp ds [] Q E → dsp ds [] Q E) {H : Hp} {a : Addr} {ns : List Int} (l : ns.length ≤ 63) (h : SqL K H a (ns.map V.int)) :
    liftSp K [] dsp [.ref a] H (fun v _ => v = .bl true) fun _ _ _ => False := by
  refine ⟨⟨[], []⟩, [], [.rol (ns.map D.int)], fun d _ => d = .bl true, fun _ _ => False, ⟨rfl, List.nodup_nil, (fun i a mo e => by simp at e), (fun i a e => by simp at e), ?_, (fun a h => by cases h), (fun i a mo e => by simp at e)⟩, ⟨_, _, rfl, ⟨a, ns.map V.int, rfl, ?_, rps_ints ns⟩, rfl⟩, hl _ _ _ ⟨ns, l, rfl, rfl⟩, ?_, ?_⟩
  · intro t ht; cases ht
  · rcases h with h | h
    · exact .inl ⟨h, ⟨(fun h => by cases h), (fun i mo e => by simp at e)⟩⟩
    · exact .inr (.inr h)
  · intro al' d M' v H' s w r q
    subst q
    exact r
  · intro al' y M' cls dct H' s w r q
    exact q
theorem cx_false {P : Program} {w : World} (H : Hp) (s : Shared) (e : Value) (s' : Shared) (h : L2.CX P w [] H s (fun _ _ _ => False) e s') : False := by
  obtain ⟨_, _, _, _, _, _, _, _, _, _, _, _, z⟩ := h
  exact z
end DL
namespace DL
open PySem PySem.Spec PyProof.Rows L2
/-- a law's end; what a call lets out may speak of the world -/
theorem walk_w {l : PySem.W.OpenLaw} {n k : Nat} {q : Program} {loose : List Str} {XP : (Str → Option Value) → Heap → Prop} {YP : World → Heap → Prop} {d : DefRec} {x : Str} {dsp : DSp}
    (hn : l.most = some n) (hn2 : n ≤ 63) (hdf : d.params.defaults = []) (hr : Room k callerA) (hl : ∀ ds Q E, lawSp ds [] Q E → dsp ds [] Q E)
    (F : ∀ (w : World) (mg : Str → Option Value) (fa : Addr) (h : Heap), YP w h → h.Ns mainGlobals mg → mg d.name = some (.ref fa) →
      ∃ (K : PySem.W.Frag) (fd : FuncData), K.In h ∧ (∀ (s : Shared) (u : Value), BindsTo s fd ⟨[u], []⟩ [(x, u)]) ∧ ∀ base : Heap, K.In base → base.Ns mainGlobals mg → FnD l.prog w K mg base [] k fa fd [x] dsp) :
    PySem.W.WalkO q loose XP YP l.row.toRowW d [] (fun f vs => PySem.call f vs) := by
  refine Att.attach_call hn hdf fun w s₀ s₁ mg mb fa o pm cd doc a vs ns G Y ho hd hcd hmg hobj hints hlen hg => ?_
  obtain ⟨K, fd, KX, hb, hF⟩ := F w mg fa _ Y G.T.g hmg
  exact law_call KX G.T.g G.T.b G.T.builtins G.T.nolimit hg hobj hints (Nat.le_trans hlen (Nat.le_trans hn2 (by decide))) hr (fun base h1 h2 => (hF base h1 h2).ok) hb (fun H _ hS => law_start hl (Nat.le_trans hlen hn2) hS) fun H e s' => cx_false H s₁ e s'
end DL
namespace DL
open PySem PySem.Spec PyProof.Rows L2
section
variable {K : PySem.W.Frag} {h : Heap} {mg : Str → Option Value}
theorem cc_str (X : K.In h) (G : h.Ns mainGlobals mg) {x z : Str} (c : (He.Fa.str x z).ok K = true) : CcD K mg x (.str z) := by
  obtain ⟨t, e⟩ := He.str_ok X G c
  exact ⟨.str z, _, e, ⟨t, rfl⟩, fun _ _ _ => rfl⟩
theorem cc_int (X : K.In h) (G : h.Ns mainGlobals mg) {x : Str} {i : Int} (c : (He.Fa.int x i).ok K = true) : CcD K mg x (.int i) := by
  obtain ⟨t, e⟩ := He.int_ok X G c
  exact ⟨.int i, _, e, ⟨t, rfl⟩, fun _ _ _ => rfl⟩
end
end DL

/-! exceptions: a caught one is a tracked thing -/
namespace DL
open PySem PySem.Spec PyProof.Rows L2
theorem exs_ok {P : Program} {w : World} {H : Hp} {h : Heap} {a : Addr} {cls : Value} {d : Option Addr} {oe : Obj} {vs : Array Value} (e : h.get? a = some oe) (z : Zc cls d oe) (hd : oe.data = .fields vs) : ObjOk P w H h a (exs a cls d) :=
  ⟨⟨oe, vs, e, z, hd⟩, ⟨oe, e⟩, fun _ _ ⟨o, v, q, r⟩ k => ⟨o, v, k o q, r⟩⟩
theorem exs_at {P : Program} {w : World} {H : Hp} {h : Heap} {a : Addr} {cls : Value} {d : Option Addr} (hok : HOk P w H h) (e : H a = some (exs a cls d)) : ∃ (oe : Obj) (vs : Array Value), h.get? a = some oe ∧ Zc cls d oe ∧ oe.data = .fields vs := (hok a _ e).1
section
variable {X : Cx} {pins : List (Addr × Obj)} {σ : L2.St} {H : Hp} {s : Shared} {a : Addr} {oe : Obj} {vs : Array Value} {cls : Value} {d : Option Addr}
theorem inv_track (I : Inv X pins σ H s) (ha : s.heap.get? a = some oe) (hz : Zc cls d oe) (hd : oe.data = .fields vs) (na : H a = none) (nL : a ≠ X.env.locals) (n0 : X.s_0.heap.get? a = none) (npin : ∀ p ∈ X.pn ++ pins, p.1 ≠ a) : Inv X pins σ (upd H a (exs a cls d)) s := by
  have ne : ∀ {b : Addr} {u : HO}, H b = some u → b ≠ a := fun {b u} e z => by rw [z, na] at e; cases e
  refine ⟨I.ok, I.os, I.bare, ⟨I.base.keep, I.base.slot, fun b o e n hx => ?_, I.base.there, fun b xs e => ?_, fun b o u e => ?_, fun b ps e => ?_⟩, I.loc, I.cell, ?_, fun x c e => ?_, fun p hp => ?_, ?_, I.len⟩
  · rw [upd_ne (fun z => by rw [z, n0] at e; cases e)]; exact I.base.free b o e n hx
  · have q := I.base.tups b xs e; rw [upd_ne (ne q)]; exact q
  · have q := I.base.frzs b o u e; rw [upd_ne (ne q)]; exact q
  · obtain ⟨m, q⟩ := I.base.tbls b ps e; exact ⟨m, by rw [upd_ne (ne q)]; exact q⟩
  · rw [upd_ne (Ne.symm nL)]; exact I.free
  · rw [upd_ne (fun z => ?_)]
    · exact I.freeC x c e
    · obtain ⟨v, o, ho, hc⟩ := I.cell x c e
      rw [z, ha] at ho; cases ho; rw [hd] at hc; cases hc
  · obtain ⟨h1, h2, h3⟩ := I.pin p hp
    exact ⟨h1, by rw [upd_ne (npin p hp)]; exact h2, h3⟩
  · exact I.hok.laidN (fun _ _ e => e) na (exs_ok ha hz hd)
theorem inv_suite0 (I : Inv X pins σ H s) (a : Addr) : Inv (X.suite a (X.pn ++ pins)) [] σ H s :=
  ⟨I.ok.suite _ _, I.os, I.bare, I.base, I.loc, I.cell, I.free, I.freeC, fun p hp => I.pin p (by rw [List.append_nil] at hp; exact hp), I.hok, I.len⟩
theorem inv_unsuite0 {pn' : List (Addr × Obj)} (I : Inv (X.suite a (X.pn ++ pins)) pn' σ H s) (ok : X.Ok) : Inv X pins σ H s :=
  ⟨ok, I.os, I.bare, I.base, I.loc, I.cell, I.free, I.freeC, fun p hp => I.pin p (List.mem_append_left _ hp), I.hok, I.len⟩
theorem flying_push {B h : Heap} {l : List Env} {Z : Obj → Prop} {h' : Heap} (fl : HandSPX.FlyingZ B l a Z h) (k : ∀ b o, h.get? b = some o → h'.get? b = some o) : HandSPX.FlyingZ B l a Z h' := by
  obtain ⟨k1, k2, k3, oe, vs, T, oT, ts', he, hz, hd, h1, h2, h3, hT, hr⟩ := fl
  exact ⟨fun b o q => k b o (k1 b o q), k2, k3.of_keeps fun b o q _ => ⟨o, k b o q, rfl⟩, oe, vs, T, oT, ts', k _ _ he, hz, hd, h1, h2, h3, k _ _ hT, hr⟩
end
/-- what 'except (..) as n' wishes of an exception -/
def wAsT (K : PySem.W.Frag) (n : Nat) (cs : List Value) (i : Nat) (ts : TS) (Wout : WX) (D : Ends) : WX := fun cls d σ H =>
  ∃ b, PySem.W.exmAny K cls cs = some b ∧ (b = true → σ.length = n → ∀ a, H a = none → ts { nx := fun σ' H' => D.nx (σ'.set i none) H', rt := D.rt, bk := fun σ' H' => D.bk (σ'.set i none) H', ct := fun σ' H' => D.ct (σ'.set i none) H' } (σ.set i (some (.ref a))) (upd H a (exs a cls d))) ∧
    (b = false → Wout cls d σ H)
section
variable {X : Cx} {x1 x2 x3 n : Str} {c1 c2 c3 : Value} {i : Nat} {body suite : List Stmt} {b₀ : Stmt} {p1 p2 p3 tp pos pos' : Pos} {kk : Nat} {tb : WX → TS} {ts : TS} {Wout : WX}
theorem name_ok {X : Cx} {pins : List (Addr × Obj)} {σ : L2.St} {H : Hp} {s : Shared} {x : Str} {c : Value} {np : Pos} {Q : Value → Shared → Prop} {E : Value → Shared → Prop} (I : Inv X pins σ H s) (hc : Names X x c) (q : Q c s) : wpAny (model X.prog X.w) X.A (eval (.Name x np) X.env) Q E s := by
  obtain ⟨hg, hdbg, hm | ⟨hm, hv, hnn⟩⟩ := hc
  · exact ld_glob I hg hm q hdbg
  · exact ld_blt I hg hm hv q hnn hdbg
theorem ps_try_asT (hex : X.ex = []) (hs : X.stack = X.env :: X.outer) (hf : X.env.frame = some X.env.locals) (hN : X.N.Nodup) (hi : X.N[i]? = some n) (hln : X.env.kindOf n = some .local) (hc1 : Names X x1 c1) (hc2 : Names X x2 c2) (hc3 : Names X x3 c3) (tk : Takes X Wout)
    (hb : ∀ (W : WX) (pn : List (Addr × Obj)) (xe : Value → Shared → Prop), Takes (X.tr pn xe) W → PassesOwn (model X.prog X.w) X.A X.env xe → PSs (X.tr pn xe) body (tb W))
    (hsu : ∀ (a : Addr) (pn : List (Addr × Obj)), PSs (X.suite a pn) (b₀ :: suite) ts) :
    PS X (.Try body [.ExceptHandler (some (.Tuple [.Name x1 p1, .Name x2 p2, .Name x3 p3] kk tp)) (some n) (b₀ :: suite) pos'] [] [] pos) (fun D σ H => tb (wAsT X.K X.N.length [c1, c2, c3] i ts Wout D) D σ H) := by
  refine ⟨fun pins s σ H D I h => ?_⟩
  have ok := I.ok
  have hfr : X.A.frames = some (X.env :: X.outer) := by rw [ok.frames, hs]
  have hloc : Loc X.env.scope n := .inl hln
  refine wpAny_Try_except ?_
  refine wpAny_mono ((hb (wAsT X.K X.N.length [c1, c2, c3] i ts Wout D) (X.pn ++ pins) _ (fun u s' xx => ?_) PassesOwn.looking).run [] s σ H D (I.toTry _) h) (fun f s1 hsp => ?_) (fun e s1 he => he)
  · obtain ⟨a, B, sI, pins', σ', H', cls, d, rfl, J', nb, up, sky, na, os, ag, b, hb1, hyes, hno⟩ := xx
    have J : Inv X pins σ' H' sI := J'.ofTry ok
    have sky' : Sky B (X.env :: X.outer) a (Zc cls d) X.env.locals s'.heap := by rw [← hs]; exact sky
    show wpAny (model X.prog X.w) X.A (noteFrame (.ref a) X.env) _ _ _
    refine Sky.land Zc.steady hfr hf sky' fun h3 fl3 up3 => ?_
    have J3 : Inv X pins σ' H' { s' with heap := h3 } := J.landed nb fl3.1 (up.trans up3) os ag
    obtain ⟨oe3, vs3, he3, hz3, hd3⟩ := fl3.there
    have nfr : a ∉ frs (X.env :: X.outer) := fun hm => by
      obtain ⟨_, o', e', hnf⟩ := fl3.2.2.1.mem hm
      rw [he3] at e'; cases e'
      exact hnf _ hd3
    have nL : a ≠ X.env.locals := fun z => nfr (List.mem_filterMap.mpr ⟨X.env, List.mem_cons_self, by rw [hf, z]⟩)
    have n0 : X.s_0.heap.get? a = none := by
      cases e : X.s_0.heap.get? a with
      | none => rfl
      | some o =>
        obtain ⟨o', e'⟩ := J.base.there a o e (by rw [hex]; exact fun z => nomatch z)
        have := nb a o' e' (by rw [hs]; exact nfr)
        rw [fl3.2.1] at this; cases this
    have npin : ∀ p ∈ X.pn ++ pins, p.1 ≠ a := fun p hp z => by
      obtain ⟨e, _, l, f, _⟩ := J.pin p hp
      have := nb p.1 p.2 e (by
        rw [hs]
        intro hm
        obtain ⟨en, he, q⟩ := List.mem_filterMap.mp hm
        rcases List.mem_cons.mp he with rfl | he
        · rw [hf] at q; exact l (Option.some.inj q).symm
        · exact f (List.mem_filterMap.mpr ⟨en, he, q⟩))
      rw [z, fl3.2.1] at this; cases this
    refine wpAny_handleBy_cons (codeAny_handlers_test ?_) (by intro q; cases q)
    have LT : PySem.W.Looks (model X.prog X.w) h3 (typeOf (.ref a)) cls := fun A Q E s k q => wpAny_typeOf_ref (k _ _ he3) (by rw [hz3.1]; exact q)
    have S3 := inv_suite0 J3 a
    refine wpAny_Tuple ?_
    refine wpAny_items_cons (name_ok (X := X.suite a (X.pn ++ pins)) S3 hc1 ?_)
    refine wpAny_items_cons (name_ok (X := X.suite a (X.pn ++ pins)) S3 hc2 ?_)
    refine wpAny_items_cons (name_ok (X := X.suite a (X.pn ++ pins)) S3 hc3 ?_)
    refine wpAny_items_nil ⟨by size_fits, ?_⟩
    have kp : ∀ q o, h3.get? q = some o → (h3.push { cls := .type "tuple", data := .seq [c1, c2, c3].toArray }).get? q = some o := fun _ _ z => Heap.get?_push_of_some _ z
    have LM := PySem.W.exm_tup3 (M := model X.prog X.w) (J3.kIn.keeps kp) (LT.keeps kp) (Heap.get?_push_size h3 rfl) hb1
    have fl3 := flying_push fl3 kp
    have up3 := up3.trans (Heap.UpToSlots.of_keeps kp)
    refine LM.here ?_
    generalize h3.push { cls := .type "tuple", data := .seq [c1, c2, c3].toArray } = h3 at fl3 up3 ⊢
    cases b with
    | true =>
      refine codeAny_handlers_suite_as ?_
      refine HandSPX.lands_againZ fl3 fun h4 fl4 up4 => ?_
      have J4 : Inv X pins σ' H' { s' with heap := h4 } := J.landed nb fl4.1 ((up.trans up3).trans up4) os ag
      obtain ⟨oe4, vs4, he4, hz4, hd4⟩ := fl4.there
      have S4 := inv_suite0 (inv_track J4 he4 hz4 hd4 na nL n0 npin) a
      refine store_ok (X := X.suite a (X.pn ++ pins)) (v := .ref a) S4 hN hi hloc rfl (fun s5 S5 => ?_) (.inr hln)
      refine wpAny_mono ((hsu a (X.pn ++ pins)).run [] s5 _ _ _ S5 (hyes rfl J.len a na)) (fun f s6 hsp => ?_) (fun _ _ z => False.elim z)
      have end_ : ∀ {σ6 : L2.St} {H6 : Hp} {Q : Shared → Prop}, Inv (X.suite a (X.pn ++ pins)) [] σ6 H6 s6 → (∀ s7, Inv X pins (σ6.set i none) H6 s7 → Q s7) →
          wpAny (model X.prog X.w) X.A (do bindName X.env n .none; unbindBehindTheSuite X.env n pos') (fun _ s7 => Q s7) X.xe s6 := fun {σ6 H6 Q} S6 hq => gone_ok (inv_unsuite0 S6 ok) hN hi hln hq
      cases f with
      | next =>
        obtain ⟨σ6, H6, S6, q6⟩ := hsp
        exact end_ S6 fun s7 J7 => ⟨_, _, J7, q6⟩
      | brk =>
        obtain ⟨σ6, H6, S6, q6⟩ := hsp
        exact end_ S6 fun s7 J7 => ⟨_, _, J7, q6⟩
      | cont =>
        obtain ⟨σ6, H6, S6, q6⟩ := hsp
        exact end_ S6 fun s7 J7 => ⟨_, _, J7, q6⟩
      | ret u =>
        obtain ⟨v6, σ6, H6, S6, r6, q6⟩ := hsp
        exact end_ S6 fun s7 J7 => ⟨_, _, _, J7, r6, q6⟩
    | false =>
      show wpAny _ X.A (handleBy (.ref a) X.env []) _ _ _
      refine wpAny_handleBy_nil ?_
      obtain ⟨k1, k2, k3, oe, vs, T, oT, ts', he, hz, hd, h1, hr⟩ := _root_.id fl3
      unfold PySem.passOn
      refine wpAny_bind (wpAny_field he hd h1 ?_)
      rw [if_neg (show ¬ ((Value.ref T == Value.none) = true) from by simp)]
      have fin : wpAny (model X.prog X.w) X.A (setFlight (.ref a) X.env.frame) (fun _ s4 => wpAny (model X.prog X.w) X.A (throw (.ref a) : Sem Flow) (SP X pins D) X.xe s4) X.xe { s' with heap := h3 } := by
        rw [hf]
        exact HandSPX.setFlight_upZ fl3 fun h4 hh4 up4 => wpAny_throw (tk _ _ ⟨a, B, sI, pins, σ', H', cls, d, rfl, J, nb, (up.trans up3).trans up4, .inr (.inr (by rw [hs]; exact hh4)), na, os, ag, hno rfl⟩)
      first
        | exact wpAny_bind fin
        | exact wpAny_bind (wpAny_pure (wpAny_bind fin))
  · cases f with
    | next =>
      obtain ⟨σ', H', J', q⟩ := hsp
      exact wpAny_execs_nil ⟨σ', H', J'.ofTry ok, q⟩
    | brk =>
      obtain ⟨σ', H', J', q⟩ := hsp
      exact ⟨σ', H', J'.ofTry ok, q⟩
    | cont =>
      obtain ⟨σ', H', J', q⟩ := hsp
      exact ⟨σ', H', J'.ofTry ok, q⟩
    | ret u =>
      obtain ⟨v, σ', H', J', r, q⟩ := hsp
      exact ⟨v, σ', H', J'.ofTry ok, r, q⟩
end
/-- the field of a caught exception -/
def tXs (K : PySem.W.Frag) (f : Str) (te : TE) : TE := fun σ H Q => te σ H fun x H1 => ∃ (a C dd : Addr) (fs : List (Str × V)) (v : V), x = .ref a ∧ H1 a = some (exs a (.ref C) (some dd)) ∧ XfC K C ∧ PySem.W.findIn K (.ref C) f = some none ∧ H1 dd = some (.xd fs) ∧ fs.lookup f = some v ∧ Q v H1
theorem pe_xs {X : Cx} {e : Expr} {te : TE} {pos : Pos} {n : Str} (he : PE X e te) (hb : attributeBase e n X.env (eval e X.env) = eval e X.env := by rfl) : PE X (.Attribute e n pos) (tXs X.K n te) := by
  refine ⟨fun pins s σ H Q I h => ?_⟩
  refine attr_of hb (thn (he.run pins s σ H _ I h) fun u s1 hh => ?_)
  obtain ⟨x, H1, I1, rx, a, C, dd, fs, v, ex, e1, T, hno, ea, l, q⟩ := hh
  subst ex
  obtain rfl : u = Value.ref a := rx
  obtain ⟨oe, vs, ha, hz, hd⟩ := exs_at I1.hok e1
  have hx : ObjOk X.prog X.w H1 s1.heap dd (.xd fs) := I1.hok dd _ ea
  obtain ⟨mA, hns, hr⟩ := hx
  obtain ⟨od, ho, hl⟩ := lookIn_ns hns
  obtain ⟨u, hu, ru⟩ := RelO.some_of (v := v) (o := mA n) (by rw [← l]; exact hr n)
  have J : PySem.W.InstAt s1.heap a oe C (some od) := ⟨ha, hz.1, by unfold PySem.W.notCls; rw [hd] <;> rfl, by rw [hz.2]; exact ho⟩
  exact HandSPX.exc_get I1.kIn J T.ga T.gg T.exC (PySem.W.findObj_own T.hdC hno rfl (by rw [hl, hu])) (handed_of ru) ⟨v, H1, I1.tok _, ru, q⟩
end DL

/-! defs called in an except suite -/
namespace DL
open PySem PySem.Spec PyProof.Rows L2
abbrev RoomH := L2H.RoomH
theorem roomH_units {k : Nat} {A : Around} (r : RoomH k A) : A.units + 64 < cLine := by have := r.un; omega
structure FnC (P : Program) (w : World) (K : PySem.W.Frag) (mg : Str → Option Value) (base : Heap) (CX : CXT) (k : Nat) (f : Addr) (fd : FuncData) (ps : List Str) (sp : Sp) : Prop where
  len : ∀ vs H Q E, sp vs H Q E → vs.length = ps.length
  run : ∀ (A : Around) (outer : List Env) (s : Shared) (H : Hp) (args : Args) (us : List Value) (vs : List V) (Q : VK) (E : XK), RoomH k A → Env0 P w K mg base A outer s H → BindsTo s fd args (ps.zip us) → Vals vs us → sp vs H Q E →
    codeAny (model P w) A (.call (.ref f) args) (CR CX outer P w H s Q E) s
def cxC (CX : CXT) (P : Program) (w : World) (K : PySem.W.Frag) (mg : Str → Option Value) (base : Heap) (N : List Str) (qual : Str) (scope : Scope) (f : Addr) (cd : Value) (A : Around) (outer : List Env) (s : Shared) (H : Hp) (E : XK) : Cx :=
  { cxOf CX P w K mg base N qual scope f cd A outer s H E with calm := false }
theorem inv_startC {CX : CXT} {P : Program} {w : World} {K : PySem.W.Frag} {mg : Str → Option Value} {base : Heap} {N ps : List Str} {qual : Str} {scope : Scope} {f : Addr} {cd : Value} {A : Around} {outer : List Env} {s s1 : Shared} {H : Hp} {E : XK} {us : List Value} {vs : List V}
    (S : FnScope N ps scope) (e0 : Env0 P w K mg base A outer s H) (hl : vs.length = ps.length) (r : Vals vs us)
    (x : InCallC s s.heap.objs.size (bindL (envOfC qual scope s.heap.objs.size f cd).kindOf (ps.zip us) fun _ => none) (cellsFrom (s.heap.objs.size + 1) scope.names []) (bindC (envOfC qual scope s.heap.objs.size f cd).kindOf (ps.zip us) fun _ => none) s1) :
    Inv (cxC CX P w K mg base N qual scope f cd A outer s H E) [] (L2.start N vs) H s1 := by
  have e1 : Env0 P w K mg base ({ A with handled := none }) outer s H := ⟨e0.frames, e0.mod, e0.bs, e0.bsz, e0.funs, e0.frf, e0.hok, e0.bare⟩
  have I := inv_start (CX := CX) (E := E) S (A := { A with handled := none }) rfl e1 hl r x
  have o := I.ok
  exact ⟨⟨o.mod, o.kind, o.glob, o.blt, o.above, o.inj, o.has, o.cab, (fun z => Bool.noConfusion (show false = true from z)), Around.frames_deeper e0.frames, o.stk, o.exf, o.bs, o.bsz, o.noex, o.exfs, o.funs, o.frf⟩, I.os, I.bare, I.base, I.loc, I.cell, I.free, I.freeC, I.pin, I.hok, I.len⟩
section
variable {P : Program} {w : World} {K : PySem.W.Frag} {mg : Str → Option Value} {base : Heap} {x qual : Str} {params : Arguments} {body : List Stmt} {scope : Scope} {dvs : List V} {kws : List (Str × V)} {f : Addr} {fd : FuncData}
theorem fn_C {CX : CXT} {N ps : List Str} {k : Nat} {sp : Sp} (F : FunD K x qual params body scope dvs kws f fd) (S : FnScope N ps scope) (len : ∀ vs H Q E, sp vs H Q E → vs.length = ps.length)
    (hbody : ∀ (cdv : Value) (A : Around) (outer : List Env) (s : Shared) (H : Hp) (vs : List V) (Q : VK) (E : XK), RoomH k (A.deeper (envOfC qual scope s.heap.objs.size f cdv)) → sp vs H Q E →
      ∃ t, PSs (cxC CX P w K mg base N qual scope f cdv A outer s H E) body t ∧ t { nx := fun _ H' => Q .non H', rt := Q } (L2.start N vs) H) : FnC P w K mg base CX (k + 1) f fd ps sp := by
  obtain ⟨oc, od, dV, kV, doc, pm, an, cdv, ct, osl, rfl, lk, hcd, _, _⟩ := F.ex
  refine ⟨len, fun A outer s H args us vs Q E hr e0 hb r hsp => ?_⟩
  have hl := len _ _ _ _ hsp
  have KX : K.In s.heap := e0.mod.kin.keeps fun b o e => (e0.bs b o e).1
  have lim : s.heap.NoLimit := e0.mod.nolimit.keeps fun b o e => (e0.bs b o e).1
  have hkind : ∀ y ∈ ps.zip us, scope.names.lookup y.1 = some .local ∨ (scope.names.lookup y.1 = some .cell ∧ ((cellsFrom (s.heap.objs.size + 1) scope.names []).lookup y.1).isSome = true) := fun ⟨n, v⟩ hy => by
    rcases S.par n (List.of_mem_zip hy).1 with q | q
    · exact .inl q
    · exact .inr ⟨q, PySem.W.cellsFrom_some _ _ _ (.inl q)⟩
  refine codeAny_call_function hr.depth (KX _ _ lk) rfl S.co S.gen rfl (PySem.W.codeRec_of KX hcd) (hb _ _ _ _ ?_)
  refine wpAny_newFunctionEnv_cells S.kind hkind fun env he s1 x => ?_
  subst he
  refine ⟨lim.keeps x.toInCall.keep, codeAny_func ?_⟩
  obtain ⟨t, ht, hq⟩ := hbody cdv A outer s H vs Q E (hr.deeper _) hsp
  have I := inv_startC (CX := CX) (E := E) (P := P) (w := w) (K := K) (mg := mg) (base := base) (A := A) S e0 hl r x
  refine wpAny_mono (ht.run [] s1 (L2.start N vs) H _ I hq) (fun fl s' hs => ?_) fun e s' hs => hs
  cases fl with
  | ret u =>
    obtain ⟨v, σ', H', J, rv, q⟩ := hs
    exact ⟨v, H', J.os, J.bare, J.base, J.hok, rv, q⟩
  | next =>
    obtain ⟨σ', H', J, q⟩ := hs
    exact ⟨V.non, H', J.os, J.bare, J.base, J.hok, rfl, q⟩
  | brk =>
    obtain ⟨_, _, _, q⟩ := hs
    exact False.elim q
  | cont =>
    obtain ⟨_, _, _, q⟩ := hs
    exact False.elim q
end
section
variable {X : Cx} {CX : CXT} {k : Nat} {f : Addr} {fd : FuncData} {ps : List Str} {sp : Sp} {E : XK} {x : Str} {p pos : Pos} {e : Expr} {es : List Expr} {t : TA}
theorem pe_callC (F : FnC X.prog X.w X.K X.mg X.base CX k f fd ps sp) (hr : RoomH k X.A) (hg : Gl X x) (hm : X.mg x = some (.ref f)) (hk : PySem.W.keepIn X.K (.ref f) = true) (hb : Binds X.K fd ps []) (hx : Passes CX X E)
    (ha : PA X (e :: es) t) (hdb : (x == ("__debug__" : Str)) = false := by decide) (he : starEach (e :: es) X.env = (false, eval e X.env) :: starEach es X.env := by rfl) (hpl : (backTo pos (starEach es X.env)).any (·.1) = false := by rfl) :
    PE X (.Call (.Name x p) (e :: es) [] pos) (tCall sp [] E t) := by
  refine ⟨fun pins s σ H Q I h => ?_⟩
  refine wpAny_Call_Name_kw (ld_glob I hg hm ?_ hdb)
  refine PySem.W.callWith_K (h₀ := X.base) I.ok.mod.kin hk (thn (ha.run pos pins s σ H _ I h) fun us s1 ⟨vs, H1, I1, r, q⟩ => ⟨I1.kIn, ?_⟩) he hpl
  have q : sp (vs ++ []) H1 Q E := q
  rw [List.append_nil] at q
  have hl : us.length = ps.length := by rw [← r.length]; exact F.len _ _ _ _ q
  have b := hb s1 us I1.kIn (by rw [List.append_nil]; exact hl)
  rw [List.append_nil] at b
  refine wpAny_call (codeAny_mono (F.run X.A X.stack s1 H1 ⟨us, []⟩ us vs Q E hr I1.env0 b r q) fun r s' hq => ?_)
  cases r with
  | error e => exact hx pins σ H1 s1 e s' I1 hq
  | ok fl =>
    cases fl with
    | ret u => exact I1.after hq
    | next => exact False.elim hq
    | brk => exact False.elim hq
    | cont => exact False.elim hq
end
end DL

/-! own exceptions: made and raised -/
namespace DL
open PySem PySem.Spec PyProof.Rows L2
/-! ### the class -/
def oexB (K : PySem.W.Frag) (C : Addr) : Bool := (match K.lookup C with
  | some ⟨.type "type", _, .cls cd, sl⟩ => (match cd.mro, sl.toList with
    | .ref C' :: bm, [_, _, _, _, some (.builtin n), _] => C' == C && (n == "ValueError.__new__" && (!cd.hasDel && (cd.hasDict && PySem.HandSPX.refsVE bm)))
    | _, _ => false)
  | _ => false) && (decide (PySem.W.findIn K (.ref C) "__setattr__" = some (some (.builtin "object.__setattr__"))) && (decide (PySem.W.subIn K (.ref C) (.type "BaseException") = some true) && (decide (PySem.W.typeIn K (.ref C) = some (.type "type")) && PySem.W.keepIn K (.ref C))))
theorem oexB_ok {K : PySem.W.Frag} {C : Addr} (h : oexB K C = true) : OexC K C := by
  unfold oexB at h
  simp only [Bool.and_eq_true] at h
  obtain ⟨h0, h1, h2, h3, h4⟩ := h
  refine ⟨?_, of_decide_eq_true h1, of_decide_eq_true h2, of_decide_eq_true h3, h4⟩
  split at h0
  · rename_i dd cd sl ho
    split at h0
    · rename_i C' bm k0 k1 k2 k3 n k5 hm hs
      simp only [Bool.and_eq_true, beq_iff_eq, Bool.not_eq_true'] at h0
      obtain ⟨rfl, rfl, hdel, hdi, ht⟩ := h0
      obtain ⟨nm, bs, mro, ns, qn, hd, sn, sub, ab, col, del⟩ := cd
      dsimp only at hm hdel hdi
      subst hm hdel hdi
      have hsl : sl = #[k0, k1, k2, k3, some (.builtin "ValueError.__new__"), k5] := by
        obtain ⟨l⟩ := sl
        simp only at hs
        rw [hs]
      subst hsl
      exact ⟨nm, qn, ns, bs, bm, sn, sub, ab, col, dd, k0, k1, k2, k3, k5, ho, ht⟩
    · cases h0
  · cases h0
/-! ### __init__ -/
inductive FSrc where
  | k (z : Str) | p (i : Nat)
def FSrc.v (ws : List V) : FSrc → V
  | .k z => .str z
  | .p i => ws.getD i .non
def FSrc.d (ds : List D) : FSrc → D
  | .k z => .str z
  | .p i => ds.getD i .non
abbrev FL := List (Str × FSrc)
def FL.v (fl : FL) (ws : List V) : List (Str × V) := fl.map fun q => (q.1, q.2.v ws)
def FL.d (fl : FL) (ds : List D) : List (Str × D) := fl.map fun q => (q.1, q.2.d ds)
theorem getD_rp {K : PySem.W.Frag} {al : Al} {M : Mem} {H : Hp} : ∀ {ds : List D} {ws : List V} (i : Nat), Rps K al M H ds ws → Rp K al M H (ds.getD i .non) (ws.getD i .non)
  | [], _, _, h => by cases (show _ = [] from h); rfl
  | d :: ds, _, 0, h => by obtain ⟨x, r, rfl, q, t⟩ := h; exact q
  | d :: ds, _, i + 1, h => by obtain ⟨x, r, rfl, q, t⟩ := h; exact getD_rp (ds := ds) (ws := r) i t
theorem fl_rpk {K : PySem.W.Frag} {al : Al} {M : Mem} {H : Hp} {ds : List D} {ws : List V} (h : Rps K al M H ds ws) : ∀ fl : FL, Rpk K al M H (fl.d ds) (fl.v ws)
  | [] => Rpk.nil
  | (f, .k z) :: r => Rpk.cons rfl (fl_rpk h r)
  | (f, .p i) :: r => Rpk.cons (getD_rp i h) (fl_rpk h r)
/-- the heap where the exception at a has the fields fs at dx -/
def xH (H : Hp) (a C dx : Addr) (fs : List (Str × V)) : Hp := upd (upd H dx (exd dx fs)) a (exo a C (some dx))
def spX (C : Addr) (fl : FL) (n : Nat) : Sp := fun vs H Q E => ∃ a ws, vs = .ref a :: ws ∧ ws.length = n ∧ H a = some (exo a C none) ∧ ∀ dx, H dx = none → dx ≠ a → Q .non (xH H a C dx (fl.v ws))
def EvT (σ : L2.St) (te : TE) (y : V) : Prop := ∀ (H : Hp) (Q : VK), Q y H → te σ H Q
theorem ev_c {σ : L2.St} {v : V} : EvT σ (tC v) v := fun _ _ h => h
theorem ev_var {σ : L2.St} {i : Nat} {v : V} (h : σ[i]? = some (some v)) : EvT σ (tVar i) v := fun _ _ q => ⟨v, h, q⟩
section
variable {K : PySem.W.Frag} {C a dx : Addr} {f : Str} {to te : TE} {D : Ends} {σ : L2.St} {H : Hp} {y : V} {fs : List (Str × V)}
theorem init_first (T : OexC K C) (hf : PySem.W.findIn K (.ref C) f = some none) (h0 : H a = some (exo a C none)) (ev : EvT σ te y) (es : EvT σ to (.ref a)) (k : ∀ dx, H dx = none → dx ≠ a → D.nx σ (xH H a C dx [(f, y)])) : tOst K f to te D σ H :=
  ev _ _ (es _ _ ⟨a, C, rfl, T, hf, .inl ⟨h0, k⟩⟩)
theorem init_next (T : OexC K C) (hf : PySem.W.findIn K (.ref C) f = some none) (hne : dx ≠ a) (hl : fs.length ≤ 900) (ev : EvT σ te y) (es : EvT σ to (.ref a)) (k : D.nx σ (xH H a C dx ((f, y) :: fs))) : tOst K f to te D σ (xH H a C dx fs) :=
  ev _ _ (es _ _ ⟨a, C, rfl, T, hf, .inr ⟨dx, fs, upd_same, by unfold xH; rw [upd_ne hne, upd_same], hl, by
    have e : upd (xH H a C dx fs) dx (exd dx ((f, y) :: fs)) = xH H a C dx ((f, y) :: fs) := by
      funext b
      unfold xH
      by_cases h1 : b = dx
      · subst h1; rw [upd_same, upd_ne hne, upd_same]
      · rw [upd_ne h1]
        by_cases h2 : b = a
        · subst h2; rw [upd_same, upd_same]
        · rw [upd_ne h2, upd_ne h1, upd_ne h2, upd_ne h1]
    rw [e]; exact k⟩⟩)
end
/-! ### C() -/
section
variable {X : Cx} {p pos : Pos}
theorem pmk_oex0 {CX : CXT} {x : Str} {C fI : Addr} {k : Nat} {fd : FuncData} {ps : List Str} {sp : Sp} (T : OexC X.K C) (iC : PySem.W.findIn X.K (.ref C) "__init__" = some (some (.ref fI))) (tI : PySem.W.typeIn X.K (.ref fI) = some (.type "function"))
    (F1 : FnOk X.prog X.w X.K X.mg X.base CX k fI fd ps sp) (hr : Room (k + 1) X.A) (hb : Binds X.K fd ps []) (hx : Passes CX X (fun _ _ _ => False)) (hg : Gl X x) (hm : X.mg x = some (.ref C))
    (hdb : (x == ("__debug__" : Str)) = false := by decide) : PMk X (.Call (.Name x p) [] [] pos) (tMkO C sp [] tNil) := by
  intro pins s σ H Q I h
  obtain ⟨nm, q, N, bs, bm, sn, sub, ab, col, dd, k0, k1, k2, k3, k5, hC, hbm⟩ := T.cls
  refine wpAny_Call_Name_kw (ld_glob I hg hm ?_ hdb)
  refine PySem.W.callWith_K0 I.kIn T.kC ?_
  obtain ⟨hz, q1⟩ := h
  obtain ⟨hp, g, dr, tk, os⟩ := s
  have hsz : hp.objs.size ≤ hp.objs.size + 1 := Nat.le_succ _
  have hn : H (hp.objs.size + 1) = none := I.hok.fresh hsz
  have hq := q1 (hp.objs.size + 1) hn
  have kk : ∀ b o, hp.get? b = some o → ((hp.push (PySem.W.kdv_tup [])).push (PySem.HandSPX.excO C hp.objs.size)).get? b = some o := fun b o e => Heap.get?_push_of_some _ (Heap.get?_push_of_some _ e)
  have hget : ((hp.push (PySem.W.kdv_tup [])).push (PySem.HandSPX.excO C hp.objs.size)).get? (hp.objs.size + 1) = some (PySem.HandSPX.excO C hp.objs.size) := by heap_get
  have I2 : Inv X pins σ (upd H (hp.objs.size + 1) (exo (hp.objs.size + 1) C none)) ⟨(hp.push (PySem.W.kdv_tup [])).push (PySem.HandSPX.excO C hp.objs.size), g, dr, tk, os⟩ :=
    I.laid (t' := tk) (a := hp.objs.size + 1) (o := exo (hp.objs.size + 1) C none) (h' := (hp.push (PySem.W.kdv_tup [])).push (PySem.HandSPX.excO C hp.objs.size)) kk hsz (exo_ok hget)
  have r2 : Vals [V.ref (hp.objs.size + 1)] [Value.ref (hp.objs.size + 1)] := .cons rfl .nil
  have hl : [Value.ref (hp.objs.size + 1)].length = ps.length := by
    have e := F1.len _ _ _ _ hq
    exact e
  refine wpAny_call (PySem.HandSPX.call_own F.excBase_ValueError (fun Y => PySem.HandSPX.refsVE_contains Y bm hbm) (I.kIn _ _ hC) (PySem.W.looks_findIn I.kIn iC) (fun self => PySem.W.bind_fn I.kIn self tI) (show ([] : List Value).length ≤ sizeLine by decide)
    (codeAny_mono (F1.run _ X.stack _ _ ⟨[Value.ref (hp.objs.size + 1)], []⟩ [Value.ref (hp.objs.size + 1)] _ _ (fun _ _ _ => False) (hr.make C [] []) (I2.env0.make C [] []) (by have := hb _ [Value.ref (hp.objs.size + 1)] I2.kIn hl; exact this) r2 hq) fun r s' hq' => ?_))
  cases r with
  | error er => exact hx pins σ _ _ er s' I2 hq'
  | ok fl =>
    cases fl with
    | ret u =>
      obtain ⟨v, H2, os2, bare2, un2, hok2, rv, ev, d, fs, ea, ed, hd1, q2⟩ := hq'
      subst ev
      obtain ⟨h2, g2, d2, t2, os'⟩ := s'
      exact ⟨rv, mk_end (raises_own T.exC T.tyC) I hsz kk un2 hok2 os2 bare2 ea ed hd1 q2⟩
    | next => exact False.elim hq'
    | brk => exact False.elim hq'
    | cont => exact False.elim hq'
end
end DL
namespace DL
open PySem PySem.Spec PyProof.Rows L2
/-- an own exception class that is raised: where it stands, its fields -/
structure XCal (P : Program) (w : World) (K : PySem.W.Frag) (mg : Str → Option Value) (base : Heap) (x : Str) (fl : FL) (n k : Nat) where
  T : OexC K (He.ga K x)
  fI : Addr
  fdI : FuncData
  psI : List Str
  iC : PySem.W.findIn K (.ref (He.ga K x)) "__init__" = some (some (.ref fI))
  tI : PySem.W.typeIn K (.ref fI) = some (.type "function")
  fn : FnOk P w K mg base (L2.CX P w) k fI fdI psI (spX (He.ga K x) fl n)
  bd : Binds K fdI psI []
  mgx : mg x = some (.ref (He.ga K x))
abbrev dRaise (C : Addr) (fl : FL) (n : Nat) (t : TAD) : TSD := fun E DD rho M => t E rho M fun ds M1 => ds.length = n ∧ n ≤ 1000 ∧ E ⟨C, fl.d ds⟩ M1
section
variable {X : Cx} {Tb : List (Addr × Str)} {EV : XK} {x : Str} {fl : FL} {n k : Nat} {t : TAD} {e : Expr} {es : List Expr} {p pos pos' : Pos}
theorem raise_lift {C : Addr} {σ : L2.St} {H : Hp} {DV : Ends} (h : ∃ al rho M E DD, At X.K Tb EV al σ H rho M E ∧ dRaise C fl n t E DD rho M ∧ PostE X.K Tb al M H DD DV) : tMkO C (spX C fl n) [] (liftA X.K Tb EV t) σ H (fun cls d H' => EV cls d H') := by
  obtain ⟨al, rho, M, E, DD, a, t, p⟩ := h
  refine seqA a t fun al1 ds M1 vs H1 s1 a1 r1 q1 => ⟨by rw [← r1.length, q1.1]; exact q1.2.1, fun b hb => ?_⟩
  rw [List.append_nil]
  refine ⟨b, vs, rfl, by rw [← r1.length]; exact q1.1, upd_same, fun dx hdx hne => ⟨rfl, dx, fl.v vs, upd_same, by unfold xH; rw [upd_ne hne, upd_same], ?_, ?_⟩⟩
  · rw [upd_ne hne] at hdx; exact hdx
  · have hd1 : H1 dx = none := by rw [upd_ne hne] at hdx; exact hdx
    have e : upd (L2.del (xH (upd H1 b (exo b C none)) b C dx (fl.v vs)) b) dx (.xd (fl.v vs)) = upd H1 dx (.xd (fl.v vs)) := by
      funext c
      by_cases h1 : c = dx
      · subst h1; rw [upd_same, upd_same]
      · rw [upd_ne h1, upd_ne h1]
        by_cases h2 : c = b
        · subst h2; rw [del_same, hb]
        · rw [del_ne h2]
          unfold xH
          rw [upd_ne h2, upd_ne h1, upd_ne h2]
    rw [e]
    exact a1.ex al1 ⟨C, fl.d ds⟩ M1 (.ref C) (some dx) _ (stp_new a1.wf hd1 _) (wf_new a1.wf hd1 _) ⟨rfl, dx, fl.v vs, rfl, upd_same, fl_rpk (r1.mono (stp_new a1.wf hd1 _)) fl⟩ q1.2.2
theorem dp_raise {K : PySem.W.Frag} (c : XCal X.prog X.w K X.mg X.base x fl n k) (hr : Room (k + 1) X.A) (hc : X.calm = true) (tk : Takes X (fun cls d _ H => EV cls d H)) (hx : Passes (L2.CX X.prog X.w) X (fun _ _ _ => False)) (hg : Gl X x) (ha : PDA X Tb EV (e :: es) t) (hK : X.K = K := by rfl)
    (hdb : (x == ("__debug__" : Str)) = false := by decide) (he : starEach (e :: es) X.env = (false, eval e X.env) :: starEach es X.env := by rfl) (hpl : (backTo pos (starEach es X.env)).any (·.1) = false := by rfl) :
    PDS X Tb EV (.Raise (some (.Call (.Name x p) (e :: es) [] pos)) none pos') (dRaise (He.ga K x) fl n t) := by
  subst hK
  exact ps_imp (ps_raise hc tk (pmk_oex c.T c.iC c.tI c.fn hr c.bd .nil hx hg c.mgx ha hdb he hpl)) fun DV σ H h => raise_lift h
theorem dp_raise0 {K : PySem.W.Frag} (c : XCal X.prog X.w K X.mg X.base x fl n k) (hr : Room (k + 1) X.A) (hc : X.calm = true) (tk : Takes X (fun cls d _ H => EV cls d H)) (hx : Passes (L2.CX X.prog X.w) X (fun _ _ _ => False)) (hg : Gl X x) (hK : X.K = K := by rfl)
    (hdb : (x == ("__debug__" : Str)) = false := by decide) :
    PDS X Tb EV (.Raise (some (.Call (.Name x p) [] [] pos)) none pos') (dRaise (He.ga K x) fl n dNil) := by
  subst hK
  exact ps_imp (ps_raise hc tk (pmk_oex0 c.T c.iC c.tI c.fn hr c.bd hx hg c.mgx hdb)) fun DV σ H h => by
    obtain ⟨al, rho, M, E, DD, a, t, p⟩ := h
    exact raise_lift (t := dNil) (X := X) (Tb := Tb) ⟨al, rho, M, E, DD, a, t, p⟩ |> fun z => by
      obtain ⟨al', rho', M', E', Q', a', t', p'⟩ := z
      exact p' al' [] M' [] H (Stp.refl ..) a'.wf rfl t'
end
end DL

/-! told: the outcome of a lambda -/
namespace DL
open PySem PySem.Spec PyProof.Rows L2
/-! ### the fields of a caught exception -/
def dXf (K : PySem.W.Frag) (f : Str) (t : TED) : TED := fun E rho M Q => t E rho M fun x M1 => match x with
  | .exc C ns xs => XfC K C ∧ PySem.W.findIn K (.ref C) f = some none ∧ (match (ns.zip xs).lookup f with
    | some d => Q d M1
    | none => False)
  | _ => False
theorem rps_lookup {K : PySem.W.Frag} {al : Al} {M : Mem} {H : Hp} {f : Str} : ∀ {ns : List Str} {ds : List D} {vs : List V} {d : D}, Rps K al M H ds vs → (ns.zip ds).lookup f = some d → ∃ v, (ns.zip vs).lookup f = some v ∧ Rp K al M H d v
  | [], _, _, _, _, e => by simp at e
  | n :: ns, [], _, _, _, e => by simp at e
  | n :: ns, d' :: ds, _, d, r, e => by
    obtain ⟨x, ys, rfl, rx, ry⟩ := r
    rw [List.zip_cons_cons, List.lookup_cons] at e ⊢
    split at e
    · cases e; exact ⟨x, rfl, rx⟩
    · exact rps_lookup ry e
theorem dv_xf {X : Cx} (K : PySem.W.Frag) {Tb : List (Addr × Str)} {EV : XK} {e : Expr} {te : TED} {pos : Pos} {f : Str} (he : PD X Tb EV e te) (hK : X.K = K := by rfl) (hb : attributeBase e f X.env (eval e X.env) = eval e X.env := by rfl) : PD X Tb EV (.Attribute e f pos) (dXf K f te) := pe_imp (pe_xs he hb) fun σ H QV h => by
  subst hK
  obtain ⟨al, rho, M, E, Q, a, t, p⟩ := h
  refine seq1 a t fun al1 x M1 vx H1 s1 a1 r1 q1 => ?_
  cases x with
  | exc C ns xs =>
    obtain ⟨b, dx, vs, rfl, h1, f1, h2, f2, hl, r⟩ := r1
    obtain ⟨T, hn, q⟩ := q1
    split at q
    · rename_i d e
      obtain ⟨v, ev, rv⟩ := rps_lookup r e
      exact ⟨b, C, dx, ns.zip vs, v, rfl, h1, T, hn, h2, ev, p _ _ _ _ _ s1 a1.wf rv q⟩
    · exact q.elim
  | _ => exact (show False from q1).elim
/-! ### a def called in an except suite -/
structure FnDC (P : Program) (w : World) (K : PySem.W.Frag) (mg : Str → Option Value) (base : Heap) (Tb : List (Addr × Str)) (k : Nat) (f : Addr) (fd : FuncData) (ps : List Str) (dsp : DSp) : Prop where
  ok : FnC P w K mg base (L2.CX P w) k f fd ps (liftSp K Tb dsp)
theorem fnDC_of {P : Program} {w : World} {K : PySem.W.Frag} {mg : Str → Option Value} {base : Heap} {Tb : List (Addr × Str)} {x qual : Str} {params : Arguments} {body : List Stmt} {scope : Scope} {dvs : List V} {kws : List (Str × V)} {f : Addr} {fd : FuncData} {N ps : List Str} {k : Nat} {dsp : DSp} (tb : TSD) (F : FunD K x qual params body scope dvs kws f fd) (S : FnScope N ps scope)
    (len : ∀ ds M Q E, dsp ds M Q E → ds.length = ps.length)
    (hbody : ∀ (cdv : Value) (A : Around) (outer : List Env) (s : Shared) (H : Hp) (EV : XK), RoomH k (A.deeper (envOfC qual scope s.heap.objs.size f cdv)) → PDSs (cxC (L2.CX P w) P w K mg base N qual scope f cdv A outer s H EV) Tb EV body tb)
    (hq : ∀ ds M Q E, okM M.length M → D.hbs M.length ds = true → dsp ds M Q E → tb (CutX M.length E) { nx := fun _ M' => Cut M.length Q .non M', rt := Cut M.length Q } (startD N ds) M) : FnDC P w K mg base Tb (k + 1) f fd ps dsp := by
  refine ⟨fn_C F S (fun vs H Q E h => ?_) fun cdv A outer s H vs QV EV hr h => ?_⟩
  · obtain ⟨al, M, ds, Q, E, wf, r, q, _⟩ := h
    rw [← r.length]; exact len _ _ _ _ q
  · obtain ⟨al, M, ds, Q, E, wf, r, q, p, px⟩ := h
    have pv : PostV K Tb al M H (Cut M.length Q) QV := fun al' d M' v H' s' w' r' q' =>
      let ⟨m, hm, q1, q2, q3⟩ := q'; p _ _ _ _ _ (stp_cut wf hm s') (wf_cut w' q2) (r'.cutH q1) q3
    refine ⟨_, hbody cdv A outer s H EV hr, al, startD N ds, M, CutX M.length E, _, ⟨wf, start_ok r, fun al' y M' cls dct H' s' w' r' q' => ?_⟩, hq ds M Q E wf.okM (by rw [← wf.len]; exact r.hb) q, ?_⟩
    · obtain ⟨e1, dx, ys, e2, h1, h2⟩ := r'
      exact px _ y _ cls dct _ (stp_cut wf (Nat.le_refl _) s') (wf_cut w' q'.2.1) ⟨e1, dx, ys, e2, h1, h2.cutH q'.1⟩ q'.2.2
    · refine ⟨fun al' rho' M' σ' H' s' w' _ q' => ?_, pv, fun _ _ _ _ _ _ _ _ q' => q'.elim, fun _ _ _ _ _ _ _ _ q' => q'.elim⟩
      exact pv al' .non M' .non H' s' w' rfl q'
theorem dv_callC {X : Cx} {Tb : List (Addr × Str)} {EV : XK} {k : Nat} {f : Addr} {fd : FuncData} {ps : List Str} {dsp : DSp} {x : Str} {p pos : Pos} {e : Expr} {es : List Expr} {t : TAD} (F : FnDC X.prog X.w X.K X.mg X.base Tb k f fd ps dsp) (hr : RoomH k X.A) (hg : Gl X x) (hm : X.mg x = some (.ref f)) (hk : PySem.W.keepIn X.K (.ref f) = true) (hb : Binds X.K fd ps []) (hx : Passes (L2.CX X.prog X.w) X EV)
    (ha : PDA X Tb EV (e :: es) t) (hdb : (x == ("__debug__" : Str)) = false := by decide) (he : starEach (e :: es) X.env = (false, eval e X.env) :: starEach es X.env := by rfl) (hpl : (backTo pos (starEach es X.env)).any (·.1) = false := by rfl) :
    PD X Tb EV (.Call (.Name x p) (e :: es) [] pos) (dCall dsp t) := pe_imp (pe_callC F.ok hr hg hm hk hb hx ha hdb he hpl) fun _ _ _ h => call_lift h
end DL

namespace DL
open PySem PySem.Spec PyProof.Rows L2 LamX
/-- the exception as a value -/
def Exn.d (x : Exn) : D := .exc x.C (x.fs.map (·.1)) (x.fs.map (·.2))
theorem zip_unzip {α β : Type} : ∀ l : List (α × β), (l.map (·.1)).zip (l.map (·.2)) = l
  | [] => rfl
  | (a, b) :: r => by rw [List.map_cons, List.map_cons, List.zip_cons_cons, zip_unzip r]
/-- what told makes of an exception -/
def toldX (K : PySem.W.Frag) (cs : List Value) (dspF : DSp) (Q : VD) : XD := fun x M => PySem.W.exmAny K (.ref x.C) cs = some true ∧ XfC K x.C ∧ PySem.W.findIn K (.ref x.C) "code" = some none ∧
  ∃ z : Str, x.fs.lookup ("code" : Str) = some (.str z) ∧ dspF [x.d] M (fun d M' => rAdd_ (.tup [.str "no", .str z]) d M' Q) fun _ _ => False
abbrev toldD (K : PySem.W.Frag) (cs : List Value) (dspF : DSp) (tl : XD → Mem → VD → Prop) (M : Mem) (Q : VD) : Prop := tl (toldX K cs dspF Q) M fun d M' => Q (.tup [.str "told", d]) M'
def TTd (K : PySem.W.Frag) (Tb : List (Addr × Str)) (TT : (XD → Mem → VD → Prop) → Mem → VD → Prop) : (XK → Hp → VK → Prop) → Hp → VK → Prop := fun tl H Q =>
  ∃ al M QD tlD, Wf K Tb al H M ∧ PostV K Tb al M H QD Q ∧ (∀ E EV Q' QV', PostX K Tb al M H E EV → PostV K Tb al M H Q' QV' → tlD E M Q' → tl EV H QV') ∧ TT tlD M QD
/-- a caught exception is data -/
theorem rp_exn {K : PySem.W.Frag} {Tb : List (Addr × Str)} {al : Al} {M : Mem} {H : Hp} {x : Exn} {cls : Value} {d : Option Addr} {a : Addr} (w : Wf K Tb al H M) (r : RpX K al M H x cls d) (ha : H a = none) :
    Rp K al M (upd H a (exs a cls d)) x.d (.ref a) := by
  obtain ⟨rfl, dx, ys, rfl, h1, h2⟩ := r
  have hne : dx ≠ a := ne_of_none h1 ha
  have fz : Fz al M dx := by
    refine ⟨fun hm => ?_, fun i mo e1 e2 => ?_⟩
    · obtain ⟨xs, e, z⟩ := w.hth dx hm
      rw [h1] at e; exact z.xd _ (Option.some.inj e).symm
    · have q := w.rep i dx mo e1 e2
      cases mo with
      | lst xs => obtain ⟨_, e, _⟩ := q; rw [h1] at e; cases e
      | dK kvs => obtain ⟨_, e, _⟩ := q; rw [h1] at e; cases e
      | dT ks ds => obtain ⟨_, e, _⟩ := q; rw [h1] at e; cases e
      | ins C fs => obtain ⟨_, _, e, _⟩ := q; rw [h1] at e; cases e
  have hk : x.fs.map (·.1) = ys.map (·.1) := h2.1
  refine ⟨a, dx, ys.map (·.2), rfl, upd_same, w.fresh ha, ?_, fz, ?_, h2.2.mono (stp_new w ha _)⟩
  · rw [upd_ne hne, hk, zip_unzip]; exact h1
  · have := congrArg List.length hk; simpa using this
section
variable {X : Cx} {Tb : List (Addr × Str)}
theorem told_gives (K : PySem.W.Frag) (hK : X.K = K) {x : Str} {sg : Scope} {g fF : Addr} {fdF : FuncData} {psF : List Str} {cdg : Value} {q : Str} {dspF : DSp} {kF : Nat} {c1 c2 c3 : Addr} {j1 j2 k1 k2 k3 : Nat} {p1 p2 p3 p4 p5 p6 p7 p8 p9 q1 q2 q3 q4 q5 q6 q7 q8 q9 tp1 tp2 : Pos}
    (nE : sg.names.lookup ("_law_e" : Str) = some .local) (nA : Vis sg "_law_ask") (n1 : sg.names.lookup ("RoundError" : Str) = some .globalImplicit) (n2 : sg.names.lookup ("Missing" : Str) = some .globalImplicit) (n3 : sg.names.lookup ("NothingLeft" : Str) = some .globalImplicit) (nF : sg.names.lookup ("_law_fields" : Str) = some .globalImplicit)
    (m1 : X.mg "RoundError" = some (.ref c1)) (m2 : X.mg "Missing" = some (.ref c2)) (m3 : X.mg "NothingLeft" = some (.ref c3)) (mF : X.mg "_law_fields" = some (.ref fF))
    (F : FnDC X.prog X.w X.K X.mg X.base Tb kF fF fdF psF dspF) (kpF : PySem.W.keepIn X.K (.ref fF) = true) (bF : Binds X.K fdF psF []) (hr : Room (kF + 1) X.A) :
    GivesTo X ["_law_ask", "_law_e"] x sg g cdg [.Try [.Return (some (.Tuple [.Constant (.str "told") j1 p1, .Call (.Name "_law_ask" p2) [] [] p3] k1 p4)) p5]
      [.ExceptHandler (some (.Tuple [.Name "RoundError" p6, .Name "Missing" p7, .Name "NothingLeft" p8] k2 p9)) (some "_law_e")
        [.Return (some (.BinOp (.Tuple [.Constant (.str "no") j2 q1, .Attribute (.Name "_law_e" q2) "code" q3] k3 q4) .Add (.Call (.Name "_law_fields" q5) [.Name "_law_e" q6] [] q7) q8)) q9] tp1] [] [] tp2] "_law_ask" q (TTd X.K Tb (toldD K [.ref c1, .ref c2, .ref c3] dspF)) := by
  subst hK
  intro f c' s H Q tl act hc h
  obtain ⟨al, M, QD, tlD, wf, pv, rel, h⟩ := h
  let X1 : Cx := (cxOf C8.CX0 X.prog X.w X.K X.mg X.base ["_law_ask", "_law_e"] x sg g cdg X.A X.stack s H C8.E0).nox
  let tsD : TSD := dRet (dOp rAdd_ (dTup (dCons (dC (.str "no")) (dCons (dXf X.K "code" (dVar 1)) dNil))) (dCall dspF (dCons (dVar 1) dNil)))
  have hsu : ∀ (a : Addr) (pn : List (Addr × Obj)), PDSs (X1.suite a pn) Tb (fun _ _ _ => False) [.Return (some (.BinOp (.Tuple [.Constant (.str "no") j2 q1, .Attribute (.Name "_law_e" q2) "code" q3] k3 q4) .Add (.Call (.Name "_law_fields" q5) [.Name "_law_e" q6] [] q7) q8)) q9] tsD := fun a pn =>
    ds_one (dp_ret (dv_add (dv_tup (da_cons dv_str (da_cons (dv_xf X.K (dv_var 1 rfl (.inl nE))) da_nil))) (dv_callC F ⟨(hr.deeper (envOfC x sg s.heap.objs.size g cdg)).dp, (hr.deeper (envOfC x sg s.heap.objs.size g cdg)).un⟩ nF mF kpF bF (fun _ _ _ _ _ _ _ z => by obtain ⟨_, _, _, _, _, _, _, _, _, _, _, _, z⟩ := z; exact z) (da_cons (dv_var 1 rfl (.inl nE)) da_nil))))
  let ts : TS := fun DV σ H => ∃ al rho M E DD, At X.K Tb (fun _ _ _ => False) al σ H rho M E ∧ tsD E DD rho M ∧ PostE X.K Tb al M H DD DV
  let Dq : Ends := { nx := fun _ H' => Q .non H', rt := Q }
  refine ⟨_, pss_one (ps_try_asT (X := X1) (i := 1) (c1 := .ref c1) (c2 := .ref c2) (c3 := .ref c3) (ts := ts) (Wout := fun _ _ _ _ => False)
      (tb := fun W D σ H => ∃ Ech : XK, (∀ cls d σ' H', Ech cls d H' → W cls d σ' H') ∧ σ[0]? = some (some (.ref f)) ∧ H c' = some (CodeO c' q) ∧ tl Ech H fun v H1 => [V.str "told", v].length ≤ sizeLine ∧ ∀ p, H1 p = none → D.rt (.ref p) (upd H1 p (.tup [.str "told", v])))
      rfl rfl rfl (show (["_law_ask", "_law_e"] : List Str).Nodup by decide) rfl nE ⟨n1, by decide, .inl m1⟩ ⟨n2, by decide, .inl m2⟩ ⟨n3, by decide, .inl m3⟩ LamX.takes0 (fun W pn xe tk _ => ?_) hsu), ?_⟩
  · refine ⟨fun pins s' σ H' D I h' => ?_⟩
    obtain ⟨Ech, hW, h1, h2, h3⟩ := h'
    have hp := act W pn xe Ech p2 p3 tk hW
    have hq := pss_one (ps_ret (pos := p5) (pe_tup (x1 := k1) (pos := p4) (pa_cons (pe_str (x := "told") (j := j1) (pos := p1)) (pa_cons hp pa_nil))))
    exact hq.run pins s' σ H' D I ⟨h1, h2, h3⟩
  · refine ⟨fun cls d H' => ∀ σ' : L2.St, wAsT X.K 2 [.ref c1, .ref c2, .ref c3] 1 ts (fun _ _ _ _ => False) Dq cls d σ' H', fun cls d σ' H' z => z σ', rfl, hc, ?_⟩
    refine rel _ _ _ _ ?_ ?_ h
    · intro al1 x M1 cls d H1 s1 w1 r1 q1 σ'
      obtain ⟨e1, T, hn, z, e2, hF⟩ := q1
      refine ⟨true, by rw [r1.1]; exact e1, fun _ hl a ha => ?_, fun z => by cases z⟩
      have rx := rp_exn w1 r1 ha
      have sx : Stp al1 M1 H1 al1 M1 (upd H1 a (exs a cls d)) := stp_new w1 ha _
      refine ⟨al1, [none, some x.d], M1, fun _ _ => False, { nx := fun _ _ => False, rt := QD }, ⟨wf_new w1 ha _, ⟨by simpa using hl.symm, fun i dd e => ?_⟩, fun _ _ _ _ _ _ _ _ _ z => z⟩, ?_, ⟨fun _ _ _ _ _ _ _ _ z => z.elim, ?_, fun _ _ _ _ _ _ _ _ z => z.elim, fun _ _ _ _ _ _ _ _ z => z.elim⟩⟩
      · match i, e with
        | 0, e => cases e
        | 1, e =>
          cases e
          exact ⟨.ref a, by rw [List.getElem?_set_self (by omega)], rx⟩
        | i + 2, e => simp at e
      · refine ⟨T, hn, ?_⟩
        have e3 : ((x.fs.map (·.1)).zip (x.fs.map (·.2))).lookup ("code" : Str) = some (.str z) := by rw [zip_unzip]; exact e2
        rw [e3]
        exact ⟨by show 2 ≤ sizeLine; decide, hF⟩
      · intro al' d' M' v H' s' w' r' q'
        exact pv _ _ _ _ _ ((s1.trans sx).trans s') w' r' q'
    · intro al1 d M1 v H1 s1 w1 r1 q1
      refine ⟨by show 2 ≤ sizeLine; decide, fun p hp => ?_⟩
      exact pv _ _ _ _ _ (s1.trans (stp_new w1 hp _)) (wf_new w1 hp _) (rp_tup (ds := [.str "told", d]) w1 hp ⟨_, _, rfl, rfl, _, _, rfl, r1, rfl⟩) q1
/-- x(lambda: body) -/
abbrev dLam (TT : (XD → Mem → VD → Prop) → Mem → VD → Prop) (tb : TED) : TED := fun E rho M Q => TT (fun E' M' Q' => tb E' rho M' Q') M Q
theorem stp_ext {K : PySem.W.Frag} {al : Al} {M : Mem} {H H1 : Hp} (w : Wf K Tb al H M) (e : LamX.ExtN H H1) : Stp al M H al M H1 :=
  ⟨fun _ _ h => h, fun a o h n f => ⟨e a o h n, f⟩, rfl, fun a ha => by obtain ⟨xs, h, z⟩ := w.hth a ha; rw [h]; exact e a _ h z.tbl⟩
theorem wf_ext {K : PySem.W.Frag} {al : Al} {M : Mem} {H H1 : Hp} (w : Wf K Tb al H M) (e : LamX.ExtN H H1) (t : LamX.Tabs Tb H1) : Wf K Tb al H1 M :=
  ⟨w.len, w.nd, fun i a mo h1 h2 => (w.rep i a mo h1 h2).mono (stp_ext w e) fun o ho => by
      obtain ⟨o', e1, e2⟩ := w.there i a h1
      rw [ho] at e1; cases e1
      exact e a o ho e2,
    fun i a h1 => let ⟨o, e1, e2⟩ := w.there i a h1; ⟨o, e a o e1 e2, e2⟩, t, fun a ha => let ⟨xs, h, z⟩ := w.hth a ha; ⟨xs, e a _ h z.tbl, z⟩, w.hdis⟩
theorem dv_lam {EV : XK} {TT : (XD → Mem → VD → Prop) → Mem → VD → Prop} {x a : Str} {g c P : Addr} {k : Nat} {pg : Arguments} {bg : List Stmt} {sg : Scope} {dvs : List V} {kws : List (Str × V)} {fdg : FuncData} {Ng : List Str}
    {params : Arguments} {body : Expr} {scope : Scope} {tb : TED} {p lpos pos : Pos} (Fg : FunD X.K x x pg bg sg dvs kws g fdg) (hg : Gl X x) (hm : X.mg x = some (.ref g)) (hb : L2.Binds X.K fdg [a] []) (Sg : FnScope Ng [a] sg) (hNg : Ng[0]? = some a) (hva : Vis sg a)
    (hG : ∀ cdv, GivesTo X Ng x sg g cdv bg a (X.env.qual ++ "<lambda>") (TTd X.K Tb TT))
    (TB : LamX.TabB X.base X.mg c P) (hcode : X.env.code = .ref c) (hmT : (P, X.env.qual ++ "<lambda>") ∈ Tb) (hu : ∀ p ∈ Tb, p.1 = P → p.2 = X.env.qual ++ "<lambda>") (hr : Room (k + 2) X.A) (L : LamX.LamS X.env.scope scope) (hdef : defaultsOf params X.env = ([], []))
    (hbind : ∀ (q : Str) (cl : List (Str × Addr)) (pm cv ctv : Value), bindArgs (PySem.W.kla_fn "<lambda>" q params body scope cl pm cv ctv) ⟨[], []⟩ = pure [])
    (hbody : ∀ (A : Around) (outer : List Env) (s : Shared) (H : Hp) (E : XK) (f c' : Addr), Room k (A.deeper (LamX.lamEnv X scope s.heap.objs.size f c')) → Passes (L2.CX X.prog X.w) (LamX.lamCx X A outer s H E scope f c') E → PD (LamX.lamCx X A outer s H E scope f c') Tb E body tb)
    (hdb : (x == ("__debug__" : Str)) = false := by decide) (hd : (a == ("__debug__" : Str)) = false := by decide) (hcd : (a == ("__classdict__" : Str)) = false := by decide) :
    PD X Tb EV (.Call (.Name x p) [.Lambda params body scope lpos] [] pos) (dLam TT tb) := by
  obtain ⟨oc, od, dV, kV, doc, pm, an, cdv, ct, osl, rfl, lk, hcg, _, _⟩ := Fg.ex
  refine pe_imp (LamX.pe_lamcall (T := Tb) (TT := TTd X.K Tb TT) (t := fun E => lift X.K Tb E tb) hg hm Fg.kp lk hcg hb Sg hNg hva (hG cdv) TB hcode hmT hu hr L hdef hbind (fun A outer s H E f c' r => hbody A outer s H E f c' r (passes_call (takes_of rfl rfl rfl rfl) fun _ _ _ _ h => h)) hdb hd hcd) fun σ H QV h => ?_
  obtain ⟨al, rho, M, E, Q, a, t, p⟩ := h
  refine ⟨a.wf.tb, fun H1 e1 t1 => ?_⟩
  have s1 := stp_ext a.wf e1
  have w1 := wf_ext a.wf e1 t1
  exact ⟨al, M, Q, _, w1, p.mono s1, fun E' EV' Q' QV' px pv h => ⟨al, rho, M, E', Q', ⟨w1, a.sl.mono s1, px⟩, h, pv⟩, t⟩
theorem hxL {X : Cx} {A : Around} {outer : List Env} {s : Shared} {H : Hp} {E : XK} {scope : Scope} {f c' : Addr} : Passes (L2.CX X.prog X.w) (LamX.lamCx X A outer s H E scope f c') E := passes_call (takes_of rfl rfl rfl rfl) fun _ _ _ _ h => h
theorem tkF {P : Program} {w : World} {K : PySem.W.Frag} {mg : Str → Option Value} {base : Heap} {N : List Str} {qual : Str} {scope : Scope} {f : Addr} {cdv : Value} {A : Around} {outer : List Env} {s : Shared} {H : Hp} {EV : XK} :
    Takes (cxOf (L2.CX P w) P w K mg base N qual scope f cdv A outer s H EV) (fun cls d _ H => EV cls d H) := takes_of rfl rfl rfl rfl
theorem hxN {P : Program} {w : World} {K : PySem.W.Frag} {mg : Str → Option Value} {base : Heap} {N : List Str} {qual : Str} {scope : Scope} {f : Addr} {cdv : Value} {A : Around} {outer : List Env} {s : Shared} {H : Hp} {EV : XK} :
    Passes (L2.CX P w) (cxOf (L2.CX P w) P w K mg base N qual scope f cdv A outer s H EV) (fun _ _ _ => False) := passes_call tkF fun _ _ _ _ h => h.elim
end
end DL
namespace DL
open PySem PySem.Spec PyProof.Rows L2
/-- the rule for a def; its code object is told -/
theorem fnD_ofL {P : Program} {w : World} {K : PySem.W.Frag} {mg : Str → Option Value} {base : Heap} {Tb : List (Addr × Str)} {x qual : Str} {params : Arguments} {body : List Stmt} {scope : Scope} {dvs : List V} {kws : List (Str × V)} {f : Addr} {fd : FuncData} {N ps : List Str} {k : Nat} {dsp : DSp} (tb : TSD) (F : FunD K x qual params body scope dvs kws f fd) (S : FnScope N ps scope)
    (len : ∀ ds M Q E, dsp ds M Q E → ds.length = ps.length)
    (hbody : ∀ (cdv : Value) (A : Around) (outer : List Env) (s : Shared) (H : Hp) (EV : XK), fd.code = cdv → Room k (A.deeper (envOfC qual scope s.heap.objs.size f cdv)) → PDSs (cxOf (L2.CX P w) P w K mg base N qual scope f cdv A outer s H EV) Tb EV body tb)
    (hq : ∀ ds M Q E, okM M.length M → D.hbs M.length ds = true → dsp ds M Q E → tb (CutX M.length E) { nx := fun _ M' => Cut M.length Q .non M', rt := Cut M.length Q } (startD N ds) M) : FnD P w K mg base Tb (k + 1) f fd ps dsp := by
  obtain ⟨oc, od, dV, kV, doc, pm, an, cdv, ct, osl, rfl, lk, hcd, _, _⟩ := F.ex
  refine ⟨fn_of lk hcd S (fun vs H Q E h => ?_) fun A outer s H vs QV EV hr h => ?_⟩
  · obtain ⟨al, M, ds, Q, E, wf, r, q, _⟩ := h
    rw [← r.length]; exact len _ _ _ _ q
  · obtain ⟨al, M, ds, Q, E, wf, r, q, p, px⟩ := h
    have pv : PostV K Tb al M H (Cut M.length Q) QV := fun al' d M' v H' s' w' r' q' =>
      let ⟨m, hm, q1, q2, q3⟩ := q'; p _ _ _ _ _ (stp_cut wf hm s') (wf_cut w' q2) (r'.cutH q1) q3
    refine ⟨_, hbody cdv A outer s H EV rfl hr, al, startD N ds, M, CutX M.length E, _, ⟨wf, start_ok r, fun al' y M' cls dct H' s' w' r' q' => ?_⟩, hq ds M Q E wf.okM (by rw [← wf.len]; exact r.hb) q, ?_⟩
    · obtain ⟨e1, dx, ys, e2, h1, h2⟩ := r'
      exact px _ y _ cls dct _ (stp_cut wf (Nat.le_refl _) s') (wf_cut w' q'.2.1) ⟨e1, dx, ys, e2, h1, h2.cutH q'.1⟩ q'.2.2
    · refine ⟨fun al' rho' M' σ' H' s' w' _ q' => ?_, pv, fun _ _ _ _ _ _ _ _ q' => q'.elim, fun _ _ _ _ _ _ _ _ q' => q'.elim⟩
      exact pv al' .non M' .non H' s' w' rfl q'
/-- a def that makes lambdas: its code object, the table -/
structure LamD (base : Heap) (mg : Str → Option Value) (Tb : List (Addr × Str)) (fd : FuncData) (qual : Str) (sc : Scope) where
  c : Addr
  P : Addr
  hco : fd.code = .ref c
  TB : LamX.TabB base mg c P
  hmT : (P, (envOfC qual sc 0 0 .none).qual ++ "<lambda>") ∈ Tb
  hu : ∀ p ∈ Tb, p.1 = P → p.2 = (envOfC qual sc 0 0 .none).qual ++ "<lambda>"
/-- the law's told -/
structure ToldB (P : Program) (w : World) (K : PySem.W.Frag) (mg : Str → Option Value) (base : Heap) (Tb : List (Addr × Str)) (st : Stmt) (kF : Nat) (dspF : DSp) where
  g : Addr
  fd : FuncData
  F : FunD K "_law_told" "_law_told" (defArgs st) (defBody st) (defScope st) [] [] g fd
  mgx : mg "_law_told" = some (.ref g)
  m1 : mg "RoundError" = some (.ref (He.ga K "RoundError"))
  m2 : mg "Missing" = some (.ref (He.ga K "Missing"))
  m3 : mg "NothingLeft" = some (.ref (He.ga K "NothingLeft"))
  fF : Addr
  fdF : FuncData
  psF : List Str
  FF : FnDC P w K mg base Tb kF fF fdF psF dspF
  kpF : PySem.W.keepIn K (.ref fF) = true
  bF : Binds K fdF psF []
  mF : mg "_law_fields" = some (.ref fF)
def told3 (K : PySem.W.Frag) : List Value := [.ref (He.ga K "RoundError"), .ref (He.ga K "Missing"), .ref (He.ga K "NothingLeft")]
theorem e_lam {K : PySem.W.Frag} {cs : List Value} {dspF : DSp} {tb : TED} {E : XD} {rho : Rho} {M : Mem} {Q : VD} (h : tb (toldX K cs dspF Q) rho M fun d M' => Q (.tup [.str "told", d]) M') : dLam (toldD K cs dspF) tb E rho M Q := h
theorem e_raise {C : Addr} {fl : FL} {n : Nat} {t : TAD} {E : XD} {DD : DEnds} {rho : Rho} {M : Mem} (h : t E rho M fun ds M1 => ds.length = n ∧ n ≤ 1000 ∧ E ⟨C, fl.d ds⟩ M1) : dRaise C fl n t E DD rho M := h
theorem e_xf {K : PySem.W.Frag} {f : Str} {t : TED} {E : XD} {rho : Rho} {M : Mem} {Q : VD} (h : t E rho M fun x M1 => match x with
  | .exc C ns xs => XfC K C ∧ PySem.W.findIn K (.ref C) f = some none ∧ (match (ns.zip xs).lookup f with
    | some d => Q d M1
    | none => False)
  | _ => False) : dXf K f t E rho M Q := h
/-- the fields that the law's fields hands back -/
def xfields (z : Str) : List Str := if L2.inV (.str z) [.str "TooMany", .str "TooLong", .str "Full", .str "InvalidLimit"] = true then ["limit"] else if L2.inV (.str z) [.str "Cycle", .str "UnknownName"] = true then ["name"]
  else if decide (z = "Unfit") = true then ["name", "cause"] else if decide (z = "Stopped") = true then ["index", "cause"] else if decide (z = "InUse") = true then ["by"] else if decide (z = "ParseError") = true then ["line"] else if decide (z = "UnknownClaim") = true then ["number"] else []
def fieldsSp (K : PySem.W.Frag) : DSp := fun ds M Q E => ∃ (C : Addr) (ns : List Str) (xs : List D) (z : Str) (ys : List D), ds = [.exc C ns xs] ∧ XfC K C ∧ (∀ f ∈ ("code" : Str) :: xfields z, PySem.W.findIn K (.ref C) f = some none) ∧ (ns.zip xs).lookup ("code" : Str) = some (.str z) ∧ (xfields z).map (fun f => (ns.zip xs).lookup f) = ys.map some ∧ Q (.tup ys) M
end DL
namespace DL
open PySem PySem.Spec PyProof.Rows L2
theorem e_xf0 {K : PySem.W.Frag} {f : Str} {C : Addr} {ns : List Str} {xs : List D} {d : D} {E : XD} {r : Rho} {M : Mem} {Q : VD} (T : XfC K C) (hn : PySem.W.findIn K (.ref C) f = some none) (hl : (ns.zip xs).lookup f = some d) (h : Q d M) : dXf K f (dVar 0) E (some (.exc C ns xs) :: r) M Q := by
  refine ⟨T, hn, ?_⟩
  rw [hl]; exact h
theorem map1 {α β : Type} {f : α → Option β} {a : α} {ys : List β} (h : [a].map f = ys.map some) : ∃ y, f a = some y ∧ ys = [y] := by
  match ys, h with
  | [], h => simp at h
  | [y], h => exact ⟨y, (List.cons.inj h).1, rfl⟩
  | _ :: _ :: _, h => simp at h
theorem map2 {α β : Type} {f : α → Option β} {a b : α} {ys : List β} (h : [a, b].map f = ys.map some) : ∃ y z, f a = some y ∧ f b = some z ∧ ys = [y, z] := by
  match ys, h with
  | [], h => simp at h
  | [_], h => simp at h
  | _ :: _ :: _ :: _, h => simp at h
  | [y, z], h => exact ⟨y, z, (List.cons.inj h).1, (List.cons.inj (List.cons.inj h).2).1, rfl⟩
theorem map0 {α β : Type} {f : α → Option β} {ys : List β} (h : ([] : List α).map f = ys.map some) : ys = [] := by
  match ys, h with
  | [], _ => rfl
  | _ :: _, h => simp at h
end DL
namespace DL
theorem zip_hb {n : Nat} {f : PySem.Str} : ∀ {ns : List PySem.Str} {xs : List D} {d : D}, D.hbs n xs = true → (ns.zip xs).lookup f = some d → d.hb n = true
  | [], _, _, _, e => by simp at e
  | _ :: _, [], _, _, e => by simp at e
  | m :: ns, x :: xs, d, h, e => by
    have h : (D.hb n x && D.hbs n xs) = true := h
    rw [Bool.and_eq_true] at h
    rw [List.zip_cons_cons, List.lookup_cons] at e
    split at e
    · cases e; exact h.1
    · exact zip_hb h.2 e
end DL
namespace DL
open PySem PySem.Spec PyProof.Rows L2
/-- what is known of a class whose exceptions are caught -/
structure XFa (K : PySem.W.Frag) (x : Str) (fs : List Str) : Prop where
  exm : PySem.W.exmAny K (.ref (He.ga K x)) [.ref (He.ga K "RoundError"), .ref (He.ga K "Missing"), .ref (He.ga K "NothingLeft")] = some true
  xf : XfC K (He.ga K x)
  no : ∀ f ∈ ("code" : Str) :: fs, PySem.W.findIn K (.ref (He.ga K x)) f = some none
theorem toldX_0 {K : PySem.W.Frag} {x z : Str} {Q : VD} {M : Mem} (Z : XFa K x []) (hz : xfields z = []) (h : Q (.tup [.str "no", .str z]) M) :
    toldX K [.ref (He.ga K "RoundError"), .ref (He.ga K "Missing"), .ref (He.ga K "NothingLeft")] (fieldsSp K) Q ⟨He.ga K x, [("code", .str z)]⟩ M :=
  ⟨Z.exm, Z.xf, Z.no _ List.mem_cons_self, z, rfl, _, _, _, z, [], rfl, Z.xf, by rw [hz]; exact Z.no, rfl, by rw [hz]; rfl, by show 2 ≤ sizeLine ∧ _; exact ⟨by decide, h⟩⟩
section
variable {E : XD} {rho : Rho} {M : Mem} {N : Rho → Mem → Prop} {xs : List D} {d : D} {n : Nat} {t : TGsD} {g : TGD}
theorem e_ht (h0 : xs.length = n) (h : t xs E rho M N) : hTup n t (.tup xs) E rho M N := ⟨h0, h⟩
theorem e_hc (h : g d E rho M fun rho' M' => t xs E rho' M' N) : hCons g t (d :: xs) E rho M N := h
theorem e_hn (h : N rho M) : hNil [] E rho M N := h
end
end DL

/-! the end of a law whose defs make lambdas -/
namespace DL
open PySem PySem.Spec PyProof.Rows L2
theorem law_startT {K : PySem.W.Frag} {dsp : DSp} (hl : ∀ ds Q E, lawSp ds [] Q E → dsp ds [] Q E) {Tb : List (Addr × Str)} {H : Hp} {a : Addr} {ns : List Int} (l : ns.length ≤ 63) (h : SqL K H a (ns.map V.int)) (ht : LamX.Tabs Tb H) :
    liftSp K Tb dsp [.ref a] H (fun v _ => v = .bl true) fun _ _ _ => False := by
  refine ⟨⟨[], []⟩, [], [.rol (ns.map D.int)], fun d _ => d = .bl true, fun _ _ => False, ⟨rfl, List.nodup_nil, (fun i a mo e => by simp at e), (fun i a e => by simp at e), ht, (fun a h => by cases h), (fun i a mo e => by simp at e)⟩, ⟨_, _, rfl, ⟨a, ns.map V.int, rfl, ?_, rps_ints ns⟩, rfl⟩, hl _ _ _ ⟨ns, l, rfl, rfl⟩, ?_, ?_⟩
  · rcases h with h | h
    · exact .inl ⟨h, ⟨(fun h => by cases h), (fun i mo e => by simp at e)⟩⟩
    · exact .inr (.inr h)
  · intro al' d M' v H' s w r q
    subst q
    exact r
  · intro al' y M' cls dct H' s w r q
    exact q
/-- cs: code object, table, the lambdas' name -/
theorem walk_wT {l : PySem.W.OpenLaw} {n k : Nat} {q : Program} {loose : List Str} {XP : (Str → Option Value) → Heap → Prop} {YP : World → Heap → Prop} {d : DefRec} {x : Str} {dsp : DSp}
    (hn : l.most = some n) (hn2 : n ≤ 63) (hdf : d.params.defaults = []) (hr : Room k callerA) (hl : ∀ ds Q E, lawSp ds [] Q E → dsp ds [] Q E)
    (F : ∀ (w : World) (mg : Str → Option Value) (fa : Addr) (h : Heap), YP w h → h.Ns mainGlobals mg → mg d.name = some (.ref fa) →
      ∃ (K : PySem.W.Frag) (fd : FuncData) (cs : List ((Addr × Addr) × Str)), K.In h ∧ (∀ p ∈ cs, h.get? p.1.2 = some { cls := .none, data := .fields #[] }) ∧ (∀ p ∈ cs, K.lookup p.1.2 = none) ∧ (∀ p ∈ cs, PySem.W.CodeHd h p.1.1 p.1.2) ∧
        (∀ (s : Shared) (u : Value), BindsTo s fd ⟨[u], []⟩ [(x, u)]) ∧ ∀ base : Heap, K.In base → base.Ns mainGlobals mg → (∀ p ∈ cs, LamX.TabB base mg p.1.1 p.1.2) → FnD l.prog w K mg base (cs.map fun p => (p.1.2, p.2)) k fa fd [x] dsp) :
    PySem.W.WalkO q loose XP YP l.row.toRowW d [] (fun f vs => PySem.call f vs) := by
  refine Att.attach_call hn hdf fun w s₀ s₁ mg mb fa o pm cd doc a vs ns G Y ho hd hcd hmg hobj hints hlen hg => ?_
  obtain ⟨K, fd, cs, KX, hT, nT, C, hb, hF⟩ := F w mg fa _ Y G.T.g hmg
  have up : ∀ {R : Addr × Addr → Prop}, (∀ p ∈ cs, R p.1) → ∀ p ∈ cs.map (·.1), R p := fun {R} h p hp => by
    obtain ⟨q, hq, rfl⟩ := List.mem_map.mp hp
    exact h q hq
  have dn : ∀ {R : Addr × Addr → Prop}, (∀ p ∈ cs.map (·.1), R p) → ∀ p ∈ cs, R p.1 := fun {R} h p hp => h p.1 (List.mem_map.mpr ⟨p, hp, rfl⟩)
  exact LamX.law_callTs (cs := cs.map (·.1)) KX G.T.g G.T.b G.T.builtins G.T.nolimit hg (up (R := fun p => s₁.heap.get? p.2 = some { cls := .none, data := .fields #[] }) hT) (up (R := fun p => K.lookup p.2 = none) nT) (up (R := fun p => PySem.W.CodeHd s₁.heap p.1 p.2) C) G.T.bmain hobj hints (Nat.le_trans hlen (Nat.le_trans hn2 (by decide))) hr
    (fun base h1 h2 h3 => (hF base h1 h2 (dn (R := fun p => LamX.TabB base mg p.1 p.2) h3)).ok) hb
    (fun H hH hS => law_startT hl (Nat.le_trans hlen hn2) hS fun p hp => by
      obtain ⟨q, hq, rfl⟩ := List.mem_map.mp hp
      exact LamX.TabS.nil (hH q.1 (List.mem_map.mpr ⟨q, hq, rfl⟩))) fun H e s' => cx_false H s₁ e s'
/-! ### facts by Bools -/
theorem bool_at {l : List Bool} (h : l.all _root_.id = true) (i : Nat) {b : Bool} (e : l[i]? = some b := by rfl) : b = true := List.all_eq_true.mp h b (List.mem_of_getElem? e)
section
variable {K : PySem.W.Frag} {h : Heap} {mg : Str → Option Value}
theorem cc_tup (X : K.In h) (G : h.Ns mainGlobals mg) {x : Str} {vs : List He.Dv} {ds : List D} (c : (He.Fa.glo x).ok K = true) (t : He.tupB K x vs = true) (hr : ∀ al M H, Rps K al M H ds (vs.map (He.Dv.v K))) : CcD K mg x (.tup ds) :=
  ⟨.ref (He.ga K x), .ref (He.ga K x), He.glo_ok X G c, rfl, fun al M H => ⟨_, _, rfl, .inr (He.tupB_ok t noH), hr al M H⟩⟩
/-- facts of an exception class that is caught -/
def xfaB (K : PySem.W.Frag) (x : Str) (fs : List Str) : Bool := decide (PySem.W.exmAny K (.ref (He.ga K x)) [.ref (He.ga K "RoundError"), .ref (He.ga K "Missing"), .ref (He.ga K "NothingLeft")] = some true) && (xfB K (He.ga K x) && (("code" : Str) :: fs).all fun f => decide (PySem.W.findIn K (.ref (He.ga K x)) f = some none))
theorem xfaB_ok {x : Str} {fs : List Str} (h : xfaB K x fs = true) : XFa K x fs := by
  unfold xfaB at h
  simp only [Bool.and_eq_true] at h
  exact ⟨of_decide_eq_true h.1, xfB_ok h.2.1, fun f hf => of_decide_eq_true (List.all_eq_true.mp h.2.2 f hf)⟩
/-- facts of an exception class that is raised -/
def xcB (K : PySem.W.Frag) (x : Str) (fs : List Str) : Bool := oexB K (He.ga K x) && (decide (PySem.W.typeIn K (.ref (He.ma K (He.ga K x) "__init__")) = some (.type "function")) && (decide (PySem.W.findIn K (.ref (He.ga K x)) "__init__" = some (some (.ref (He.ma K (He.ga K x) "__init__")))) && fs.all fun f => decide (PySem.W.findIn K (.ref (He.ga K x)) f = some none)))
theorem xcB_ok {x : Str} {fs : List Str} (h : xcB K x fs = true) : OexC K (He.ga K x) ∧ PySem.W.typeIn K (.ref (He.ma K (He.ga K x) "__init__")) = some (.type "function") ∧ PySem.W.findIn K (.ref (He.ga K x)) "__init__" = some (some (.ref (He.ma K (He.ga K x) "__init__"))) ∧ ∀ f ∈ fs, PySem.W.findIn K (.ref (He.ga K x)) f = some none := by
  unfold xcB at h
  simp only [Bool.and_eq_true] at h
  exact ⟨oexB_ok h.1, of_decide_eq_true h.2.1, of_decide_eq_true h.2.2.1, fun f hf => of_decide_eq_true (List.all_eq_true.mp h.2.2.2 f hf)⟩
theorem lam_code {x qual : Str} {params : Arguments} {body : List Stmt} {scope : Scope} {dvs : List V} {kws : List (Str × V)} {fd : FuncData} {p : He.Defn} (F : FunD K x qual params body scope dvs kws (He.fAd K p) fd) : fd.code = .ref (He.codeOf K p) := by
  obtain ⟨oc, od, dV, kV, doc, pm, an, cdv, ct, osl, rfl, lk, hcd, _, _⟩ := F.ex
  obtain ⟨c, rfl⟩ := He.codeIn_ref hcd
  rw [He.codeOf_eq lk rfl]
end
end DL

/-! == of data -/
namespace DL
open PySem PySem.Spec PyProof.Rows L2 Mt
mutual
def pz : D → Bool
  | .non => true
  | .bl _ => true
  | .int _ => true
  | .str x => PyData.strOk x
  | .tup xs => pzs xs
  | .lst xs => pzs xs
  | .rol xs => pzs xs
  | _ => false
def pzs : List D → Bool
  | [] => true
  | x :: xs => pz x && pzs xs
end
mutual
theorem pz_ok : ∀ {d : D}, pz d = true → ∃ p, toPy d = some p ∧ p.canLay0 = true ∧ p.depth = dp d
  | .non, _ => ⟨_, rfl, rfl, rfl⟩
  | .bl _, _ => ⟨_, rfl, rfl, rfl⟩
  | .int _, _ => ⟨_, rfl, rfl, rfl⟩
  | .str x, h => ⟨_, rfl, h, rfl⟩
  | .tup xs, h => by
    obtain ⟨ps, e, h1, h2⟩ := pzs_ok (ds := xs) h
    exact ⟨.tuple ps, by show (toPys xs).map _ = _; rw [e]; rfl, h1, by show PyData.depthAll ps + 1 = dps xs + 1; rw [h2]⟩
  | .lst xs, h => by
    obtain ⟨ps, e, h1, h2⟩ := pzs_ok (ds := xs) h
    exact ⟨.list ps, by show (toPys xs).map _ = _; rw [e]; rfl, h1, by show PyData.depthAll ps + 1 = dps xs + 1; rw [h2]⟩
  | .rol xs, h => by
    obtain ⟨ps, e, h1, h2⟩ := pzs_ok (ds := xs) h
    exact ⟨.list ps, by show (toPys xs).map _ = _; rw [e]; rfl, h1, by show PyData.depthAll ps + 1 = dps xs + 1; rw [h2]⟩
  | .ty _, h => by cases h
  | .obj _ _ _, h => by cases h
  | .exc _ _ _, h => by cases h
  | .dk _ _, h => by cases h
  | .dt _ _, h => by cases h
  | .ref _, h => by cases h
  | .mt _, h => by cases h
theorem pzs_ok : ∀ {ds : List D}, pzs ds = true → ∃ ps, toPys ds = some ps ∧ PyData.canLayAll0 ps = true ∧ PyData.depthAll ps = dps ds
  | [], _ => ⟨[], rfl, rfl, rfl⟩
  | d :: ds, h => by
    have h : (pz d && pzs ds) = true := h
    rw [Bool.and_eq_true] at h
    obtain ⟨p, e1, a1, b1⟩ := pz_ok h.1
    obtain ⟨ps, e2, a2, b2⟩ := pzs_ok h.2
    refine ⟨p :: ps, by unfold toPys; rw [e1, e2], ?_, ?_⟩
    · show (p.canLay0 && PyData.canLayAll0 ps) = true
      rw [a1, a2]; rfl
    · show max p.depth (PyData.depthAll ps) = max (dp d) (dps ds)
      rw [b1, b2]
end
def pyEq (x y : D) : Bool := match toPy x, toPy y with
  | some p, some q => PyData.eqv p q
  | _, _ => false
def pyEqs (xs ys : List D) : Bool := match toPys xs, toPys ys with
  | some p, some q => PyData.eqvAll p q
  | _, _ => false
theorem scal_eq {x y : D} {b : Bool} (h : scalD x y = some b) : b = pyEq x y := by
  cases x <;> cases y <;> first | (cases (show (none : Option Bool) = some b from h)) | skip
  all_goals
    have e' := Option.some.inj h
    subst e'
    first | rfl | (unfold pyEq toPy; simp [PyData.eqv]; done) | skip
  all_goals
    show decide _ = (_ == _)
    rw [Bool.eq_iff_iff]; simp
theorem toPyM_pz {M : Mem} {d : D} (h : pz d = true) : toPyM M d = toPy d := by
  cases d with
  | mt i => cases h
  | _ => rfl
theorem shaped_of {p : PyData} {d : D} (h1 : p.canLay0 = true) (h2 : p.depth = dp d) (h3 : dp d ≤ 64) : SeqAt.shaped p = true := by
  unfold SeqAt.shaped
  rw [h1, decide_eq_true (by omega)]; rfl
theorem e_eqP {x y : D} {M : Mem} {Q : VD} (hx : pz x = true) (hy : pz y = true) (dx : dp x ≤ 64) (dy : dp y ≤ 64) (h : Q (.bl (pyEq x y)) M) : rEq_ x y M Q := by
  unfold rEq_
  split
  · rename_i b e
    rw [scal_eq e]; exact h
  · obtain ⟨p, e1, a1, b1⟩ := pz_ok hx
    obtain ⟨q, e2, a2, b2⟩ := pz_ok hy
    rw [toPyM_pz hx, toPyM_pz hy, e1, e2]
    refine ⟨shaped_of a1 b1 dx, shaped_of a2 b2 dy, ?_⟩
    unfold pyEq at h
    rw [e1, e2] at h
    exact h
theorem e_neP {x y : D} {M : Mem} {Q : VD} (hx : pz x = true) (hy : pz y = true) (dx : dp x ≤ 64) (dy : dp y ≤ 64) (h : Q (.bl (!pyEq x y)) M) : rNe_ x y M Q := by
  unfold rNe_
  split
  · rename_i b e
    rw [scal_eq e]; exact h
  · obtain ⟨p, e1, a1, b1⟩ := pz_ok hx
    obtain ⟨q, e2, a2, b2⟩ := pz_ok hy
    rw [toPyM_pz hx, toPyM_pz hy, e1, e2]
    refine ⟨shaped_of a1 b1 dx, shaped_of a2 b2 dy, ?_⟩
    unfold pyEq at h
    rw [e1, e2] at h
    exact h
theorem pyEq_refl {d : D} (h : pz d = true) : pyEq d d = true := by
  obtain ⟨p, e1, a1, b1⟩ := pz_ok h
  unfold pyEq
  rw [e1]
  exact SeqAt.eqv_refl p a1
theorem pyEq_int (i j : Int) : pyEq (.int i) (.int j) = decide (i = j) := by
  show (i == j) = decide (i = j)
  rw [Bool.eq_iff_iff]; simp
theorem pyEq_tup {xs ys : List D} (hx : pzs xs = true) (hy : pzs ys = true) : pyEq (.tup xs) (.tup ys) = pyEqs xs ys := by
  obtain ⟨p, e1, a1, b1⟩ := pzs_ok hx
  obtain ⟨q, e2, a2, b2⟩ := pzs_ok hy
  have f1 : toPy (.tup xs) = some (.tuple p) := by show (toPys xs).map _ = _; rw [e1]; rfl
  have f2 : toPy (.tup ys) = some (.tuple q) := by show (toPys ys).map _ = _; rw [e2]; rfl
  unfold pyEq pyEqs
  rw [f1, f2, e1, e2]
  rfl
theorem pyEq_lst {xs ys : List D} (hx : pzs xs = true) (hy : pzs ys = true) : pyEq (.lst xs) (.lst ys) = pyEqs xs ys := by
  obtain ⟨p, e1, a1, b1⟩ := pzs_ok hx
  obtain ⟨q, e2, a2, b2⟩ := pzs_ok hy
  have f1 : toPy (.lst xs) = some (.list p) := by show (toPys xs).map _ = _; rw [e1]; rfl
  have f2 : toPy (.lst ys) = some (.list q) := by show (toPys ys).map _ = _; rw [e2]; rfl
  unfold pyEq pyEqs
  rw [f1, f2, e1, e2]
  rfl
theorem pyEqs_cons {x y : D} {xs ys : List D} (h1 : pz x = true) (h2 : pz y = true) (hx : pzs xs = true) (hy : pzs ys = true) : pyEqs (x :: xs) (y :: ys) = (pyEq x y && pyEqs xs ys) := by
  obtain ⟨p, e1, _, _⟩ := pz_ok h1
  obtain ⟨q, e2, _, _⟩ := pz_ok h2
  obtain ⟨ps, e3, _, _⟩ := pzs_ok hx
  obtain ⟨qs, e4, _, _⟩ := pzs_ok hy
  have f1 : toPys (x :: xs) = some (p :: ps) := by unfold toPys; rw [e1, e3]
  have f2 : toPys (y :: ys) = some (q :: qs) := by unfold toPys; rw [e2, e4]
  unfold pyEqs pyEq
  rw [f1, f2, e1, e2, e3, e4]
  rfl
theorem pyEq_qD (p q : Rat) : pyEq (qD p) (qD q) = decide (p = q) := by
  show ((p.num == q.num) && (((p.den : Int) == (q.den : Int)) && true)) = decide (p = q)
  rw [Bool.eq_iff_iff]
  simp only [Bool.and_eq_true, beq_iff_eq, decide_eq_true_eq, and_true]
  exact ⟨fun h => Rat.ext h.1 (by omega), fun h => by rw [h]; exact ⟨rfl, rfl⟩⟩
theorem e_eqq {p q : Rat} {M : Mem} {Q : VD} (h : Q (.bl (decide (p = q))) M) : rEq_ (qD p) (qD q) M Q := e_eqP rfl rfl (by show 1 ≤ 64; decide) (by show 1 ≤ 64; decide) (by rw [pyEq_qD]; exact h)
theorem e_neq {p q : Rat} {M : Mem} {Q : VD} (h : Q (.bl (!decide (p = q))) M) : rNe_ (qD p) (qD q) M Q := e_neP rfl rfl (by show 1 ≤ 64; decide) (by show 1 ≤ 64; decide) (by rw [pyEq_qD]; exact h)
end DL
namespace DL
theorem divInt_one (a : Int) : Rat.divInt a 1 = (a : Rat) := by
  rw [show (1 : Int) = ((1 : Nat) : Int) from rfl, Rat.divInt_ofNat, Rat.mkRat_one]
end DL

/-! objects: calls of any kind -/
namespace DL
open PySem PySem.Spec PyProof.Rows L2
abbrev TAK := L2.St → Hp → (List V → List V → Hp → Prop) → Prop
/-- arguments and keywords -/
structure PAK (X : Cx) (pos : Pos) (args : List Expr) (kws : List Keyword) (ks : List Str) (t : TAK) : Prop where
  ev : ∀ (pins : List (Addr × Obj)) (s : Shared) (σ : L2.St) (H : Hp) (f : Value) (Q : Args → Shared → Prop), Inv X pins σ H s → t σ H (fun vs zs H2 => ∀ us ws s2, Inv X pins σ H2 s2 → Vals vs us → Vals zs ws → Q ⟨us, ks.zip ws⟩ s2) →
    wpAny (model X.prog X.w) X.A (evalArgs f true (backTo pos (starEach args X.env)) (backToKw pos (keywordEach kws X.env))) Q X.xe s
  pl : ((backTo pos (starEach args X.env)).any (·.1) || (backToKw pos (keywordEach kws X.env)).any (·.1.isNone)) = false
def tAK (t tk : TA) : TAK := fun σ H Q => t σ H fun vs H1 => tk σ H1 fun zs H2 => Q vs zs H2
section
variable {X : Cx} {pos : Pos} {e : Expr} {es : List Expr} {kws : List Keyword} {ks : List Str} {t tk : TA}
theorem pak (ha : PA X (e :: es) t) (hkw : PK X kws tk) (hall : (backToKw pos (keywordEach kws X.env)).all (·.1.isSome) = true := by rfl) (hks : (backToKw pos (keywordEach kws X.env)).filterMap (·.1) = ks := by rfl)
    (he : starEach (e :: es) X.env = (false, eval e X.env) :: starEach es X.env := by rfl) (hpl : ((backTo pos (starEach (e :: es) X.env)).any (·.1) || (backToKw pos (keywordEach kws X.env)).any (·.1.isNone)) = false := by rfl) :
    PAK X pos (e :: es) kws ks (tAK t tk) := by
  refine ⟨fun pins s σ H f Q I h => ?_, hpl⟩
  refine evalArgs_kw2 hall (thn (ha.run pos pins s σ H _ I h) fun us s1 ⟨vs, H1, I1, r, q⟩ => ?_) he
  refine thn (hkw.run pos pins s1 σ H1 _ I1 q) fun ws s2 ⟨zs, H2, I2, rz, q2⟩ => ?_
  rw [hks]
  exact q2 us ws s2 I2 r rz
theorem pak0 (hkw : PK X kws tk) (hall : (backToKw pos (keywordEach kws X.env)).all (·.1.isSome) = true := by rfl) (hks : (backToKw pos (keywordEach kws X.env)).filterMap (·.1) = ks := by rfl)
    (hpl : ((backTo pos (starEach [] X.env)).any (·.1) || (backToKw pos (keywordEach kws X.env)).any (·.1.isNone)) = false := by rfl) :
    PAK X pos [] kws ks (tAK tNil tk) := by
  refine ⟨fun pins s σ H f Q I h => ?_, hpl⟩
  refine evalArgs_kw2_nil hall (thn (hkw.run pos pins s σ H _ I h) fun ws s2 ⟨zs, H2, I2, rz, q2⟩ => ?_)
  rw [hks]
  exact q2 [] ws s2 I2 .nil rz
variable {args : List Expr} {ta : TAK}
theorem pak_call {P : Heap → Prop} {f : Value} {first : List Value} (ha : PAK X pos args kws ks ta) {pins : List (Addr × Obj)} {s : Shared} {σ : L2.St} {H : Hp} {Q : Value → Shared → Prop} (I : Inv X pins σ H s)
    (hk : ∀ h, P h → ∃ k, (k = Keeper.frame ∨ k = Keeper.machine ∨ k = Keeper.boundFrame) ∧ PySem.W.Looks (model X.prog X.w) h (keeperOf f) k)
    (h : ta σ H fun vs zs H2 => ∀ us ws s2, Inv X pins σ H2 s2 → Vals vs us → Vals zs ws → P s2.heap ∧ wpAny (model X.prog X.w) X.A (call f (first ++ us) (ks.zip ws)) Q X.xe s2) :
    wpAny (model X.prog X.w) X.A (callWith pos f first (backTo pos (starEach args X.env)) (backToKw pos (keywordEach kws X.env))) Q X.xe s :=
  PySem.W.callWith_of ha.pl hk (ha.ev pins s σ H f _ I h)
end
/-! ### at data level -/
abbrev TAKD := XD → Rho → Mem → (List D → List D → Mem → Prop) → Prop
abbrev dAK (t tk : TAD) : TAKD := fun E rho M Q => t E rho M fun ds M1 => tk E rho M1 fun es M2 => Q ds es M2
/-- how arguments go into a call at value level -/
def AKV (K : PySem.W.Frag) (Tb : List (Addr × Str)) (EV : XK) (t : TAKD) (tv : TAK) : Prop := ∀ al σ H rho M E (Q : List D → List D → Mem → Prop) (QV : List V → List V → Hp → Prop), At K Tb EV al σ H rho M E → t E rho M Q →
  (∀ al' ds es M' vs zs H', Stp al M H al' M' H' → Wf K Tb al' H' M' → Rps K al' M' H' ds vs → Rps K al' M' H' es zs → Q ds es M' → QV vs zs H') → tv σ H QV
structure PAKD (X : Cx) (Tb : List (Addr × Str)) (EV : XK) (pos : Pos) (args : List Expr) (kws : List Keyword) (ks : List Str) (t : TAKD) : Prop where
  ex : ∃ tv, PAK X pos args kws ks tv ∧ AKV X.K Tb EV t tv
section
variable {X : Cx} {Tb : List (Addr × Str)} {EV : XK} {pos : Pos} {e : Expr} {es : List Expr} {kws : List Keyword} {ks : List Str} {t tk : TAD}
theorem dak (ha : PDA X Tb EV (e :: es) t) (hkw : PDK X Tb EV kws tk) (hall : (backToKw pos (keywordEach kws X.env)).all (·.1.isSome) = true := by rfl) (hks : (backToKw pos (keywordEach kws X.env)).filterMap (·.1) = ks := by rfl)
    (he : starEach (e :: es) X.env = (false, eval e X.env) :: starEach es X.env := by rfl) (hpl : ((backTo pos (starEach (e :: es) X.env)).any (·.1) || (backToKw pos (keywordEach kws X.env)).any (·.1.isNone)) = false := by rfl) :
    PAKD X Tb EV pos (e :: es) kws ks (dAK t tk) := ⟨_, pak ha hkw hall hks he hpl, fun al σ H rho M E Q QV a h p => by
  refine seqA a h fun al1 ds M1 vs H1 s1 a1 r1 q1 => seqA a1 q1 fun al2 es M2 zs H2 s2 a2 r2 q2 => ?_
  exact p _ _ _ _ _ _ _ (s1.trans s2) a2.wf (r1.mono s2) r2 q2⟩
theorem dak0 (hkw : PDK X Tb EV kws tk) (hall : (backToKw pos (keywordEach kws X.env)).all (·.1.isSome) = true := by rfl) (hks : (backToKw pos (keywordEach kws X.env)).filterMap (·.1) = ks := by rfl)
    (hpl : ((backTo pos (starEach [] X.env)).any (·.1) || (backToKw pos (keywordEach kws X.env)).any (·.1.isNone)) = false := by rfl) :
    PAKD X Tb EV pos [] kws ks (dAK dNil tk) := ⟨_, pak0 hkw hall hks hpl, fun al σ H rho M E Q QV a h p => by
  refine seqA a h fun al2 es M2 zs H2 s2 a2 r2 q2 => ?_
  exact p _ [] _ _ _ _ _ s2 a2.wf Rps.nil r2 q2⟩
end
/-! ### instances -/
def insOf (M : Mem) : D → Option (Addr × List (Str × D))
  | .obj C ns xs => some (C, ns.zip xs)
  | .mt i => match M[i]? with
    | some (some (.ins C fs)) => some (C, fs)
    | _ => none
  | _ => none
theorem lookup_none {κ : Type} [BEq κ] [LawfulBEq κ] {α β : Type} {f : κ} : ∀ {fs : List (κ × α)} {gs : List (κ × β)}, fs.map (·.1) = gs.map (·.1) → fs.lookup f = none → gs.lookup f = none
  | [], [], _, _ => rfl
  | [], _ :: _, h, _ => by simp at h
  | _ :: _, [], h, _ => by simp at h
  | (a, x) :: fs, (b, y) :: gs, h, e => by
    simp at h
    obtain ⟨rfl, h⟩ := h
    rw [List.lookup_cons] at e ⊢
    split at e
    · cases e
    · exact lookup_none h e
theorem zip_fst {α β : Type} : ∀ {ns : List α} {xs : List β}, ns.length = xs.length → (ns.zip xs).map (·.1) = ns
  | [], [], _ => rfl
  | [], _ :: _, h => by simp at h
  | _ :: _, [], h => by simp at h
  | n :: ns, x :: xs, h => by
    rw [List.zip_cons_cons, List.map_cons, zip_fst (by simpa using h)]
theorem zip_snd {α β : Type} : ∀ {ns : List α} {xs : List β}, ns.length = xs.length → (ns.zip xs).map (·.2) = xs
  | [], [], _ => rfl
  | [], _ :: _, h => by simp at h
  | _ :: _, [], h => by simp at h
  | n :: ns, x :: xs, h => by
    rw [List.zip_cons_cons, List.map_cons, zip_snd (by simpa using h)]
theorem rpk_lookup {K : PySem.W.Frag} {al : Al} {M : Mem} {H : Hp} {f : Str} : ∀ {ds : List (Str × D)} {ys : List (Str × V)} {d : D}, Rpk K al M H ds ys → ds.lookup f = some d → ∃ v, ys.lookup f = some v ∧ Rp K al M H d v
  | [], _, _, _, e => by simp at e
  | (n, x) :: ds, _, d, r, e => by
    obtain ⟨v, ys, rfl, rv, rr⟩ := r.cases
    rw [List.lookup_cons] at e ⊢
    split at e
    · cases e; exact ⟨v, rfl, rv⟩
    · exact rpk_lookup rr e
theorem insOf_ok {K : PySem.W.Frag} {Tb : List (Addr × Str)} {al : Al} {M : Mem} {H : Hp} (w : Wf K Tb al H M) {d : D} {v : V} {C : Addr} {fs : List (Str × D)} (e : insOf M d = some (C, fs)) (r : Rp K al M H d v) :
    ∃ a dx ys, v = .ref a ∧ H a = some (.ins C dx ys) ∧ Rpk K al M H fs ys := by
  cases d with
  | obj C' ns xs =>
    obtain ⟨a, dx, ys, rfl, h1, f, l, rr⟩ := r
    cases e
    have l2 : ns.length = xs.length := by rw [l, rr.length]
    exact ⟨a, dx, _, rfl, h1, by rw [zip_fst l2, zip_fst l], by rw [zip_snd l2, zip_snd l]; exact rr⟩
  | mt i =>
    obtain ⟨a, ea, rfl⟩ := r
    have e : (match M[i]? with
      | some (some (.ins C fs)) => some (C, fs)
      | _ => none) = some (C, fs) := e
    split at e
    · rename_i C' fs' em
      cases e
      obtain ⟨dx, ys, h1, h2⟩ := w.rep i a _ ea em
      exact ⟨a, dx, ys, rfl, h1, h2⟩
    · cases e
  | _ => cases e
/-! ### fields -/
def fldD (C : Addr) (f : Str) (x : D) (M1 : Mem) (Q : VD) : Prop := match insOf M1 x with
  | some (C', fs) => C' = C ∧ (match fs.lookup f with
    | some d => Q d M1
    | none => False)
  | none => False
abbrev dFld (C : Addr) (f : Str) (t : TED) : TED := fun E rho M Q => t E rho M fun x M1 => fldD C f x M1 Q
section
variable {X : Cx} {Tb : List (Addr × Str)} {EV : XK} {e o value : Expr} {te to tv : TED} {pos pos' : Pos} {f : Str} {C : Addr}
theorem dv_fld (c : Cls X.K C) (n : NoAttr X.K C f) (he : PD X Tb EV e te) (hb : attributeBase e f X.env (eval e X.env) = eval e X.env := by rfl) : PD X Tb EV (.Attribute e f pos) (dFld C f te) := pe_imp (pe_fld he hb) fun σ H QV h => by
  obtain ⟨al, rho, M, E, Q, a, t, p⟩ := h
  refine seq1 a t fun al1 x M1 vx H1 s1 a1 r1 q1 => ?_
  unfold fldD at q1
  split at q1
  · rename_i C' fs e1
    obtain ⟨rfl, q1⟩ := q1
    split at q1
    · rename_i d e2
      obtain ⟨b, dx, ys, rfl, h1, h2⟩ := insOf_ok a1.wf e1 r1
      obtain ⟨v, e3, rv⟩ := rpk_lookup h2 e2
      exact ⟨b, C', dx, ys, v, rfl, h1, c, n, e3, p _ _ _ _ _ s1 a1.wf rv q1⟩
    · exact q1.elim
  · exact q1.elim
/-- a constant of the class, by an instance -/
def conD (C : Addr) (f : Str) (d : D) (x : D) (M1 : Mem) (Q : VD) : Prop := match insOf M1 x with
  | some (C', fs) => C' = C ∧ fs.lookup f = none ∧ Q d M1
  | none => False
abbrev dCon (C : Addr) (f : Str) (d : D) (t : TED) : TED := fun E rho M Q => t E rho M fun x M1 => conD C f d x M1 Q
/-- the class C has the constant f -/
def ConD (K : PySem.W.Frag) (C : Addr) (f : Str) (d : D) : Prop := ∃ v u, Con K C f v u ∧ ∀ al M H, Rp K al M H d v
theorem dv_con {d : D} (c : Cls X.K C) (k : ConD X.K C f d) (he : PD X Tb EV e te) (hb : attributeBase e f X.env (eval e X.env) = eval e X.env := by rfl) : PD X Tb EV (.Attribute e f pos) (dCon C f d te) := by
  obtain ⟨v, u, k, rd⟩ := k
  refine pe_imp (pe_con he hb) fun σ H QV h => ?_
  obtain ⟨al, rho, M, E, Q, a, t, p⟩ := h
  refine seq1 a t fun al1 x M1 vx H1 s1 a1 r1 q1 => ?_
  unfold conD at q1
  split at q1
  · rename_i C' fs e1
    obtain ⟨rfl, h0, q1⟩ := q1
    obtain ⟨b, dx, ys, rfl, h1, h2⟩ := insOf_ok a1.wf e1 r1
    exact ⟨b, C', dx, ys, v, u, rfl, h1, c, k, lookup_none h2.1 h0, p _ _ _ _ _ s1 a1.wf (rd _ _ _) q1⟩
  · exact q1.elim
/-- a constant of the class, by the class -/
def CValD (K : PySem.W.Frag) (C : Addr) (f : Str) (d : D) : Prop := ∃ v u, ClX.CRead K C (.type "type") ∧ ClX.CVal K C (.type "type") f v u ∧ ∀ al M H, Rp K al M H d v
def clsD (C : Addr) (x : D) (P : Prop) : Prop := match x with
  | .ref C' => C' = C ∧ P
  | _ => False
abbrev dCval (C : Addr) (d : D) (t : TED) : TED := fun E rho M Q => t E rho M fun x M1 => clsD C x (Q d M1)
theorem dv_cval {d : D} (k : CValD X.K C f d) (he : PD X Tb EV e te) (hb : attributeBase e f X.env (eval e X.env) = eval e X.env := by rfl) : PD X Tb EV (.Attribute e f pos) (dCval C d te) := by
  obtain ⟨v, u, r, k, rd⟩ := k
  refine pe_imp (ClX.pe_cval he hb) fun σ H QV h => ?_
  obtain ⟨al, rho, M, E, Q, a, t, p⟩ := h
  refine seq1 a t fun al1 x M1 vx H1 s1 a1 r1 q1 => ?_
  cases x with
  | ref C' =>
    obtain ⟨rfl, q1⟩ := q1
    cases (show vx = .ref C' from r1)
    exact ⟨C', .type "type", v, u, rfl, r, k, p _ _ _ _ _ s1 a1.wf (rd _ _ _) q1⟩
  | _ => exact (show False from q1).elim
/-- o.f = value -/
def putD (f : Str) (d : D) : List (Str × D) → List (Str × D)
  | [] => [(f, d)]
  | (g, x) :: r => if g = f then (g, d) :: r else (g, x) :: putD f d r
theorem rpk_put {K : PySem.W.Frag} {al : Al} {M : Mem} {H : Hp} {f : Str} {d : D} {v : V} (rv : Rp K al M H d v) : ∀ {fs : List (Str × D)} {ys : List (Str × V)}, Rpk K al M H fs ys → Rpk K al M H (putD f d fs) (putF f v ys)
  | [], ys, r => by
    have : ys = [] := by have := r.1; simpa using this.symm
    subst this
    exact Rpk.cons rv Rpk.nil
  | (g, x) :: fs, ys, r => by
    obtain ⟨y, r', rfl, ry, rr⟩ := r.cases
    unfold putD putF
    by_cases h : g = f
    · rw [if_pos h, if_pos h]; exact Rpk.cons rv rr
    · rw [if_neg h, if_neg h]; exact Rpk.cons ry (rpk_put rv rr)
def putX (C : Addr) (f : Str) (y x : D) (M2 : Mem) (N : Mem → Prop) : Prop := match x with
  | .mt i => (match M2[i]? with
    | some (some (.ins C' fs)) => C' = C ∧ fs.length < 1000 ∧ N (M2.set i (some (.ins C' (putD f y fs))))
    | _ => False)
  | _ => False
abbrev dPut (C : Addr) (f : Str) (tv to : TED) : TSD := fun E DD rho M => tv E rho M fun y M1 => to E rho M1 fun x M2 => putX C f y x M2 (DD.nx rho)
theorem rpk_len {κ : Type} {K : PySem.W.Frag} {al : Al} {M : Mem} {H : Hp} {ds : List (κ × D)} {ys : List (κ × V)} (r : Rpk K al M H ds ys) : ds.length = ys.length := by
  have := congrArg List.length r.1
  simpa using this
theorem ins_not_code {C dx c : Addr} {fs : List (Str × V)} {q : Str} : HO.ins C dx fs ≠ LamX.CodeO c q := fun z => by
  unfold LamX.CodeO at z
  cases z
theorem set_ins {K : PySem.W.Frag} {al : Al} {M : Mem} {H : Hp} (w : Wf K Tb al H M) {i : Nat} {a dx : Addr} {fs fs' : List (Str × D)} {ys ys' : List (Str × V)} (hi : al.a[i]? = some a) (hm : M[i]? = some (some (.ins C fs))) (hH : H a = some (.ins C dx ys)) (r : Rpk K al M H fs' ys') :
    Stp al M H al (M.set i (some (.ins C fs'))) (upd H a (.ins C dx ys')) ∧ Wf K Tb al (upd H a (.ins C dx ys')) (M.set i (some (.ins C fs'))) := by
  have s := stp_set (mo' := .ins C fs') w hi hm (.ins C dx ys')
  refine ⟨s, wf_set w hi hm (fun _ z => by cases z) ⟨dx, ys', upd_same, r.mono s⟩ fun c q z => ?_⟩
  rw [hH] at z
  exact ins_not_code (Option.some.inj z)
theorem dp_put (c : Cls X.K C) (n : NoAttr X.K C f) (ho : PD X Tb EV o to) (hv : PD X Tb EV value tv) (hs : swapsWith value (some (.Attribute o f pos')) pos.line X.env = pure false := by rfl) : PDS X Tb EV (.Assign [.Attribute o f pos'] value pos) (dPut C f tv to) := ps_imp (ps_fld ho hv hs) fun DV σ H h => by
  obtain ⟨al, rho, M, E, DD, a, t, p⟩ := h
  refine seq1 a t fun al1 y M1 vy H1 s1 a1 r1 q1 => seq1 a1 q1 fun al2 x M2 vx H2 s2 a2 r2 q2 => ?_
  unfold putX at q2
  split at q2
  · rename_i i
    split at q2
    · rename_i C' fs em
      obtain ⟨rfl, hl, q2⟩ := q2
      obtain ⟨b, eb, rfl⟩ := r2
      obtain ⟨dx, ys, h1, h2⟩ := a2.wf.rep i b _ eb em
      obtain ⟨g1, g2⟩ := set_ins a2.wf eb em h1 (rpk_put (f := f) (r1.mono s2) h2)
      refine ⟨b, C', dx, ys, rfl, h1, c, n, by rw [← rpk_len h2]; exact hl, ?_⟩
      exact p.nx _ _ _ _ _ ((s1.trans s2).trans g1) g2 (a2.sl.mono g1) q2
    · exact q2.elim
  · exact q2.elim
end
/-! ### calls of methods -/
/-- x is an instance of C without a field m -/
def isI (C : Addr) (m : Str) (M : Mem) (x : D) : Prop := match insOf M x with
  | some (C', fs) => C' = C ∧ fs.lookup m = none
  | none => False
theorem isI_ok {K : PySem.W.Frag} {Tb : List (Addr × Str)} {al : Al} {M : Mem} {H : Hp} {C : Addr} {m : Str} (w : Wf K Tb al H M) {d : D} {v : V} (e : isI C m M d) (r : Rp K al M H d v) : ∃ a dx ys, v = .ref a ∧ H a = some (.ins C dx ys) ∧ ys.lookup m = none := by
  unfold isI at e
  split at e
  · rename_i C' fs e1
    obtain ⟨rfl, h0⟩ := e
    obtain ⟨a, dx, ys, rfl, h1, h2⟩ := insOf_ok w e1 r
    exact ⟨a, dx, ys, rfl, h1, lookup_none h2.1 h0⟩
  · exact e.elim
/-- what is asked of the arguments: n of them, k keywords -/
def dArg (n k : Nat) (is : List Nat) (dds : List D) (dsp : DSp) (pre : List D) (Q : VD) (E : XD) (ds es : List D) (M : Mem) : Prop := ds.length = n ∧ es.length = k ∧ dsp (pick is (pre ++ ds ++ dds ++ es)) M Q E
abbrev dMeth (C : Addr) (m : Str) (n k : Nat) (is : List Nat) (dds : List D) (dsp : DSp) (to : TED) (t : TAKD) : TED := fun E rho M Q => to E rho M fun x M1 => isI C m M1 x ∧ t E rho M1 fun ds es M2 => dArg n k is dds dsp [x] Q E ds es M2
section
variable {X : Cx} {Tb : List (Addr × Str)} {EV : XK} {k n : Nat} {g C : Addr} {fd : FuncData} {ps ks : List Str} {dsp : DSp} {m x : Str} {apos pos p : Pos} {o : Expr} {args : List Expr} {kws : List Keyword} {to : TED} {t : TAKD} {is : List Nat} {dvs : List V} {dds : List D} {pl : Sem Bool}
theorem dv_meth (ho : PD X Tb EV o to) (c : Cls X.K C) (hm : Meth X.K C m g) (F : FnD X.prog X.w X.K X.mg X.base Tb k g fd ps dsp) (hr : Room k X.A) (hb : KBp X.K fd ps (n + 1) ks is dvs) (hc : CsD X.K dds dvs) (hx : Passes (L2.CX X.prog X.w) X EV) (ha : PAKD X Tb EV pos args kws ks t)
    (ht : eval (.Call (.Attribute o m apos) args kws pos) X.env = (do
      let ov ← eval o X.env
      standAt apos.atName
      let (f, first) ← holding [ov] (getMethod ov m pl)
      callWith pos f first (backTo pos (starEach args X.env)) (backToKw pos (keywordEach kws X.env))) := by rfl) :
    PD X Tb EV (.Call (.Attribute o m apos) args kws pos) (dMeth C m n ks.length is dds dsp to t) := by
  obtain ⟨tv, pa, av⟩ := ha.ex
  obtain ⟨gg, kb⟩ := hb.kbn
  refine ⟨fun pins s σ H QV I h => ?_⟩
  obtain ⟨al, rho, M, E, Q, a, t0, p⟩ := h
  refine PySem.W.methodCall_KW (pl := pl) (thn (ho.run pins s σ H (fun v H1 => ∃ b dx ys, v = .ref b ∧ H1 b = some (.ins C dx ys) ∧ ys.lookup m = none ∧ tv σ H1 fun vs zs H2 => ∀ us ws s2, Inv X pins σ H2 s2 → Vals vs us → Vals zs ws → X.K.In s2.heap ∧ wpAny (model X.prog X.w) X.A (call (.ref g) ([.ref b] ++ us) (ks.zip ws)) (EP X pins σ QV) X.xe s2) I
    (seq1 a t0 fun al1 x M1 vx H1 s1 a1 r1 q1 => ?_)) fun u s1 ⟨v, H1, I1, rv, b, dx, ys, ev, hb1, hl, q⟩ => ?_) ht
  · obtain ⟨b, dx, ys, rfl, h1, h2⟩ := isI_ok a1.wf q1.1 r1
    refine ⟨b, dx, ys, rfl, h1, h2, av _ _ _ _ _ _ _ _ a1 q1.2 fun al2 ds es M2 vs zs H2 s2 w2 rd re q2 us ws s3 I3 rv rz => ⟨I3.kIn, ?_⟩⟩
    exact run_fnN (us := .ref b :: us) (vs := .ref b :: vs) F.ok hr kb hx I3 (.cons rfl rv) rz (by rw [List.length_cons, ← rd.length, q2.1]) (by rw [← re.length]; exact q2.2.1) ⟨al2, M2, _, Q, E, w2, pick_rps (((show Rps X.K al2 M2 H2 [x] [.ref b] from ⟨_, _, rfl, r1.mono s2, rfl⟩).append rd |>.append (hc _ _ _)).append re) is, q2.2.2, p.mono (s1.trans s2), a1.ex.mono s2⟩
  · subst ev
    obtain rfl : u = Value.ref b := rv
    exact getmeth_ok I1 hb1 c hm hl (pak_call (P := X.K.In) pa I1 (PySem.W.keeps_K hm.kp) q)
theorem run_codeN {sp : Sp} {E : XK} {gg : List Value → List Value → List Value} {gV : List V → List V → List V} {pins : List (Addr × Obj)} {σ : L2.St} {H : Hp} {s : Shared} {Q : VK} {us ws : List Value} {vs zs : List V} (F : FnOk X.prog X.w X.K X.mg X.base (L2.CX X.prog X.w) k g fd ps sp) (hr : Room k X.A) (hb : KBn X.K fd ps n ks gg gV) (hx : Passes (L2.CX X.prog X.w) X E)
    (I : Inv X pins σ H s) (r : Vals vs us) (rz : Vals zs ws) (l1 : vs.length = n) (l2 : zs.length = ks.length) (h : sp (gV vs zs) H Q E) :
    codeAny (model X.prog X.w) X.A (.call (.ref g) ⟨us, ks.zip ws⟩) (fun r s' => match r with
      | .ok (.ret v) => EP X pins σ Q v s'
      | .ok _ => False
      | .error e => X.xe e s') s := by
  have r2 := hb.rel r rz
  refine codeAny_mono (F.run X.A X.stack s H ⟨us, ks.zip ws⟩ (gg us ws) (gV vs zs) Q E hr I.env0 (hb.to s us ws I.kIn (r.length.symm.trans l1) (rz.length.symm.trans l2)) r2 h) fun r s' hq => ?_
  cases r with
  | error e => exact hx pins σ H s e s' I hq
  | ok fl =>
    cases fl with
    | ret u => exact I.after hq
    | next => exact False.elim hq
    | brk => exact False.elim hq
    | cont => exact False.elim hq
/-- C.m(..), m a classmethod -/
abbrev dCMeth (C : Addr) (n k : Nat) (is : List Nat) (dds : List D) (dsp : DSp) (to : TED) (t : TAKD) : TED := fun E rho M Q => to E rho M fun x M1 => clsD C x (t E rho M1 fun ds es M2 => dArg n k is dds dsp [.ref C] Q E ds es M2)
theorem dv_cmeth {q : Addr} (ho : PD X Tb EV o to) (r : ClX.CRead X.K C (.type "type")) (c : ClX.CMet X.K C (.type "type") m q g) (F : FnD X.prog X.w X.K X.mg X.base Tb k g fd ps dsp) (hr : Room k X.A) (hb : KBp X.K fd ps (n + 1) ks is dvs) (hc : CsD X.K dds dvs) (hx : Passes (L2.CX X.prog X.w) X EV) (ha : PAKD X Tb EV pos args kws ks t)
    (ht : eval (.Call (.Attribute o m apos) args kws pos) X.env = (do
      let ov ← eval o X.env
      standAt apos.atName
      let (f, first) ← holding [ov] (getMethod ov m pl)
      callWith pos f first (backTo pos (starEach args X.env)) (backToKw pos (keywordEach kws X.env))) := by rfl) :
    PD X Tb EV (.Call (.Attribute o m apos) args kws pos) (dCMeth C n ks.length is dds dsp to t) := by
  obtain ⟨tv, pa, av⟩ := ha.ex
  obtain ⟨gg, kb⟩ := hb.kbn
  refine ⟨fun pins s σ H QV I h => ?_⟩
  obtain ⟨al, rho, M, E, Q, a, t0, p⟩ := h
  refine PySem.W.methodCall_KW (pl := pl) (thn (ho.run pins s σ H (fun v H1 => v = .ref C ∧ ∀ b, tv σ H1 fun vs zs H2 => ∀ us ws s2, Inv X ((b, PySem.W.methodObj (.ref g) (.ref C)) :: pins) σ H2 s2 → Vals vs us → Vals zs ws → PySem.W.MethP X.K b g (.ref C) s2.heap ∧ wpAny (model X.prog X.w) X.A (call (.ref b) ([] ++ us) (ks.zip ws)) (EP X pins σ QV) X.xe s2) I
    (seq1 a t0 fun al1 x M1 vx H1 s1 a1 r1 q1 => ?_)) fun u s1 ⟨v, H1, I1, rv, ev, q⟩ => ?_) ht
  · cases x with
    | ref C' =>
      obtain ⟨rfl, q1⟩ := q1
      cases (show vx = .ref C' from r1)
      refine ⟨rfl, fun b => av _ _ _ _ _ _ _ _ a1 q1 fun al2 ds es M2 vs zs H2 s2 w2 rd re q2 us ws s3 I3 rv rz => ⟨⟨ClX.pin_at I3, I3.kIn⟩, ?_⟩⟩
      have z : wpAny (model X.prog X.w) X.A (call (.ref b) us (ks.zip ws)) (EP X ((b, PySem.W.methodObj (.ref g) (.ref C')) :: pins) σ QV) X.xe s3 :=
        wpAny_call (PySem.W.method_call (ClX.pin_at I3) (run_codeN (us := .ref C' :: us) (vs := .ref C' :: vs) F.ok hr kb hx I3 (.cons rfl rv) rz (by rw [List.length_cons, ← rd.length, q2.1]) (by rw [← re.length]; exact q2.2.1)
          ⟨al2, M2, _, Q, E, w2, pick_rps (((show Rps X.K al2 M2 H2 [.ref C'] [.ref C'] from ⟨_, _, rfl, rfl, rfl⟩).append rd |>.append (hc _ _ _)).append re) is, q2.2.2, p.mono (s1.trans s2), a1.ex.mono s2⟩))
      exact thn z fun _ _ y => ClX.unpinE y
    | _ => exact (show False from q1).elim
  · subst ev
    obtain rfl : u = Value.ref C := rv
    exact ClX.getmethcm_ok I1 r c fun s2 I2 => pak_call (P := PySem.W.MethP X.K s1.heap.objs.size g (.ref C)) pa I2 (PySem.W.keeps_M c.fi) (q _)
/-- C.m is a staticmethod: its record at p, its def at g -/
structure SMet (K : PySem.W.Frag) (C : Addr) (m : Str) (p g : Addr) : Prop where
  at_ : PySem.W.findCls K (.ref C) (.type "type") m = some (.get (.builtin "staticmethod.__get__") (.ref p) .none (.ref C))
  rc : ∃ rest, PySem.W.recIn K p "staticmethod" = some (.ref g :: rest)
  kp : PySem.W.keepIn K (.ref g) = true
abbrev dSMeth (C : Addr) (n k : Nat) (is : List Nat) (dds : List D) (dsp : DSp) (to : TED) (t : TAKD) : TED := fun E rho M Q => to E rho M fun x M1 => clsD C x (t E rho M1 fun ds es M2 => dArg n k is dds dsp [] Q E ds es M2)
theorem dv_smeth {q : Addr} (ho : PD X Tb EV o to) (r : ClX.CRead X.K C (.type "type")) (c : SMet X.K C m q g) (F : FnD X.prog X.w X.K X.mg X.base Tb k g fd ps dsp) (hr : Room k X.A) (hb : KBp X.K fd ps n ks is dvs) (hc : CsD X.K dds dvs) (hx : Passes (L2.CX X.prog X.w) X EV) (ha : PAKD X Tb EV pos args kws ks t)
    (ht : eval (.Call (.Attribute o m apos) args kws pos) X.env = (do
      let ov ← eval o X.env
      standAt apos.atName
      let (f, first) ← holding [ov] (getMethod ov m pl)
      callWith pos f first (backTo pos (starEach args X.env)) (backToKw pos (keywordEach kws X.env))) := by rfl) :
    PD X Tb EV (.Call (.Attribute o m apos) args kws pos) (dSMeth C n ks.length is dds dsp to t) := by
  obtain ⟨tv, pa, av⟩ := ha.ex
  obtain ⟨gg, kb⟩ := hb.kbn
  refine ⟨fun pins s σ H QV I h => ?_⟩
  obtain ⟨al, rho, M, E, Q, a, t0, p⟩ := h
  refine PySem.W.methodCall_KW (pl := pl) (thn (ho.run pins s σ H (fun v H1 => v = .ref C ∧ tv σ H1 fun vs zs H2 => ∀ us ws s2, Inv X pins σ H2 s2 → Vals vs us → Vals zs ws → X.K.In s2.heap ∧ wpAny (model X.prog X.w) X.A (call (.ref g) ([] ++ us) (ks.zip ws)) (EP X pins σ QV) X.xe s2) I
    (seq1 a t0 fun al1 x M1 vx H1 s1 a1 r1 q1 => ?_)) fun u s1 ⟨v, H1, I1, rv, ev, q⟩ => ?_) ht
  · cases x with
    | ref C' =>
      obtain ⟨rfl, q1⟩ := q1
      cases (show vx = .ref C' from r1)
      refine ⟨rfl, av _ _ _ _ _ _ _ _ a1 q1 fun al2 ds es M2 vs zs H2 s2 w2 rd re q2 us ws s3 I3 rv rz => ⟨I3.kIn, ?_⟩⟩
      exact run_fnN F.ok hr kb hx I3 rv rz (by rw [← rd.length, q2.1]) (by rw [← re.length]; exact q2.2.1) ⟨al2, M2, _, Q, E, w2, pick_rps ((rd.append (hc _ _ _)).append re) is, q2.2.2, p.mono (s1.trans s2), a1.ex.mono s2⟩
    | _ => exact (show False from q1).elim
  · subst ev
    obtain rfl : u = Value.ref C := rv
    obtain ⟨rest, hp⟩ := c.rc
    refine PySem.W.method_cls I1.kIn r.ga (PySem.W.cls_bind I1.kIn r.rd c.at_ (wpAny_call (PySem.W.sm_get (s := { s1 with toks := s1.toks + 1 }) I1.kIn hp (PySem.W.handed_on rfl ?_))))
    exact pak_call (P := X.K.In) pa (I1.tok _) (PySem.W.keeps_K c.kp) q
end
end DL

/-! objects are made -/
namespace DL
open PySem PySem.Spec PyProof.Rows L2
/-- the new instance is frozen -/
def mkQ (C : Addr) (M1 : Mem) (Q : VD) : VD := fun d M2 => d = .non ∧ ∃ fs, M2[M1.length]? = some (some (.ins C fs)) ∧ okM M1.length M2 ∧ D.hbs M1.length (fs.map (·.2)) = true ∧ Q (.obj C (fs.map (·.1)) (fs.map (·.2))) (M2.take M1.length)
/-- .. stays one that changes -/
def mkM (M1 : Mem) (Q : VD) : VD := fun d M2 => d = .non ∧ Q (.mt M1.length) M2
abbrev dMk (fz : Bool) (C : Addr) (n k : Nat) (is : List Nat) (dds : List D) (dsp : DSp) (tf : TED) (t : TAKD) : TED := fun E rho M Q => tf E rho M fun y M0 => clsD C y (t E rho M0 fun ds es M1 => dArg n k is dds dsp [.mt M1.length] (if fz = true then mkQ C M1 Q else mkM M1 Q) (CutX M1.length E) ds es (M1 ++ [some (.ins C [])]))
section
variable {X : Cx} {Tb : List (Addr × Str)} {EV : XK} {k n : Nat} {g C : Addr} {fd : FuncData} {ps ks : List Str} {dsp : DSp} {m x : Str} {apos pos p : Pos} {args : List Expr} {kws : List Keyword} {tf : TED} {t : TAKD} {is : List Nat} {dvs : List V} {dds : List D} {fz : Bool}
theorem post_mk {K : PySem.W.Frag} {al : Al} {M : Mem} {H : Hp} {x dx : Addr} {Q : VD} {QV : VK} (w : Wf K Tb al H M) (hx : H x = none) (hdx : H dx = none) (hne : dx ≠ x) (p : PostV K Tb al M H Q QV) :
    PostV K Tb (al.push x) (M ++ [some (.ins C [])]) (upd (upd H dx (.own x)) x (.ins C dx [])) (if fz = true then mkQ C M Q else mkM M Q) (fun v H2 => v = .non ∧ QV (.ref x) H2) := by
  have sA : Stp al M H al M (upd H dx (.own x)) := stp_new w hdx _
  have wA := wf_new w hdx (.own x)
  have hx' : upd H dx (.own x) x = none := by rw [upd_ne (Ne.symm hne)]; exact hx
  have sB := stp_mut wA hx' (.ins C dx []) (.ins C [])
  have wB : Wf K Tb (al.push x) (upd (upd H dx (.own x)) x (.ins C dx [])) (M ++ [some (.ins C [])]) := wf_mut wA hx' (mo := .ins C []) (fun _ z => by cases z) ⟨dx, [], upd_same, Rpk.nil⟩
  intro al' d M' v H' s' w' r' q'
  have hxa : al'.a[M.length]? = some x := s'.pre _ _ (al_last w)
  cases fz with
  | true =>
    rw [if_pos rfl] at q'
    obtain ⟨rfl, fs, em, ok, hb, q⟩ := q'
    refine ⟨r', ?_⟩
    obtain ⟨dx', ys, h1, h2⟩ := w'.rep _ _ _ hxa em
    refine p (al'.cut M.length) _ _ (.ref x) H' (stp_cut w (Nat.le_refl _) ((sA.trans sB).trans s')) (wf_cut w' ok) ?_ q
    have h3 : Rpk K (al'.cut M.length) (M'.take M.length) H' fs ys := h2.cutH hb
    refine ⟨x, dx', ys.map (·.2), rfl, ?_, ⟨w'.hdis _ _ _ hxa em, fun j mo e1 e2 => ?_⟩, ?_, h3.2⟩
    · rw [h2.1, zip_unzip]; exact h1
    · obtain ⟨hj, e1⟩ := cut_lt e1
      exact absurd ((List.getElem?_inj (List.getElem?_eq_some_iff.mp hxa).1 w'.nd).mp (hxa.trans e1.symm)) (by omega)
    · have := rpk_len h2; simpa using this
  | false =>
    rw [if_neg Bool.false_ne_true] at q'
    obtain ⟨rfl, q⟩ := q'
    exact ⟨r', p al' (.mt M.length) _ (.ref x) H' ((sA.trans sB).trans s') w' ⟨x, hxa, rfl⟩ q⟩
theorem postx_mk {K : PySem.W.Frag} {al : Al} {M : Mem} {H : Hp} {x dx : Addr} {E : XD} {EV' : XK} (w : Wf K Tb al H M) (hx : H x = none) (hdx : H dx = none) (hne : dx ≠ x) (p : PostX K Tb al M H E EV') :
    PostX K Tb (al.push x) (M ++ [some (.ins C [])]) (upd (upd H dx (.own x)) x (.ins C dx [])) (CutX M.length E) EV' := by
  have sA : Stp al M H al M (upd H dx (.own x)) := stp_new w hdx _
  have wA := wf_new w hdx (.own x)
  have hx' : upd H dx (.own x) x = none := by rw [upd_ne (Ne.symm hne)]; exact hx
  have sB := stp_mut wA hx' (.ins C dx []) (.ins C [])
  intro al' y M' cls dct H' s' w' r' q'
  obtain ⟨e1, dx, ys, e2, h1, h2⟩ := r'
  exact p _ y _ cls dct _ (stp_cut w (Nat.le_refl _) ((sA.trans sB).trans s')) (wf_cut w' q'.2.1) ⟨e1, dx, ys, e2, h1, h2.cutH q'.1⟩ q'.2.2
theorem dv_make (fz : Bool) (hf : PD X Tb EV (.Name x p) tf) (Mk : Mk X.K C g) (F : FnD X.prog X.w X.K X.mg X.base Tb k g fd ps dsp) (hr : Room (k + 1) X.A) (hb : KBp X.K fd ps (n + 1) ks is dvs) (hc : CsD X.K dds dvs) (hx : Passes (L2.CX X.prog X.w) X EV) (ha : PAKD X Tb EV pos args kws ks t) :
    PD X Tb EV (.Call (.Name x p) args kws pos) (dMk fz C n ks.length is dds dsp tf t) := by
  obtain ⟨tv, pa, av⟩ := ha.ex
  obtain ⟨gg, kb⟩ := hb.kbn
  refine ⟨fun pins s σ H QV I h => ?_⟩
  obtain ⟨al, rho, M, E, Q, a, t0, p⟩ := h
  refine wpAny_Call_Name_kw (thn (hf.run pins s σ H (fun v H1 => v = .ref C ∧ tv σ H1 fun vs zs H2 => ∀ us ws s2, Inv X pins σ H2 s2 → Vals vs us → Vals zs ws → X.K.In s2.heap ∧ wpAny (model X.prog X.w) X.A (call (.ref C) ([] ++ us) (ks.zip ws)) (EP X pins σ QV) X.xe s2) I
    (seq1 a t0 fun al1 y M1 vy H1 s1 a1 r1 q1 => ?_)) fun u s1 ⟨v, H1, I1, rv, ev, q⟩ => ?_)
  · cases y with
    | ref C' =>
      obtain ⟨rfl, q1⟩ := q1
      cases (show vy = .ref C' from r1)
      refine ⟨rfl, av _ _ _ _ _ _ _ _ a1 q1 fun al2 ds es M2 vs zs H2 s2 w2 rd re q2 us ws s3 I3 rv rz => ⟨I3.kIn, ?_⟩⟩
      refine run_makeN Mk F.ok hr kb hx I3 rv rz (by rw [← rd.length, q2.1]) (by rw [← re.length]; exact q2.2.1) fun y dy hy hdy hne => ?_
      have sA : Stp al2 M2 H2 al2 M2 (upd H2 dy (.own y)) := stp_new w2 hdy _
      have wA := wf_new w2 hdy (.own y)
      have hy' : upd H2 dy (.own y) y = none := by rw [upd_ne (Ne.symm hne)]; exact hy
      have sB := stp_mut wA hy' (.ins C' dy []) (.ins C' [])
      have wB : Wf X.K Tb (al2.push y) (upd (upd H2 dy (.own y)) y (.ins C' dy [])) (M2 ++ [some (.ins C' [])]) := wf_mut wA hy' (mo := .ins C' []) (fun _ z => by cases z) ⟨dy, [], upd_same, Rpk.nil⟩
      have sAB := sA.trans sB
      have self : Rps X.K (al2.push y) (M2 ++ [some (.ins C' [])]) (upd (upd H2 dy (.own y)) y (.ins C' dy [])) [.mt M2.length] [.ref y] := ⟨_, _, rfl, ⟨y, al_last w2, rfl⟩, rfl⟩
      exact ⟨al2.push y, M2 ++ [some (.ins C' [])], _, if fz = true then mkQ C' M2 Q else mkM M2 Q, CutX M2.length E, wB, pick_rps ((self.append (rd.mono sAB) |>.append (hc _ _ _)).append (re.mono sAB)) is, q2.2.2, post_mk w2 hy hdy hne (p.mono (s1.trans s2)), postx_mk w2 hy hdy hne (a1.ex.mono s2)⟩
    | _ => exact (show False from q1).elim
  · subst ev
    obtain rfl : u = Value.ref C := rv
    exact pak_call (P := X.K.In) pa I1 (PySem.W.keeps_K Mk.kp) q
/-- a property -/
def isC (C : Addr) (M1 : Mem) (x : D) : Prop := match insOf M1 x with
  | some (C', _) => C' = C
  | none => False
abbrev dProp (C : Addr) (dsp : DSp) (to : TED) : TED := fun E rho M Q => to E rho M fun x M1 => isC C M1 x ∧ dsp [x] M1 Q fun _ _ => False
theorem dv_prop {q : Addr} {o : Expr} {f : Str} {to : TED} (ho : PD X Tb EV o to) (c : Cls X.K C) (hp : PropOf X.K C f q g) (F : FnD X.prog X.w X.K X.mg X.base Tb k g fd ps dsp) (hr : Room (k + 1) X.A) (hb : Binds X.K fd ps []) (hx : Passes (L2.CX X.prog X.w) X.nox (fun _ _ _ => False)) (hab : attributeBase o f X.env (eval o X.env) = eval o X.env := by rfl) :
    PD X Tb EV (.Attribute o f pos) (dProp C dsp to) := pe_imp (pe_prop ho c hp F.ok hr hb .nil hx hab) fun σ H QV h => by
  obtain ⟨al, rho, M, E, Q, a, t, p⟩ := h
  refine seq1 a t fun al1 x M1 vx H1 s1 a1 r1 q1 => ?_
  obtain ⟨q0, q1⟩ := q1
  unfold isC at q0
  split at q0
  · rename_i C' fs e1
    subst q0
    obtain ⟨b, dx, ys, rfl, h1, h2⟩ := insOf_ok a1.wf e1 r1
    exact ⟨b, dx, ys, rfl, h1, al1, M1, [x], Q, fun _ _ => False, a1.wf, ⟨_, _, rfl, r1, rfl⟩, q1, p.mono s1, fun _ _ _ _ _ _ _ _ _ z => z.elim⟩
  · exact q0.elim
end
end DL

/-! own special methods: ==, !=, in, len, repr, truth, a call; isinstance of own classes -/
namespace DL
open PySem PySem.Spec PyProof.Rows L2
theorem passF {X : Cx} : Passes (L2.CX X.prog X.w) X (fun _ _ _ => False) := fun _ _ _ _ _ _ _ z => by
  obtain ⟨_, _, _, _, _, _, _, _, _, _, _, _, z⟩ := z
  exact z.elim
/-- a plain class of the program -/
structure ClO (K : PySem.W.Frag) (C : Addr) : Prop where
  cls : Cls K C
  ha : PySem.W.findIn K (.ref C) "__class__" = some (some (.builtin "object.__class__"))
  hn : PySem.W.specialIn K (.builtin "object.__class__") "__get__" = some (some (.builtin "getset_descriptor.__get__"))
  tk : PySem.W.takesIn K (.builtin "object.__class__") = some true
  hm : PySem.W.mroIn K C (.type "object") = some true
  ic : (PySem.W.clsIn K C).isSome = true
  ty : PySem.W.typeIn K (.ref C) = some (.type "type")
  ga : PySem.W.specialIn K (.ref C) "__getattribute__" = some (some (.builtin "type.__getattribute__"))
  rd : PySem.W.readsIn K C (.type "type") = true
def cloB (K : PySem.W.Frag) (C : Addr) : Bool := PySem.W.plainGet K C Str.empty && (PySem.W.hasDictIn K C && (PySem.W.plainOver K C && (decide (PySem.W.findIn K (.ref C) "__setattr__" = some (some (.builtin "object.__setattr__"))) && (decide (PySem.W.findIn K (.ref C) "__class__" = some (some (.builtin "object.__class__"))) &&
  (decide (PySem.W.specialIn K (.builtin "object.__class__") "__get__" = some (some (.builtin "getset_descriptor.__get__"))) && (decide (PySem.W.takesIn K (.builtin "object.__class__") = some true) && (decide (PySem.W.mroIn K C (.type "object") = some true) && ((PySem.W.clsIn K C).isSome && (decide (PySem.W.typeIn K (.ref C) = some (.type "type")) &&
  (decide (PySem.W.specialIn K (.ref C) "__getattribute__" = some (some (.builtin "type.__getattribute__"))) && PySem.W.readsIn K C (.type "type")))))))))))
theorem cloB_ok {K : PySem.W.Frag} {C : Addr} (h : cloB K C = true) : ClO K C := by
  unfold cloB at h
  simp only [Bool.and_eq_true, decide_eq_true_eq] at h
  obtain ⟨h1, h2, h3, h4, h5, h6, h7, h8, h9, h10, h11, h12⟩ := h
  exact ⟨⟨h1, h2, h3, h4⟩, h5, h6, h7, h8, h9, h10, h11, h12⟩
theorem ClO.cr {K : PySem.W.Frag} {C : Addr} (c : ClO K C) : ClX.CRead K C (.type "type") := ⟨c.rd, c.ga⟩
theorem sub_tab {K : PySem.W.Frag} {C : Addr} {t : String} (h : t ∈ tyTab) : PySem.W.subIn K (.type t) (.ref C) = some false := by
  simp only [tyTab, List.mem_cons, List.not_mem_nil, or_false] at h
  rcases h with rfl | rfl | rfl | rfl | rfl | rfl | rfl
  · have e : fastBuiltinMro "NoneType" = some [.type "NoneType", .type "object"] := by decide +kernel
    show (fastBuiltinMro "NoneType").map (·.contains (.ref C)) = _
    rw [e]; rfl
  · have e : fastBuiltinMro "bool" = some [.type "bool", .type "int", .type "object"] := by decide +kernel
    show (fastBuiltinMro "bool").map (·.contains (.ref C)) = _
    rw [e]; rfl
  · have e : fastBuiltinMro "int" = some [.type "int", .type "object"] := by decide +kernel
    show (fastBuiltinMro "int").map (·.contains (.ref C)) = _
    rw [e]; rfl
  · have e : fastBuiltinMro "str" = some [.type "str", .type "object"] := by decide +kernel
    show (fastBuiltinMro "str").map (·.contains (.ref C)) = _
    rw [e]; rfl
  · have e : fastBuiltinMro "tuple" = some [.type "tuple", .type "object"] := by decide +kernel
    show (fastBuiltinMro "tuple").map (·.contains (.ref C)) = _
    rw [e]; rfl
  · have e : fastBuiltinMro "list" = some [.type "list", .type "object"] := by decide +kernel
    show (fastBuiltinMro "list").map (·.contains (.ref C)) = _
    rw [e]; rfl
  · have e : fastBuiltinMro "dict" = some [.type "dict", .type "object"] := by decide +kernel
    show (fastBuiltinMro "dict").map (·.contains (.ref C)) = _
    rw [e]; rfl
/-- of one of the program's class C, or of a built-in type -/
def kindD (C : Addr) (M : Mem) (d : D) : Option Bool := match insOf M d with
  | some (C', _) => if C' = C then some true else none
  | none => (tyN M d).map fun _ => false
theorem kindD_ok {K : PySem.W.Frag} {Tb : List (Addr × Str)} {al : Al} {M : Mem} {H : Hp} {C : Addr} (c : ClO K C) (w : Wf K Tb al H M) {d : D} {v : V} {b : Bool} (e : kindD C M d = some b) (r : Rp K al M H d v) : ∃ t, TyX K H v t ∧ PySem.W.kitOne K t (.ref C) = some b ∧ PySem.W.notFirst K C t = true := by
  unfold kindD at e
  split at e
  · rename_i C' fs e1
    split at e
    · rename_i e2
      subst e2
      cases e
      obtain ⟨a, dx, ys, rfl, h1, h2⟩ := insOf_ok w e1 r
      refine ⟨.ref C', .base (.ins h1 c.cls c.ha c.hn c.tk c.hm), ?_, ?_⟩
      · unfold PySem.W.kitOne; rw [if_pos (by simp)]
      · unfold PySem.W.notFirst; simp
    · cases e
  · cases q : tyN M d with
    | none => rw [q] at e; cases e
    | some t =>
      rw [q] at e
      cases e
      have ht := tyN_tab q
      refine ⟨.type t, tyN_ok w q r, ?_, ?_⟩
      · unfold PySem.W.kitOne
        rw [if_neg (by simp)]
        unfold PySem.W.kitCls
        simp only [c.ic, c.ty]
        exact sub_tab (K := K) (C := C) ht
      · unfold PySem.W.notFirst
        rw [sub_tab ht]; simp
/-- isinstance(x, C) -/
def rIsiC (C : Addr) : RDC := fun ds M Q => match ds with
  | [x, .ref C'] => C' = C ∧ (match kindD C M x with
    | some b => Q (.bl b) M
    | none => False)
  | _ => False
theorem ref_isiC {X : Cx} {Tb : List (Addr × Str)} {C : Addr} (c : ClO X.K C) : RefC X.K Tb (L2.rIsi X.K) (rIsiC C) := by
  intro al M H xs ds Q QV w r h p
  unfold rIsiC at h
  split at h
  · rename_i x C'
    obtain ⟨rfl, h⟩ := h
    obtain ⟨v, ys, rfl, rv, ry⟩ := r
    obtain ⟨v2, rfl, r2⟩ := ry.one
    cases (show v2 = .ref C' from r2)
    split at h
    · rename_i b e
      obtain ⟨t, h1, h2, _⟩ := kindD_ok c w e rv
      exact ⟨v, .ref C', t, .ref C', b, rfl, .own C', h1, h2, p _ (.bl b) _ _ _ (Stp.refl ..) w rfl h⟩
    · exact h.elim
  · exact h.elim
/-! ### the call of a special method -/
section
variable {X : Cx} {k : Nat} {f C : Addr} {fd : FuncData} {ps : List Str} {sp : Sp} {pins : List (Addr × Obj)} {σ : L2.St} {H : Hp} {s : Shared} {Q : VK} {us : List Value} {vs : List V} {E' : Value → Shared → Prop}
theorem cxF {P : Program} {w : World} {l : List Env} {H : Hp} {s : Shared} {e : Value} {s' : Shared} (z : L2.CX P w l H s (fun _ _ _ => False) e s') : False := by
  obtain ⟨_, _, _, _, _, _, _, _, _, _, _, _, z⟩ := z
  exact z
theorem run0 (F : FnOk X.prog X.w X.K X.mg X.base (L2.CX X.prog X.w) k f fd ps sp) (hr : Room k X.A) (hb : Binds X.K fd ps []) (I : Inv X pins σ H s) (r : Vals vs us) (h : sp vs H Q (fun _ _ _ => False)) :
    wpAny (model X.prog X.w) X.A (call (.ref f) us) (EP X pins σ Q) E' s := by
  have hl : (us ++ []).length = ps.length := by rw [List.append_nil, ← r.length]; exact F.len _ _ _ _ h
  refine wpAny_call (codeAny_mono (F.run X.A X.stack s H ⟨us, []⟩ us vs Q _ hr I.env0 (by have := hb s us I.kIn hl; rw [List.append_nil] at this; exact this) r h) fun r s' hq => ?_)
  cases r with
  | error e => exact (cxF hq).elim
  | ok fl =>
    cases fl with
    | ret u => exact I.after hq
    | next => exact False.elim hq
    | brk => exact False.elim hq
    | cont => exact False.elim hq
theorem run1 (F : FnOk X.prog X.w X.K X.mg X.base (L2.CX X.prog X.w) k f fd ps sp) (hr : Room (k + 1) X.A) (hb : Binds X.K fd ps []) (I : Inv X pins σ H s) (r : Vals vs us) (h : sp vs H Q (fun _ _ _ => False)) :
    wpAny (model X.prog X.w) X.A.in1 (call (.ref f) us) (EP X pins σ Q) E' s := by
  have hl : (us ++ []).length = ps.length := by rw [List.append_nil, ← r.length]; exact F.len _ _ _ _ h
  refine wpAny_call (codeAny_mono (F.run X.A.in1 X.stack s H ⟨us, []⟩ us vs Q _ hr.in1 I.env0.in1 (by have := hb s us I.kIn hl; rw [List.append_nil] at this; exact this) r h) fun r s' hq => ?_)
  cases r with
  | error e => exact (cxF hq).elim
  | ok fl =>
    cases fl with
    | ret u => exact I.after hq
    | next => exact False.elim hq
    | brk => exact False.elim hq
    | cont => exact False.elim hq
end
/-- C's special method m is the def at f -/
structure Spm (K : PySem.W.Frag) (C : Addr) (m : Str) (f : Addr) : Prop where
  at_ : PySem.W.findIn K (.ref C) m = some (some (.ref f))
  fn : PySem.W.isFn K (.ref f) = true
section
variable {X : Cx} {k : Nat} {f C : Addr} {fd : FuncData} {ps : List Str} {sp : Sp}
/-- x == y, x an instance -/
def rEqI (K : PySem.W.Frag) (C : Addr) (sp : Sp) : R2 := fun x y H Q => ∃ a dx fs t, x = .ref a ∧ H a = some (.ins C dx fs) ∧ TyX K H y t ∧ PySem.W.notFirst K C t = true ∧ sp [x, y] H (fun v H' => ∃ b, v = .bl b ∧ Q (.bl b) H') fun _ _ _ => False
theorem op_eqI (c : Spm X.K C "__eq__" f) (F : FnOk X.prog X.w X.K X.mg X.base (L2.CX X.prog X.w) k f fd ps sp) (hr : Room k X.A) (hu : X.A.units < cLine) (hb : Binds X.K fd ps []) : OpR X (compareOp .Eq) (rEqI X.K C sp) := by
  intro pins s σ H x y u v Q I rx ry h
  obtain ⟨a, dx, fs, t, rfl, ha, ht, hn, h⟩ := h
  obtain rfl : u = Value.ref a := rx
  obtain ⟨mA, O, _⟩ := ins_get I.hok ha
  obtain ⟨od, J, _⟩ := O.look
  obtain ⟨P, Z, hp, _⟩ := kit_of I ry ht
  obtain ⟨m, Fr⟩ := I.fr
  refine PySem.W.cmp_ofEq (PySem.W.cmp_K hu Fr I.ok.mod.kin J (Z.ty _ _ I.kIn hp) hn c.at_ c.fn ?_)
  refine wpAny_mono (run0 (us := [.ref a, v]) (vs := [.ref a, y]) F hr hb I (.cons rfl (.cons ry .nil)) h) (fun u s' hq => ?_) fun _ _ e => e
  obtain ⟨w, H', I', rw', b, rfl, q⟩ := hq
  obtain rfl : u = Value.bool b := rw'
  exact ⟨.bl b, H', I', rfl, q⟩
theorem ifb_ne {M : Model} {A : Around} {E : Value → Shared → Prop} {s : Shared} {K : PySem.W.Frag} {x C : Addr} {ox : Obj} {od : Option Obj} {rest : List Value} {Q : Option Value → Shared → Prop} (X : K.In s.heap) (I : PySem.W.InstAt s.heap x ox C od) (hs : PySem.W.findIn K (.ref C) "__ne__" = some (some (.builtin "object.__ne__")))
    (h : wpAny M A (call (.builtin "object.__ne__") (.ref x :: rest)) (fun v => Q (some v)) E s) : wpAny M A (callSpecialIfBound? (.ref x) "__ne__" rest) Q E s := by
  simp only [callSpecialIfBound?, bindSpecialIfBound?]
  refine wpAny_holding (wpAny_bind (wpAny_bind (wpAny_bind (I.type.here ((PySem.W.looks_findIn X hs).here ?_)))))
  refine wpAny_bind (wpAny_askSetting (wpAny_ite ?_))
  have done : wpAny M A (call (.builtin "object.__ne__") ([.ref x] ++ rest) >>= fun v => pure (some v)) Q E s := wpAny_bind (wpAny_mono h (fun v s' z => wpAny_pure z) fun _ _ z => z)
  split
  · exact wpAny_bind (wpAny_of_eq (F.cmp_object.ne.bind _) (wpAny_pure (by exact done)))
  · exact wpAny_tryCatch (wpAny_bind (wpAny_of_eq (F.cmp_object.ne.bind _) (wpAny_pure (by exact done))))
/-- x != y, x an instance; no own __ne__ -/
def rNeI (K : PySem.W.Frag) (C : Addr) (sp : Sp) : R2 := fun x y H Q => ∃ a dx fs t, x = .ref a ∧ H a = some (.ins C dx fs) ∧ TyX K H y t ∧ PySem.W.notFirst K C t = true ∧ sp [x, y] H (fun v H' => ∃ b, v = .bl b ∧ Q (.bl (!b)) H') fun _ _ _ => False
theorem entry_neI {M : Model} {A : Around} {E : Value → Shared → Prop} {s : Shared} {K : PySem.W.Frag} {x C : Addr} {y : Value} {ox : Obj} {od : Option Obj} {Q : Fin → Shared → Prop} (hu : A.units < cLine) (X : K.In s.heap) (I : PySem.W.InstAt s.heap x ox C od) (c : Spm K C "__eq__" f)
    (h : wpAny M A (call (.ref f) [.ref x, y]) (fun v s' => ∃ b, v = .bool b ∧ Q (.done (.ret (.bool (!b)))) s') E s) : wpAny M A (Builtin.«object.__ne__» ⟨[.ref x, y], []⟩) Q E s := by
  unfold Builtin.«object.__ne__»
  repeat (first
    | with_reducible refine wpAny_cRoomFor hu ?_
    | (refine wpAny_bind (m := callSpecialIfBound? (.ref x) (Str.ofString "__eq__") [y])
        (PySem.W.ifBound_K X I c.at_ c.fn (wpAny_mono h (fun r s' hr => by
          obtain ⟨b, rfl, hq⟩ := hr
          repeat (first | exact hq | exact wpAny_pure hq | exact wpAny_truthy_bool hq | (refine wpAny_bind (m := truthy (.bool _)) (wpAny_truthy_bool ?_)) | wp_step)) fun _ _ e => e)))
    | wp_step)
theorem op_neI (c : Spm X.K C "__eq__" f) (hn0 : PySem.W.findIn X.K (.ref C) "__ne__" = some (some (.builtin "object.__ne__"))) (hm : PySem.W.mroIn X.K C (.type "object") = some true) (Fn : FnOk X.prog X.w X.K X.mg X.base (L2.CX X.prog X.w) k f fd ps sp) (hr : Room (k + 1) X.A) (hu : X.A.units < cLine) (hu1 : X.A.in1.units < cLine) (hb : Binds X.K fd ps []) : OpR X (compareOp .NotEq) (rNeI X.K C sp) := by
  intro pins s σ H x y u v Q I rx ry h
  obtain ⟨a, dx, fs, t, rfl, ha, ht, hn, h⟩ := h
  obtain rfl : u = Value.ref a := rx
  obtain ⟨mA, O, _⟩ := ins_get I.hok ha
  obtain ⟨od, J, _⟩ := O.look
  obtain ⟨P, Z, hp, _⟩ := kit_of I ry ht
  have one : wpAny (model X.prog X.w) X.A (tryCompare (.ref a) "__ne__" v) (fun r s' => ∃ v, r = some v ∧ EP X pins σ Q v s') X.xe s := by
    unfold tryCompare
    refine wpAny_bind (ifb_ne I.kIn J hn0 (wpAny_call (codeAny_call_builtin F.cmp_object.ne.plain F.cmpEntry_ne (PySem.W.check_slot F.cmpKind_ne F.cmpSplit_ne (J.type.andThen (PySem.W.looks_mroIn I.kIn hm)) (F.cmpArgs_ne _ _) ?_))))
    refine entry_neI (A := X.A.in1) hu1 I.kIn J c ?_
    refine wpAny_mono (run1 (us := [.ref a, v]) (vs := [.ref a, y]) Fn hr hb I (.cons rfl (.cons ry .nil)) h) (fun u s' hq => ?_) fun _ _ e => e
    obtain ⟨w, H', I', rw', b, rfl, q⟩ := hq
    obtain rfl : u = Value.bool b := rw'
    exact ⟨b, rfl, wpAny_pure ⟨_, rfl, ⟨.bl (!b), H', I', rfl, q⟩⟩⟩
  refine PySem.W.cmp_ofNotEq ?_
  unfold richCompare
  simp only [oneThing_ref]
  refine wpAny_holding (wpAny_bind (wpAny_cRoomFor hu ?_))
  refine wpAny_bind (J.type.here (wpAny_bind ((Z.ty _ _ I.kIn hp).here ?_)))
  have last : wpAny (model X.prog X.w) X.A (tryCompare (.ref a) (cmpInfo .NotEq).2.1 v) (fun r s' => ∃ v, r = some v ∧ EP X pins σ Q v s') X.xe s := one
  split
  · rename_i q
    have e : PySem.W.subIn X.K t (.ref C) = some false := by
      rcases Bool.or_eq_true_iff.mp hn with e | e
      · rw [beq_iff_eq.mp e] at q; simp at q
      · exact beq_iff_eq.mp e
    refine wpAny_bind ((PySem.W.looks_subIn I.kIn e).here ?_)
    simp only [Bool.false_eq_true, if_false]
    refine wpAny_bind (wpAny_mono last (fun r s' z => ?_) fun _ _ e => e)
    obtain ⟨z, rfl, hq⟩ := z
    exact wpAny_pure hq
  · refine wpAny_bind (wpAny_pure ?_)
    simp only [Bool.false_eq_true, if_false]
    refine wpAny_bind (wpAny_mono last (fun r s' z => ?_) fun _ _ e => e)
    obtain ⟨z, rfl, hq⟩ := z
    exact wpAny_pure hq
/-- x in y, y an instance -/
def rInI (C : Addr) (sp : Sp) : R2 := fun x y H Q => ∃ a dx fs, y = .ref a ∧ H a = some (.ins C dx fs) ∧ sp [y, x] H (fun v H' => ∃ b, v = .bl b ∧ Q (.bl b) H') fun _ _ _ => False
theorem op_inI (c : Spm X.K C "__contains__" f) (F : FnOk X.prog X.w X.K X.mg X.base (L2.CX X.prog X.w) k f fd ps sp) (hr : Room k X.A) (hb : Binds X.K fd ps []) : OpR X (compareOp .In) (rInI C sp) := by
  intro pins s σ H x y u v Q I rx ry h
  obtain ⟨a, dx, fs, rfl, ha, h⟩ := h
  obtain rfl : v = Value.ref a := ry
  obtain ⟨mA, O, _⟩ := ins_get I.hok ha
  obtain ⟨od, J, _⟩ := O.look
  obtain ⟨m, Fr⟩ := I.fr
  refine PySem.W.in_K Fr I.ok.mod.kin J c.at_ c.fn ?_
  refine wpAny_mono (run0 (us := [.ref a, u]) (vs := [.ref a, x]) F hr hb I (.cons rfl (.cons rx .nil)) h) (fun u s' hq => ?_) fun _ _ e => e
  obtain ⟨w, H', I', rw', b, rfl, q⟩ := hq
  obtain rfl : u = Value.bool b := rw'
  exact wpAny_truthy_bool ⟨.bl b, H', I', rfl, q⟩
def rNotInI (C : Addr) (sp : Sp) : R2 := fun x y H Q => ∃ a dx fs, y = .ref a ∧ H a = some (.ins C dx fs) ∧ sp [y, x] H (fun v H' => ∃ b, v = .bl b ∧ Q (.bl (!b)) H') fun _ _ _ => False
theorem op_notinI (c : Spm X.K C "__contains__" f) (F : FnOk X.prog X.w X.K X.mg X.base (L2.CX X.prog X.w) k f fd ps sp) (hr : Room k X.A) (hb : Binds X.K fd ps []) : OpR X (compareOp .NotIn) (rNotInI C sp) := by
  intro pins s σ H x y u v Q I rx ry h
  obtain ⟨a, dx, fs, rfl, ha, h⟩ := h
  obtain rfl : v = Value.ref a := ry
  obtain ⟨mA, O, _⟩ := ins_get I.hok ha
  obtain ⟨od, J, _⟩ := O.look
  obtain ⟨m, Fr⟩ := I.fr
  refine PySem.W.notIn_K Fr I.ok.mod.kin J c.at_ c.fn ?_
  refine wpAny_mono (run0 (us := [.ref a, u]) (vs := [.ref a, x]) F hr hb I (.cons rfl (.cons rx .nil)) h) (fun u s' hq => ?_) fun _ _ e => e
  obtain ⟨w, H', I', rw', b, rfl, q⟩ := hq
  obtain rfl : u = Value.bool b := rw'
  exact wpAny_truthy_bool ⟨.bl (!b), H', I', rfl, q⟩
/-- len(x), repr(x) -/
theorem call_lenI (c : Spm X.K C "__len__" f) (F : FnOk X.prog X.w X.K X.mg X.base (L2.CX X.prog X.w) k f fd ps sp) (hr : Room (k + 1) X.A) (hb : Binds X.K fd ps []) :
    CallR X (.builtin "len") (fun xs H Q => ∃ a dx fs, xs = [.ref a] ∧ H a = some (.ins C dx fs) ∧ sp [.ref a] H (fun v H' => ∃ n : Int, v = .int n ∧ 0 ≤ n ∧ n < 2 ^ 63 ∧ Q (.int n) H') fun _ _ _ => False) := by
  intro pins s σ H xs us Q I rs h
  obtain ⟨a, dx, fs, rfl, ha, h⟩ := h
  obtain ⟨u, rfl, ru⟩ : ∃ u, us = [u] ∧ RelV (.ref a) u := by cases rs with | cons r1 r2 => cases r2; exact ⟨_, rfl, r1⟩
  obtain rfl : u = Value.ref a := ru
  obtain ⟨mA, O, _⟩ := ins_get I.hok ha
  obtain ⟨od, J, _⟩ := O.look
  obtain ⟨m, Fr⟩ := I.fr
  refine PySem.W.len_K Fr I.ok.mod.kin J c.at_ c.fn ?_
  refine wpAny_mono (run1 (us := [.ref a]) (vs := [.ref a]) F hr hb I (.cons rfl .nil) h) (fun u s' hq => ?_) fun _ _ e => e
  obtain ⟨w, H', I', rw', n, rfl, h0, h1, q⟩ := hq
  obtain ⟨t, rfl⟩ := (show ∃ t, u = Value.int n t from rw')
  exact ⟨⟨h0, h1⟩, ⟨.int n, H', I'.tok _, ⟨_, rfl⟩, q⟩⟩
theorem call_reprI (c : Spm X.K C "__repr__" f) (F : FnOk X.prog X.w X.K X.mg X.base (L2.CX X.prog X.w) k f fd ps sp) (hr : Room (k + 1) X.A) (hu : X.A.in1.units < cLine) (hb : Binds X.K fd ps []) :
    CallR X (.builtin "repr") (fun xs H Q => ∃ a dx fs, xs = [.ref a] ∧ H a = some (.ins C dx fs) ∧ sp [.ref a] H (fun v H' => ∃ z : Str, v = .str z ∧ Q (.str z) H') fun _ _ _ => False) := by
  intro pins s σ H xs us Q I rs h
  obtain ⟨a, dx, fs, rfl, ha, h⟩ := h
  obtain ⟨u, rfl, ru⟩ : ∃ u, us = [u] ∧ RelV (.ref a) u := by cases rs with | cons r1 r2 => cases r2; exact ⟨_, rfl, r1⟩
  obtain rfl : u = Value.ref a := ru
  obtain ⟨mA, O, _⟩ := ins_get I.hok ha
  obtain ⟨od, J, _⟩ := O.look
  obtain ⟨m, Fr⟩ := I.fr
  refine PySem.W.repr_K hu Fr I.ok.mod.kin J c.at_ c.fn ?_
  refine wpAny_mono (run1 (us := [.ref a]) (vs := [.ref a]) F hr hb I (.cons rfl .nil) h) (fun u s' hq => ?_) fun _ _ e => e
  obtain ⟨w, H', I', rw', z, rfl, q⟩ := hq
  obtain ⟨t, rfl⟩ := (show ∃ t, u = Value.str z t from rw')
  exact ⟨.str z, H', I', ⟨_, rfl⟩, q⟩
end
end DL
namespace DL
open PySem PySem.Spec PyProof.Rows L2
/-! ### at data level -/
/-- a method of a class: where it stands, what it keeps -/
structure MCal (P : Program) (w : World) (K : PySem.W.Frag) (mg : Str → Option Value) (base : Heap) (Tb : List (Addr × Str)) (C : Addr) (x qual : Str) (st : Stmt) (dvs : List V) (kws : List (Str × V)) (k : Nat) (ps : List Str) (dsp : DSp) where
  f : Addr
  fd : FuncData
  F : FunD K x qual (defArgs st) (defBody st) (defScope st) dvs kws f fd
  fn : FnD P w K mg base Tb k f fd ps dsp
  me : Meth K C x f
structure CMCal (P : Program) (w : World) (K : PySem.W.Frag) (mg : Str → Option Value) (base : Heap) (Tb : List (Addr × Str)) (C : Addr) (x qual : Str) (st : Stmt) (dvs : List V) (kws : List (Str × V)) (k : Nat) (ps : List Str) (dsp : DSp) where
  f : Addr
  q : Addr
  fd : FuncData
  F : FunD K x qual (defArgs st) (defBody st) (defScope st) dvs kws f fd
  fn : FnD P w K mg base Tb k f fd ps dsp
  me : ClX.CMet K C (.type "type") x q f
structure SMCal (P : Program) (w : World) (K : PySem.W.Frag) (mg : Str → Option Value) (base : Heap) (Tb : List (Addr × Str)) (C : Addr) (x qual : Str) (st : Stmt) (dvs : List V) (kws : List (Str × V)) (k : Nat) (ps : List Str) (dsp : DSp) where
  f : Addr
  q : Addr
  fd : FuncData
  F : FunD K x qual (defArgs st) (defBody st) (defScope st) dvs kws f fd
  fn : FnD P w K mg base Tb k f fd ps dsp
  me : SMet K C x q f
structure PCal (P : Program) (w : World) (K : PySem.W.Frag) (mg : Str → Option Value) (base : Heap) (Tb : List (Addr × Str)) (C : Addr) (x qual : Str) (st : Stmt) (dvs : List V) (kws : List (Str × V)) (k : Nat) (ps : List Str) (dsp : DSp) where
  f : Addr
  q : Addr
  fd : FuncData
  F : FunD K x qual (defArgs st) (defBody st) (defScope st) dvs kws f fd
  fn : FnD P w K mg base Tb k f fd ps dsp
  me : PropOf K C x q f
/-- a class: its fields' names are not its own; it can be made -/
structure OCl (K : PySem.W.Frag) (x : Str) (fs : List Str) : Prop where
  clo : ClO K (He.ga K x)
  no : ∀ f ∈ fs, NoAttr K (He.ga K x) f
  mkr : Mk K (He.ga K x) (He.ma K (He.ga K x) "__init__")
  ne : PySem.W.findIn K (.ref (He.ga K x)) "__ne__" = some (some (.builtin "object.__ne__"))
def blQ (g : Bool → Bool) (Q : VD) : VD := fun d M' => match d with
  | .bl b => Q (.bl (g b)) M'
  | _ => False
def rEqO (C : Addr) (dsp : DSp) : RD2 := fun x y M Q => match insOf M x with
  | some (C', _) => C' = C ∧ (kindD C M y).isSome = true ∧ dsp [x, y] M (blQ (fun b => b) Q) (fun _ _ => False)
  | none => rEq_ x y M Q
def rNeO (C : Addr) (dsp : DSp) : RD2 := fun x y M Q => match insOf M x with
  | some (C', _) => C' = C ∧ (kindD C M y).isSome = true ∧ dsp [x, y] M (blQ (!·) Q) fun _ _ => False
  | none => rNe_ x y M Q
def rInO (C : Addr) (dsp : DSp) : RD2 := fun x y M Q => match insOf M y with
  | some (C', _) => C' = C ∧ dsp [y, x] M (blQ (fun b => b) Q) fun _ _ => False
  | none => rIn_ x y M Q
section
variable {X : Cx} {Tb : List (Addr × Str)} {C : Addr} {dsp : DSp}
theorem post_bl {K : PySem.W.Frag} {al : Al} {M : Mem} {H : Hp} {g : Bool → Bool} {Q : VD} {QV : VK} (p : PostV K Tb al M H Q QV) : PostV K Tb al M H (blQ g Q) (fun v H' => ∃ b, v = .bl b ∧ QV (.bl (g b)) H') := by
  intro al' d M' v H' s w r q
  cases d with
  | bl b => exact ⟨b, r, p _ (.bl (g b)) _ _ _ s w rfl q⟩
  | _ => exact (show False from q).elim
theorem ref_eqO (c : ClO X.K C) : RefOp X.K Tb (fun x y H Q => rEqI X.K C (liftSp X.K Tb dsp) x y H Q ∨ (rEq x y H Q ∨ L2.rEqD X.K x y H Q)) (rEqO C dsp) := by
  intro al M H x y dx dy Q QV w rx ry h p
  unfold rEqO at h
  split at h
  · rename_i C' fs e1
    obtain ⟨rfl, h1, h2⟩ := h
    obtain ⟨b, e2⟩ := Option.isSome_iff_exists.mp h1
    obtain ⟨t, ht, _, hn⟩ := kindD_ok c w e2 ry
    obtain ⟨a, d', ys, rfl, ha, _⟩ := insOf_ok w e1 rx
    exact .inl ⟨a, d', ys, t, rfl, ha, ht, hn, al, M, [dx, dy], _, _, w, ⟨_, _, rfl, rx, _, _, rfl, ry, rfl⟩, h2, post_bl (g := fun b => b) p, fun _ _ _ _ _ _ _ _ _ z => z.elim⟩
  · exact .inr (ref_eq al M H x y dx dy Q QV w rx ry h p)
theorem ref_neO (c : ClO X.K C) : RefOp X.K Tb (fun x y H Q => rNeI X.K C (liftSp X.K Tb dsp) x y H Q ∨ (rNe x y H Q ∨ L2.rNeD X.K x y H Q)) (rNeO C dsp) := by
  intro al M H x y dx dy Q QV w rx ry h p
  unfold rNeO at h
  split at h
  · rename_i C' fs e1
    obtain ⟨rfl, h1, h2⟩ := h
    obtain ⟨b, e2⟩ := Option.isSome_iff_exists.mp h1
    obtain ⟨t, ht, _, hn⟩ := kindD_ok c w e2 ry
    obtain ⟨a, d', ys, rfl, ha, _⟩ := insOf_ok w e1 rx
    exact .inl ⟨a, d', ys, t, rfl, ha, ht, hn, al, M, [dx, dy], _, _, w, ⟨_, _, rfl, rx, _, _, rfl, ry, rfl⟩, h2, post_bl (g := (!·)) p, fun _ _ _ _ _ _ _ _ _ z => z.elim⟩
  · exact .inr (ref_ne al M H x y dx dy Q QV w rx ry h p)
variable {EV : XK} {a b : Expr} {ta tb : TED} {pos : Pos} {x qual : Str} {st : Stmt} {dvs : List V} {kws : List (Str × V)} {k : Nat} {ps : List Str}
theorem units_room {k : Nat} {A : Around} (r : Room k A) : A.units < cLine := by have := r.units; omega
theorem units_in1 {k : Nat} {A : Around} (r : Room (k + 1) A) : A.in1.units < cLine := by have := r.in1.units; omega
theorem dv_eqO (c : ClO X.K C) (m : MCal X.prog X.w X.K X.mg X.base Tb C "__eq__" qual st dvs kws k ps dsp) (hb : Binds X.K m.fd ps []) (hr : Room (k + 1) X.A) (ha : PD X Tb EV a ta) (hb' : PD X Tb EV b tb) : PD X Tb EV (.Compare a [.Eq] [b] pos) (dOp (rEqO C dsp) ta tb) :=
  dv_cmp ((op_eqI ⟨m.me.at_, m.me.fn⟩ m.fn.ok (hr.mono (Nat.le_succ _)) (units_room hr) hb).or (op_eq.or (op_eqD hr.units))) (ref_eqO c) ha hb' (nomark _)
theorem dt_eqO (c : ClO X.K C) (m : MCal X.prog X.w X.K X.mg X.base Tb C "__eq__" qual st dvs kws k ps dsp) (hb : Binds X.K m.fd ps []) (hr : Room (k + 1) X.A) (ha : PD X Tb EV a ta) (hb' : PD X Tb EV b tb) : PDT X Tb EV (.Compare a [.Eq] [b] pos) (dB (dOp (rEqO C dsp) ta tb)) :=
  dt_cmp ((op_eqI ⟨m.me.at_, m.me.fn⟩ m.fn.ok (hr.mono (Nat.le_succ _)) (units_room hr) hb).or (op_eq.or (op_eqD hr.units))) (ref_eqO c) ha hb' (nomark _)
theorem dv_neO (c : ClO X.K C) (h0 : PySem.W.findIn X.K (.ref C) "__ne__" = some (some (.builtin "object.__ne__"))) (m : MCal X.prog X.w X.K X.mg X.base Tb C "__eq__" qual st dvs kws k ps dsp) (hb : Binds X.K m.fd ps []) (hr : Room (k + 1) X.A) (ha : PD X Tb EV a ta) (hb' : PD X Tb EV b tb) : PD X Tb EV (.Compare a [.NotEq] [b] pos) (dOp (rNeO C dsp) ta tb) :=
  dv_cmp ((op_neI ⟨m.me.at_, m.me.fn⟩ h0 c.hm m.fn.ok hr (units_room hr) (units_in1 hr) hb).or (op_ne.or (op_neD hr.units))) (ref_neO c) ha hb' (nomark _)
theorem dt_neO (c : ClO X.K C) (h0 : PySem.W.findIn X.K (.ref C) "__ne__" = some (some (.builtin "object.__ne__"))) (m : MCal X.prog X.w X.K X.mg X.base Tb C "__eq__" qual st dvs kws k ps dsp) (hb : Binds X.K m.fd ps []) (hr : Room (k + 1) X.A) (ha : PD X Tb EV a ta) (hb' : PD X Tb EV b tb) : PDT X Tb EV (.Compare a [.NotEq] [b] pos) (dB (dOp (rNeO C dsp) ta tb)) :=
  dt_cmp ((op_neI ⟨m.me.at_, m.me.fn⟩ h0 c.hm m.fn.ok hr (units_room hr) (units_in1 hr) hb).or (op_ne.or (op_neD hr.units))) (ref_neO c) ha hb' (nomark _)
/-- x in an instance -/
def rInO1 (C : Addr) (dsp : DSp) : RD2 := fun x y M Q => match insOf M y with
  | some (C', _) => C' = C ∧ dsp [y, x] M (blQ (fun b => b) Q) fun _ _ => False
  | none => False
theorem ref_inO : RefOp X.K Tb (rInI C (liftSp X.K Tb dsp)) (rInO1 C dsp) := by
  intro al M H x y dx dy Q QV w rx ry h p
  unfold rInO1 at h
  split at h
  · rename_i C' fs e1
    obtain ⟨rfl, h2⟩ := h
    obtain ⟨a, d', ys, rfl, ha, _⟩ := insOf_ok w e1 ry
    exact ⟨a, d', ys, rfl, ha, al, M, [dy, dx], _, _, w, ⟨_, _, rfl, ry, _, _, rfl, rx, rfl⟩, h2, post_bl (g := fun b => b) p, fun _ _ _ _ _ _ _ _ _ z => z.elim⟩
  · exact h.elim
theorem dv_inO (m : MCal X.prog X.w X.K X.mg X.base Tb C "__contains__" qual st dvs kws k ps dsp) (hb : Binds X.K m.fd ps []) (hr : Room k X.A) (ha : PD X Tb EV a ta) (hb' : PD X Tb EV b tb) (hm : behindInMarks .In b = false := by rfl) : PD X Tb EV (.Compare a [.In] [b] pos) (dOp (rInO1 C dsp) ta tb) :=
  dv_cmp (op_inI ⟨m.me.at_, m.me.fn⟩ m.fn.ok hr hb) ref_inO ha hb' hm
theorem dt_inO (m : MCal X.prog X.w X.K X.mg X.base Tb C "__contains__" qual st dvs kws k ps dsp) (hb : Binds X.K m.fd ps []) (hr : Room k X.A) (ha : PD X Tb EV a ta) (hb' : PD X Tb EV b tb) (hm : behindInMarks .In b = false := by rfl) : PDT X Tb EV (.Compare a [.In] [b] pos) (dB (dOp (rInO1 C dsp) ta tb)) :=
  dt_cmp (op_inI ⟨m.me.at_, m.me.fn⟩ m.fn.ok hr hb) ref_inO ha hb' hm
/-- len, repr of an instance -/
def rLenO (C : Addr) (dsp : DSp) : RDC := fun ds M Q => match ds with
  | [x] => (match insOf M x with
    | some (C', _) => C' = C ∧ dsp [x] M (fun d M' => match d with
      | .int n => 0 ≤ n ∧ n < 2 ^ 63 ∧ Q (.int n) M'
      | _ => False) fun _ _ => False
    | none => rLen_ [x] M Q)
  | _ => False
def rReprO (C : Addr) (dsp : DSp) : RDC := fun ds M Q => match ds with
  | [x] => (match insOf M x with
    | some (C', _) => C' = C ∧ dsp [x] M (fun d M' => match d with
      | .str z => Q (.str z) M'
      | _ => False) fun _ _ => False
    | none => False)
  | _ => False
theorem ref_reprO : RefC X.K Tb (fun xs H Q => ∃ a dx fs, xs = [.ref a] ∧ H a = some (.ins C dx fs) ∧ liftSp X.K Tb dsp [.ref a] H (fun v H' => ∃ z : Str, v = .str z ∧ Q (.str z) H') fun _ _ _ => False) (rReprO C dsp) := by
  intro al M H xs ds Q QV w r h p
  unfold rReprO at h
  split at h
  · rename_i x
    obtain ⟨v, rfl, rv⟩ := r.one
    split at h
    · rename_i C' fs e1
      obtain ⟨rfl, h⟩ := h
      obtain ⟨a, d', ys, rfl, ha, _⟩ := insOf_ok w e1 rv
      refine ⟨a, d', ys, rfl, ha, al, M, [x], _, _, w, ⟨_, _, rfl, rv, rfl⟩, h, ?_, fun _ _ _ _ _ _ _ _ _ z => z.elim⟩
      intro al' d M' v H' s w r q
      cases d with
      | str z => exact ⟨z, r, p _ (.str z) _ _ _ s w rfl q⟩
      | _ => exact (show False from q).elim
    · exact h.elim
  · exact h.elim
theorem ref_lenO : RefC X.K Tb (fun xs H Q => (∃ a dx fs, xs = [.ref a] ∧ H a = some (.ins C dx fs) ∧ liftSp X.K Tb dsp [.ref a] H (fun v H' => ∃ n : Int, v = .int n ∧ 0 ≤ n ∧ n < 2 ^ 63 ∧ Q (.int n) H') fun _ _ _ => False) ∨ ∃ x n, xs = [x] ∧ LenV X.K x H n ∧ Q (.int n) H) (rLenO C dsp) := by
  intro al M H xs ds Q QV w r h p
  unfold rLenO at h
  split at h
  · rename_i x
    obtain ⟨v, rfl, rv⟩ := r.one
    split at h
    · rename_i C' fs e1
      obtain ⟨rfl, h⟩ := h
      obtain ⟨a, d', ys, rfl, ha, _⟩ := insOf_ok w e1 rv
      refine .inl ⟨a, d', ys, rfl, ha, al, M, [x], _, _, w, ⟨_, _, rfl, rv, rfl⟩, h, ?_, fun _ _ _ _ _ _ _ _ _ z => z.elim⟩
      intro al' d M' v H' s w r q
      cases d with
      | int z => exact ⟨z, r, q.1, q.2.1, p _ (.int z) _ _ _ s w rfl q.2.2⟩
      | _ => exact (show False from q).elim
    · exact .inr (ref_len (X := X) al M H _ _ Q QV w r h p)
  · exact h.elim
end
end DL

/-! f-strings; the head's facts of wrapped defs -/
namespace He
open PySem PySem.Spec PyProof.Rows L2
/-- one def: where it stands as a function of what is looked at -/
structure DefE where
  at_ : PySem.W.Frag → Addr
  name : Str
  qual : Str
  params : Arguments
  body : List Stmt
  scope : Scope
  dfl : List Dv := []
  kwd : List (Str × Dv) := []
def fnE (K : PySem.W.Frag) (a : Addr) : FnW := match K.lookup a with
  | some ⟨_, _, .func fd, _⟩ => some (fd.name, fd.qualname, fd.params, fd.body, fd.scope, fd.globals, fd.closure, fd.builtins)
  | _ => none
def DefE.val (d : DefE) : FnW := some (d.name, d.qual, d.params, .stmts d.body, d.scope, mainGlobals, [], builtinsNs)
def DefE.dvs (K : PySem.W.Frag) (d : DefE) : List V := d.dfl.map (Dv.v K)
def DefE.kws (K : PySem.W.Frag) (d : DefE) : List (Str × V) := d.kwd.map fun q => (q.1, q.2.v K)
def DefE.ok (K : PySem.W.Frag) (d : DefE) : Bool := PySem.W.keepIn K (.ref (d.at_ K)) && (match K.lookup (d.at_ K) with
  | some ⟨_, _, .func fd, _⟩ => PySem.W.codeIn K fd.code d.qual && (dflB K fd.defaults (d.dvs K) && kwdB K fd.kwdefaults (d.kws K))
  | _ => false)
theorem DefE.funD {K : PySem.W.Frag} {d : DefE} (e : fnE K (d.at_ K) = d.val) (c : d.ok K = true) : ∃ fd, FunD K d.name d.qual d.params d.body d.scope (d.dvs K) (d.kws K) (d.at_ K) fd := by
  obtain ⟨kp, c2⟩ := ba c
  unfold fnE at e
  cases q : K.lookup (d.at_ K) with
  | none => rw [q] at c2; cases c2
  | some o =>
    obtain ⟨oc, od, dt, osl⟩ := o
    rw [q] at c2 e
    cases dt with
    | func fd =>
      obtain ⟨n1, n2, n3, n4, n5, n6, n7, n8, n9, n10, n11, n12, n13, n14, n15⟩ := fd
      have e2 : (some (n1, n2, n3, n4, n5, n6, n7, n15) : FnW) = some (d.name, d.qual, d.params, .stmts d.body, d.scope, mainGlobals, [], builtinsNs) := e
      simp only [Option.some.injEq, Prod.mk.injEq] at e2
      obtain ⟨a1, a2, a3, a4, a5, a6, a7, a8⟩ := e2
      subst a1 a2 a3 a4 a5 a6 a7 a8
      obtain ⟨k1, k2⟩ := ba (show (PySem.W.codeIn K n13 d.qual && (dflB K n8 (d.dvs K) && kwdB K n9 (d.kws K))) = true from c2)
      obtain ⟨k3, k4⟩ := ba k2
      exact ⟨_, ⟨oc, od, n8, n9, n10, n11, n12, n13, n14, osl, rfl, q, k1, dflB_ok k3, kwdB_ok k4⟩, kp⟩
    | _ => cases c2
abbrev AlY : Type := Bool × List FnW
def obsYK (fa : List Fa) (fn : List DefE) (ex : PySem.W.Frag → Bool) (K : PySem.W.Frag) : AlY := ((fa.all fun f => f.ok K) && (fn.all (fun d => d.ok K) && ex K), fn.map fun d => fnE K (d.at_ K))
def valY (fn : List DefE) : AlY := (true, fn.map DefE.val)
structure SaysY (fa : List Fa) (fn : List DefE) (tf : List Defn) (ex : PySem.W.Frag → Bool) (h : Heap) (K : PySem.W.Frag) : Prop where
  t : obsYK fa fn ex K = valY fn
  hd : ∀ p ∈ tf, PySem.W.codeHdIn K (cT K p).1 (cT K p).2 = true
  out : ∀ p ∈ tf, K.lookup (cT K p).2 = none
  empty : ∀ p ∈ tf, h.get? (cT K p).2 = some { cls := .none, data := .fields #[] }
def asY (g : Addr → Option Obj) (n : Nat) : List Addr := cStatics :: asD g n
abbrev AlYX : Type := AlY × Bool
def obsY (n : Nat) (fa : List Fa) (fn : List DefE) (tf : List Defn) (ex : PySem.W.Frag → Bool) (g : Addr → Option Obj) : AlYX := (obsYK fa fn ex (frT g (asY g n)), tabsB g tf (frT g (asY g n)))
theorem saysY_of {n : Nat} {fa : List Fa} {fn : List DefE} {tf : List Defn} {ex : PySem.W.Frag → Bool} {h : Heap} (e : obsY n fa fn tf ex h.get? = (valY fn, true)) : SaysY fa fn tf ex h (frT h.get? (asY h.get? n)) := by
  have e1 : obsYK fa fn ex (frT h.get? (asY h.get? n)) = valY fn := congrArg (fun z : AlYX => z.1) e
  have e2 : tabsB h.get? tf (frT h.get? (asY h.get? n)) = true := congrArg (fun z : AlYX => z.2) e
  have key : ∀ p ∈ tf, PySem.W.codeHdIn (frT h.get? (asY h.get? n)) (cT (frT h.get? (asY h.get? n)) p).1 (cT (frT h.get? (asY h.get? n)) p).2 = true ∧ ∃ o, h.get? (cT (frT h.get? (asY h.get? n)) p).2 = some o ∧ emptyTab o = true := fun p hp => by
    obtain ⟨h3, h4⟩ := ba (List.all_eq_true.mp e2 p hp)
    refine ⟨h3, ?_⟩
    cases q : h.get? (cT (frT h.get? (asY h.get? n)) p).2 with
    | none => rw [q] at h4; cases h4
    | some o => rw [q] at h4; exact ⟨o, rfl, h4⟩
  exact ⟨e1, fun p hp => (key p hp).1, fun p hp => let ⟨_, _, q, z⟩ := key p hp; frT_none q z, fun p hp => let ⟨_, _, q, z⟩ := key p hp; by rw [q, emptyTab_eq z]⟩
def hookY (n : Nat) (fa : List Fa) (fn : List DefE) (tf : List Defn) (ex : PySem.W.Frag → Bool) : PySem.W.Hook where
  α := AlYX
  obs := fun s => obsY n fa fn tf ex s.heap.get?
  val := fun _ => (valY fn, true)
  says := fun _ h => ∃ K : PySem.W.Frag, K.In h ∧ SaysY fa fn tf ex h K
  of := fun _ _ e => ⟨_, frT_in, saysY_of e⟩
  keeps := fun _ _ _ ⟨K, hK, c⟩ k => ⟨K, PySem.W.Frag.In.keeps hK k, ⟨c.t, c.hd, c.out, fun p hp => k _ _ (c.empty p hp)⟩⟩
theorem obsY_eq {n : Nat} {fa : List Fa} {fn : List DefE} {tf : List Defn} {ex : PySem.W.Frag → Bool} {g : Addr → Option Obj} {s : Shared} (h : ∀ a, g a = s.heap.get? a) : obsY n fa fn tf ex g = (hookY n fa fn tf ex).obs s := by
  have e : g = s.heap.get? := funext h
  rw [e] <;> rfl
section
variable {fa : List Fa} {fn : List DefE} {tf : List Defn} {ex : PySem.W.Frag → Bool} {h : Heap} {K : PySem.W.Frag}
theorem SaysY.bools (c : SaysY fa fn tf ex h K) : (fa.all fun f => f.ok K) = true ∧ fn.all (fun d => d.ok K) = true ∧ ex K = true := by
  have e : ((fa.all fun f => f.ok K) && (fn.all (fun d => d.ok K) && ex K)) = true := congrArg (fun z : AlY => z.1) c.t
  obtain ⟨h1, h2⟩ := ba e
  exact ⟨h1, (ba h2).1, (ba h2).2⟩
theorem SaysY.more (c : SaysY fa fn tf ex h K) : ex K = true := c.bools.2.2
theorem SaysY.fact (c : SaysY fa fn tf ex h K) (i : Nat) {f : Fa} (e : fa[i]? = some f := by rfl) : f.ok K = true := List.all_eq_true.mp c.bools.1 f (List.mem_of_getElem? e)
theorem SaysY.def_ (c : SaysY fa fn tf ex h K) (i : Nat) {d : DefE} (e : fn[i]? = some d := by rfl) : ∃ fd, FunD K d.name d.qual d.params d.body d.scope (d.dvs K) (d.kws K) (d.at_ K) fd := by
  have q : fn.map (fun d => fnE K (d.at_ K)) = fn.map DefE.val := congrArg (fun z : AlY => z.2) c.t
  have q2 : (fn.map fun d => fnE K (d.at_ K))[i]? = (fn.map DefE.val)[i]? := by rw [q]
  rw [List.getElem?_map, List.getElem?_map, e] at q2
  exact DefE.funD (Option.some.inj q2) (List.all_eq_true.mp c.bools.2.1 d (List.mem_of_getElem? e))
end
end He
namespace DL
open PySem PySem.Spec PyProof.Rows L2
/-! ### classes, by Bools -/
def oclB (K : PySem.W.Frag) (x : Str) (fs : List Str) : Bool := cloB K (He.ga K x) && ((He.Fa.mkr x).ok K && (decide (PySem.W.findIn K (.ref (He.ga K x)) "__ne__" = some (some (.builtin "object.__ne__"))) && fs.all fun f => decide (PySem.W.findIn K (.ref (He.ga K x)) f = some none)))
theorem oclB_ok {K : PySem.W.Frag} {x : Str} {fs : List Str} (h : oclB K x fs = true) : OCl K x fs := by
  unfold oclB at h
  simp only [Bool.and_eq_true] at h
  exact ⟨cloB_ok h.1, fun f hf => of_decide_eq_true (p := PySem.W.findIn K (.ref (He.ga K x)) f = some none) (List.all_eq_true.mp h.2.2.2 f hf), He.mkr_ok h.2.1, of_decide_eq_true h.2.2.1⟩
def cmB (K : PySem.W.Frag) (x m : Str) : Bool := He5.wrapB K (He.ga K x) "classmethod" "classmethod.__get__" m && PySem.W.fnIn K (He5.wf K (He.ga K x) "classmethod" m)
theorem cmB_ok {K : PySem.W.Frag} {x m : Str} (h : cmB K x m = true) : ClX.CMet K (He.ga K x) (.type "type") m (He.ma K (He.ga K x) m) (He5.wf K (He.ga K x) "classmethod" m) := by
  obtain ⟨h1, h2⟩ := He.ba h
  obtain ⟨k1, k2⟩ := He5.wrapB_ok h1
  exact ⟨k1, k2, h2⟩
def smB (K : PySem.W.Frag) (x m : Str) : Bool := He5.wrapB K (He.ga K x) "staticmethod" "staticmethod.__get__" m && PySem.W.keepIn K (.ref (He5.wf K (He.ga K x) "staticmethod" m))
theorem smB_ok {K : PySem.W.Frag} {x m : Str} (h : smB K x m = true) : SMet K (He.ga K x) m (He.ma K (He.ga K x) m) (He5.wf K (He.ga K x) "staticmethod" m) := by
  obtain ⟨h1, h2⟩ := He.ba h
  obtain ⟨k1, k2⟩ := He5.wrapB_ok h1
  exact ⟨k1, k2, h2⟩
def prB (K : PySem.W.Frag) (x m : Str) : Bool := decide (PySem.W.findIn K (.ref (He.ga K x)) m = some (some (.ref (He.ma K (He.ga K x) m)))) && (decide (PySem.W.specialIn K (.ref (He.ma K (He.ga K x) m)) "__get__" = some (some (.builtin "property.__get__"))) && (decide (PySem.W.takesIn K (.ref (He.ma K (He.ga K x) m)) = some true) && (match PySem.W.recIn K (He.ma K (He.ga K x) m) "property" with
  | some (.ref _ :: _) => true
  | _ => false)))
theorem prB_ok {K : PySem.W.Frag} {x m : Str} (h : prB K x m = true) : PropOf K (He.ga K x) m (He.ma K (He.ga K x) m) (He5.wf K (He.ga K x) "property" m) := by
  unfold prB at h
  simp only [Bool.and_eq_true] at h
  refine ⟨of_decide_eq_true h.1, of_decide_eq_true h.2.1, of_decide_eq_true h.2.2.1, ?_⟩
  have h4 := h.2.2.2
  unfold He5.wf
  split at h4
  · rename_i f r e
    exact ⟨r, by rw [e]⟩
  · cases h4
theorem lam_codeE {K : PySem.W.Frag} {x qual : Str} {params : Arguments} {body : List Stmt} {scope : Scope} {dvs : List V} {kws : List (Str × V)} {fd : FuncData} {f : Addr} {p : He.Defn} (e : f = He.fAd K p) (F : FunD K x qual params body scope dvs kws f fd) : fd.code = .ref (He.codeOf K p) := by
  subst e
  exact lam_code F
/-- a constant of a class -/
theorem cval_of {K : PySem.W.Frag} {C : Addr} {f : Str} {u : Value} {v : V} {d : D} (c : ClO K C) (h : PySem.W.findCls K (.ref C) (.type "type") f = some (.val u)) (rv : RelV v u) (r : ∀ al M H, Rp K al M H d v) : CValD K C f d := ⟨v, u, c.cr, ⟨h, rv⟩, r⟩
def cvB (K : PySem.W.Frag) (x f : Str) (v : He.Dv) : Bool := match PySem.W.findCls K (.ref (He.ga K x)) (.type "type") f with
  | some (.val u) => He.relB (v.v K) u
  | _ => false
theorem cvB_ok {K : PySem.W.Frag} {x f : Str} {v : He.Dv} {d : D} (c : ClO K (He.ga K x)) (h : cvB K x f v = true) (r : ∀ al M H, Rp K al M H d (v.v K)) : CValD K (He.ga K x) f d := by
  unfold cvB at h
  split at h
  · rename_i u e
    exact cval_of c e (He.relB_ok h) r
  · cases h
theorem conB_ok {K : PySem.W.Frag} {x f : Str} {v : He.Dv} {d : D} (h : He.conB K x f v = true) (r : ∀ al M H, Rp K al M H d (v.v K)) (hc : PySem.W.copiedNames.contains f = false := by decide) : ConD K (He.ga K x) f d := by
  obtain ⟨u, c⟩ := He.conB_ok h hc
  exact ⟨_, u, c, r⟩
/-! ### f-strings -/
def dFmt (t : TED) : TED := fun E rho M Q => t E rho M fun x M1 => match x with
  | .str y => y.length ≤ sizeLine ∧ Q (.str y) M1
  | .int i => i.natAbs.log2 < 1920 ∧ Q (.str (toString i)) M1
  | _ => False
def dJs : List TED → Str → XD → Rho → Mem → VD → Prop
  | [], acc, _, _, M, Q => Q (.str acc) M
  | t :: ts, acc, E, rho, M, Q => t E rho M fun x M1 => match x with
    | .str y => (acc ++ y).length ≤ sizeLine ∧ dJs ts (acc ++ y) E rho M1 Q
    | _ => False
def jsD (ts : List TED) (acc : Str) (E : XD) (rho : Rho) (Q : VD) (x : D) (M1 : Mem) : Prop := match x with
  | .str y => (acc ++ y).length ≤ sizeLine ∧ dJs ts (acc ++ y) E rho M1 Q
  | _ => False
def dJoin (ts : List TED) : TED := fun E rho M Q => dJs ts Str.empty E rho M Q
section
variable {X : Cx} {Tb : List (Addr × Str)} {EV : XK} {e : Expr} {t : TED} {pos : Pos} {es : List Expr} {ts : List TED} {v1 v2 : Expr} {rest : List Expr}
theorem dv_fmt (h : PD X Tb EV e t) : PD X Tb EV (.FormattedValue e (-1) none pos) (dFmt t) := pe_imp (pe_fmt h) fun σ H QV q => by
  obtain ⟨al, rho, M, E, Q, a, t, p⟩ := q
  refine seq1 a t fun al1 x M1 vx H1 s1 a1 r1 q1 => ?_
  cases x with
  | str y => exact .inl ⟨y, r1, q1.1, p _ (.str y) _ _ _ s1 a1.wf rfl q1.2⟩
  | int i => exact .inr ⟨i, r1, q1.1, p _ (.str _) _ _ _ s1 a1.wf rfl q1.2⟩
  | _ => exact (show False from q1).elim
abbrev PDJ (X : Cx) (Tb : List (Addr × Str)) (EV : XK) (es : List Expr) (ts : List TED) : Prop := PJ X es (ts.map fun t => lift X.K Tb EV t)
theorem dj_nil : PDJ X Tb EV [] [] := .nil
theorem dj_cons (h : PD X Tb EV e t) (r : PDJ X Tb EV es ts) : PDJ X Tb EV (e :: es) (t :: ts) := .cons h r
theorem js_lift {K : PySem.W.Frag} {σ : L2.St} : ∀ (ts : List TED) (acc : Str) {al : Al} {H : Hp} {rho : Rho} {M : Mem} {E : XD} {Q : VD} {QV : VK}, At K Tb EV al σ H rho M E → dJs ts acc E rho M Q → PostV K Tb al M H Q QV → tJs (ts.map fun t => lift K Tb EV t) acc σ H fun out H1 => QV (.str out) H1
  | [], acc, al, H, rho, M, E, Q, QV, a, h, p => p _ (.str acc) _ _ _ (Stp.refl ..) a.wf rfl h
  | t :: ts, acc, al, H, rho, M, E, Q, QV, a, h, p => by
    refine seq1 a h fun al1 x M1 vx H1 s1 a1 r1 q1 => ?_
    cases x with
    | str y => exact ⟨y, r1, q1.1, js_lift ts (acc ++ y) a1 q1.2 (p.mono s1)⟩
    | _ => exact (show False from q1).elim
theorem dv_js (h : PDJ X Tb EV (v1 :: v2 :: rest) ts) : PD X Tb EV (.JoinedStr (v1 :: v2 :: rest) pos) (dJoin ts) := pe_imp (pe_joined h) fun σ H QV q => by
  obtain ⟨al, rho, M, E, Q, a, t, p⟩ := q
  exact js_lift ts Str.empty a t p
theorem dv_js1 (h : PD X Tb EV e t) : PD X Tb EV (.JoinedStr [e] pos) t := pe_joined1 h
end
end DL
namespace DL
open PySem PySem.Spec PyProof.Rows L2
/-- positional defaults, all of them looked at, and keyword-only defaults ms -/
theorem kbp_both {K : PySem.W.Frag} {x qual : Str} {params : Arguments} {body : List Stmt} {scope : Scope} {dvs : List V} {kws : List (Str × V)} {f : Addr} {fd : FuncData} {ps : List Str} (F : FunD K x qual params body scope dvs kws f fd) (hd : dvs ≠ []) (n : Nat) (ks : List Str) (ms : List (Str × V)) (is : List Nat) (hk : kws ≠ []) (hms : ∀ q ∈ ms, q ∈ kws)
    (h : ∀ (T D : Addr) (doc pm : Value) (an : Option Addr) (cdv ct : Value) (us its mv ws : List Value), us.length = n → its.length = dvs.length → mv.length = ms.length → ws.length = ks.length →
      ∃ k, bindArgs (PySem.W.fnOf x qual params body scope (.ref T) (.ref D) doc pm an cdv ct) ⟨us, ks.zip ws⟩ = seqItems? (.ref T) >>= k ∧ KwChain D ((ms.map (·.1)).zip mv) (k (some its.toArray)) (ps.zip (pick is (us ++ (its ++ mv) ++ ws)))) : KBp K fd ps n ks is (dvs ++ ms.map (·.2)) := by
  obtain ⟨oc, od, dV, kV, doc, pm, an, cdv, ct, osl, rfl, lk, hcd, hD, hK⟩ := F.ex
  rcases hD with ⟨e, _⟩ | ⟨_, T, o, its, m, rfl, lT, oT, rT⟩
  · exact absurd e hd
  · rcases hK with e | ⟨D, rfl, hq⟩
    · exact absurd e hk
    · obtain ⟨mv, hl, rk, hks⟩ := kwd_vals (ms := ms) fun q hm => hq q (hms q hm)
      refine ⟨its ++ mv, rT.append rk, fun s us ws X l1 l2 => ?_⟩
      obtain ⟨k, e1, e2⟩ := h T D doc pm an cdv ct us its mv ws l1 rT.length.symm hl l2
      refine BindsTo.of_looks fun M => ?_
      rw [e1]
      exact looks_items X lT oT (KwChain.looks X hks e2)
theorem mk_of {P : Program} {w : World} {K : PySem.W.Frag} {mg : Str → Option Value} {base : Heap} {Tb : List (Addr × Str)} {x qual : Str} {fs : List Str} {st : Stmt} {dvs : List V} {kws : List (Str × V)} {k : Nat} {ps : List Str} {dsp : DSp} (O : OCl K x fs) (m : MCal P w K mg base Tb (He.ga K x) "__init__" qual st dvs kws k ps dsp) : Mk K (He.ga K x) m.f :=
  ⟨O.mkr.makes, m.me.at_, m.me.fn, O.mkr.kp⟩
/-- a class as a value -/
theorem cc_cls {K : PySem.W.Frag} {h : Heap} {mg : Str → Option Value} (X : K.In h) (G : h.Ns mainGlobals mg) {x : Str} (c : (He.Fa.glo x).ok K = true) : CcD K mg x (.ref (He.ga K x)) := ⟨.ref (He.ga K x), .ref (He.ga K x), He.glo_ok X G c, rfl, fun _ _ _ => rfl⟩
/-- a tuple constant as a default -/
def RcD (K : PySem.W.Frag) (x : Str) (d : D) : Prop := ∀ al M H, Rp K al M H d (.ref (He.ga K x))
theorem rc_tup {K : PySem.W.Frag} {x : Str} {vs : List He.Dv} {ds : List D} (t : He.tupB K x vs = true) (hr : ∀ al M H, Rps K al M H ds (vs.map (He.Dv.v K))) : RcD K x (.tup ds) := fun al M H => ⟨_, _, rfl, .inr (He.tupB_ok t noH), hr al M H⟩
end DL

/-! steps for objects; fractions in order -/
namespace DL
open PySem PySem.Spec PyProof.Rows L2 Mt
section
variable {E : XD} {DD : DEnds} {rho : Rho} {M : Mem} {Q : VD} {ta tb to tf : TED} {aa ak : TAD} {t : TAKD} {dsp : DSp} {C : Addr} {f m : Str} {d x y : D} {ns : List Str} {xs ds es dds pre : List D} {n k i : Nat} {is : List Nat} {N : Mem → Prop} {P : Prop} {fz : Bool} {R : List D → List D → Mem → Prop}
theorem e_fld (h : ta E rho M fun x M1 => fldD C f x M1 Q) : dFld C f ta E rho M Q := h
theorem e_fldo (e : (ns.zip xs).lookup f = some d) (h : Q d M) : fldD C f (.obj C ns xs) M Q := by
  unfold fldD
  simp only [insOf, e]
  first | exact ⟨rfl, h⟩ | exact ⟨trivial, h⟩
theorem e_fldm {fs : List (Str × D)} (em : M[i]? = some (some (.ins C fs))) (e : fs.lookup f = some d) (h : Q d M) : fldD C f (.mt i) M Q := by
  unfold fldD
  simp only [insOf, em, e]
  first | exact ⟨rfl, h⟩ | exact ⟨trivial, h⟩
theorem e_con (h : ta E rho M fun x M1 => conD C f d x M1 Q) : dCon C f d ta E rho M Q := h
theorem e_cono (e : (ns.zip xs).lookup f = none) (h : Q d M) : conD C f d (.obj C ns xs) M Q := by
  unfold conD
  simp only [insOf, e]
  first | exact ⟨rfl, trivial, h⟩ | exact ⟨trivial, trivial, h⟩ | exact ⟨rfl, rfl, h⟩
theorem e_conm {fs : List (Str × D)} (em : M[i]? = some (some (.ins C fs))) (e : fs.lookup f = none) (h : Q d M) : conD C f d (.mt i) M Q := by
  unfold conD
  simp only [insOf, em, e]
  first | exact ⟨rfl, trivial, h⟩ | exact ⟨trivial, trivial, h⟩ | exact ⟨rfl, rfl, h⟩
theorem e_cval (h : ta E rho M fun x M1 => clsD C x (Q d M1)) : dCval C d ta E rho M Q := h
theorem e_cls (h : P) : clsD C (.ref C) P := ⟨rfl, h⟩
theorem e_put (h : ta E rho M fun y M1 => tb E rho M1 fun x M2 => putX C f y x M2 (DD.nx rho)) : dPut C f ta tb E DD rho M := h
theorem e_putx {fs : List (Str × D)} (em : M[i]? = some (some (.ins C fs))) (hl : Nat.ble (fs.length + 1) 1000 = true) (h : ∀ M', M' = M.set i (some (.ins C (putD f y fs))) → M'[i]? = some (some (.ins C (putD f y fs))) → N M') : putX C f y (.mt i) M N := by
  unfold putX
  simp only [em]
  refine ⟨by first | rfl | trivial, Nat.le_of_ble_eq_true hl, h _ rfl (by rw [List.getElem?_set_self (List.getElem?_eq_some_iff.mp em).1])⟩
theorem e_meth (h : to E rho M fun x M1 => isI C m M1 x ∧ t E rho M1 fun ds es M2 => dArg n k is dds dsp [x] Q E ds es M2) : dMeth C m n k is dds dsp to t E rho M Q := h
theorem e_isi (e : (ns.zip xs).lookup m = none) (h : P) : isI C m M (.obj C ns xs) ∧ P := ⟨⟨rfl, e⟩, h⟩
theorem e_isim {fs : List (Str × D)} (em : M[i]? = some (some (.ins C fs))) (e : fs.lookup m = none) (h : P) : isI C m M (.mt i) ∧ P := ⟨by unfold isI; simp only [insOf, em]; first | exact ⟨rfl, e⟩ | exact ⟨trivial, e⟩, h⟩
theorem e_cmeth (h : to E rho M fun x M1 => clsD C x (t E rho M1 fun ds es M2 => dArg n k is dds dsp [.ref C] Q E ds es M2)) : dCMeth C n k is dds dsp to t E rho M Q := h
theorem e_smeth (h : to E rho M fun x M1 => clsD C x (t E rho M1 fun ds es M2 => dArg n k is dds dsp [] Q E ds es M2)) : dSMeth C n k is dds dsp to t E rho M Q := h
theorem e_mk (h : tf E rho M fun y M0 => clsD C y (t E rho M0 fun ds es M1 => dArg n k is dds dsp [.mt M1.length] (if fz = true then mkQ C M1 Q else mkM M1 Q) (CutX M1.length E) ds es (M1 ++ [some (.ins C [])]))) : dMk fz C n k is dds dsp tf t E rho M Q := h
theorem e_ak (h : aa E rho M fun ds M1 => ak E rho M1 fun es M2 => R ds es M2) : dAK aa ak E rho M R := h
theorem e_arg (h1 : ds.length = n) (h2 : es.length = k) (h : dsp (pick is (pre ++ ds ++ dds ++ es)) M Q E) : dArg n k is dds dsp pre Q E ds es M := ⟨h1, h2, h⟩
theorem e_prop (h : to E rho M fun x M1 => isC C M1 x ∧ dsp [x] M1 Q fun _ _ => False) : dProp C dsp to E rho M Q := h
theorem e_isc (h : P) : isC C M (.obj C ns xs) ∧ P := ⟨rfl, h⟩
theorem e_fmt (h : ta E rho M fun x M1 => match x with
  | .str y => y.length ≤ sizeLine ∧ Q (.str y) M1
  | .int i => i.natAbs.log2 < 1920 ∧ Q (.str (toString i)) M1
  | _ => False) : dFmt ta E rho M Q := h
theorem e_eqO (e : insOf M x = none) (h : rEq_ x y M Q) : rEqO C dsp x y M Q := by unfold rEqO; rw [e]; exact h
theorem e_neO (e : insOf M x = none) (h : rNe_ x y M Q) : rNeO C dsp x y M Q := by unfold rNeO; rw [e]; exact h
theorem e_eqOo (e : (kindD C M y).isSome = true) (h : dsp [.obj C ns xs, y] M (blQ (fun b => b) Q) fun _ _ => False) : rEqO C dsp (.obj C ns xs) y M Q := ⟨rfl, e, h⟩
theorem e_neOo (e : (kindD C M y).isSome = true) (h : dsp [.obj C ns xs, y] M (blQ (!·) Q) fun _ _ => False) : rNeO C dsp (.obj C ns xs) y M Q := ⟨rfl, e, h⟩
theorem e_inO (h : dsp [.obj C ns xs, x] M (blQ (fun b => b) Q) fun _ _ => False) : rInO1 C dsp x (.obj C ns xs) M Q := ⟨rfl, h⟩
theorem e_blq {g : Bool → Bool} {b : Bool} (h : Q (.bl (g b)) M) : blQ g Q (.bl b) M := h
theorem e_isiC {b : Bool} (e : kindD C M x = some b) (h : Q (.bl b) M) : rIsiC C [x, .ref C] M Q := by
  unfold rIsiC
  simp only [e]
  first | exact ⟨rfl, h⟩ | exact ⟨trivial, h⟩
theorem kind_obj : kindD C M (.obj C ns xs) = some true := by
  unfold kindD insOf
  simp
end
/-- the new object, frozen -/
theorem mkq_set {C : Addr} {M : Mem} {fs : List (Str × D)} {Q : VD} (ok : okM M.length M) (hb : D.hbs M.length (fs.map (·.2)) = true) (h : Q (.obj C (fs.map (·.1)) (fs.map (·.2))) M) : mkQ C M Q .non ((M ++ [some (MO.ins C [])] : Mem).set M.length (some (MO.ins C fs))) := by
  refine ⟨rfl, fs, by rw [List.getElem?_set_self (by simp)], ?_, hb, ?_⟩
  · intro i mo hi e
    rw [List.getElem?_set_ne (by omega), List.getElem?_append_left hi] at e
    exact ok i mo hi e
  · rw [List.take_set_of_le (Nat.le_refl _), List.take_left']
    · exact h
    · rfl
theorem cutx_app {E : XD} {x : Exn} {M L : Mem} (ok : okM M.length M) (hb : D.hbs M.length (x.fs.map (·.2)) = true) (h : E x M) : CutX M.length E x (M ++ L) :=
  ⟨hb, fun i mo hi e => ok i mo hi (by rw [List.getElem?_append_left hi] at e; exact e), by rw [List.take_left']; exact h; rfl⟩
/-! ### fractions in order -/
def cmpR (a b : Rat) : Int := if a = b then 0 else if b < a then 1 else -1
theorem gap_cmp (a b : Rat) : gapS (a.num * b.den - b.num * a.den) = cmpR a b := by
  have h1 : a.num * b.den - b.num * a.den = 0 ↔ a = b := by
    rw [Rat.eq_iff_mul_eq_mul]; omega
  have h2 : 0 < a.num * b.den - b.num * a.den ↔ b < a := by
    rw [Rat.lt_iff]; omega
  unfold gapS cmpR
  by_cases h : a = b
  · rw [if_pos h, if_pos (h1.mpr h)]
  · rw [if_neg h, if_neg (fun z => h (h1.mp z))]
    by_cases q : b < a
    · rw [if_pos q, if_pos (h2.mpr q)]
    · rw [if_neg q, if_neg (fun z => q (h2.mp z))]
end DL
namespace DL
open PySem PySem.Spec PyProof.Rows L2 Mt
theorem rat_tri (a b : Rat) : a < b ∨ a = b ∨ b < a := by
  rcases Rat.le_total (a := a) (b := b) with h | h
  · rcases Rat.le_iff_lt_or_eq.mp h with h | h
    · exact .inl h
    · exact .inr (.inl h)
  · rcases Rat.le_iff_lt_or_eq.mp h with h | h
    · exact .inr (.inr h)
    · exact .inr (.inl h.symm)
theorem rat_asym {a b : Rat} (h : a < b) : ¬ b < a := by grind
theorem rat_ne {a b : Rat} (h : a < b) : a ≠ b := fun z => by rw [z] at h; exact Rat.lt_irrefl h
theorem cmp_eq {a b : Rat} : cmpR a b = 0 ↔ a = b := by
  unfold cmpR
  split
  · simp_all
  · split <;> simp_all
theorem cmp_gt {a b : Rat} : 0 < cmpR a b ↔ b < a := by
  unfold cmpR
  split
  · rename_i h; subst h; simp [Rat.lt_irrefl]
  · split <;> simp_all
theorem cmp_lt {a b : Rat} : cmpR a b < 0 ↔ a < b := by
  unfold cmpR
  split
  · rename_i h; subst h; simp [Rat.lt_irrefl]
  · split
    · rename_i h1 h2
      simp [rat_asym h2]
    · rename_i h1 h2
      simp
      rcases rat_tri a b with h | h | h
      · exact h
      · exact absurd h h1
      · exact absurd h h2
theorem cmp_ge {a b : Rat} : 0 ≤ cmpR a b ↔ ¬ a < b := by rw [← cmp_lt]; omega
theorem cmp_le {a b : Rat} : cmpR a b ≤ 0 ↔ ¬ b < a := by rw [← cmp_gt]; omega
theorem q_bl {Q : VD} {M : Mem} {b b' : Bool} (h : Q (.bl b) M) (e : b' = b) : Q (.bl b') M := e ▸ h
theorem cut_bl {Q : VD} {M : Mem} {b b' : Bool} (hM : okM M.length M) (h : Q (.bl b) M) (e : b' = b) : Cut M.length Q (.bl b') M := Cut.same rfl hM (e ▸ h)
end DL
namespace DL
theorem e_notV {E : XD} {rho : Rho} {M : Mem} {Q : VD} {ta : TED} (h : ta E rho M fun x M1 => match x with
  | .bl k => Q (.bl (!k)) M1
  | _ => False) : dNotV ta E rho M Q := h
end DL
namespace DL
open PySem PySem.Spec PyProof.Rows L2 Mt
/-! ### is, of bools -/
def rIsB_ : RD2 := fun x y M Q => match x, y with
  | .bl a, .bl b => Q (.bl (decide (a = b))) M
  | _, _ => False
def rIsNotB_ : RD2 := fun x y M Q => match x, y with
  | .bl a, .bl b => Q (.bl (!decide (a = b))) M
  | _, _ => False
section
variable {X : Cx} {Tb : List (Addr × Str)} {EV : XK} {a b : Expr} {ta tb : TED} {pos : Pos}
theorem ref_isB : RefOp X.K Tb (fun x y H Q => ∃ a b : Bool, x = .bl a ∧ y = .bl b ∧ Q (.bl (decide (a = b))) H) rIsB_ := by
  intro al M H x y dx dy Q QV w rx ry h p
  unfold rIsB_ at h
  split at h
  · rename_i i j
    exact ⟨i, j, rx, ry, p al (.bl _) M _ H (Stp.refl ..) w rfl h⟩
  · exact h.elim
theorem ref_isnotB : RefOp X.K Tb (fun x y H Q => ∃ a b : Bool, x = .bl a ∧ y = .bl b ∧ Q (.bl (!decide (a = b))) H) rIsNotB_ := by
  intro al M H x y dx dy Q QV w rx ry h p
  unfold rIsNotB_ at h
  split at h
  · rename_i i j
    exact ⟨i, j, rx, ry, p al (.bl _) M _ H (Stp.refl ..) w rfl h⟩
  · exact h.elim
theorem dt_isB (ha : PD X Tb EV a ta) (hb : PD X Tb EV b tb) : PDT X Tb EV (.Compare a [.Is] [b] pos) (dB (dOp rIsB_ ta tb)) := dt_cmp op_isBl ref_isB ha hb (nomark _)
theorem dt_isnotB (ha : PD X Tb EV a ta) (hb : PD X Tb EV b tb) : PDT X Tb EV (.Compare a [.IsNot] [b] pos) (dB (dOp rIsNotB_ ta tb)) := dt_cmp op_notBl ref_isnotB ha hb (nomark _)
theorem dv_isB (ha : PD X Tb EV a ta) (hb : PD X Tb EV b tb) : PD X Tb EV (.Compare a [.Is] [b] pos) (dOp rIsB_ ta tb) := dv_cmp op_isBl ref_isB ha hb (nomark _)
theorem dv_isnotB (ha : PD X Tb EV a ta) (hb : PD X Tb EV b tb) : PD X Tb EV (.Compare a [.IsNot] [b] pos) (dOp rIsNotB_ ta tb) := dv_cmp op_notBl ref_isnotB ha hb (nomark _)
end
theorem e_isB {a b : Bool} {M : Mem} {Q : VD} (h : Q (.bl (decide (a = b))) M) : rIsB_ (.bl a) (.bl b) M Q := h
theorem e_isnotB {a b : Bool} {M : Mem} {Q : VD} (h : Q (.bl (!decide (a = b))) M) : rIsNotB_ (.bl a) (.bl b) M Q := h
/-! ### the memory of a law: its draws -/
theorem Rg1.ok {M M' : Mem} (g : Rg1 M M') (ok : okM M.length M) : okM M'.length M' := by
  obtain ⟨r, _, rfl⟩ := g
  have := ok.app (o := r.mo) (r.hb _)
  simpa using this
theorem Rg1.at {M M' : Mem} (g : Rg1 M M') : RgAt M' M.length := by
  obtain ⟨r, ok, rfl⟩ := g
  exact .last ok
theorem Rg1.to {M M' M'' : Mem} (g : Rg1 M M') (t : RgTo M' M.length M'') : Rg1 M M'' := by
  obtain ⟨r, ok, rfl⟩ := g
  exact t.last
theorem Rg1.cut {M M' : Mem} {Q : VD} {d : D} (g : Rg1 M M') (h : d.hb M.length = true) (ok : okM M.length M) (q : Q d M) : Cut M.length Q d M' := by
  obtain ⟨r, _, rfl⟩ := g
  exact Cut.app h ok q
theorem mem_last {M : Mem} {o : Option MO} : (M ++ [o])[M.length]? = some o := List.getElem?_concat_length ..
end DL
namespace DL
open PySem PySem.Spec PyProof.Rows L2 Mt
/-! ### texts -/
theorem str_assoc (x y z : Str) : (x ++ y) ++ z = x ++ (y ++ z) := by
  obtain ⟨a⟩ := x
  obtain ⟨b⟩ := y
  obtain ⟨c⟩ := z
  show Str.mk ((a ++ b) ++ c) = Str.mk (a ++ (b ++ c))
  rw [Array.append_assoc]
theorem str_nil (x : Str) : Str.empty ++ x = x := by
  obtain ⟨a⟩ := x
  show Str.mk (#[] ++ a) = Str.mk a
  rw [Array.empty_append]
theorem str_nil2 (x : Str) : x ++ (Str.ofString "") = x := by
  obtain ⟨a⟩ := x
  show Str.mk (a ++ #[]) = Str.mk a
  rw [Array.append_empty]
theorem str_len (x y : Str) : (x ++ y).length = x.length + y.length := by
  obtain ⟨a⟩ := x
  obtain ⟨b⟩ := y
  show (a ++ b).size = a.size + b.size
  rw [Array.size_append]
def itx (i : Int) : Str := Str.ofString (toString i)
theorem itx_len {i : Int} (h : bz i ≤ 1900) : (itx i).length ≤ 1921 := int_text_len_1921 (by have := log2_bs i.natAbs; unfold bz at h; omega)
theorem lg_of {i : Int} (h : bz i ≤ 1900) : i.natAbs.log2 < 1920 := by have := log2_bs i.natAbs; unfold bz at h; omega
/-- the text of a fraction -/
def qtx (q : Rat) : Str := if q.den = 1 then itx q.num else itx q.num ++ (Str.ofString "/" ++ itx q.den)
theorem qtx_len {q : Rat} (h : qs q ≤ 1900) : (qtx q).length ≤ 4000 := by
  have h1 := itx_len (Nat.le_trans (qs_num q) h)
  have h2 := itx_len (Nat.le_trans (qs_den' q) h)
  unfold qtx
  split
  · omega
  · rw [str_len, str_len]
    have : (Str.ofString "/").length = 1 := by decide +kernel
    omega
theorem e_str {i : Int} {M : Mem} {Q : VD} (h0 : i.natAbs.log2 < 1920) (h : Q (.str (itx i)) M) : rStr_ [.int i] M Q := ⟨h0, h⟩
theorem e_js0 {acc : Str} {E : XD} {rho : Rho} {M : Mem} {Q : VD} (h : Q (.str acc) M) : dJs [] acc E rho M Q := h
theorem e_js1 {t : TED} {ts : List TED} {acc : Str} {E : XD} {rho : Rho} {M : Mem} {Q : VD} (h : t E rho M fun x M1 => jsD ts acc E rho Q x M1) : dJs (t :: ts) acc E rho M Q := h
theorem e_jsd {ts : List TED} {acc y : Str} {E : XD} {rho : Rho} {M : Mem} {Q : VD} (h0 : (acc ++ y).length ≤ sizeLine) (h : dJs ts (acc ++ y) E rho M Q) : jsD ts acc E rho Q (.str y) M := ⟨h0, h⟩
theorem e_join0 {ts : List TED} {E : XD} {rho : Rho} {M : Mem} {Q : VD} (h : dJs ts Str.empty E rho M Q) : dJoin ts E rho M Q := h
theorem pyEq_bl (a b : Bool) : pyEq (.bl a) (.bl b) = decide (a = b) := by
  show (a == b) = decide (a = b)
  cases a <;> cases b <;> rfl
theorem pyEq_str (a b : Str) : pyEq (.str a) (.str b) = decide (a = b) := by
  show (a == b) = decide (a = b)
  rw [Bool.eq_iff_iff]; simp
theorem e_eqs {a b : Str} {M : Mem} {Q : VD} (h : Q (.bl (decide (a = b))) M) : rEq_ (.str a) (.str b) M Q := h
theorem e_nes {a b : Str} {M : Mem} {Q : VD} (h : Q (.bl (!decide (a = b))) M) : rNe_ (.str a) (.str b) M Q := h
end DL
namespace DL
def qHalf : Rat := ⟨1, 2, by decide, by decide⟩
end DL
namespace DL
/-- an if whose test is known -/
theorem e_ifs {c : Bool} {tc : TTD} {t u : TSD} {E : XD} {DD : DEnds} {rho : Rho} {M M1 : Mem} (h1 : ∀ R : Bool → Mem → Prop, R c M1 → tc E rho M R) (h2 : if c = true then t E DD rho M1 else u E DD rho M1) : dIfS tc t u E DD rho M := h1 _ h2
end DL

/-! an instance is called -/
namespace DL
open PySem PySem.Spec PyProof.Rows L2
def isRf : D → Bool
  | .obj _ _ _ => true
  | .mt _ => true
  | _ => false
abbrev dCallO (C : Addr) (dsp : DSp) (tf : TED) (t : TAD) : TED := fun E rho M Q => tf E rho M fun y M1 => isRf y = true ∧ t E rho M1 fun ds M2 => isC C M2 y ∧ dsp (y :: ds) M2 Q E
theorem fnIn_of {K : PySem.W.Frag} {x qual : Str} {params : Arguments} {body : List Stmt} {scope : Scope} {dvs : List V} {kws : List (Str × V)} {f : Addr} {fd : FuncData} (F : FunD K x qual params body scope dvs kws f fd) : PySem.W.fnIn K f = true := by
  obtain ⟨oc, od, dV, kV, doc, pm, an, cdv, ct, osl, rfl, lk, hcd, _, _⟩ := F.ex
  unfold PySem.W.fnIn
  rw [lk]
section
variable {X : Cx} {Tb : List (Addr × Str)} {EV : XK} {k : Nat} {g C : Addr} {fd : FuncData} {ps : List Str} {dsp : DSp} {pos : Pos} {fe e : Expr} {es : List Expr} {tf : TED} {t : TAD}
theorem dv_callO (hf : PD X Tb EV fe tf) (hm : Meth X.K C "__call__" g) (hfi : PySem.W.fnIn X.K g = true) (F : FnD X.prog X.w X.K X.mg X.base Tb k g fd ps dsp) (hr : Room k X.A) (hb : Binds X.K fd ps []) (hx : Passes (L2.CX X.prog X.w) X EV) (ha : PDA X Tb EV (e :: es) t)
    (ht : eval (.Call fe (e :: es) [] pos) X.env = (do callWith pos (← eval fe X.env) [] (backTo pos (starEach (e :: es) X.env)) (backToKw pos (keywordEach [] X.env))) := by rfl)
    (he : starEach (e :: es) X.env = (false, eval e X.env) :: starEach es X.env := by rfl) (hpl : (backTo pos (starEach es X.env)).any (·.1) = false := by rfl) : PD X Tb EV (.Call fe (e :: es) [] pos) (dCallO C dsp tf t) := by
  refine ⟨fun pins s σ H QV I h => ?_⟩
  obtain ⟨al, rho, M, E, Q, a, t0, p⟩ := h
  refine Call_ (thn (hf.run pins s σ H (fun v H1 => ∃ b, v = .ref b ∧ liftA X.K Tb EV t σ H1 fun vs H2 => (∃ dx fs, H2 b = some (.ins C dx fs)) ∧ liftSp X.K Tb dsp (.ref b :: vs) H2 QV EV) I
    (seq1 a t0 fun al1 x M1 vx H1 s1 a1 r1 q1 => ?_)) fun u s1 ⟨v, H1, I1, rv, b, ev, q⟩ => ?_) ht
  · have key : ∃ b, vx = .ref b := by
      cases x with
      | obj _ _ _ => obtain ⟨b, _, _, rfl, _⟩ := r1; exact ⟨b, rfl⟩
      | mt _ => obtain ⟨b, _, rfl⟩ := r1; exact ⟨b, rfl⟩
      | _ => cases q1.1
    obtain ⟨b, rfl⟩ := key
    refine ⟨b, rfl, seqA a1 q1.2 fun al2 ds M2 vs H2 s2 a2 r2 q2 => ?_⟩
    obtain ⟨h0, q2⟩ := q2
    unfold isC at h0
    split at h0
    · rename_i C' fs e1
      subst h0
      obtain ⟨b', dx, ys, e2, h1, _⟩ := insOf_ok a2.wf e1 (r1.mono s2)
      cases e2
      exact ⟨⟨dx, ys, h1⟩, al2, M2, x :: ds, Q, E, a2.wf, ⟨_, _, rfl, r1.mono s2, r2⟩, q2, p.mono (s1.trans s2), a2.ex⟩
    · exact h0.elim
  · subst ev
    obtain rfl : u = Value.ref b := rv
    refine StX.callO_with (thn (ha.run pos pins s1 σ H1 _ I1 q) fun us s2 ⟨vs, H2, I2, r, ⟨dx, fs, hi⟩, q2⟩ => ?_) he hpl
    obtain ⟨mA, O, _⟩ := ins_get I2.hok hi
    obtain ⟨od, J, _⟩ := O.look
    refine ⟨⟨C, _, _, J, rfl⟩, ?_⟩
    refine wpAny_call (PySem.W.kco_code I2.kIn J rfl hm.at_ hm.fn hfi ?_)
    have r2 : Vals (V.ref b :: vs) (Value.ref b :: us) := .cons rfl r
    have hl : (Value.ref b :: us ++ []).length = ps.length := by rw [List.append_nil, ← r2.length]; exact F.ok.len _ _ _ _ q2
    refine codeAny_mono (F.ok.run X.A X.stack s2 H2 ⟨Value.ref b :: us, []⟩ (Value.ref b :: us) _ QV EV hr I2.env0 (by have := hb s2 (Value.ref b :: us) I2.kIn hl; rw [List.append_nil] at this; exact this) r2 q2) fun r s' hq => ?_
    cases r with
    | error e => exact hx pins σ H2 s2 e s' I2 hq
    | ok fl =>
      cases fl with
      | ret u => exact I2.after hq
      | next => exact False.elim hq
      | brk => exact False.elim hq
      | cont => exact False.elim hq
end
end DL
namespace DL
open PySem PySem.Spec PyProof.Rows L2
theorem e_callO {C : Addr} {dsp : DSp} {tf : TED} {t : TAD} {E : XD} {rho : Rho} {M : Mem} {Q : VD} (h : tf E rho M fun y M1 => isRf y = true ∧ t E rho M1 fun ds M2 => isC C M2 y ∧ dsp (y :: ds) M2 Q E) : dCallO C dsp tf t E rho M Q := h
theorem e_isrf {C : Addr} {ns : List Str} {xs : List D} {P : Prop} (h : P) : isRf (.obj C ns xs) = true ∧ P := ⟨rfl, h⟩
end DL
namespace DL
open PySem PySem.Spec PyProof.Rows L2
/-- a statement that is not reached -/
theorem dp_never {X : Cx} {Tb : List (Addr × Str)} {EV : XK} {st : Stmt} : PDS X Tb EV st dNever := ⟨fun pins s σ H D I h => by
  obtain ⟨al, rho, M, E, DD, a, t, p⟩ := h
  exact t.elim⟩
end DL
namespace DL
open PySem PySem.Spec PyProof.Rows L2
/-- a list that will not be changed any more -/
def fzD (x : D) (M : Mem) (Q : VD) : Prop := match x with
  | .mt i => (match memL M i with
    | some xs => Q (.lst xs) (M.set i none)
    | none => Q (.mt i) M)
  | x => Q x M
abbrev dFz (t : TED) : TED := fun E rho M Q => t E rho M fun x M1 => fzD x M1 Q
theorem dv_fz {X : Cx} {Tb : List (Addr × Str)} {EV : XK} {e : Expr} {t : TED} (h : PD X Tb EV e t) : PD X Tb EV e (dFz t) := pe_imp h fun σ H QV q => by
  obtain ⟨al, rho, M, E, Q, a, t, p⟩ := q
  refine seq1 a t fun al1 x M1 vx H1 s1 a1 r1 q1 => ?_
  unfold fzD at q1
  split at q1
  · rename_i i
    split at q1
    · rename_i xs e1
      obtain ⟨b, ys, rfl, hb, hm, hH, r⟩ := memL_ok a1.wf e1 r1
      have s2 : Stp al1 M1 H1 al1 (M1.set i none) H1 := stp_fz
      exact p _ (.lst xs) _ _ _ (s1.trans s2) (wf_fz a1.wf i) ⟨b, ys, rfl, hH, fz_at a1.wf hb hm, r.mono s2⟩ q1
    · exact p _ _ _ _ _ s1 a1.wf r1 q1
  · exact p _ _ _ _ _ s1 a1.wf r1 q1
theorem e_fz {t : TED} {E : XD} {rho : Rho} {M : Mem} {Q : VD} (h : t E rho M fun x M1 => fzD x M1 Q) : dFz t E rho M Q := h
theorem e_fzm {i : Nat} {xs : List D} {M : Mem} {Q : VD} (em : M[i]? = some (some (.lst xs))) (h : Q (.lst xs) (M.set i none)) : fzD (.mt i) M Q := by
  unfold fzD
  simp only [memL, em]
  exact h
theorem e_fzl {xs : List D} {M : Mem} {Q : VD} (h : Q (.lst xs) M) : fzD (.lst xs) M Q := h
/-! ### instances of any standing -/
section
variable {C : Addr} {f m : Str} {x d : D} {fs : List (Str × D)} {M : Mem} {Q : VD} {P : Prop}
theorem e_fldx (h : insOf M x = some (C, fs)) (e : fs.lookup f = some d) (q : Q d M) : fldD C f x M Q := by
  unfold fldD
  simp only [h, e]
  first | exact ⟨rfl, q⟩ | exact ⟨trivial, q⟩
theorem e_isix (h : insOf M x = some (C, fs)) (e : fs.lookup m = none) (q : P) : isI C m M x ∧ P := by
  refine ⟨?_, q⟩
  unfold isI
  simp only [h]
  first | exact ⟨rfl, e⟩ | exact ⟨trivial, e⟩
theorem e_conx (h : insOf M x = some (C, fs)) (e : fs.lookup f = none) (q : Q d M) : conD C f d x M Q := by
  unfold conD
  simp only [h, e]
  first | exact ⟨rfl, trivial, q⟩ | exact ⟨trivial, trivial, q⟩ | exact ⟨rfl, rfl, q⟩
end
def neverSp : DSp := fun _ _ _ _ => False
/-! ### the memory of a law: its draws and more -/
def RgL (M L M' : Mem) : Prop := ∃ r : Rng, r.Ok ∧ M' = M ++ (some r.mo :: L)
theorem RgL.at {M L M' : Mem} (g : RgL M L M') : RgAt M' M.length := by
  obtain ⟨r, ok, rfl⟩ := g
  exact ⟨r, by simp, ok⟩
theorem RgL.to {M L M' M'' : Mem} (g : RgL M L M') (t : RgTo M' M.length M'') : RgL M L M'' := by
  obtain ⟨r, ok, rfl⟩ := g
  obtain ⟨q, ok2, rfl⟩ := t
  exact ⟨q, ok2, by rw [List.set_append_right _ _ (Nat.le_refl _)]; simp⟩
theorem RgL.cut {M L M' : Mem} {Q : VD} {d : D} (g : RgL M L M') (h : d.hb M.length = true) (ok : okM M.length M) (q : Q d M) : Cut M.length Q d M' := by
  obtain ⟨r, _, rfl⟩ := g
  exact Cut.app h ok q
end DL
namespace DL
abbrev lkF (f : PySem.Str) (fs : List (PySem.Str × D)) : Option D := fs.lookup f
end DL
namespace DL
theorem for_nil {g : TGD} {t : TSD} {E : XD} {DD : DEnds} {rho : Rho} {M : Mem} (h : DD.nx rho M) : forU g t [] E DD rho M := h
end DL
namespace DL
open PySem PySem.Spec PyProof.Rows L2 Mt
section
variable {E : XD} {rho : Rho} {M : Mem} {Q : VD} {N : Rho → Mem → Prop} {t : TGsD} {q : Rat} {xs : List D} {lo hi : Option Int} {i : Int}
theorem e_htq (h : t [.int q.num, .int q.den] E rho M N) : hTup 2 t (qD q) E rho M N := ⟨rfl, h⟩
theorem e_abs (h : Q (.int i.natAbs) M) : rAbs_ [.int i] M Q := h
theorem e_tpl (h : Q (.tup xs) M) : rTuple_ [.lst xs] M Q := h
theorem e_tpt (h : Q (.tup xs) M) : rTuple_ [.tup xs] M Q := h
theorem e_lsl (h : Q (.lst xs) M) : rList_ [.lst xs] M Q := h
theorem e_lst' (h : Q (.lst xs) M) : rList_ [.tup xs] M Q := h
theorem e_slnil (h : Q (.lst []) M) : rSl_ (.lst []) lo hi M Q := by
  have e : cutL ([] : List D) lo hi = [] := by simp [cutL]
  show Q (.lst (cutL [] lo hi)) M
  rw [e]; exact h
end
theorem bz_lt {i : Int} {k : Nat} (h : bz i ≤ k) : i.natAbs < 2 ^ k := Nat.lt_of_lt_of_le (bs_lt _) (Nat.pow_le_pow_right (by decide) h)
/-- too many digits -/
def bigQ (q : Rat) : Bool := decide (10 ^ 60 ≤ (q.num.natAbs : Int)) || decide (10 ^ 60 ≤ (q.den : Int))
theorem big_no {q : Rat} (h : qs q ≤ 199) : bigQ q = false := by
  have h1 := bz_lt (Nat.le_trans (qs_num q) h)
  have h2 : q.den < 2 ^ 199 := bz_lt (i := (q.den : Int)) (Nat.le_trans (qs_den' q) h)
  have h3 : (2 : Nat) ^ 199 < 10 ^ 60 := by decide +kernel
  have h4 : ((10 : Int) ^ 60) = ((10 ^ 60 : Nat) : Int) := by rw [Int.natCast_pow]; rfl
  unfold bigQ
  rw [h4, decide_eq_false (by omega), decide_eq_false (by omega)]
  rfl
end DL
namespace DL
open PySem PySem.Spec PyProof.Rows L2 Mt
theorem insOf_mt {M : Mem} {i : Nat} {C : Addr} {fs : List (Str × D)} (h : M[i]? = some (some (.ins C fs))) : insOf M (.mt i) = some (C, fs) := by
  show (match M[i]? with
    | some (some (.ins C fs)) => some (C, fs)
    | _ => none) = _
  rw [h]
/-! ### a list, repeated -/
def rRep_ : RD2 := fun x y M Q => match y with
  | .int k => (match asL M x with
    | some xs => (-(2 ^ 63) ≤ k ∧ k < 2 ^ 63 ∧ xs.length * k.toNat ≤ sizeLine) ∧ Q (.lst (List.replicate k.toNat xs).flatten) M
    | none => False)
  | _ => False
theorem Rps.rep {K : PySem.W.Frag} {al : Al} {M : Mem} {H : Hp} {ds : List D} {xs : List V} (r : Rps K al M H ds xs) : ∀ n : Nat, Rps K al M H (List.replicate n ds).flatten (List.replicate n xs).flatten
  | 0 => rfl
  | n + 1 => by
    rw [List.replicate_succ, List.replicate_succ, List.flatten_cons, List.flatten_cons]
    exact r.append (Rps.rep r n)
theorem ref_rep {X : Cx} {Tb : List (Addr × Str)} : RefOp X.K Tb L2.rRep rRep_ := by
  intro al M H x y dx dy Q QV w rx ry h p
  unfold rRep_ at h
  split at h
  · rename_i k
    split at h
    · rename_i xs e1
      obtain ⟨b, ys, rfl, h1, h2⟩ := asL_ok w e1 rx
      refine ⟨b, k, ys, rfl, ry, h1, h.1.1, h.1.2.1, by rw [← h2.length]; exact h.1.2.2, fun q hq => ?_⟩
      exact p _ _ _ _ _ (stp_new w hq _) (wf_new w hq _) (rp_lst w hq (h2.rep _)) h.2
    · exact h.elim
  · exact h.elim
theorem dv_rep {X : Cx} {Tb : List (Addr × Str)} {EV : XK} {a b : Expr} {ta tb : TED} {pos : Pos} (ha : PD X Tb EV a ta) (hb : PD X Tb EV b tb) : PD X Tb EV (.BinOp a .Mult b pos) (dOp rRep_ ta tb) := dv_op op_rep ref_rep ha hb
theorem e_rep {xs : List D} {k : Int} {M : Mem} {Q : VD} (h0 : -(2 ^ 63) ≤ k ∧ k < 2 ^ 63 ∧ xs.length * k.toNat ≤ sizeLine) (h : Q (.lst (List.replicate k.toNat xs).flatten) M) : rRep_ (.lst xs) (.int k) M Q := ⟨h0, h⟩
theorem e_addl {xs ys : List D} {M : Mem} {Q : VD} (h0 : xs.length + ys.length ≤ sizeLine) (h : Q (.lst (xs ++ ys)) M) : rAdd_ (.lst xs) (.lst ys) M Q := ⟨h0, h⟩
/-! ### a list that grows -/
theorem e_tyL {i : Nat} {xs : List D} {M : Mem} {P : Prop} (e : M[i]? = some (some (.lst xs))) (h : P) : tyB "list" M (.mt i) = true ∧ P := ⟨by
  show (tyM M[i]? == some "list") = true
  rw [e]; exact beq_self_eq_true _, h⟩
theorem e_app {i : Nat} {xs : List D} {y : D} {M : Mem} {Q : VD} (e : M[i]? = some (some (.lst xs))) (hl : xs.length < sizeLine) (h : Q .non (M.set i (some (.lst (xs ++ [y]))))) : rApp_ (.mt i) [y] M Q := by
  show (match memL M i with
    | some xs => xs.length < sizeLine ∧ Q .non (M.set i (some (.lst (xs ++ [y]))))
    | none => False)
  rw [memL_at e]
  exact ⟨hl, h⟩
/-! ### the draws and one more thing at the end -/
theorem RgL.app {M L M' : Mem} {o : Option MO} (g : RgL M L M') : RgL M (L ++ [o]) (M' ++ [o]) := by
  obtain ⟨r, ok, rfl⟩ := g
  exact ⟨r, ok, by simp⟩
theorem RgL.len {M L M' : Mem} (g : RgL M L M') : M'.length = M.length + 1 + L.length := by
  obtain ⟨r, ok, rfl⟩ := g
  simp; omega
theorem RgL.last {M L M' : Mem} {o : Option MO} (g : RgL M (L ++ [o]) M') : M'[M.length + 1 + L.length]? = some o := by
  obtain ⟨r, ok, rfl⟩ := g
  rw [List.getElem?_append_right (by omega)]
  have : M.length + 1 + L.length - M.length = L.length + 1 := by omega
  rw [this, List.getElem?_cons_succ]
  simp
theorem RgL.set {M L M' : Mem} {o o' : Option MO} (g : RgL M (L ++ [o]) M') : RgL M (L ++ [o']) (M'.set (M.length + 1 + L.length) o') := by
  obtain ⟨r, ok, rfl⟩ := g
  refine ⟨r, ok, ?_⟩
  rw [List.set_append_right _ _ (by omega)]
  have : M.length + 1 + L.length - M.length = L.length + 1 := by omega
  rw [this, List.set_cons_succ]
  simp
theorem okM.setn {n i : Nat} {M : Mem} (ok : okM n M) : okM n (M.set i none) := fun j m hj e => by
  by_cases hij : i = j
  · subst hij
    rw [List.getElem?_set] at e
    simp at e
  · rw [List.getElem?_set_ne hij] at e
    exact ok j m hj e
theorem okM.rg {M M' : Mem} {i : Nat} (ok : okM M.length M) (t : RgTo M i M') : okM M'.length M' := by rw [t.len]; exact t.okM ok
theorem okM.app' {M : Mem} {o : MO} (ok : okM M.length M) (h : o.hb (M.length + 1) = true) : okM (M ++ [some o]).length (M ++ [some o]) := by
  have := ok.app h
  simpa using this
theorem okM.set' {M : Mem} {i : Nat} {o : MO} (ok : okM M.length M) (h : o.hb M.length = true) : okM (M.set i (some o)).length (M.set i (some o)) := by
  rw [List.length_set]; exact ok.set h
theorem okM.setn' {M : Mem} {i : Nat} (ok : okM M.length M) : okM (M.set i none).length (M.set i none) := by
  rw [List.length_set]; exact ok.setn
end DL

/-! zip of any number of lists and tuples -/
namespace ZN
open PySem PySem.Spec PyProof.Rows L2
open PySem.Sem (wp)
/-- one of the walked things: tp a tuple (or else a list), it its iterator, l itself -/
structure Sb where
  tp : Bool
  it : Addr
  l : Addr
def Sb.At (h : Heap) (k : Nat) : Sb → Prop
  | ⟨true, it, l⟩ => h.IsTupleIter it l k
  | ⟨false, it, l⟩ => h.IsListIter it l k
def Sb.Base (h : Heap) (xs : Array Value) : Sb → Prop
  | ⟨true, _, l⟩ => h.IsTuple l xs
  | ⟨false, _, l⟩ => h.IsList l xs
theorem Sb.At.to {h h' : Heap} {k : Nat} {b : Sb} (x : b.At h k) (e : ∀ o, h.get? b.it = some o → h'.get? b.it = some o) : b.At h' k := by
  obtain ⟨tp, it, l⟩ := b
  cases tp
  · exact Heap.IsListIter.at x e
  · exact Heap.IsTupleIter.at x e
theorem Sb.Base.to {h h' : Heap} {xs : Array Value} {b : Sb} (x : b.Base h xs) (e : ∀ o, h.get? b.l = some o → h'.get? b.l = some o) : b.Base h' xs := by
  obtain ⟨tp, it, l⟩ := b
  cases tp
  · exact Heap.IsList.at x e
  · exact Heap.IsTuple.at x e
theorem Sb.At.obj {h : Heap} {k : Nat} {b : Sb} (x : b.At h k) : ∃ o, h.get? b.it = some o ∧ ∀ v, o.data ≠ .cell v := by
  obtain ⟨tp, it, l⟩ := b
  cases tp
  · obtain ⟨o, e, _, d⟩ := x
    exact ⟨o, e, fun v q => by rw [d] at q; cases q⟩
  · obtain ⟨o, e, _, d⟩ := x
    exact ⟨o, e, fun v q => by rw [d] at q; cases q⟩
abbrev IsT (h : Heap) (T : Addr) (vs : List Value) : Prop := h.get? T = some { cls := .type "tuple", data := .seq ⟨vs⟩ }
section
variable {prog : Program} {w : World} {A : Around} {E : Value → Shared → Prop} {s : Shared}
theorem nx_item {b : Sb} {k : Nat} {xs : Array Value} {x : Value} {Q : Value → Shared → Prop} (hit : b.At s.heap k) (hl : b.Base s.heap xs) (hx : xs[k]? = some x)
    (hQ : ∀ h', b.At h' (k + 1) → Heap.SameBut b.it s.heap h' → Q x { s with heap := h' }) : wpAny (model prog w) A (Builtin.SmallTypes.nextOf (.ref b.it)) Q E s := by
  obtain ⟨tp, it, l⟩ := b
  cases tp
  · exact wpAny_nextOf_list_item hit hl hx hQ
  · exact RZ.nextOf_tuple_item hit hl hx hQ
theorem nx_end {b : Sb} {k : Nat} {xs : Array Value} {Q : Value → Shared → Prop} (hh : A.handled = none) (hit : b.At s.heap k) (hl : b.Base s.heap xs) (hx : xs[k]? = none)
    (hE : ∀ h' e, Heap.ExtBut b.it s.heap h' → (∃ o, h'.get? e = some o ∧ o.cls = .type "StopIteration") → E (.ref e) { s with heap := h' }) : wpAny (model prog w) A (Builtin.SmallTypes.nextOf (.ref b.it)) Q E s := by
  obtain ⟨tp, it, l⟩ := b
  cases tp
  · exact wpAny_nextOf_list_end hh hit hl hx hE
  · exact RZ.nextOf_tuple_end hh hit hl hx hE
/-- what stands in the way of each other -/
structure Apart (z TI TO : Addr) (bs : List (Sb × Array Value)) : Prop where
  TIz : TI ≠ z
  TOz : TO ≠ z
  TITO : TI ≠ TO
  nd : (bs.map (·.1.it)).Nodup
  itz : ∀ p ∈ bs, p.1.it ≠ z
  itTI : ∀ p ∈ bs, p.1.it ≠ TI
  itTO : ∀ p ∈ bs, p.1.it ≠ TO
  lz : ∀ p ∈ bs, p.1.l ≠ z
  lTO : ∀ p ∈ bs, p.1.l ≠ TO
  lit : ∀ p ∈ bs, ∀ q ∈ bs, p.1.l ≠ q.1.it
theorem Apart.tail {z TI TO : Addr} {p : Sb × Array Value} {bs : List (Sb × Array Value)} (D : Apart z TI TO (p :: bs)) : Apart z TI TO bs where
  TIz := D.TIz
  TOz := D.TOz
  TITO := D.TITO
  nd := (List.nodup_cons.mp D.nd).2
  itz := fun p h => D.itz p (List.mem_cons_of_mem _ h)
  itTI := fun p h => D.itTI p (List.mem_cons_of_mem _ h)
  itTO := fun p h => D.itTO p (List.mem_cons_of_mem _ h)
  lz := fun p h => D.lz p (List.mem_cons_of_mem _ h)
  lTO := fun p h => D.lTO p (List.mem_cons_of_mem _ h)
  lit := fun p h q g => D.lit p (List.mem_cons_of_mem _ h) q (List.mem_cons_of_mem _ g)
theorem Apart.head {z TI TO : Addr} {p : Sb × Array Value} {bs : List (Sb × Array Value)} (D : Apart z TI TO (p :: bs)) : ∀ q ∈ bs, q.1.it ≠ p.1.it := fun q h e =>
  (List.nodup_cons.mp D.nd).1 (List.mem_map.mpr ⟨q, h, e⟩)
inductive Hds (k : Nat) : List (Sb × Array Value) → List Value → Prop
  | nil : Hds k [] []
  | cons {p : Sb × Array Value} {u : Value} {bs : List (Sb × Array Value)} {us : List Value} : p.2[k]? = some u → Hds k bs us → Hds k (p :: bs) (u :: us)
def StepI {σ : Type} (prog : Program) (w : World) (A : Around) (E : Value → Shared → Prop) (F : Value × Nat → σ → Sem (ForInStep σ)) (c : σ) (TO : Addr) (k : Nat) : Prop :=
  ∀ (b : Sb) (n : Nat) (s : Shared) (vs : List Value) (xs : Array Value) (x : Value) (Q : ForInStep σ → Shared → Prop), vs.length ≤ sizeLine → b.it ≠ TO → b.At s.heap k → b.Base s.heap xs → xs[k]? = some x → IsT s.heap TO vs →
    (∀ h', IsT h' TO (vs.set n x) → b.At h' (k + 1) → h'.objs.size = s.heap.objs.size → (∀ c o, c ≠ TO → c ≠ b.it → s.heap.get? c = some o → h'.get? c = some o) → Q (.yield c) { s with heap := h' }) →
    wpAny (model prog w) A (F (.ref b.it, n) c) Q E s
theorem loopI {σ : Type} {F : Value × Nat → σ → Sem (ForInStep σ)} {c : σ} {z TI TO : Addr} {k : Nat} (step : StepI prog w A E F c TO k) :
    ∀ (bs : List (Sb × Array Value)) (us pre olds : List Value) (s : Shared) (Q : σ → Shared → Prop), Apart z TI TO bs → (∀ p ∈ bs, p.1.At s.heap k ∧ p.1.Base s.heap p.2) → Hds k bs us →
      olds.length = us.length → (pre ++ olds).length ≤ sizeLine → IsT s.heap TO (pre ++ olds) →
      (∀ h', IsT h' TO (pre ++ us) → (∀ p ∈ bs, p.1.At h' (k + 1)) → h'.objs.size = s.heap.objs.size → (∀ c o, c ≠ TO → (∀ p ∈ bs, c ≠ p.1.it) → s.heap.get? c = some o → h'.get? c = some o) → Q c { s with heap := h' }) →
      wpAny (model prog w) A (forIn ((bs.map fun p => Value.ref p.1.it).zipIdx pre.length) c F) Q E s
  | [], us, pre, olds, s, Q, D, hb, hu, ho, hz, hT, hQ => by
    cases hu
    cases olds with
    | cons _ _ => cases ho
    | nil =>
      simp only [List.map_nil, List.zipIdx_nil, List.forIn_nil]
      exact wpAny_pure (hQ s.heap hT (fun p h => nomatch h) rfl fun _ _ _ _ e => e)
  | p :: bs, us, pre, olds, s, Q, D, hb, hu, ho, hz, hT, hQ => by
    cases hu with
    | @cons _ u _ us hx hu =>
      cases olds with
      | nil => cases ho
      | cons o olds =>
        simp only [List.map_cons, List.zipIdx_cons, List.forIn_cons]
        obtain ⟨ha, hbs⟩ := hb p (List.mem_cons_self ..)
        refine wpAny_bind (step p.1 _ s _ _ _ _ hz (D.itTO p (List.mem_cons_self ..)) ha hbs hx hT fun h1 t1 a1 z1 k1 => ?_)
        have e1 : (pre ++ o :: olds).set pre.length u = (pre ++ [u]) ++ olds := by simp
        rw [e1] at t1
        have := loopI step bs us (pre ++ [u]) olds { s with heap := h1 } Q D.tail (fun q hq => ⟨(hb q (List.mem_cons_of_mem _ hq)).1.to fun o e => k1 _ o (D.itTO q (List.mem_cons_of_mem _ hq)) (D.head q hq) e,
          (hb q (List.mem_cons_of_mem _ hq)).2.to fun o e => k1 _ o (D.lTO q (List.mem_cons_of_mem _ hq)) (D.lit q (List.mem_cons_of_mem _ hq) p (List.mem_cons_self ..)) e⟩) hu (by simpa using ho) (by simpa using hz) t1 fun h2 t2 a2 z2 k2 =>
            hQ h2 (by simpa using t2) (fun q hq => by
              rcases List.mem_cons.mp hq with rfl | hq
              · exact a1.to fun o e => k2 _ o (D.itTO q (List.mem_cons_self ..)) (fun r hr e => D.head r hr e.symm) e
              · exact a2 q hq) (z2.trans z1) fun c o c1 c2 e => k2 c o c1 (fun r hr => c2 r (List.mem_cons_of_mem _ hr)) (k1 c o c1 (c2 p (List.mem_cons_self ..)) e)
        simpa using this
def StepE {σ : Type} (prog : Program) (w : World) (A : Around) (E : Value → Shared → Prop) (F : Value × Nat → σ → Sem (ForInStep σ)) (c : σ) (z TI TO : Addr) (k : Nat) : Prop :=
  ∀ (b : Sb) (n : Nat) (s : Shared) (xs : Array Value) (Q : ForInStep σ → Shared → Prop), b.it ≠ z → b.At s.heap k → b.Base s.heap xs → xs[k]? = none → IsZip s.heap z TI TO .ellipsis →
    (∀ h' e, (∀ c o, c ≠ z → c ≠ b.it → s.heap.get? c = some o → h'.get? c = some o) → (∃ o, h'.get? e = some o ∧ o.cls = .type "StopIteration") → E (.ref e) { s with heap := h' }) →
    wpAny (model prog w) A (F (.ref b.it, n) c) Q E s
theorem loopE {σ : Type} {F : Value × Nat → σ → Sem (ForInStep σ)} {c : σ} {z TI TO : Addr} {k : Nat} (step : StepI prog w A E F c TO k) (stop : StepE prog w A E F c z TI TO k) :
    ∀ (bs : List (Sb × Array Value)) (vs : List Value) (n : Nat) (s : Shared) (Q : σ → Shared → Prop), Apart z TI TO bs → (∀ p ∈ bs, p.1.At s.heap k ∧ p.1.Base s.heap p.2) → (∃ p ∈ bs, p.2[k]? = none) →
      vs.length ≤ sizeLine → IsT s.heap TO vs → IsZip s.heap z TI TO .ellipsis →
      (∀ h' e, (∀ c o, c ≠ z → c ≠ TO → (∀ p ∈ bs, c ≠ p.1.it) → s.heap.get? c = some o → h'.get? c = some o) → (∃ o, h'.get? e = some o ∧ o.cls = .type "StopIteration") → E (.ref e) { s with heap := h' }) →
      wpAny (model prog w) A (forIn ((bs.map fun p => Value.ref p.1.it).zipIdx n) c F) Q E s
  | [], vs, n, s, Q, D, hb, ⟨p, hp, _⟩, hl, hT, hz, hE => nomatch hp
  | p :: bs, vs, n, s, Q, D, hb, hu, hl, hT, hz, hE => by
    simp only [List.map_cons, List.zipIdx_cons, List.forIn_cons]
    obtain ⟨ha, hbs⟩ := hb p (List.mem_cons_self ..)
    cases hx : p.2[k]? with
    | none => exact wpAny_bind (stop p.1 _ s _ _ (D.itz p (List.mem_cons_self ..)) ha hbs hx hz fun h1 e k1 he => hE h1 e (fun c o c1 _ c3 x => k1 c o c1 (c3 p (List.mem_cons_self ..)) x) he)
    | some u =>
      refine wpAny_bind (step p.1 _ s _ _ _ _ hl (D.itTO p (List.mem_cons_self ..)) ha hbs hx hT fun h1 t1 a1 z1 k1 => ?_)
      refine loopE step stop bs _ _ { s with heap := h1 } Q D.tail (fun q hq => ⟨(hb q (List.mem_cons_of_mem _ hq)).1.to fun o e => k1 _ o (D.itTO q (List.mem_cons_of_mem _ hq)) (D.head q hq) e,
          (hb q (List.mem_cons_of_mem _ hq)).2.to fun o e => k1 _ o (D.lTO q (List.mem_cons_of_mem _ hq)) (D.lit q (List.mem_cons_of_mem _ hq) p (List.mem_cons_self ..)) e⟩) ?_ (by simpa using hl) t1 (k1 _ _ D.TOz.symm (D.itz p (List.mem_cons_self ..)).symm hz) fun h2 e k2 he =>
            hE h2 e (fun c o c1 c2 c3 x => k2 c o c1 c2 (fun r hr => c3 r (List.mem_cons_of_mem _ hr)) (k1 c o c2 (c3 p (List.mem_cons_self ..)) x)) he
      obtain ⟨q, hq, hn⟩ := hu
      rcases List.mem_cons.mp hq with rfl | hq
      · rw [hx] at hn; cases hn
      · exact ⟨q, hq, hn⟩
theorem Hds.len {k : Nat} : ∀ {bs : List (Sb × Array Value)} {us : List Value}, Hds k bs us → us.length = bs.length
  | _, _, .nil => rfl
  | _, _, .cons _ h => by simp [h.len]
theorem next_item {z TI TO : Addr} {p : Sb × Array Value} {bs : List (Sb × Array Value)} {k : Nat} {us olds : List Value} {Q : Value → Shared → Prop} (D : Apart z TI TO (p :: bs))
    (hz : IsZip s.heap z TI TO .none) (hTI : IsT s.heap TI ((p :: bs).map fun p => Value.ref p.1.it)) (hTO : IsT s.heap TO olds) (hol : olds.length = us.length)
    (hb : ∀ q ∈ p :: bs, q.1.At s.heap k ∧ q.1.Base s.heap q.2) (hu : Hds k (p :: bs) us) (hlen : us.length ≤ sizeLine)
    (hQ : ∀ h', IsZip h' z TI TO (rawInt s.heap.objs.size) → IsT h' TO us → (∀ q ∈ p :: bs, q.1.At h' (k + 1)) → IsT h' s.heap.objs.size us → h'.objs.size = s.heap.objs.size + 1 →
      (∀ c o, c ≠ z → c ≠ TO → (∀ q ∈ p :: bs, c ≠ q.1.it) → s.heap.get? c = some o → h'.get? c = some o) → Q (.ref s.heap.objs.size) { s with heap := h' }) :
    wpAny (model prog w) A (Builtin.«zip.__next__» ⟨[.ref z], []⟩) (fun fin s' => ∃ v, fin = .done (.ret v) ∧ Q v s') E s := by
  show wpAny _ _ (field (.ref z) 2 >>= _) _ _ _
  refine wpAny_bind (wpAny_field hz rfl (x := .bool false) rfl ?_)
  show wpAny _ _ (field (.ref z) 3 >>= _) _ _ _
  refine wpAny_bind (wpAny_field hz rfl (x := .ref TI) rfl ?_)
  refine wpAny_bind (wpAny_seqItems hTI rfl ?_)
  show wpAny _ _ (Builtin.SmallTypes.ownedTupleIsFree (.ref z) >>= _) _ _ _
  refine wpAny_bind ?_
  unfold Builtin.SmallTypes.ownedTupleIsFree
  refine wpAny_bind (wpAny_field hz rfl (x := .none) rfl (wpAny_pure ?_))
  simp only [if_true]
  refine wpAny_bind (wpAny_rule ?_)
  refine wpAny_bind (wpAny_field hz rfl (x := .ref TO) rfl ?_)
  refine wpAny_bind (wpAny_setField_rec hz (by simp) fun h₁ hz₁ hs₁ => ?_)
  replace hz₁ : IsZip h₁ z TI TO .ellipsis := hz₁
  refine wpAny_bind ?_
  refine loopI (z := z) (TI := TI) (TO := TO) (k := k) ?_ (p :: bs) us [] olds { s with heap := h₁ } _ D (fun q hq => ⟨(hb q hq).1.to fun o e => hs₁.extBut _ _ (D.itz q hq) e, (hb q hq).2.to fun o e => hs₁.extBut _ _ (D.lz q hq) e⟩) hu hol (by rw [List.nil_append, hol]; exact hlen) (hs₁.extBut _ _ D.TOz hTO) fun h₅ hTO₅ ha₅ hz5 hk₅ => ?_
  · intro b n s vs xs x Q hvl hbT ha hbs hx hT hQ
    refine wpAny_bind (wpAny_onRaise ?_)
    show wpAny _ _ (Builtin.SmallTypes.nextOf (.ref b.it) >>= _) _ _ _
    refine wpAny_bind (nx_item ha hbs hx fun h₂ h1₂ hs₂ => wpAny_pure ?_)
    have hTO₂ : IsT h₂ TO vs := hs₂.extBut _ _ hbT.symm hT
    refine wpAny_bind (wpAny_seqItems hTO₂ rfl ?_)
    refine wpAny_bind (wpAny_updateSeq hTO₂ rfl (hz := hvl) (_hz' := by rw [Array.size_setIfInBounds]; exact Nat.le_succ_of_le hvl) ?_)
    refine wpAny_bind (wpAny_letGo (wpAny_pure ?_))
    have hs₃ := Heap.SameBut.update h₂ TO (Obj.mapSeq fun y => y.setIfInBounds n x)
    refine hQ _ ?_ (h1₂.to fun o e => hs₃.extBut _ _ hbT e) (hs₃.1.trans hs₂.1) fun c o c1 c2 e => hs₃.extBut _ _ c1 (hs₂.extBut _ _ c2 e)
    rw [IsT, Heap.get?_update_self _ hTO₂ rfl]
    simp [Obj.mapSeq]
  · refine wpAny_bind (wpAny_seqItems (show IsT h₅ TO us from hTO₅) rfl ?_)
    refine wpAny_bind (wpAny_newTuple ?_)
    have hsz : h₅.objs.size = s.heap.objs.size := hz5.trans hs₁.1
    have hz₅ : IsZip h₅ z TI TO .ellipsis := hk₅ _ _ D.TOz.symm (fun q hq => (D.itz q hq).symm) hz₁
    have hzlt : z < h₅.objs.size := Heap.lt_size hz₅
    show wpAny _ _ (Builtin.SmallTypes.ownedTupleHandOut (.ref z) (.ref h₅.objs.size) >>= _) _ _ _
    refine wpAny_bind ?_
    unfold Builtin.SmallTypes.ownedTupleHandOut
    have hz₆ : IsZip (h₅.push { cls := .type "tuple", data := .seq ⟨us⟩ }) z TI TO .ellipsis := Heap.get?_push_of_some _ hz₅
    refine wpAny_bind (wpAny_setField_rec hz₆ (by simp) fun h₇ hz₇ hs₇ => ?_)
    replace hz₇ : IsZip h₇ z TI TO (rawInt h₅.objs.size) := hz₇
    refine wpAny_setField_rec hz₇ (by simp) fun h₈ hz₈ hs₈ => ?_
    replace hz₈ : IsZip h₈ z TI TO (rawInt h₅.objs.size) := hz₈
    have up : ∀ c o, c ≠ z → h₅.get? c = some o → h₈.get? c = some o := fun c o c1 e => hs₈.extBut _ _ c1 (hs₇.extBut _ _ c1 (Heap.get?_push_of_some _ e))
    have hT₈ : IsT h₈ h₅.objs.size us := hs₈.extBut _ _ (Nat.ne_of_gt hzlt) (hs₇.extBut _ _ (Nat.ne_of_gt hzlt) (Heap.get?_push_size _ rfl))
    have hz8 : h₈.objs.size = h₅.objs.size + 1 := by rw [hs₈.1, hs₇.1, Heap.size_push]
    rw [hsz] at hz₈ hT₈ hz8
    refine wpAny_pure ⟨_, rfl, ?_⟩
    show Q (.ref h₅.objs.size) _
    rw [hsz]
    exact hQ h₈ hz₈ (up _ _ D.TOz hTO₅) (fun q hq => (ha₅ q hq).to fun o e => up _ o (D.itz q hq) e) hT₈ hz8 fun c o c1 c2 c3 e => up c o c1 (hk₅ c o c2 c3 (hs₁.extBut _ _ c1 e))
theorem next_end {z TI TO : Addr} {p : Sb × Array Value} {bs : List (Sb × Array Value)} {k : Nat} {olds : List Value} {Q : Fin → Shared → Prop} (hh : A.handled = none) (D : Apart z TI TO (p :: bs))
    (hz : IsZip s.heap z TI TO .none) (hTI : IsT s.heap TI ((p :: bs).map fun p => Value.ref p.1.it)) (hTO : IsT s.heap TO olds) (hol : olds.length ≤ sizeLine)
    (hb : ∀ q ∈ p :: bs, q.1.At s.heap k ∧ q.1.Base s.heap q.2) (hu : ∃ q ∈ p :: bs, q.2[k]? = none)
    (hE : ∀ h' e, (∀ c o, c ≠ z → c ≠ TO → (∀ q ∈ p :: bs, c ≠ q.1.it) → s.heap.get? c = some o → h'.get? c = some o) → (∃ o, h'.get? e = some o ∧ o.cls = .type "StopIteration") → E (.ref e) { s with heap := h' }) :
    wpAny (model prog w) A (Builtin.«zip.__next__» ⟨[.ref z], []⟩) Q E s := by
  show wpAny _ _ (field (.ref z) 2 >>= _) _ _ _
  refine wpAny_bind (wpAny_field hz rfl (x := .bool false) rfl ?_)
  show wpAny _ _ (field (.ref z) 3 >>= _) _ _ _
  refine wpAny_bind (wpAny_field hz rfl (x := .ref TI) rfl ?_)
  refine wpAny_bind (wpAny_seqItems hTI rfl ?_)
  show wpAny _ _ (Builtin.SmallTypes.ownedTupleIsFree (.ref z) >>= _) _ _ _
  refine wpAny_bind ?_
  unfold Builtin.SmallTypes.ownedTupleIsFree
  refine wpAny_bind (wpAny_field hz rfl (x := .none) rfl (wpAny_pure ?_))
  simp only [if_true]
  refine wpAny_bind (wpAny_rule ?_)
  refine wpAny_bind (wpAny_field hz rfl (x := .ref TO) rfl ?_)
  refine wpAny_bind (wpAny_setField_rec hz (by simp) fun h₁ hz₁ hs₁ => ?_)
  replace hz₁ : IsZip h₁ z TI TO .ellipsis := hz₁
  refine wpAny_bind ?_
  refine loopE (z := z) (TI := TI) (TO := TO) (k := k) ?_ ?_ (p :: bs) olds 0 { s with heap := h₁ } _ D (fun q hq => ⟨(hb q hq).1.to fun o e => hs₁.extBut _ _ (D.itz q hq) e, (hb q hq).2.to fun o e => hs₁.extBut _ _ (D.lz q hq) e⟩) hu hol (hs₁.extBut _ _ D.TOz hTO) hz₁
    fun h' e k' he => hE h' e (fun c o c1 c2 c3 x => k' c o c1 c2 c3 (hs₁.extBut _ _ c1 x)) he
  · intro b n s vs xs x Q hvl hbT ha hbs hx hT hQ
    refine wpAny_bind (wpAny_onRaise ?_)
    show wpAny _ _ (Builtin.SmallTypes.nextOf (.ref b.it) >>= _) _ _ _
    refine wpAny_bind (nx_item ha hbs hx fun h₂ h1₂ hs₂ => wpAny_pure ?_)
    have hTO₂ : IsT h₂ TO vs := hs₂.extBut _ _ hbT.symm hT
    refine wpAny_bind (wpAny_seqItems hTO₂ rfl ?_)
    refine wpAny_bind (wpAny_updateSeq hTO₂ rfl (hz := hvl) (_hz' := by rw [Array.size_setIfInBounds]; exact Nat.le_succ_of_le hvl) ?_)
    refine wpAny_bind (wpAny_letGo (wpAny_pure ?_))
    have hs₃ := Heap.SameBut.update h₂ TO (Obj.mapSeq fun y => y.setIfInBounds n x)
    refine hQ _ ?_ (h1₂.to fun o e => hs₃.extBut _ _ hbT e) (hs₃.1.trans hs₂.1) fun c o c1 c2 e => hs₃.extBut _ _ c1 (hs₂.extBut _ _ c2 e)
    rw [IsT, Heap.get?_update_self _ hTO₂ rfl]
    simp [Obj.mapSeq]
  · intro b n s xs Q hbz ha hbs hx hz hE
    refine wpAny_bind (wpAny_onRaise ?_)
    show wpAny _ _ (Builtin.SmallTypes.nextOf (.ref b.it) >>= _) _ _ _
    refine wpAny_bind (nx_end hh ha hbs hx fun h₂ e hs₂ he => ?_)
    obtain ⟨oe, hoe, hce⟩ := he
    have hz₂ : IsZip h₂ z TI TO .ellipsis := hs₂ _ _ hbz.symm hz
    have hez : e ≠ z := fun x => by subst x; rw [hz₂] at hoe; cases hoe; simp at hce
    refine wpAny_setField_rec hz₂ (by simp) fun h₃ _ hs₃ => hE h₃ e (fun c o c1 c2 x => hs₃.extBut _ _ c1 (hs₂ _ _ c2 x)) ⟨oe, hs₃.extBut _ _ hez hoe, hce⟩
theorem pyNext_item {z TI TO : Addr} {p : Sb × Array Value} {bs : List (Sb × Array Value)} {k : Nat} {us olds : List Value} {Q : Option Value → Shared → Prop} (D : Apart z TI TO (p :: bs))
    (hz : IsZip s.heap z TI TO .none) (hTI : IsT s.heap TI ((p :: bs).map fun p => Value.ref p.1.it)) (hTO : IsT s.heap TO olds) (hol : olds.length = us.length)
    (hb : ∀ q ∈ p :: bs, q.1.At s.heap k ∧ q.1.Base s.heap q.2) (hu : Hds k (p :: bs) us) (hlen : us.length ≤ sizeLine)
    (hQ : ∀ h', IsZip h' z TI TO (rawInt s.heap.objs.size) → IsT h' TO us → (∀ q ∈ p :: bs, q.1.At h' (k + 1)) → IsT h' s.heap.objs.size us → h'.objs.size = s.heap.objs.size + 1 →
      (∀ c o, c ≠ z → c ≠ TO → (∀ q ∈ p :: bs, c ≠ q.1.it) → s.heap.get? c = some o → h'.get? c = some o) → Q (some (.ref s.heap.objs.size)) { s with heap := h' }) :
    wpAny (model prog w) A (pyNext (.ref z)) Q E s := by
  have hT : s.TypeIs (.ref z) "zip" := ⟨_, hz, rfl⟩
  unfold pyNext
  exact wpAny_bind (wpAny_attempt (wpAny_callSpecial?_slot (name := Str.ofString "__next__") hT F.slot_zip_next
    (wpAny_call_entry F.slot_zip_next hT F.entry_zip_next
      (next_item D hz hTI hTO hol hb hu hlen fun h' a1 a2 a3 a4 a5 a6 => wpAny_pure (hQ h' a1 a2 a3 a4 a5 a6)) (F.args_zip_next_1 _))))
theorem pyNext_end {z TI TO : Addr} {p : Sb × Array Value} {bs : List (Sb × Array Value)} {k : Nat} {olds : List Value} {Q : Option Value → Shared → Prop} (hh : A.handled = none) (D : Apart z TI TO (p :: bs))
    (hz : IsZip s.heap z TI TO .none) (hTI : IsT s.heap TI ((p :: bs).map fun p => Value.ref p.1.it)) (hTO : IsT s.heap TO olds) (hol : olds.length ≤ sizeLine)
    (hb : ∀ q ∈ p :: bs, q.1.At s.heap k ∧ q.1.Base s.heap q.2) (hu : ∃ q ∈ p :: bs, q.2[k]? = none)
    (hQ : ∀ h', (∀ c o, c ≠ z → c ≠ TO → (∀ q ∈ p :: bs, c ≠ q.1.it) → s.heap.get? c = some o → h'.get? c = some o) → Q none { s with heap := h' }) : wpAny (model prog w) A (pyNext (.ref z)) Q E s := by
  have hT : s.TypeIs (.ref z) "zip" := ⟨_, hz, rfl⟩
  unfold pyNext
  refine wpAny_bind (wpAny_attempt (wpAny_callSpecial?_slot (name := Str.ofString "__next__") hT F.slot_zip_next
    (wpAny_call_entry F.slot_zip_next hT F.entry_zip_next (next_end hh D hz hTI hTO hol hb hu fun h' e hk he => ?_) (F.args_zip_next_1 _))))
  obtain ⟨o, ho, hc⟩ := he
  refine wpAny_bind (wpAny_isInstance (T := "StopIteration") (b := true) ⟨o, ho, hc⟩ isSubtype_stop ?_)
  exact wpAny_pure (hQ _ hk)
end
end ZN

/-! zip of any number: the turns, and at data level -/
namespace ZN
open PySem PySem.Spec PyProof.Rows L2
def SqX (K : PySem.W.Frag) (H : Hp) (xs : List V) : Bool × Addr → Prop
  | (true, a) => SqT K H a xs
  | (false, a) => SqL K H a xs
inductive Sqs (K : PySem.W.Frag) (H : Hp) : List (Bool × Addr) → List (List V) → Prop
  | nil : Sqs K H [] []
  | cons {t : Bool × Addr} {r : List V} {ts : List (Bool × Addr)} {rs : List (List V)} : SqX K H r t → Sqs K H ts rs → Sqs K H (t :: ts) (r :: rs)
inductive Col (i : Nat) : List (List V) → List V → Prop
  | nil : Col i [] []
  | cons {r : List V} {u : V} {rs : List (List V)} {us : List V} : r[i]? = some u → Col i rs us → Col i (r :: rs) (u :: us)
/-- the things as they stand at each turn, the items in new tuples -/
def ItzN (K : PySem.W.Frag) (ts : List (Bool × Addr)) : It :=
  ⟨fun i H => ∃ rows us, Sqs K H ts rows ∧ Col i rows us,
    fun i H v H' => ∃ T us, v = .ref T ∧ H T = none ∧ H' = upd H T (.tup us) ∧ ∀ rows, Sqs K H ts rows → Col i rows us,
    fun i H => ∃ rows, Sqs K H ts rows ∧ ∃ r ∈ rows, r.length ≤ i⟩
section
variable {X : Cx} {pins : List (Addr × Obj)} {σ : L2.St} {H : Hp} {s : Shared}
theorem sq_base (I : Inv X pins σ H s) {b : Sb} {xs : List V} (h : SqX X.K H xs (b.tp, b.l)) : ∃ its : List Value, Vals xs its ∧ b.Base s.heap its.toArray := by
  obtain ⟨tp, it, l⟩ := b
  cases tp
  · obtain ⟨its, r, p, _⟩ := I.list h
    exact ⟨its, r, p.isList⟩
  · obtain ⟨its, r, p, _⟩ := I.tuple h
    exact ⟨its, r, p⟩
theorem sq_inj (I : Inv X pins σ H s) {t : Bool × Addr} {xs ys : List V} (h : SqX X.K H xs t) (h' : SqX X.K H ys t) : xs = ys := by
  obtain ⟨tp, l⟩ := t
  cases tp
  · exact I.list_inj h h'
  · exact I.tuple_inj h h'
theorem sqs_inj (I : Inv X pins σ H s) : ∀ {ts : List (Bool × Addr)} {r r' : List (List V)}, Sqs X.K H ts r → Sqs X.K H ts r' → r = r'
  | [], _, _, .nil, .nil => rfl
  | _ :: _, _, _, .cons h q, .cons h' q' => by rw [sq_inj I h h', sqs_inj I q q']
def key (b : Sb) : Bool × Addr := (b.tp, b.l)
theorem bases (I : Inv X pins σ H s) : ∀ (bs : List Sb) (rows : List (List V)), Sqs X.K H (bs.map key) rows →
    ∃ ps : List (Sb × Array Value), ps.map (·.1) = bs ∧ (∀ p ∈ ps, p.1.Base s.heap p.2) ∧ (∀ i us, Col i rows us → ∃ vs, Hds i ps vs ∧ Vals us vs) ∧ (∀ i, (∃ r ∈ rows, r.length ≤ i) → ∃ p ∈ ps, p.2[i]? = none)
  | [], _, .nil => by
    refine ⟨[], rfl, ?_, ?_, ?_⟩
    · intro p h; cases h
    · intro i us h; cases h; exact ⟨[], .nil, .nil⟩
    · rintro i ⟨r, h, _⟩; cases h
  | b :: bs, _, .cons h q => by
    obtain ⟨ps, e, h1, h2, h3⟩ := bases I bs _ q
    obtain ⟨its, r, hb⟩ := sq_base I (b := b) h
    refine ⟨(b, its.toArray) :: ps, by simp [e], ?_, ?_, ?_⟩
    · intro p hp
      rcases List.mem_cons.mp hp with rfl | hp
      · exact hb
      · exact h1 p hp
    · intro i us hc
      cases hc with
      | cons hx hc =>
        obtain ⟨vs, g1, g2⟩ := h2 i _ hc
        obtain ⟨u, hu, ru⟩ := r.get hx
        exact ⟨u :: vs, .cons (by simpa using hu) g1, .cons ru g2⟩
    · rintro i ⟨r', hr, hl⟩
      rcases List.mem_cons.mp hr with rfl | hr
      · refine ⟨_, List.mem_cons_self .., ?_⟩
        have := r.length
        simp; omega
      · obtain ⟨p, hp, hn⟩ := h3 i ⟨r', hr, hl⟩
        exact ⟨p, List.mem_cons_of_mem _ hp, hn⟩
end
/-- on things alone -/
abbrev ApartS (z TI TO : Addr) (bs : List Sb) : Prop := Apart z TI TO (bs.map fun b => (b, #[]))
theorem apart_of {z TI TO : Addr} {bs : List Sb} {ps : List (Sb × Array Value)} (D : ApartS z TI TO bs) (e : ps.map (·.1) = bs) : Apart z TI TO ps := by
  subst e
  have m : ∀ p ∈ ps, (p.1, (#[] : Array Value)) ∈ (ps.map (·.1)).map fun b => (b, (#[] : Array Value)) := fun p hp => by
    simp only [List.map_map, List.mem_map]
    exact ⟨p, hp, rfl⟩
  refine ⟨D.TIz, D.TOz, D.TITO, ?_, fun p h => D.itz (p.1, #[]) (m p h), fun p h => D.itTI (p.1, #[]) (m p h), fun p h => D.itTO (p.1, #[]) (m p h), fun p h => D.lz (p.1, #[]) (m p h), fun p h => D.lTO (p.1, #[]) (m p h), fun p h q g => D.lit (p.1, #[]) (m p h) (q.1, #[]) (m q g)⟩
  have := D.nd
  simp only [List.map_map] at this
  exact this
theorem Col.len {i : Nat} : ∀ {rows : List (List V)} {us : List V}, Col i rows us → us.length = rows.length
  | _, _, .nil => rfl
  | _, _, .cons _ h => by simp [h.len]
theorem Sqs.len {K : PySem.W.Frag} {H : Hp} : ∀ {ts : List (Bool × Addr)} {rows : List (List V)}, Sqs K H ts rows → rows.length = ts.length
  | _, _, .nil => rfl
  | _, _, .cons _ h => by simp [h.len]
abbrev tnN (z TI TO : Addr) (bs : List Sb) (i : Nat) (h : Heap) : Prop := IsZip h z TI TO .none ∧ IsT h TI (bs.map fun b => Value.ref b.it) ∧ (∃ olds, olds.length = bs.length ∧ IsT h TO olds) ∧ ∀ b ∈ bs, b.At h i
theorem turn_zipN {P : Program} {w : World} {K : PySem.W.Frag} {elts : List Expr} {kk : Nat} {tpos : Pos} {z TI TO : Addr} {b0 : Sb} {bs : List Sb} (D : ApartS z TI TO (b0 :: bs)) (hsz : (b0 :: bs).length ≤ sizeLine) :
    Turn P w K (.Tuple elts kk tpos) (ItzN K ((b0 :: bs).map key)) (z :: TI :: TO :: (b0 :: bs).map (·.it)) z (tnN z TI TO (b0 :: bs)) where
  mem := by simp
  obj := fun i h st c hc => by
    obtain ⟨hz, hTI, ⟨olds, _, hTO⟩, ha⟩ := st
    rcases List.mem_cons.mp hc with rfl | hc
    · exact ⟨_, hz, fun v q => nomatch q⟩
    rcases List.mem_cons.mp hc with rfl | hc
    · exact ⟨_, hTI, fun v q => nomatch q⟩
    rcases List.mem_cons.mp hc with rfl | hc
    · exact ⟨_, hTO, fun v q => nomatch q⟩
    obtain ⟨b, hb, rfl⟩ := List.mem_map.mp hc
    exact (ha b hb).obj
  keep := fun i h h' st k => by
    obtain ⟨hz, hTI, ⟨olds, ho, hTO⟩, ha⟩ := st
    exact ⟨k z (by simp) _ hz, k TI (by simp) _ hTI, ⟨olds, ho, k TO (by simp) _ hTO⟩, fun b hb => (ha b hb).to fun o e => k b.it (List.mem_cons_of_mem _ (List.mem_cons_of_mem _ (List.mem_cons_of_mem _ (List.mem_map_of_mem hb)))) o e⟩
  item := by
    intro X hP hw hK hc i pins s σ H E I hf st hg
    subst hP hw hK
    obtain ⟨hz, hTI, ⟨olds, ho, hTO⟩, ha⟩ := st
    obtain ⟨rows, us, hq, hcol⟩ := hg
    obtain ⟨ps, e, hb, hi, _⟩ := bases I (b0 :: bs) rows hq
    obtain ⟨vs, hv, rv⟩ := hi i us hcol
    have DD := apart_of D e
    have ul : us.length = (b0 :: bs).length := by rw [hcol.len, hq.len, List.length_map]
    have vl : vs.length = us.length := rv.length.symm
    have hzl : z < s.heap.objs.size := Heap.lt_size hz
    cases ps with
    | nil => cases e
    | cons p ps =>
      have hTI' : IsT s.heap TI ((p :: ps).map fun p => Value.ref p.1.it) := by
        rw [show ((p :: ps).map fun p => Value.ref p.1.it) = (b0 :: bs).map fun b => Value.ref b.it from by rw [← e, List.map_map]; rfl]
        exact hTI
      have mem : ∀ q ∈ p :: ps, q.1 ∈ b0 :: bs := fun q hq => by rw [← e]; exact List.mem_map_of_mem hq
      have mem' : ∀ b ∈ b0 :: bs, ∃ q ∈ p :: ps, q.1 = b := fun b hb => by rw [← e] at hb; obtain ⟨q, h1, h2⟩ := List.mem_map.mp hb; exact ⟨q, h1, h2⟩
      refine pyNext_item DD hz hTI' hTO (by omega) (fun q hq => ⟨ha q.1 (mem q hq), hb q hq⟩) hv (by omega) fun h' z' TO' a' hT hsz hk => ?_
      refine ⟨_, rfl, wpAny_letOwnedTupleGo_zip (s := { s with heap := h' }) z' fun h'' z'' sb => ?_⟩
      have hT2 : h''.get? s.heap.objs.size = some { cls := .type "tuple", data := .seq ⟨vs⟩ } := (sb.2 _ (Nat.ne_of_gt hzl)).trans hT
      have new : ObjOk X.prog X.w (upd H s.heap.objs.size (.tup us)) h'' s.heap.objs.size (.tup us) :=
        ⟨by omega, vs, rv, ⟨_, hT2, rfl, _, rfl⟩⟩
      have I1 : Inv X pins σ (upd H s.heap.objs.size (.tup us)) { s with heap := h'' } :=
        I.turnedNew (t' := s.toks) (ch := z :: TI :: TO :: (b0 :: bs).map (·.it)) (fun c o hb q => (sb.2 c (fun q' => hb (by simp [q']))).trans (hk c o (fun q' => hb (by simp [q'])) (fun q' => hb (by simp [q'])) (fun r hr q' => hb (by rw [q']; exact List.mem_cons_of_mem _ (List.mem_cons_of_mem _ (List.mem_cons_of_mem _ (List.mem_map_of_mem (mem r hr)))))) q)) hf (Nat.le_refl _) new
      refine ⟨.ref s.heap.objs.size, _, I1, rfl, ⟨_, us, rfl, I.hok.fresh (Nat.le_refl _), rfl, fun rows' hr => by rw [sqs_inj I hr hq]; exact hcol⟩, ⟨z'', ?_, ⟨vs, by omega, ?_⟩, ?_⟩, fun c hcm => ?_⟩
      · exact (sb.2 _ D.TIz).trans (hk _ _ D.TIz D.TITO (fun r hr => (DD.itTI r hr).symm) hTI)
      · exact (sb.2 _ D.TOz).trans TO'
      · intro b hb
        obtain ⟨q, hq, rfl⟩ := mem' b hb
        exact (a' q hq).to fun o e => (sb.2 _ (DD.itz q hq)).trans e
      · have hlt : c < s.heap.objs.size := by
          rcases List.mem_cons.mp hcm with rfl | hcm
          · exact hzl
          rcases List.mem_cons.mp hcm with rfl | hcm
          · exact Heap.lt_size hTI
          rcases List.mem_cons.mp hcm with rfl | hcm
          · exact Heap.lt_size hTO
          obtain ⟨b, hb, rfl⟩ := List.mem_map.mp hcm
          obtain ⟨o, e, _⟩ := (ha b hb).obj
          exact Heap.lt_size e
        rw [upd_ne (Nat.ne_of_lt hlt)]
        exact (hf c hcm).1
  done := by
    intro X hP hw hK hc i pins s σ H E I hf st hg
    subst hP hw hK
    obtain ⟨hz, hTI, ⟨olds, ho, hTO⟩, ha⟩ := st
    obtain ⟨rows, hq, hend⟩ := hg
    obtain ⟨ps, e, hb, _, hi⟩ := bases I (b0 :: bs) rows hq
    have DD := apart_of D e
    cases ps with
    | nil => cases e
    | cons p ps =>
      have hTI' : IsT s.heap TI ((p :: ps).map fun p => Value.ref p.1.it) := by
        rw [show ((p :: ps).map fun p => Value.ref p.1.it) = (b0 :: bs).map fun b => Value.ref b.it from by rw [← e, List.map_map]; rfl]
        exact hTI
      have mem : ∀ q ∈ p :: ps, q.1 ∈ b0 :: bs := fun q hq => by rw [← e]; exact List.mem_map_of_mem hq
      exact pyNext_end (I.ok.hd hc) DD hz hTI' hTO (by omega) (fun q hq => ⟨ha q.1 (mem q hq), hb q hq⟩) (hi i hend) fun h' hk => ⟨rfl, I.turnedL (t' := s.toks) (ch := z :: TI :: TO :: (b0 :: bs).map (·.it)) (fun c o hb q =>
        hk c o (fun q' => hb (by simp [q'])) (fun q' => hb (by simp [q'])) (fun r hr q' => hb (by rw [q']; exact List.mem_cons_of_mem _ (List.mem_cons_of_mem _ (List.mem_cons_of_mem _ (List.mem_map_of_mem (mem r hr)))))) q) hf⟩
  self := fun A i s Q E st h => wpAny_pyIter_zip st.1 h
end ZN

/-! zip(..) is called -/
namespace ZN
open PySem PySem.Spec PyProof.Rows L2
def itO : Bool × Addr → Obj
  | (true, l) => { cls := .type "tuple_iterator", data := .fields #[.ref l, .int 0 0] }
  | (false, l) => { cls := .type "list_iterator", data := .fields #[.ref l, .int 0 0] }
def BaseK (h : Heap) (xs : Array Value) : Bool × Addr → Prop
  | (true, l) => h.IsTuple l xs
  | (false, l) => h.IsList l xs
theorem BaseK.push {h : Heap} {xs : Array Value} {t : Bool × Addr} (x : BaseK h xs t) (o : Obj) : BaseK (h.push o) xs t := by
  obtain ⟨tp, l⟩ := t
  cases tp
  · exact Heap.IsList.push x o
  · exact Heap.IsTuple.push x o
theorem BaseK.lt {h : Heap} {xs : Array Value} {t : Bool × Addr} (x : BaseK h xs t) : t.2 < h.objs.size := by
  obtain ⟨tp, l⟩ := t
  cases tp
  · obtain ⟨o, e, _⟩ := x; exact Heap.lt_size e
  · obtain ⟨o, e, _⟩ := x; exact Heap.lt_size e
theorem at_itO {h : Heap} {t : Bool × Addr} {a : Addr} (e : h.get? a = some (itO t)) : Sb.At h 0 ⟨t.1, a, t.2⟩ := by
  obtain ⟨tp, l⟩ := t
  cases tp
  · exact ⟨_, e, rfl, rfl⟩
  · exact ⟨_, e, rfl, rfl⟩
section
variable {prog : Program} {w : World} {A : Around} {E : Value → Shared → Prop} {s : Shared}
theorem pyIter_k {t : Bool × Addr} {xs : Array Value} {Q : Value → Shared → Prop} (hb : BaseK s.heap xs t) (hQ : Q (.ref s.heap.objs.size) { s with heap := s.heap.push (itO t) }) : wpAny (model prog w) A (pyIter (.ref t.2)) Q E s := by
  obtain ⟨tp, l⟩ := t
  cases tp
  · exact wpAny_pyIter_list hb hQ
  · exact wpAny_pyIter_tuple hb hQ
end
abbrev z2 (h : Heap) (t1 t2 : Bool × Addr) : Heap := (h.push (itO t1)).push (itO t2)
abbrev z3 (h : Heap) (t1 t2 : Bool × Addr) : Heap := (z2 h t1 t2).push { cls := .type "tuple", data := .seq #[.ref h.objs.size, .ref (h.push (itO t1)).objs.size] }
abbrev z4 (h : Heap) (t1 t2 : Bool × Addr) : Heap := (z3 h t1 t2).push { cls := .type "tuple", data := .seq #[.none, .none] }
abbrev z5 (h : Heap) (t1 t2 : Bool × Addr) : Heap := (z4 h t1 t2).push { cls := .type "zip", data := .fields #[.none, .bool false, .bool false, .ref (z2 h t1 t2).objs.size, .ref (z3 h t1 t2).objs.size] }
theorem meets2 (t1 t2 : Bool × Addr) (xs ys : Array Value) :
    Meets (Builtin.«zip.__new__» ⟨[.type "zip", .ref t1.2, .ref t2.2], []⟩) (fun _ R s => BaseK s.heap xs t1 ∧ BaseK s.heap ys t2 ∧
      R (.ok (.ret (.ref (z4 s.heap t1 t2).objs.size))) { s with heap := z5 s.heap t1 t2 }) :=
  .of_wp fun prog w A R s h => by
    obtain ⟨hp, g, d, tk, os⟩ := s; obtain ⟨hl1, hl2, h⟩ := h
    have hsub := sub_zip
    have hL1 : BaseK (Shared.heap ⟨hp, g, d, tk, os⟩) xs t1 := hl1
    have hL2 : BaseK (Shared.heap ⟨hp.push (itO t1), g, d, tk, os⟩) ys t2 := BaseK.push hl2 _
    wp_walk using pyIter_k hL1, pyIter_k hL2
    exact ⟨_, rfl, h⟩
abbrev y3 (h : Heap) (t1 t2 t3 : Bool × Addr) : Heap := (z2 h t1 t2).push (itO t3)
abbrev y4 (h : Heap) (t1 t2 t3 : Bool × Addr) : Heap := (y3 h t1 t2 t3).push { cls := .type "tuple", data := .seq #[.ref h.objs.size, .ref (h.push (itO t1)).objs.size, .ref (z2 h t1 t2).objs.size] }
abbrev y5 (h : Heap) (t1 t2 t3 : Bool × Addr) : Heap := (y4 h t1 t2 t3).push { cls := .type "tuple", data := .seq #[.none, .none, .none] }
abbrev y6 (h : Heap) (t1 t2 t3 : Bool × Addr) : Heap := (y5 h t1 t2 t3).push { cls := .type "zip", data := .fields #[.none, .bool false, .bool false, .ref (y3 h t1 t2 t3).objs.size, .ref (y4 h t1 t2 t3).objs.size] }
theorem meets3 (t1 t2 t3 : Bool × Addr) (xs ys zs : Array Value) :
    Meets (Builtin.«zip.__new__» ⟨[.type "zip", .ref t1.2, .ref t2.2, .ref t3.2], []⟩) (fun _ R s => BaseK s.heap xs t1 ∧ BaseK s.heap ys t2 ∧ BaseK s.heap zs t3 ∧
      R (.ok (.ret (.ref (y5 s.heap t1 t2 t3).objs.size))) { s with heap := y6 s.heap t1 t2 t3 }) :=
  .of_wp fun prog w A R s h => by
    obtain ⟨hp, g, d, tk, os⟩ := s; obtain ⟨hl1, hl2, hl3, h⟩ := h
    have hsub := sub_zip
    have hL1 : BaseK (Shared.heap ⟨hp, g, d, tk, os⟩) xs t1 := hl1
    have hL2 : BaseK (Shared.heap ⟨hp.push (itO t1), g, d, tk, os⟩) ys t2 := BaseK.push hl2 _
    have hL3 : BaseK (Shared.heap ⟨z2 hp t1 t2, g, d, tk, os⟩) zs t3 := BaseK.push (BaseK.push hl3 _) _
    wp_walk using pyIter_k hL1, pyIter_k hL2, pyIter_k hL3
    exact ⟨_, rfl, h⟩
theorem args4 (a b c d : Value) : argsOk "object.__init__" ⟨[a, b, c, d], []⟩ := by
  unfold argsOk; rw [signature?_of (id := "object.__init__") (n := ['_', '_', 't', 'i', 'n', 'i', '_', '_']) (o := ['t', 'c', 'e', 'j', 'b', 'o']) (by kernel_rfl) F.owner_object]; kernel_rfl
theorem typeCall3 (a b c : Value) : checkTypeCall "zip" ⟨[a, b, c], []⟩ = pure () := by kernel_rfl
theorem newCall3 (a b c : Value) : checkBuiltinCall "zip.__new__" ⟨[.type "zip", a, b, c], []⟩ = pure () := by kernel_rfl
end ZN

namespace ZN
open PySem PySem.Spec PyProof.Rows L2
section
variable {prog : Program} {w : World} {A : Around} {E : Value → Shared → Prop} {s : Shared}
theorem call2 {t1 t2 : Bool × Addr} {xs ys : Array Value} {Q : Value → Shared → Prop} (h1 : BaseK s.heap xs t1) (h2 : BaseK s.heap ys t2)
    (h : ∀ h', tnN (s.heap.objs.size + 4) (s.heap.objs.size + 2) (s.heap.objs.size + 3) [⟨t1.1, s.heap.objs.size, t1.2⟩, ⟨t2.1, s.heap.objs.size + 1, t2.2⟩] 0 h' → (∀ c o, s.heap.get? c = some o → h'.get? c = some o) → Q (.ref (s.heap.objs.size + 4)) { s with heap := h' }) :
    wpAny (model prog w) A (call (.type "zip") [.ref t1.2, .ref t2.2]) Q E s := by
  refine callType_new F.called_zip (by decide) (F.typeCall_zip_2 _ _) (F.newCall_zip_2 _ _) (fun obj => F.args_object_init_3 obj _ _) F.entry_zip_new (meets2 t1 t2 xs ys) ⟨h1, h2, ?_⟩
  have e1 : (s.heap.push (itO t1)).objs.size = s.heap.objs.size + 1 := Heap.size_push ..
  have e2 : (z2 s.heap t1 t2).objs.size = s.heap.objs.size + 2 := by rw [Heap.size_push, e1]
  have e3 : (z3 s.heap t1 t2).objs.size = s.heap.objs.size + 3 := by rw [Heap.size_push, e2]
  have e4 : (z4 s.heap t1 t2).objs.size = s.heap.objs.size + 4 := by rw [Heap.size_push, e3]
  have g5 : (z5 s.heap t1 t2).get? (z4 s.heap t1 t2).objs.size = some _ := Heap.get?_push_size _ rfl
  have g4 : (z5 s.heap t1 t2).get? (z3 s.heap t1 t2).objs.size = some _ := Heap.get?_push_of_some _ (Heap.get?_push_size _ rfl)
  have g3 : (z5 s.heap t1 t2).get? (z2 s.heap t1 t2).objs.size = some _ := Heap.get?_push_of_some _ (Heap.get?_push_of_some _ (Heap.get?_push_size _ rfl))
  have g2 : (z5 s.heap t1 t2).get? (s.heap.push (itO t1)).objs.size = some (itO t2) := Heap.get?_push_of_some _ (Heap.get?_push_of_some _ (Heap.get?_push_of_some _ (Heap.get?_push_size _ (by unfold itO; split <;> rfl))))
  have g1 : (z5 s.heap t1 t2).get? s.heap.objs.size = some (itO t1) := Heap.get?_push_of_some _ (Heap.get?_push_of_some _ (Heap.get?_push_of_some _ (Heap.get?_push_of_some _ (Heap.get?_push_size _ (by unfold itO; split <;> rfl)))))
  show _ ∧ _
  rw [e2, e3, e4] at g5
  rw [e1, e2] at g3
  rw [e3] at g4
  rw [e1] at g2
  rw [e4]
  refine ⟨⟨_, g5, rfl⟩, h _ ⟨g5, g3, ⟨[.none, .none], rfl, g4⟩, fun b hb => ?_⟩ fun c o x =>
    Heap.get?_push_of_some _ (Heap.get?_push_of_some _ (Heap.get?_push_of_some _ (Heap.get?_push_of_some _ (Heap.get?_push_of_some _ x))))⟩
  simp only [List.mem_cons, List.not_mem_nil, or_false] at hb
  rcases hb with rfl | rfl
  · exact at_itO g1
  · exact at_itO g2
theorem call3 {t1 t2 t3 : Bool × Addr} {xs ys zs : Array Value} {Q : Value → Shared → Prop} (h1 : BaseK s.heap xs t1) (h2 : BaseK s.heap ys t2) (h3 : BaseK s.heap zs t3)
    (h : ∀ h', tnN (s.heap.objs.size + 5) (s.heap.objs.size + 3) (s.heap.objs.size + 4) [⟨t1.1, s.heap.objs.size, t1.2⟩, ⟨t2.1, s.heap.objs.size + 1, t2.2⟩, ⟨t3.1, s.heap.objs.size + 2, t3.2⟩] 0 h' → (∀ c o, s.heap.get? c = some o → h'.get? c = some o) → Q (.ref (s.heap.objs.size + 5)) { s with heap := h' }) :
    wpAny (model prog w) A (call (.type "zip") [.ref t1.2, .ref t2.2, .ref t3.2]) Q E s := by
  refine callType_new F.called_zip (by decide) (typeCall3 _ _ _) (newCall3 _ _ _) (fun obj => args4 obj _ _ _) F.entry_zip_new (meets3 t1 t2 t3 xs ys zs) ⟨h1, h2, h3, ?_⟩
  have e1 : (s.heap.push (itO t1)).objs.size = s.heap.objs.size + 1 := Heap.size_push ..
  have e2 : (z2 s.heap t1 t2).objs.size = s.heap.objs.size + 2 := by rw [Heap.size_push, e1]
  have e3 : (y3 s.heap t1 t2 t3).objs.size = s.heap.objs.size + 3 := by rw [Heap.size_push, e2]
  have e4 : (y4 s.heap t1 t2 t3).objs.size = s.heap.objs.size + 4 := by rw [Heap.size_push, e3]
  have e5 : (y5 s.heap t1 t2 t3).objs.size = s.heap.objs.size + 5 := by rw [Heap.size_push, e4]
  have g6 : (y6 s.heap t1 t2 t3).get? (y5 s.heap t1 t2 t3).objs.size = some _ := Heap.get?_push_size _ rfl
  have g5 : (y6 s.heap t1 t2 t3).get? (y4 s.heap t1 t2 t3).objs.size = some _ := Heap.get?_push_of_some _ (Heap.get?_push_size _ rfl)
  have g4 : (y6 s.heap t1 t2 t3).get? (y3 s.heap t1 t2 t3).objs.size = some _ := Heap.get?_push_of_some _ (Heap.get?_push_of_some _ (Heap.get?_push_size _ rfl))
  have g3 : (y6 s.heap t1 t2 t3).get? (z2 s.heap t1 t2).objs.size = some (itO t3) := Heap.get?_push_of_some _ (Heap.get?_push_of_some _ (Heap.get?_push_of_some _ (Heap.get?_push_size _ (by unfold itO; split <;> rfl))))
  have g2 : (y6 s.heap t1 t2 t3).get? (s.heap.push (itO t1)).objs.size = some (itO t2) := Heap.get?_push_of_some _ (Heap.get?_push_of_some _ (Heap.get?_push_of_some _ (Heap.get?_push_of_some _ (Heap.get?_push_size _ (by unfold itO; split <;> rfl)))))
  have g1 : (y6 s.heap t1 t2 t3).get? s.heap.objs.size = some (itO t1) := Heap.get?_push_of_some _ (Heap.get?_push_of_some _ (Heap.get?_push_of_some _ (Heap.get?_push_of_some _ (Heap.get?_push_of_some _ (Heap.get?_push_size _ (by unfold itO; split <;> rfl))))))
  show _ ∧ _
  rw [e3, e4, e5] at g6
  rw [e1, e2, e3] at g4
  rw [e4] at g5
  rw [e2] at g3
  rw [e1] at g2
  rw [e5]
  refine ⟨⟨_, g6, rfl⟩, h _ ⟨g6, g4, ⟨[.none, .none, .none], rfl, g5⟩, fun b hb => ?_⟩ fun c o x =>
    Heap.get?_push_of_some _ (Heap.get?_push_of_some _ (Heap.get?_push_of_some _ (Heap.get?_push_of_some _ (Heap.get?_push_of_some _ (Heap.get?_push_of_some _ x)))))⟩
  simp only [List.mem_cons, List.not_mem_nil, or_false] at hb
  rcases hb with rfl | rfl | rfl
  · exact at_itO g1
  · exact at_itO g2
  · exact at_itO g3
end
theorem sqk_base {X : Cx} {pins : List (Addr × Obj)} {σ : L2.St} {H : Hp} {s : Shared} (I : Inv X pins σ H s) {t : Bool × Addr} {xs : List V} (h : SqX X.K H xs t) : ∃ ys : Array Value, BaseK s.heap ys t := by
  obtain ⟨tp, l⟩ := t
  cases tp
  · obtain ⟨its, r, p, _⟩ := I.list h
    exact ⟨its.toArray, p.isList⟩
  · obtain ⟨its, r, p, _⟩ := I.tuple h
    exact ⟨its.toArray, p⟩
theorem nad {x y : Nat} (h : x ≠ y) : (x : Addr) ≠ (y : Addr) := h
theorem apart2 (I l1 l2 : Nat) (a b : Bool) (h1 : l1 < I) (h2 : l2 < I) : ApartS (I + 4) (I + 2) (I + 3) [⟨a, I, l1⟩, ⟨b, I + 1, l2⟩] := by
  have nd : ([I, I + 1] : List Nat).Nodup := by simp
  refine ⟨nad (by omega), nad (by omega), nad (by omega), nd, ?_, ?_, ?_, ?_, ?_, ?_⟩
  all_goals
    intro p hp
    simp only [List.map_cons, List.map_nil, List.mem_cons, List.not_mem_nil, or_false] at hp
  · rcases hp with rfl | rfl <;> (refine nad ?_; dsimp only; omega)
  · rcases hp with rfl | rfl <;> (refine nad ?_; dsimp only; omega)
  · rcases hp with rfl | rfl <;> (refine nad ?_; dsimp only; omega)
  · rcases hp with rfl | rfl <;> (refine nad ?_; dsimp only; omega)
  · rcases hp with rfl | rfl <;> (refine nad ?_; dsimp only; omega)
  · intro q hq
    simp only [List.map_cons, List.map_nil, List.mem_cons, List.not_mem_nil, or_false] at hq
    rcases hp with rfl | rfl <;> rcases hq with rfl | rfl <;> (refine nad ?_; dsimp only; omega)
theorem apart3 (I l1 l2 l3 : Nat) (a b c : Bool) (h1 : l1 < I) (h2 : l2 < I) (h3 : l3 < I) : ApartS (I + 5) (I + 3) (I + 4) [⟨a, I, l1⟩, ⟨b, I + 1, l2⟩, ⟨c, I + 2, l3⟩] := by
  have nd : ([I, I + 1, I + 2] : List Nat).Nodup := by simp
  refine ⟨nad (by omega), nad (by omega), nad (by omega), nd, ?_, ?_, ?_, ?_, ?_, ?_⟩
  all_goals
    intro p hp
    simp only [List.map_cons, List.map_nil, List.mem_cons, List.not_mem_nil, or_false] at hp
  · rcases hp with rfl | rfl | rfl <;> (refine nad ?_; dsimp only; omega)
  · rcases hp with rfl | rfl | rfl <;> (refine nad ?_; dsimp only; omega)
  · rcases hp with rfl | rfl | rfl <;> (refine nad ?_; dsimp only; omega)
  · rcases hp with rfl | rfl | rfl <;> (refine nad ?_; dsimp only; omega)
  · rcases hp with rfl | rfl | rfl <;> (refine nad ?_; dsimp only; omega)
  · intro q hq
    simp only [List.map_cons, List.map_nil, List.mem_cons, List.not_mem_nil, or_false] at hq
    rcases hp with rfl | rfl | rfl <;> rcases hq with rfl | rfl | rfl <;> (refine nad ?_; dsimp only; omega)
theorem fp2 {I c : Nat} (h : c ∈ [I + 4, I + 2, I + 3, I, I + 1]) : I ≤ c := by
  simp only [List.mem_cons, List.not_mem_nil, or_false] at h; omega
theorem fp3 {I c : Nat} (h : c ∈ [I + 5, I + 3, I + 4, I, I + 1, I + 2]) : I ≤ c := by
  simp only [List.mem_cons, List.not_mem_nil, or_false] at h; omega
def iZipN (K : PySem.W.Frag) (n : Nat) (ta : TA) : TI := fun σ H R => ta σ H fun vs H1 => ∃ ts rows, ts.length = n ∧ vs = ts.map (fun t => V.ref t.2) ∧ Sqs K H1 ts rows ∧ R (ItzN K ts) H1
section
variable {X : Cx} {e e2 e3 : Expr} {ta : TA} {p pos tpos : Pos} {elts : List Expr} {kk : Nat}
theorem pi_zipN2 (hg : Gl X "zip") (hm : X.mg "zip" = none) (ha : PA X [e, e2] ta)
    (hs : starEach [e, e2] X.env = (false, eval e X.env) :: starEach [e2] X.env := by rfl) (hpl : (backTo pos (starEach [e2] X.env)).any (·.1) = false := by rfl) :
    PI X (.Tuple elts kk tpos) (.Call (.Name "zip" p) [e, e2] [] pos) (iZipN X.K 2 ta) := by
  refine ⟨fun pins s σ H R I h => ?_⟩
  refine Call_ (ld_blt I hg hm PyProof.Rows.boot_zip (PyProof.Rows.callWith_type1 (thn (ha.run pos pins s σ H _ I h) fun us s1 ⟨vs, H1, I1, r1, q1⟩ => ?_) hs hpl))
  obtain ⟨ts, rows, tl, ex, hq, q⟩ := q1
  match ts, tl with
  | [t1, t2], _ =>
    subst ex
    cases r1 with
    | cons r rr =>
      cases rr with
      | cons r' rr =>
        cases rr
        cases r
        cases r'
        cases hq with
        | cons q1 hq =>
          cases hq with
          | cons q2 hq =>
            cases hq
            obtain ⟨xs, b1⟩ := sqk_base I1 q1
            obtain ⟨ys, b2⟩ := sqk_base I1 q2
            have la := b1.lt
            have lb := b2.lt
            refine call2 b1 b2 fun h' tn hk => wpAny_pyIter_zip tn.1 ?_
            have I2 : Inv X pins σ H1 { s1 with heap := h' } := I1.kept (t' := s1.toks) hk
            refine ⟨s1.heap.objs.size + 4, _, _, _, H1, rfl, I2, turn_zipN (b0 := ⟨t1.1, s1.heap.objs.size, t1.2⟩) (bs := [⟨t2.1, s1.heap.objs.size + 1, t2.2⟩]) (apart2 _ _ _ _ _ la lb) (Nat.le_of_ble_eq_true rfl), tn, fun c hcm => ?_, q⟩
            · have hle : s1.heap.objs.size ≤ c := fp2 hcm
              exact I1.fpOk hle (I1.hok.fresh hle)
theorem pi_zipN3 (hg : Gl X "zip") (hm : X.mg "zip" = none) (ha : PA X [e, e2, e3] ta)
    (hs : starEach [e, e2, e3] X.env = (false, eval e X.env) :: starEach [e2, e3] X.env := by rfl) (hpl : (backTo pos (starEach [e2, e3] X.env)).any (·.1) = false := by rfl) :
    PI X (.Tuple elts kk tpos) (.Call (.Name "zip" p) [e, e2, e3] [] pos) (iZipN X.K 3 ta) := by
  refine ⟨fun pins s σ H R I h => ?_⟩
  refine Call_ (ld_blt I hg hm PyProof.Rows.boot_zip (PyProof.Rows.callWith_type1 (thn (ha.run pos pins s σ H _ I h) fun us s1 ⟨vs, H1, I1, r1, q1⟩ => ?_) hs hpl))
  obtain ⟨ts, rows, tl, ex, hq, q⟩ := q1
  match ts, tl with
  | [t1, t2, t3], _ =>
    subst ex
    cases r1 with
    | cons r rr =>
      cases rr with
      | cons r' rr =>
        cases rr with
        | cons r'' rr =>
          cases rr
          cases r
          cases r'
          cases r''
          cases hq with
          | cons q1 hq =>
            cases hq with
            | cons q2 hq =>
              cases hq with
              | cons q3 hq =>
                cases hq
                obtain ⟨xs, b1⟩ := sqk_base I1 q1
                obtain ⟨ys, b2⟩ := sqk_base I1 q2
                obtain ⟨zs, b3⟩ := sqk_base I1 q3
                have la := b1.lt
                have lb := b2.lt
                have lc := b3.lt
                refine call3 b1 b2 b3 fun h' tn hk => wpAny_pyIter_zip tn.1 ?_
                have I2 : Inv X pins σ H1 { s1 with heap := h' } := I1.kept (t' := s1.toks) hk
                refine ⟨s1.heap.objs.size + 5, _, _, _, H1, rfl, I2, turn_zipN (b0 := ⟨t1.1, s1.heap.objs.size, t1.2⟩) (bs := [⟨t2.1, s1.heap.objs.size + 1, t2.2⟩, ⟨t3.1, s1.heap.objs.size + 2, t3.2⟩]) (apart3 _ _ _ _ _ _ _ la lb lc) (Nat.le_of_ble_eq_true rfl), tn, fun c hcm => ?_, q⟩
                · have hle : s1.heap.objs.size ≤ c := fp3 hcm
                  exact I1.fpOk hle (I1.hok.fresh hle)
end
end ZN
namespace DL
open PySem PySem.Spec PyProof.Rows L2 ZN
def asS : D → Option (List D)
  | .tup xs => some xs
  | .lst xs => some xs
  | .rol xs => some xs
  | _ => none
def SqXz (K : PySem.W.Frag) (al : Al) (M : Mem) (H : Hp) (xs : List V) : Bool × Addr → Prop
  | (true, a) => SqTz K al M H a xs
  | (false, a) => SqLz K al M H a xs
section
variable {K : PySem.W.Frag} {Tb : List (Addr × Str)} {al al' : Al} {M M' : Mem} {H H' : Hp}
theorem SqXz.sq {xs : List V} {t : Bool × Addr} (h : SqXz K al M H xs t) : SqX K H xs t := by
  obtain ⟨tp, a⟩ := t
  cases tp
  · exact SqLz.sq h
  · exact SqTz.sq h
theorem SqXz.monow {xs : List V} {t : Bool × Addr} (s : Stw al M H al' M' H') (h : SqXz K al M H xs t) : SqXz K al' M' H' xs t := by
  obtain ⟨tp, a⟩ := t
  cases tp
  · exact SqLz.monow s h
  · exact SqTz.monow s h
theorem asS_ok {d : D} {xs : List D} {v : V} (e : asS d = some xs) (r : Rp K al M H d v) : ∃ t ys, v = .ref t.2 ∧ SqXz K al M H ys t ∧ Rps K al M H xs ys := by
  cases d with
  | tup ds => cases e; obtain ⟨a, ys, rfl, h, q⟩ := r; exact ⟨(true, a), ys, rfl, h, q⟩
  | lst ds => cases e; obtain ⟨a, ys, rfl, h, f, q⟩ := r; exact ⟨(false, a), ys, rfl, .inl ⟨.inl h, f⟩, q⟩
  | rol ds => cases e; obtain ⟨a, ys, rfl, h, q⟩ := r; exact ⟨(false, a), ys, rfl, h, q⟩
  | _ => cases e
def zip2D (xs ys : List D) : List D := List.zipWith (fun a b => D.tup [a, b]) xs ys
def zip3D (xs ys zs : List D) : List D := List.zipWith (fun a (p : D × D) => D.tup [a, p.1, p.2]) xs (List.zip ys zs)
theorem zip2_at {xs ys : List D} {i : Nat} {d : D} (e : (zip2D xs ys)[i]? = some d) : ∃ a b, xs[i]? = some a ∧ ys[i]? = some b ∧ d = .tup [a, b] := by
  unfold zip2D at e
  rw [List.getElem?_zipWith] at e
  split at e
  · rename_i a b h1 h2
    cases e
    exact ⟨a, b, h1, h2, rfl⟩
  · cases e
theorem zip3_at {xs ys zs : List D} {i : Nat} {d : D} (e : (zip3D xs ys zs)[i]? = some d) : ∃ a b c, xs[i]? = some a ∧ ys[i]? = some b ∧ zs[i]? = some c ∧ d = .tup [a, b, c] := by
  unfold zip3D at e
  rw [List.getElem?_zipWith] at e
  split at e
  · rename_i a p h1 h2
    cases e
    obtain ⟨h3, h4⟩ := List.getElem?_zip_eq_some.mp h2
    exact ⟨a, p.1, p.2, h1, h3, h4, rfl⟩
  · cases e
theorem it_zip2 {t1 t2 : Bool × Addr} {xs ys : List D} {vs ws : List V} (h1 : SqXz K al M H vs t1) (h2 : SqXz K al M H ws t2) (r1 : Rps K al M H xs vs) (r2 : Rps K al M H ys ws) : ItOk K Tb al M H (ItzN K [t1, t2]) (zip2D xs ys) where
  stop := fun al1 M1 H1 s w => ⟨[vs, ws], .cons (h1.monow s).sq (.cons (h2.monow s).sq .nil), by
    have l : (zip2D xs ys).length = min xs.length ys.length := by simp [zip2D]
    have := r1.length
    have := r2.length
    rcases Nat.le_total xs.length ys.length with q | q
    · exact ⟨vs, by simp, by omega⟩
    · exact ⟨ws, by simp, by omega⟩⟩
  go := fun al1 M1 H1 s w i d e => by
    obtain ⟨a, b, e1, e2, rfl⟩ := zip2_at e
    obtain ⟨v, g1, _⟩ := r1.get e1
    obtain ⟨u, g2, _⟩ := r2.get e2
    exact ⟨[vs, ws], [v, u], .cons (h1.monow s).sq (.cons (h2.monow s).sq .nil), .cons g1 (.cons g2 .nil)⟩
  yld := fun al1 M1 H1 s w i d x H2 e y => by
    obtain ⟨a, b, e1, e2, rfl⟩ := zip2_at e
    obtain ⟨v, g1, q1⟩ := r1.get e1
    obtain ⟨u, g2, q2⟩ := r2.get e2
    obtain ⟨T, us, rfl, hT, rfl, hc⟩ := y
    replace hc := hc [vs, ws] (.cons (h1.monow s).sq (.cons (h2.monow s).sq .nil))
    cases hc with
    | cons k1 hc =>
      cases hc with
      | cons k2 hc =>
        cases hc
        cases k1.symm.trans g1
        cases k2.symm.trans g2
        exact ⟨stp_new w hT _, wf_new w hT _, rp_tup w hT ⟨_, _, rfl, q1.monow s, _, _, rfl, q2.monow s, rfl⟩⟩
theorem it_zip3 {t1 t2 t3 : Bool × Addr} {xs ys zs : List D} {vs ws os : List V} (h1 : SqXz K al M H vs t1) (h2 : SqXz K al M H ws t2) (h3 : SqXz K al M H os t3) (r1 : Rps K al M H xs vs) (r2 : Rps K al M H ys ws) (r3 : Rps K al M H zs os) : ItOk K Tb al M H (ItzN K [t1, t2, t3]) (zip3D xs ys zs) where
  stop := fun al1 M1 H1 s w => ⟨[vs, ws, os], .cons (h1.monow s).sq (.cons (h2.monow s).sq (.cons (h3.monow s).sq .nil)), by
    have l : (zip3D xs ys zs).length = min xs.length (min ys.length zs.length) := by simp [zip3D]
    have := r1.length
    have := r2.length
    have := r3.length
    by_cases q1 : vs.length ≤ (zip3D xs ys zs).length
    · exact ⟨vs, by simp, q1⟩
    · by_cases q2 : ws.length ≤ (zip3D xs ys zs).length
      · exact ⟨ws, by simp, q2⟩
      · exact ⟨os, by simp, by omega⟩⟩
  go := fun al1 M1 H1 s w i d e => by
    obtain ⟨a, b, c, e1, e2, e3, rfl⟩ := zip3_at e
    obtain ⟨v, g1, _⟩ := r1.get e1
    obtain ⟨u, g2, _⟩ := r2.get e2
    obtain ⟨o, g3, _⟩ := r3.get e3
    exact ⟨[vs, ws, os], [v, u, o], .cons (h1.monow s).sq (.cons (h2.monow s).sq (.cons (h3.monow s).sq .nil)), .cons g1 (.cons g2 (.cons g3 .nil))⟩
  yld := fun al1 M1 H1 s w i d x H2 e y => by
    obtain ⟨a, b, c, e1, e2, e3, rfl⟩ := zip3_at e
    obtain ⟨v, g1, q1⟩ := r1.get e1
    obtain ⟨u, g2, q2⟩ := r2.get e2
    obtain ⟨o, g3, q3⟩ := r3.get e3
    obtain ⟨T, us, rfl, hT, rfl, hc⟩ := y
    replace hc := hc [vs, ws, os] (.cons (h1.monow s).sq (.cons (h2.monow s).sq (.cons (h3.monow s).sq .nil)))
    cases hc with
    | cons k1 hc =>
      cases hc with
      | cons k2 hc =>
        cases hc with
        | cons k3 hc =>
          cases hc
          cases k1.symm.trans g1
          cases k2.symm.trans g2
          cases k3.symm.trans g3
          exact ⟨stp_new w hT _, wf_new w hT _, rp_tup w hT ⟨_, _, rfl, q1.monow s, _, _, rfl, q2.monow s, _, _, rfl, q3.monow s, rfl⟩⟩
end
def iZip2 (t : TAD) : TID := fun E rho M Q => t E rho M fun ds M1 => match ds with
  | [x, y] => ∃ xs ys, asS x = some xs ∧ asS y = some ys ∧ Q (zip2D xs ys) M1
  | _ => False
def iZip3 (t : TAD) : TID := fun E rho M Q => t E rho M fun ds M1 => match ds with
  | [x, y, z] => ∃ xs ys zs, asS x = some xs ∧ asS y = some ys ∧ asS z = some zs ∧ Q (zip3D xs ys zs) M1
  | _ => False
section
variable {X : Cx} {Tb : List (Addr × Str)} {EV : XK} {a b c : Expr} {ta : TAD} {p pos tpos : Pos} {elts : List Expr} {kk : Nat}
theorem di_zip2 (hg : Gl X "zip") (hm : X.mg "zip" = none) (ha : PDA X Tb EV [a, b] ta)
    (hs : starEach [a, b] X.env = (false, eval a X.env) :: starEach [b] X.env := by rfl) (hpl : (backTo pos (starEach [b] X.env)).any (·.1) = false := by rfl) :
    PDI X Tb EV (.Tuple elts kk tpos) (.Call (.Name "zip" p) [a, b] [] pos) (iZip2 ta) :=
  pi_imp (pi_zipN2 hg hm ha hs hpl) fun σ H R h => by
    obtain ⟨al, rho, M, E, Q, a, t, p⟩ := h
    refine seqA a t fun al1 ds M1 vs H1 s1 a1 r1 q1 => ?_
    split at q1
    · obtain ⟨xs, ys, e1, e2, q⟩ := q1
      obtain ⟨v, v', rfl, r, r'⟩ := r1.two
      obtain ⟨t1, us, rfl, h1, k1⟩ := asS_ok e1 r
      obtain ⟨t2, ws, rfl, h2, k2⟩ := asS_ok e2 r'
      exact ⟨[t1, t2], [us, ws], rfl, rfl, .cons h1.sq (.cons h2.sq .nil), p _ _ _ _ _ s1 a1.wf (it_zip2 h1 h2 k1 k2) q⟩
    · exact q1.elim
theorem di_zip3 (hg : Gl X "zip") (hm : X.mg "zip" = none) (ha : PDA X Tb EV [a, b, c] ta)
    (hs : starEach [a, b, c] X.env = (false, eval a X.env) :: starEach [b, c] X.env := by rfl) (hpl : (backTo pos (starEach [b, c] X.env)).any (·.1) = false := by rfl) :
    PDI X Tb EV (.Tuple elts kk tpos) (.Call (.Name "zip" p) [a, b, c] [] pos) (iZip3 ta) :=
  pi_imp (pi_zipN3 hg hm ha hs hpl) fun σ H R h => by
    obtain ⟨al, rho, M, E, Q, a, t, p⟩ := h
    refine seqA a t fun al1 ds M1 vs H1 s1 a1 r1 q1 => ?_
    split at q1
    · obtain ⟨xs, ys, zs, e1, e2, e3, q⟩ := q1
      obtain ⟨v, w0, rfl, r, rr⟩ := r1
      obtain ⟨v', v'', rfl, r', r''⟩ := Rps.two rr
      obtain ⟨t1, us, rfl, h1, k1⟩ := asS_ok e1 r
      obtain ⟨t2, ws, rfl, h2, k2⟩ := asS_ok e2 r'
      obtain ⟨t3, os, rfl, h3, k3⟩ := asS_ok e3 r''
      exact ⟨[t1, t2, t3], [us, ws, os], rfl, rfl, .cons h1.sq (.cons h2.sq (.cons h3.sq .nil)), p _ _ _ _ _ s1 a1.wf (it_zip3 h1 h2 h3 k1 k2 k3) q⟩
    · exact q1.elim
/-- a step of the reading -/
theorem e_zip2 {E : XD} {rho : Rho} {M : Mem} {I : List D → Mem → Prop} (h : ta E rho M fun ds M1 => match ds with
  | [x, y] => ∃ xs ys, asS x = some xs ∧ asS y = some ys ∧ I (zip2D xs ys) M1
  | _ => False) : iZip2 ta E rho M I := h
theorem e_zip3 {E : XD} {rho : Rho} {M : Mem} {I : List D → Mem → Prop} (h : ta E rho M fun ds M1 => match ds with
  | [x, y, z] => ∃ xs ys zs, asS x = some xs ∧ asS y = some ys ∧ asS z = some zs ∧ I (zip3D xs ys zs) M1
  | _ => False) : iZip3 ta E rho M I := h
end
end DL

/-! Plain mathematics: curves as tracks of points. -/
namespace DL
structure Pt where
  a : Rat
  l : Rat
  v : Rat
  r : Rat
deriving DecidableEq
def Pt.mv (q : Pt) (t p r : Rat) : Pt := ⟨q.a + t * p, q.l + t * r, q.v + t * r, q.r + t * r⟩
/-- the slope from one point to the next -/
def slB (q q' : Pt) : Rat := (q'.l - q.r) / (q'.a - q.a)
/-- the points behind: the next ones, and the first a period later -/
def nextPts (p r : Rat) : List Pt → List Pt
  | [] => []
  | q :: qs => qs ++ [q.mv 1 p r]
structure okPt (p : Rat) (q : Pt) : Prop where
  lo : ¬ q.a < 0
  hi : q.a < p
  lv : ¬ q.v < q.l
  vr : ¬ q.r < q.v
structure okPr (x : Pt × Pt) : Prop where
  lt : x.1.a < x.2.a
  le : ¬ x.2.l < x.1.r
structure okPts (p r : Rat) (pts : List Pt) : Prop where
  p0 : 0 < p
  r0 : 0 < r
  pt : ∀ q ∈ pts, okPt p q
  pr : ∀ x ∈ pts.zip (nextPts p r pts), okPr x
/-- the ring of points: the last a period ago, the points, the first a period later -/
def ringP (p r : Rat) (q : Pt) (qs : List Pt) : List Pt := ((q :: qs).getLast (by simp)).mv (-1) p r :: (q :: qs) ++ [q.mv 1 p r]
def isTrue3 (x : Pt × Pt × Pt) : Bool := (!decide (x.2.1.l = x.2.1.r)) || !decide (slB x.1 x.2.1 = slB x.2.1 x.2.2)
def truePts (p r : Rat) (q : Pt) (qs : List Pt) : List Pt := (((ringP p r q qs).zip (((ringP p r q qs).drop 1).zip ((ringP p r q qs).drop 2))).filter isTrue3).map (·.2.1)
/-- the points, moved by a part, are the next ones -/
def laterP (p r : Rat) (pts : List Pt) (n : Nat) : List Pt := pts.drop n ++ (pts.take n).map fun x => x.mv 1 p r
def repB (p r : Rat) (pts : List Pt) (n : Nat) : Bool := (pts.zip (laterP p r pts n)).all fun x => decide (x.1.mv 1 (p / ((pts.length / n : Nat) : Rat)) (r / ((pts.length / n : Nat) : Rat)) = x.2)
def goodN (p r : Rat) (pts : List Pt) (i : Nat) : Bool := decide (pts.length % (1 + i) = 0) && repB p r pts (1 + i)
def eqParts (p r : Rat) (pts : List Pt) : Nat := match (List.range (pts.length - 1)).find? (goodN p r pts) with
  | some i => pts.length / (1 + i)
  | none => 1
/-- the point at a place of a row: the row goes on, each period moved -/
def rowAt (p r : Rat) (row : List Pt) (k : Int) : Pt := ((row[(k % row.length).toNat]?).getD ⟨0, 0, 0, 0⟩).mv (k / row.length : Int) p r

/-! ### tracks -/
structure Trk (S : Int → Pt) : Prop where
  up : ∀ k, (S k).a < (S (k + 1)).a
  lv : ∀ k, (S k).l ≤ (S k).v
  vr : ∀ k, (S k).v ≤ (S k).r
  ri : ∀ k, (S k).r ≤ (S (k + 1)).l
  hi : ∀ x : Rat, ∃ k, x < (S k).a
  lo : ∀ x : Rat, ∃ k, (S k).a < x
theorem Trk.upN {S : Int → Pt} (h : Trk S) (k : Int) : ∀ n : Nat, (S k).a < (S (k + n + 1)).a
  | 0 => by simpa using h.up k
  | n + 1 => by
    have h1 := h.upN k n
    have h2 := h.up (k + n + 1)
    have e : k + ((n + 1 : Nat) : Int) + 1 = k + n + 1 + 1 := by omega
    rw [e]
    exact Std.lt_trans h1 h2
theorem Trk.lt {S : Int → Pt} (h : Trk S) {i j : Int} (hij : i < j) : (S i).a < (S j).a := by
  have := h.upN i (j - i - 1).toNat
  rw [show i + ((j - i - 1).toNat : Int) + 1 = j from by omega] at this
  exact this
theorem Trk.lt_iff {S : Int → Pt} (h : Trk S) {i j : Int} : (S i).a < (S j).a ↔ i < j := by
  constructor
  · intro g
    rcases Int.lt_trichotomy i j with e | e | e
    · exact e
    · subst e; exact absurd g (by grind)
    · have := h.lt e; exact absurd g (by grind)
  · exact h.lt
theorem Trk.inj {S : Int → Pt} (h : Trk S) {i j : Int} (e : (S i).a = (S j).a) : i = j := by
  rcases Int.lt_trichotomy i j with g | g | g
  · have := h.lt g; grind
  · exact g
  · have := h.lt g; grind
/-- the place of an amount: the first point that is not below it -/
def IsPl (S : Int → Pt) (x : Rat) (k : Int) : Prop := (S (k - 1)).a < x ∧ x ≤ (S k).a
theorem Trk.pl_ex {S : Int → Pt} (h : Trk S) (x : Rat) : ∃ k, IsPl S x k := by
  obtain ⟨i, hi⟩ := h.lo x
  obtain ⟨j, hj⟩ := h.hi x
  have hij : i < j := h.lt_iff.mp (Std.lt_trans hi hj)
  have : ∀ n : Nat, x ≤ (S (i + n)).a → ∃ k, IsPl S x k := by
    intro n
    induction n with
    | zero => intro g; simp at g; grind
    | succ n ih =>
      intro g
      by_cases z : x ≤ (S (i + n)).a
      · exact ih z
      · refine ⟨i + (n + 1 : Nat), ?_, g⟩
        rw [show i + ((n + 1 : Nat) : Int) - 1 = i + n from by omega]
        grind
  refine this (j - i).toNat ?_
  rw [show i + ((j - i).toNat : Int) = j from by omega]
  grind
theorem Trk.pl_un {S : Int → Pt} (h : Trk S) {x : Rat} {i j : Int} (hi : IsPl S x i) (hj : IsPl S x j) : i = j := by
  have h1 : (S (i - 1)).a < (S j).a := by have := hi.1; have := hj.2; grind
  have h2 : (S (j - 1)).a < (S i).a := by have := hj.1; have := hi.2; grind
  have := h.lt_iff.mp h1
  have := h.lt_iff.mp h2
  omega
open Classical in
noncomputable def plc (S : Int → Pt) (x : Rat) : Int := if h : ∃ k, IsPl S x k then h.choose else 0
theorem Trk.plc {S : Int → Pt} (h : Trk S) (x : Rat) : IsPl S x (plc S x) := by
  unfold DL.plc
  rw [dif_pos (h.pl_ex x)]
  exact (h.pl_ex x).choose_spec
theorem Trk.plc_eq {S : Int → Pt} (h : Trk S) {x : Rat} {k : Int} (g : IsPl S x k) : DL.plc S x = k := h.pl_un (h.plc x) g
/-- what is around an amount: the limit from the left, the value, the limit from the right, the slopes -/
structure Arn where
  l : Rat
  v : Rat
  r : Rat
  sb : Rat
  sa : Rat
def arnAt (S : Int → Pt) (x : Rat) (k : Int) : Arn :=
  if (S k).a = x then ⟨(S k).l, (S k).v, (S k).r, slB (S (k - 1)) (S k), slB (S k) (S (k + 1))⟩
  else ⟨(S k).l - slB (S (k - 1)) (S k) * ((S k).a - x), (S k).l - slB (S (k - 1)) (S k) * ((S k).a - x), (S k).l - slB (S (k - 1)) (S k) * ((S k).a - x), slB (S (k - 1)) (S k), slB (S (k - 1)) (S k)⟩
noncomputable def arn (S : Int → Pt) (x : Rat) : Arn := arnAt S x (plc S x)
theorem Trk.arn_pt {S : Int → Pt} (h : Trk S) {k : Int} : arn S (S k).a = ⟨(S k).l, (S k).v, (S k).r, slB (S (k - 1)) (S k), slB (S k) (S (k + 1))⟩ := by
  unfold arn
  have : DL.plc S (S k).a = k := h.plc_eq ⟨h.lt (by omega), by grind⟩
  rw [this]
  unfold arnAt
  rw [if_pos rfl]
theorem slB_mul {q q' : Pt} (h : q.a < q'.a) : slB q q' * (q'.a - q.a) = q'.l - q.r := by
  unfold slB
  rw [Rat.div_mul_cancel]
  intro z
  grind
theorem Trk.arn_in {S : Int → Pt} (h : Trk S) {k : Int} {x : Rat} (h1 : (S k).a < x) (h2 : x < (S (k + 1)).a) :
    arn S x = ⟨(S k).r + slB (S k) (S (k + 1)) * (x - (S k).a), (S k).r + slB (S k) (S (k + 1)) * (x - (S k).a), (S k).r + slB (S k) (S (k + 1)) * (x - (S k).a), slB (S k) (S (k + 1)), slB (S k) (S (k + 1))⟩ := by
  unfold arn
  have e : DL.plc S x = k + 1 := h.plc_eq ⟨by rw [show k + 1 - 1 = k from by omega]; exact h1, by grind⟩
  rw [e]
  unfold arnAt
  rw [if_neg (by grind), show k + 1 - 1 = k from by omega]
  have hm := slB_mul (h.up k)
  have : (S (k + 1)).l - slB (S k) (S (k + 1)) * ((S (k + 1)).a - x) = (S k).r + slB (S k) (S (k + 1)) * (x - (S k).a) := by grind
  rw [this]
/-! ### rows -/
theorem Pt.mv_mv (q : Pt) (s t p r : Rat) : (q.mv s p r).mv t p r = q.mv (s + t) p r := by
  unfold Pt.mv
  simp only [Pt.mk.injEq]
  refine ⟨?_, ?_, ?_, ?_⟩ <;> grind
theorem Pt.mv_0 (q : Pt) (p r : Rat) : q.mv 0 p r = q := by
  unfold Pt.mv
  cases q
  simp only [Pt.mk.injEq]
  refine ⟨?_, ?_, ?_, ?_⟩ <;> grind
section
variable {p r : Rat} {row : List Pt}
theorem rowAt_nat (j : Nat) (hj : j < row.length) : rowAt p r row j = row[j] := by
  unfold rowAt
  have h1 : ((j : Int) % (row.length : Int)) = j := Int.emod_eq_of_lt (by omega) (by omega)
  have h2 : ((j : Int) / (row.length : Int)) = 0 := Int.ediv_eq_zero_of_lt (by omega) (by omega)
  rw [h1, h2, Int.toNat_natCast, List.getElem?_eq_getElem hj]
  exact Pt.mv_0 ..
theorem rowAt_add (hn : row ≠ []) (k t : Int) : rowAt p r row (k + t * row.length) = (rowAt p r row k).mv t p r := by
  have hl : (row.length : Int) ≠ 0 := by have := List.length_pos_iff.mpr hn; omega
  unfold rowAt
  rw [Int.add_mul_emod_self_right, Int.add_mul_ediv_right _ _ hl, Pt.mv_mv, Rat.intCast_add]
theorem rowAt_wrap (hn : row ≠ []) : rowAt p r row row.length = (row.head hn).mv 1 p r := by
  have h := rowAt_add (p := p) (r := r) hn 0 1
  have hl := List.length_pos_iff.mpr hn
  rw [show (0 : Int) + 1 * row.length = row.length from by omega] at h
  rw [h, show ((0 : Int)) = ((0 : Nat) : Int) from rfl, rowAt_nat 0 hl, List.head_eq_getElem]
  rfl
/-- any place is a place of the row, moved -/
theorem rowAt_split (hn : row ≠ []) (k : Int) : ∃ (j : Nat) (t : Int), j < row.length ∧ k = j + t * row.length := by
  have hl := List.length_pos_iff.mpr hn
  refine ⟨(k % row.length).toNat, k / row.length, ?_, ?_⟩
  · have := Int.emod_lt_of_pos k (show (0 : Int) < row.length by omega)
    have := Int.emod_nonneg k (show (row.length : Int) ≠ 0 by omega)
    omega
  · have := Int.emod_nonneg k (show (row.length : Int) ≠ 0 by omega)
    have := Int.emod_add_mul_ediv k row.length
    rw [Int.mul_comm] at this
    omega
theorem nextPts_get (j : Nat) (hj : j < row.length) : (nextPts p r row)[j]? = some (rowAt p r row (j + 1)) := by
  cases row with
  | nil => simp at hj
  | cons q qs =>
    unfold nextPts
    simp only [List.length_cons] at hj
    by_cases h : j < qs.length
    · rw [List.getElem?_append_left h, show ((j : Int) + 1) = ((j + 1 : Nat) : Int) from rfl, rowAt_nat (j + 1) (by simp; omega), List.getElem?_eq_getElem h]
      rfl
    · have : j = qs.length := by omega
      subst this
      rw [List.getElem?_append_right (by omega), show ((qs.length : Int) + 1) = ((q :: qs).length : Int) from by simp, rowAt_wrap (by simp)]
      simp
theorem okPts.pr' (h : okPts p r row) (j : Nat) (hj : j < row.length) : okPr (rowAt p r row j, rowAt p r row (j + 1)) := by
  refine h.pr _ ?_
  refine List.mem_iff_getElem?.mpr ⟨j, ?_⟩
  rw [List.getElem?_zip_eq_some]
  refine ⟨?_, nextPts_get j hj⟩
  show row[j]? = some (rowAt p r row j)
  rw [rowAt_nat j hj, List.getElem?_eq_getElem hj]
theorem int_between (x : Rat) : ∃ n : Int, x < n ∧ (n : Rat) ≤ x + 1 := ⟨x.floor + 1, Rat.lt_floor_add_one x, by have := Rat.floor_le x; rw [Rat.intCast_add]; grind⟩
theorem okPts.trk (h : okPts p r row) (hn : row ≠ []) : Trk (rowAt p r row) := by
  have hl := List.length_pos_iff.mpr hn
  have step : ∀ k, ∃ (j : Nat) (t : Int), j < row.length ∧ rowAt p r row k = (rowAt p r row j).mv t p r ∧ rowAt p r row (k + 1) = (rowAt p r row (j + 1)).mv t p r := fun k => by
    obtain ⟨j, t, hj, rfl⟩ := rowAt_split hn k
    refine ⟨j, t, hj, rowAt_add hn _ _, ?_⟩
    rw [← rowAt_add hn]
    congr 1
    omega
  have mem : ∀ k, ∃ (q : Pt) (t : Int), q ∈ row ∧ rowAt p r row k = q.mv t p r := fun k => by
    obtain ⟨j, t, hj, e, _⟩ := step k
    exact ⟨row[j], t, List.getElem_mem hj, by rw [e, rowAt_nat j hj]⟩
  have h0 : ∀ t : Int, rowAt p r row (t * row.length) = (row[0]).mv t p r := fun t => by
    have := rowAt_add (p := p) (r := r) hn 0 t
    rw [Int.zero_add] at this
    rw [this, show (0 : Int) = ((0 : Nat) : Int) from rfl, rowAt_nat 0 hl]
  refine ⟨fun k => ?_, fun k => ?_, fun k => ?_, fun k => ?_, fun x => ?_, fun x => ?_⟩
  · obtain ⟨j, t, hj, e1, e2⟩ := step k
    rw [e1, e2]
    have := (h.pr' j hj).lt
    show _ + _ < _ + _
    grind
  · obtain ⟨q, t, hq, e⟩ := mem k
    rw [e]
    have := (h.pt q hq).lv
    show _ + _ ≤ _ + _
    grind
  · obtain ⟨q, t, hq, e⟩ := mem k
    rw [e]
    have := (h.pt q hq).vr
    show _ + _ ≤ _ + _
    grind
  · obtain ⟨j, t, hj, e1, e2⟩ := step k
    rw [e1, e2]
    have := (h.pr' j hj).le
    show _ + _ ≤ _ + _
    grind
  · obtain ⟨n, hn1, _⟩ := int_between (x / p)
    refine ⟨n * row.length, ?_⟩
    rw [h0]
    have p0 := h.p0
    have q0 := (h.pt _ (List.getElem_mem hl)).lo
    have : x < n * p := (Rat.div_lt_iff p0).mp hn1
    show x < _ + _
    grind
  · obtain ⟨n, hn1, hn2⟩ := int_between ((x - row[0].a) / p)
    refine ⟨(n - 2) * row.length, ?_⟩
    rw [h0]
    have p0 := h.p0
    have : (n : Rat) - 2 < (x - row[0].a) / p := by grind
    have : ((n : Rat) - 2) * p < (x - row[0].a) := (Rat.lt_div_iff p0).mp this
    show _ + _ < x
    rw [Rat.intCast_sub]
    grind
end
end DL

/-! Plain mathematics: the normal form has the same values. -/
namespace DL
def isT (S : Int → Pt) (k : Int) : Bool := isTrue3 (S (k - 1), S k, S (k + 1))
theorem isT_no {S : Int → Pt} {k : Int} (h : isT S k = false) : (S k).l = (S k).r ∧ slB (S (k - 1)) (S k) = slB (S k) (S (k + 1)) := by
  unfold isT isTrue3 at h
  simpa using h
/-- a track of some of the points, those between being no true points -/
structure Sub (S S' : Int → Pt) (f : Int → Int) : Prop where
  eq : ∀ j, S' j = S (f j)
  up : ∀ j, f j < f (j + 1)
  no : ∀ j k, f j < k → k < f (j + 1) → isT S k = false
theorem Trk.le {S : Int → Pt} (h : Trk S) {i j : Int} (hij : i < j) : (S i).r ≤ (S j).l := by
  have : ∀ n : Nat, (S i).r ≤ (S (i + n + 1)).l := by
    intro n
    induction n with
    | zero => simpa using h.ri i
    | succ n ih =>
      have h1 := h.lv (i + n + 1)
      have h2 := h.vr (i + n + 1)
      have h3 := h.ri (i + n + 1)
      rw [show i + ((n + 1 : Nat) : Int) + 1 = i + n + 1 + 1 from by omega]
      grind
  have := this (j - i - 1).toNat
  rw [show i + ((j - i - 1).toNat : Int) + 1 = j from by omega] at this
  exact this
/-- on a stretch without true points the slope stays and the points lie on the line -/
theorem Trk.run {S : Int → Pt} (h : Trk S) {i j : Int} (hij : i < j) (no : ∀ k, i < k → k < j → isT S k = false) (m : Int) (h1 : i ≤ m) (h2 : m < j) :
    slB (S m) (S (m + 1)) = slB (S i) (S (i + 1)) ∧ (S (m + 1)).l = (S i).r + slB (S i) (S (i + 1)) * ((S (m + 1)).a - (S i).a) ∧ (S m).r = (S i).r + slB (S i) (S (i + 1)) * ((S m).a - (S i).a) := by
  have : ∀ n : Nat, i + n < j → slB (S (i + n)) (S (i + n + 1)) = slB (S i) (S (i + 1)) ∧ (S (i + n + 1)).l = (S i).r + slB (S i) (S (i + 1)) * ((S (i + n + 1)).a - (S i).a) ∧ (S (i + n)).r = (S i).r + slB (S i) (S (i + 1)) * ((S (i + n)).a - (S i).a) := by
    intro n
    induction n with
    | zero =>
      intro _
      have := slB_mul (h.up i)
      simp only [Int.natCast_zero, Int.add_zero]
      refine ⟨trivial, ?_, ?_⟩ <;> grind
    | succ n ih =>
      intro hn
      obtain ⟨a1, a2, a3⟩ := ih (by omega)
      have hno := isT_no (no (i + n + 1) (by omega) (by omega))
      rw [show i + (n : Int) + 1 - 1 = i + n from by omega] at hno
      have hm := slB_mul (h.up (i + n + 1))
      rw [show i + ((n + 1 : Nat) : Int) = i + n + 1 from by omega]
      obtain ⟨b1, b2⟩ := hno
      have c1 : slB (S (i + n + 1)) (S (i + n + 1 + 1)) = slB (S i) (S (i + 1)) := by rw [← b2]; exact a1
      rw [c1] at hm
      refine ⟨c1, ?_, ?_⟩ <;> grind
  have := this (m - i).toNat (by omega)
  rw [show i + ((m - i).toNat : Int) = m from by omega] at this
  exact this
theorem Trk.flat {S : Int → Pt} (h : Trk S) {k : Int} (no : isT S k = false) : (S k).l = (S k).v ∧ (S k).r = (S k).v := by
  have := (isT_no no).1
  have := h.lv k
  have := h.vr k
  constructor <;> grind
theorem Sub.fup {S S' : Int → Pt} {f : Int → Int} (s : Sub S S' f) {i j : Int} (hij : i < j) : f i < f j := by
  have : ∀ n : Nat, f i < f (i + n + 1) := by
    intro n
    induction n with
    | zero => simpa using s.up i
    | succ n ih =>
      have := s.up (i + n + 1)
      rw [show i + ((n + 1 : Nat) : Int) + 1 = i + n + 1 + 1 from by omega]
      omega
  have := this (j - i - 1).toNat
  rw [show i + ((j - i - 1).toNat : Int) + 1 = j from by omega] at this
  exact this
theorem Sub.trk {S S' : Int → Pt} {f : Int → Int} (s : Sub S S' f) (h : Trk S) : Trk S' := by
  have fn : ∀ n : Nat, ∀ i, f i + n ≤ f (i + n) := by
    intro n
    induction n with
    | zero => intro i; simp
    | succ n ih =>
      intro i
      have := ih i
      have := s.up (i + n)
      rw [show i + ((n + 1 : Nat) : Int) = i + n + 1 from by omega]
      omega
  refine ⟨fun k => ?_, fun k => ?_, fun k => ?_, fun k => ?_, fun x => ?_, fun x => ?_⟩
  · rw [s.eq, s.eq]; exact h.lt (s.up k)
  · rw [s.eq]; exact h.lv _
  · rw [s.eq]; exact h.vr _
  · rw [s.eq, s.eq]; exact h.le (s.up k)
  · obtain ⟨k, hk⟩ := h.hi x
    have := fn (k - f 0).toNat 0
    by_cases z : f 0 ≤ k
    · refine ⟨(0 : Int) + (k - f 0).toNat, ?_⟩
      rw [s.eq]
      have : k ≤ f (0 + (k - f 0).toNat) := by omega
      rcases Int.lt_or_eq_of_le this with e | e
      · exact Std.lt_trans hk (h.lt e)
      · rw [← e]; exact hk
    · refine ⟨0, ?_⟩
      rw [s.eq]
      exact Std.lt_trans hk (h.lt (by omega))
  · obtain ⟨k, hk⟩ := h.lo x
    by_cases z : k ≤ f 0
    · refine ⟨-((f 0 - k).toNat : Int), ?_⟩
      rw [s.eq]
      have := fn (f 0 - k).toNat (-((f 0 - k).toNat : Int))
      rw [show -((f 0 - k).toNat : Int) + ((f 0 - k).toNat : Int) = 0 from by omega] at this
      have : f (-((f 0 - k).toNat : Int)) ≤ k := by omega
      rcases Int.lt_or_eq_of_le this with e | e
      · exact Std.lt_trans (h.lt e) hk
      · rw [e]; exact hk
    · refine ⟨0, ?_⟩
      rw [s.eq]
      exact Std.lt_trans (h.lt (by omega)) hk
theorem Sub.sl {S S' : Int → Pt} {f : Int → Int} (s : Sub S S' f) (h : Trk S) (j m : Int) (h1 : f j ≤ m) (h2 : m < f (j + 1)) : slB (S' j) (S' (j + 1)) = slB (S m) (S (m + 1)) := by
  have r1 := h.run (s.up j) (s.no j) m h1 h2
  have r2 := h.run (s.up j) (s.no j) (f (j + 1) - 1) (by omega) (by omega)
  rw [show f (j + 1) - 1 + 1 = f (j + 1) from by omega] at r2
  rw [r1.1, s.eq, s.eq]
  have lt := h.lt (s.up j)
  show (_ - _) / (_ - _) = _
  rw [r2.2.1]
  have : (S (f (j + 1))).a - (S (f j)).a ≠ 0 := by grind
  generalize slB (S (f j)) (S (f j + 1)) = z
  rw [show (S (f j)).r + z * ((S (f (j + 1))).a - (S (f j)).a) - (S (f j)).r = z * ((S (f (j + 1))).a - (S (f j)).a) from by grind, Rat.mul_div_cancel this]
theorem Sub.arn {S S' : Int → Pt} {f : Int → Int} (s : Sub S S' f) (h : Trk S) (x : Rat) : arn S' x = arn S x := by
  have h' := s.trk h
  obtain ⟨g1, g2⟩ := h'.plc x
  generalize DL.plc S' x = k at g1 g2
  obtain ⟨j, rfl⟩ : ∃ j, k = j + 1 := ⟨k - 1, by omega⟩
  rw [show j + 1 - 1 = j from by omega] at g1
  by_cases e : x = (S' (j + 1)).a
  · subst e
    rw [h'.arn_pt, s.sl h (j + 1) (f (j + 1)) (by omega) (s.up _), show j + 1 - 1 = j from by omega, s.sl h j (f (j + 1) - 1) (by have := s.up j; omega) (by omega), show f (j + 1) - 1 + 1 = f (j + 1) from by omega, s.eq, h.arn_pt]
  have g3 : x < (S' (j + 1)).a := by grind
  rw [h'.arn_in g1 g3]
  rw [s.eq] at g1 g3
  obtain ⟨q1, q2⟩ := h.plc x
  generalize DL.plc S x = k' at q1 q2
  obtain ⟨m, rfl⟩ : ∃ m, k' = m + 1 := ⟨k' - 1, by omega⟩
  rw [show m + 1 - 1 = m from by omega] at q1
  have m1 : f j ≤ m := by
    have : (S (f j)).a < (S (m + 1)).a := by grind
    have := h.lt_iff.mp this
    omega
  have m2 : m < f (j + 1) := h.lt_iff.mp (by grind)
  have rn := h.run (s.up j) (s.no j) m m1 m2
  rw [s.sl h j m m1 m2]
  by_cases e2 : x = (S (m + 1)).a
  · subst e2
    have m3 : m + 1 < f (j + 1) := h.lt_iff.mp g3
    have nt := s.no j (m + 1) (by omega) m3
    have fl := h.flat nt
    have sl := (isT_no nt).2
    rw [show m + 1 - 1 = m from by omega] at sl
    rw [h.arn_pt, show m + 1 - 1 = m from by omega, ← sl, s.eq]
    rw [rn.1] at *
    rw [fl.2, ← fl.1, rn.2.1]
  · rw [h.arn_in q1 (by grind)]
    rw [s.eq, rn.1]
    have : (S (f j)).r + slB (S (f j)) (S (f j + 1)) * (x - (S (f j)).a) = (S m).r + slB (S (f j)) (S (f j + 1)) * (x - (S m).a) := by grind
    rw [this]
/-! ### the true points of a row -/
section
variable {p r : Rat} {row : List Pt}
theorem rowAt_neg1 (hn : row ≠ []) : rowAt p r row (-1) = (row.getLast hn).mv (-1) p r := by
  have hl := List.length_pos_iff.mpr hn
  have h := rowAt_add (p := p) (r := r) hn ((row.length - 1 : Nat) : Int) (-1)
  rw [show ((row.length - 1 : Nat) : Int) + -1 * row.length = -1 from by omega] at h
  rw [h, rowAt_nat _ (by omega), List.getLast_eq_getElem]
  rfl
theorem ring_get {q : Pt} {qs : List Pt} (j : Nat) (hj : j < qs.length + 3) : (ringP p r q qs)[j]? = some (rowAt p r (q :: qs) ((j : Int) - 1)) := by
  unfold ringP
  cases j with
  | zero =>
    rw [show ((0 : Nat) : Int) - 1 = -1 from rfl, rowAt_neg1 (by simp)]
    rfl
  | succ j =>
    rw [show ((j + 1 : Nat) : Int) - 1 = j from by omega]
    show ((q :: qs) ++ [q.mv 1 p r])[j]? = _
    by_cases h : j < (q :: qs).length
    · rw [List.getElem?_append_left h, rowAt_nat j h, List.getElem?_eq_getElem h]
    · have : j = (q :: qs).length := by simp at h ⊢; omega
      subst this
      rw [rowAt_wrap (by simp), List.getElem?_append_right (by omega)]
      simp
theorem triples {q : Pt} {qs : List Pt} : (ringP p r q qs).zip (((ringP p r q qs).drop 1).zip ((ringP p r q qs).drop 2)) = (List.range (q :: qs).length).map fun i : Nat => (rowAt p r (q :: qs) ((i : Int) - 1), rowAt p r (q :: qs) i, rowAt p r (q :: qs) (i + 1)) := by
  have hl : (ringP p r q qs).length = qs.length + 3 := by simp [ringP]
  apply List.ext_getElem?
  intro i
  by_cases h : i < qs.length + 1
  · rw [List.getElem?_map, List.getElem?_range (by simpa using h)]
    simp only [Option.map_some]
    rw [List.getElem?_zip_eq_some]
    refine ⟨ring_get i (by omega), ?_⟩
    rw [List.getElem?_zip_eq_some, List.getElem?_drop, List.getElem?_drop, ring_get _ (by omega), ring_get _ (by omega)]
    simp only [Option.some.injEq]
    constructor <;> (congr 1; omega)
  · rw [List.getElem?_eq_none (by simp [hl]; omega), List.getElem?_eq_none (by simp; omega)]
def trueI (p r : Rat) (row : List Pt) : List Nat := (List.range row.length).filter fun i : Nat => isT (rowAt p r row) i
theorem truePts_eq {q : Pt} {qs : List Pt} : truePts p r q qs = (trueI p r (q :: qs)).map fun i : Nat => rowAt p r (q :: qs) i := by
  unfold truePts trueI
  rw [triples, List.filter_map, List.map_map]
  rfl
theorem isT_per (hn : row ≠ []) (k t : Int) : isT (rowAt p r row) (k + t * row.length) = isT (rowAt p r row) k := by
  unfold isT
  rw [show k + t * (row.length : Int) - 1 = k - 1 + t * row.length from by omega, show k + t * (row.length : Int) + 1 = k + 1 + t * row.length from by omega, rowAt_add hn, rowAt_add hn, rowAt_add hn]
  unfold isTrue3 slB Pt.mv
  simp only []
  rw [show (rowAt p r row k).l + ↑t * r - ((rowAt p r row (k - 1)).r + ↑t * r) = (rowAt p r row k).l - (rowAt p r row (k - 1)).r from by grind,
    show (rowAt p r row k).a + ↑t * p - ((rowAt p r row (k - 1)).a + ↑t * p) = (rowAt p r row k).a - (rowAt p r row (k - 1)).a from by grind,
    show (rowAt p r row (k + 1)).l + ↑t * r - ((rowAt p r row k).r + ↑t * r) = (rowAt p r row (k + 1)).l - (rowAt p r row k).r from by grind,
    show (rowAt p r row (k + 1)).a + ↑t * p - ((rowAt p r row k).a + ↑t * p) = (rowAt p r row (k + 1)).a - (rowAt p r row k).a from by grind]
  have : decide ((rowAt p r row k).l + ↑t * r = (rowAt p r row k).r + ↑t * r) = decide ((rowAt p r row k).l = (rowAt p r row k).r) := by
    rw [Bool.eq_iff_iff, decide_eq_true_iff, decide_eq_true_iff]
    constructor <;> intro h <;> grind
  rw [this]
/-- places of the true points -/
def subF (I : List Nat) (n : Nat) (j : Int) : Int := ((I[(j % I.length).toNat]?).getD 0 : Nat) + (j / I.length) * n
theorem subF_at {I : List Nat} {n : Nat} (j : Nat) (t : Int) (hj : j < I.length) : subF I n (j + t * I.length) = I[j] + t * n := by
  unfold subF
  have hl : (I.length : Int) ≠ 0 := by omega
  have h1 : ((j : Int) % (I.length : Int)) = j := Int.emod_eq_of_lt (by omega) (by omega)
  have h2 : ((j : Int) / (I.length : Int)) = 0 := Int.ediv_eq_zero_of_lt (by omega) (by omega)
  rw [Int.add_mul_emod_self_right, Int.add_mul_ediv_right _ _ hl, h1, h2, Int.toNat_natCast, List.getElem?_eq_getElem hj]
  simp
theorem isplit {m : Nat} (hm : 0 < m) (k : Int) : ∃ (j : Nat) (t : Int), j < m ∧ k = j + t * m := by
  refine ⟨(k % m).toNat, k / m, ?_, ?_⟩
  · have := Int.emod_lt_of_pos k (show (0 : Int) < m by omega)
    have := Int.emod_nonneg k (show (m : Int) ≠ 0 by omega)
    omega
  · have := Int.emod_nonneg k (show (m : Int) ≠ 0 by omega)
    have := Int.emod_add_mul_ediv k m
    rw [Int.mul_comm] at this
    omega
theorem sub_true (hn : row ≠ []) (hI : trueI p r row ≠ []) : Sub (rowAt p r row) (rowAt p r ((trueI p r row).map fun i : Nat => rowAt p r row i)) (subF (trueI p r row) row.length) := by
  have hm := List.length_pos_iff.mpr hI
  have pw : (trueI p r row).Pairwise (· < ·) := List.Pairwise.filter _ List.pairwise_lt_range
  have lt : ∀ i ∈ trueI p r row, i < row.length := fun i hi => List.mem_range.mp (List.mem_filter.mp hi).1
  have mem : ∀ i, i < row.length → isT (rowAt p r row) i = true → i ∈ trueI p r row := fun i h1 h2 => List.mem_filter.mpr ⟨List.mem_range.mpr h1, h2⟩
  generalize hI' : trueI p r row = I at *
  have fup : ∀ j, subF I row.length j < subF I row.length (j + 1) := fun k => by
    obtain ⟨j, t, hj, rfl⟩ := isplit hm k
    rw [subF_at j t hj]
    by_cases h : j + 1 < I.length
    · rw [show (j : Int) + t * I.length + 1 = ((j + 1 : Nat) : Int) + t * I.length from by omega, subF_at _ t h]
      have := List.pairwise_iff_getElem.mp pw j (j + 1) hj h (by omega)
      omega
    · have e : (j : Int) + t * I.length + 1 = ((0 : Nat) : Int) + (t + 1) * I.length := by
        have : (j : Int) + 1 = I.length := by omega
        rw [Int.add_mul]; omega
      rw [e, subF_at _ _ hm]
      have := lt _ (List.getElem_mem hj)
      rw [Int.add_mul]
      omega
  refine ⟨fun k => ?_, fup, fun j k h1 h2 => ?_⟩
  · obtain ⟨j, t, hj, rfl⟩ := isplit hm k
    have hne : I.map (fun i : Nat => rowAt p r row i) ≠ [] := by simpa using hI
    have := rowAt_add (p := p) (r := r) hne j t
    rw [List.length_map] at this
    rw [this, rowAt_nat j (by simpa using hj), List.getElem_map, subF_at j t hj, rowAt_add hn]
  · by_cases z : isT (rowAt p r row) k = true
    · exfalso
      obtain ⟨i, t, hi, rfl⟩ := rowAt_split hn k
      rw [isT_per hn] at z
      obtain ⟨i', hi', rfl⟩ := List.mem_iff_getElem.mp (mem i hi z)
      have e := subF_at (n := row.length) i' t hi'
      rw [← e] at h1 h2
      have mono : ∀ a b, a ≤ b → subF I row.length a ≤ subF I row.length b := fun a b hab => by
        have : ∀ n : Nat, subF I row.length a ≤ subF I row.length (a + n) := by
          intro n
          induction n with
          | zero => simp
          | succ n ih =>
            have := fup (a + n)
            rw [show a + ((n + 1 : Nat) : Int) = a + n + 1 from by omega]
            omega
        have := this (b - a).toNat
        rw [show a + ((b - a).toNat : Int) = b from by omega] at this
        exact this
      rcases Int.lt_or_le j ((i' : Int) + t * I.length) with g | g
      · have := mono _ _ (show j + 1 ≤ (i' : Int) + t * I.length by omega)
        omega
      · have := mono _ _ g
        omega
    · simpa using z
theorem okPts_of (p0 : 0 < p) (r0 : 0 < r) (hn : row ≠ []) (h : Trk (rowAt p r row)) (hp : ∀ q ∈ row, ¬ q.a < 0 ∧ q.a < p) : okPts p r row := by
  refine ⟨p0, r0, fun q hq => ?_, fun x hx => ?_⟩
  · obtain ⟨j, hj, rfl⟩ := List.mem_iff_getElem.mp hq
    have h1 := h.lv j
    have h2 := h.vr j
    rw [rowAt_nat j hj] at h1 h2
    exact ⟨(hp _ hq).1, (hp _ hq).2, by grind, by grind⟩
  · obtain ⟨j, hj⟩ := List.mem_iff_getElem?.mp hx
    obtain ⟨h1, h2⟩ := List.getElem?_zip_eq_some.mp hj
    have hjl : j < row.length := (List.getElem?_eq_some_iff.mp h1).1
    rw [nextPts_get j hjl] at h2
    rw [List.getElem?_eq_getElem hjl, ← rowAt_nat (p := p) (r := r) j hjl] at h1
    obtain ⟨x1, x2⟩ := x
    simp only [Option.some.injEq] at h1 h2
    subst h1 h2
    have u := h.up j
    have v := h.ri j
    exact ⟨by grind, by grind⟩
/-- no true point: a line -/
theorem line_of (ok : okPts p r row) (hn : row ≠ []) (hI : trueI p r row = []) (x : Rat) :
    arn (rowAt p r row) x = (fun y => ⟨y, y, y, r / p, r / p⟩) ((row.head hn).v - r / p * (row.head hn).a + r / p * x) := by
  have h := ok.trk hn
  have hl := List.length_pos_iff.mpr hn
  have no : ∀ k, isT (rowAt p r row) k = false := fun k => by
    obtain ⟨i, t, hi, rfl⟩ := rowAt_split hn k
    rw [isT_per hn]
    by_cases z : isT (rowAt p r row) i = true
    · have : i ∈ trueI p r row := List.mem_filter.mpr ⟨List.mem_range.mpr hi, z⟩
      rw [hI] at this; cases this
    · simpa using z
  have hw := rowAt_wrap (p := p) (r := r) hn
  have e0 : rowAt p r row 0 = row.head hn := by
    rw [show (0 : Int) = ((0 : Nat) : Int) from rfl, rowAt_nat 0 hl, List.head_eq_getElem]
  have p0 := ok.p0
  have rn : ∀ i m, i ≤ m → slB (rowAt p r row m) (rowAt p r row (m + 1)) = slB (rowAt p r row i) (rowAt p r row (i + 1)) ∧ (rowAt p r row m).r = (rowAt p r row i).r + slB (rowAt p r row i) (rowAt p r row (i + 1)) * ((rowAt p r row m).a - (rowAt p r row i).a) := fun i m him => by
    have := h.run (i := i) (j := m + 1) (by omega) (fun k _ _ => no k) m him (by omega)
    exact ⟨this.1, this.2.2⟩
  have fl := fun k => h.flat (no k)
  have sl : ∀ k, slB (rowAt p r row k) (rowAt p r row (k + 1)) = slB (rowAt p r row 0) (rowAt p r row (0 + 1)) := fun k => by
    rcases Int.le_total 0 k with g | g
    · exact (rn 0 k g).1
    · exact (rn k 0 g).1.symm
  have pt : ∀ k, (rowAt p r row k).r = (rowAt p r row 0).r + slB (rowAt p r row 0) (rowAt p r row (0 + 1)) * ((rowAt p r row k).a - (rowAt p r row 0).a) := fun k => by
    rcases Int.le_total 0 k with g | g
    · exact (rn 0 k g).2
    · have := (rn k 0 g).2
      rw [sl k] at this
      grind
  have sl0 : slB (rowAt p r row 0) (rowAt p r row (0 + 1)) = r / p := by
    have r1 := pt row.length
    have f0 := fl 0
    rw [hw, e0] at r1
    rw [e0] at f0
    rw [e0]
    generalize slB (row.head hn) (rowAt p r row (0 + 1)) = z at *
    generalize row.head hn = q at *
    unfold Pt.mv at r1
    simp only [] at r1
    have : r = z * p := by grind
    rw [this, Rat.mul_div_cancel (by grind)]
  have f0 := fl 0
  rw [sl0] at sl pt
  rw [e0] at pt f0
  obtain ⟨q1, q2⟩ := h.plc x
  generalize DL.plc (rowAt p r row) x = k' at q1 q2
  obtain ⟨m, rfl⟩ : ∃ m, k' = m + 1 := ⟨k' - 1, by omega⟩
  rw [show m + 1 - 1 = m from by omega] at q1
  by_cases e2 : x = (rowAt p r row (m + 1)).a
  · subst e2
    have g := pt (m + 1)
    have f1 := fl (m + 1)
    have s1 := sl m
    have s2 := sl (m + 1)
    rw [h.arn_pt, show m + 1 - 1 = m from by omega, s1, s2, f1.1, f1.2]
    rw [f1.2] at g
    have : (row.head hn).v - r / p * (row.head hn).a + r / p * (rowAt p r row (m + 1)).a = (rowAt p r row (m + 1)).v := by grind
    rw [this]
  · rw [h.arn_in q1 (by grind), sl m]
    have g := pt m
    have : (row.head hn).v - r / p * (row.head hn).a + r / p * x = (rowAt p r row m).r + r / p * (x - (rowAt p r row m).a) := by grind
    rw [this]
/-! ### equal parts -/
theorem laterP_get {n : Nat} (hn : row ≠ []) (h0 : 0 < n) (hle : n ≤ row.length) (j : Nat) (hj : j < row.length) : (laterP p r row n)[j]? = some (rowAt p r row ((j : Int) + n)) := by
  unfold laterP
  by_cases h : j < (row.drop n).length
  · rw [List.getElem?_append_left h, List.getElem?_drop]
    rw [List.length_drop] at h
    rw [show (j : Int) + n = ((n + j : Nat) : Int) from by omega, rowAt_nat (n + j) (by omega), List.getElem?_eq_getElem]
  · rw [List.getElem?_append_right (by omega)]
    rw [List.length_drop] at h ⊢
    rw [List.getElem?_map, List.getElem?_take_of_lt (by omega), List.getElem?_eq_getElem (by omega)]
    have := rowAt_add (p := p) (r := r) hn ((j - (row.length - n) : Nat) : Int) 1
    rw [show ((j - (row.length - n) : Nat) : Int) + 1 * row.length = (j : Int) + n from by omega, rowAt_nat _ (by omega)] at this
    rw [this]
    rfl
theorem rep_track {n k : Nat} (hn : row ≠ []) (h0 : 0 < n) (hk : row.length = n * k) (hr : repB p r row n = true) (j : Int) : rowAt p r row (j + n) = (rowAt p r row j).mv 1 (p / k) (r / k) := by
  have hl := List.length_pos_iff.mpr hn
  have hk0 : 0 < k := by
    rcases Nat.eq_zero_or_pos k with e | e
    · subst e; omega
    · exact e
  have hle : n ≤ row.length := by rw [hk]; exact Nat.le_mul_of_pos_right n hk0
  have ek : row.length / n = k := by rw [hk, Nat.mul_div_cancel_left _ h0]
  unfold repB at hr
  rw [ek, List.all_eq_true] at hr
  have base : ∀ i : Nat, i < row.length → rowAt p r row ((i : Int) + n) = (rowAt p r row i).mv 1 (p / k) (r / k) := fun i hi => by
    have hm : (row[i], rowAt p r row ((i : Int) + n)) ∈ row.zip (laterP p r row n) := List.mem_iff_getElem?.mpr ⟨i, List.getElem?_zip_eq_some.mpr ⟨List.getElem?_eq_getElem hi, laterP_get hn h0 hle i hi⟩⟩
    have := of_decide_eq_true (hr _ hm)
    rw [rowAt_nat i hi]
    exact this.symm
  obtain ⟨i, t, hi, rfl⟩ := rowAt_split hn j
  rw [show (i : Int) + t * row.length + n = (i : Int) + n + t * row.length from by omega, rowAt_add hn, rowAt_add hn, base i hi]
  unfold Pt.mv
  simp only [Pt.mk.injEq]
  refine ⟨?_, ?_, ?_, ?_⟩ <;> grind
theorem part_eq {n k : Nat} (hn : row ≠ []) (h0 : 0 < n) (hk : row.length = n * k) (hr : repB p r row n = true) (j : Int) : rowAt (p / k) (r / k) (row.take n) j = rowAt p r row j := by
  have hl := List.length_pos_iff.mpr hn
  have hk0 : 0 < k := by
    rcases Nat.eq_zero_or_pos k with e | e
    · subst e; omega
    · exact e
  have hle : n ≤ row.length := by rw [hk]; exact Nat.le_mul_of_pos_right n hk0
  have tl : (row.take n).length = n := by rw [List.length_take]; omega
  have tne : row.take n ≠ [] := fun z => by rw [z] at tl; simp at tl; omega
  have up : ∀ (m : Nat) (i : Int), rowAt p r row (i + m * n) = (rowAt p r row i).mv m (p / k) (r / k) := fun m i => by
    induction m with
    | zero => rw [show i + ((0 : Nat) : Int) * n = i from by simp]; exact (Pt.mv_0 ..).symm
    | succ m ih =>
      rw [show i + ((m + 1 : Nat) : Int) * n = i + m * n + n from by rw [Int.natCast_add, Int.add_mul]; omega, rep_track hn h0 hk hr, ih, Pt.mv_mv, Rat.natCast_add]
      rfl
  obtain ⟨i, t, hi, rfl⟩ := rowAt_split tne j
  rw [rowAt_add tne, rowAt_nat i hi, tl]
  rw [tl] at hi
  rw [List.getElem_take, ← rowAt_nat (p := p) (r := r) i (by omega)]
  rcases Int.le_total 0 t with g | g
  · have := up t.toNat i
    rw [show ((t.toNat : Nat) : Int) = t from by omega] at this
    rw [this]
    congr 1
    rw [← Rat.intCast_natCast, show ((t.toNat : Nat) : Int) = t from by omega]
  · have := up (-t).toNat (i + t * n)
    rw [show (((-t).toNat : Nat) : Int) = -t from by omega] at this
    rw [show (i : Int) + t * n + -t * n = i from by rw [Int.neg_mul]; omega] at this
    rw [this, Pt.mv_mv]
    have e : (((-t).toNat : Nat) : Rat) = -(t : Rat) := by
      rw [← Rat.intCast_natCast, show (((-t).toNat : Nat) : Int) = -t from by omega, Rat.intCast_neg]
    rw [e]
    rw [show -(t : Rat) + t = 0 from by grind, Pt.mv_0]
theorem ok_part {n k : Nat} (ok : okPts p r row) (hn : row ≠ []) (h0 : 0 < n) (hk : row.length = n * k) (hr : repB p r row n = true) : okPts (p / k) (r / k) (row.take n) := by
  have hl := List.length_pos_iff.mpr hn
  have hk0 : 0 < k := by
    rcases Nat.eq_zero_or_pos k with e | e
    · subst e; omega
    · exact e
  have hle : n ≤ row.length := by rw [hk]; exact Nat.le_mul_of_pos_right n hk0
  have tl : (row.take n).length = n := by rw [List.length_take]; omega
  have tne : row.take n ≠ [] := fun z => by rw [z] at tl; simp at tl; omega
  have e : rowAt (p / k) (r / k) (row.take n) = rowAt p r row := funext (part_eq hn h0 hk hr)
  have trk := ok.trk hn
  have k0 : (0 : Rat) < k := by exact_mod_cast hk0
  refine okPts_of ?_ ?_ tne (by rw [e]; exact trk) fun q hq => ?_
  · rw [Rat.lt_div_iff k0, Rat.zero_mul]; exact ok.p0
  · rw [Rat.lt_div_iff k0, Rat.zero_mul]; exact ok.r0
  · refine ⟨(ok.pt q (List.mem_of_mem_take hq)).lo, ?_⟩
    obtain ⟨j, hj, rfl⟩ := List.mem_iff_getElem.mp hq
    rw [List.getElem_take]
    rw [tl] at hj
    have a1 : row[j] = rowAt p r row j := (rowAt_nat j (by omega)).symm
    -- the point k - 1 parts later lies in the period
    have a2 := rowAt_add (p := p / k) (r := r / k) tne j (k - 1 : Int)
    rw [part_eq hn h0 hk hr, part_eq hn h0 hk hr, tl] at a2
    have hjj : j + (k - 1) * n < row.length := by
      rw [hk]
      have : (k - 1) * n + n = n * k := by
        rw [Nat.mul_comm n k]
        conv => rhs; rw [show k = k - 1 + 1 from by omega, Nat.add_mul, Nat.one_mul]
      omega
    rw [show (j : Int) + (k - 1) * n = ((j + (k - 1) * n : Nat) : Int) from by rw [Int.natCast_add, Int.natCast_mul, Int.natCast_sub (by omega)]; rfl, rowAt_nat _ hjj] at a2
    have a3 := (ok.pt _ (List.getElem_mem hjj)).hi
    rw [a2] at a3
    rw [a1]
    rw [Rat.lt_div_iff k0]
    unfold Pt.mv at a3
    simp only [] at a3
    rw [Rat.intCast_sub] at a3
    have z : ((k : Int) : Rat) = (k : Rat) := Rat.intCast_natCast k
    rw [z] at a3
    have z1 : p / k * k = p := Rat.div_mul_cancel (by grind)
    have p0 := ok.p0
    have k1 : (1 : Rat) ≤ k := by exact_mod_cast hk0
    generalize (k : Rat) = kk at *
    generalize (rowAt p r row j).a = y at *
    generalize p / kk = pp at *
    rw [show (((1 : Int) : Rat)) = 1 from rfl] at a3
    have : y + (kk - 1) * pp < pp * kk := by rw [z1]; exact a3
    have : y < pp := by grind
    have : y * kk < pp * kk := by
      exact (Rat.mul_lt_mul_right (by grind)).mpr this
    grind
theorem eqParts_spec : ∃ n : Nat, 0 < n ∧ (row ≠ [] → row.length = n * eqParts p r row ∧ repB p r row n = true) ∧ (row ≠ [] → row.length / eqParts p r row = n) ∧ 0 < eqParts p r row := by
  unfold eqParts
  cases hf : (List.range (row.length - 1)).find? (goodN p r row) with
  | some i =>
    have h1 := List.find?_some hf
    have h2 := List.mem_range.mp (List.mem_of_find?_eq_some hf)
    unfold goodN at h1
    simp only [Bool.and_eq_true, decide_eq_true_eq] at h1
    have h3 : row.length = (1 + i) * (row.length / (1 + i)) := by
      have := Nat.div_add_mod row.length (1 + i)
      omega
    have h4 : 0 < row.length / (1 + i) := Nat.div_pos (by omega) (by omega)
    refine ⟨1 + i, by omega, fun _ => ⟨h3, h1.2⟩, fun _ => ?_, h4⟩
    show row.length / (row.length / (1 + i)) = 1 + i
    conv => lhs; rw [h3]
    rw [Nat.mul_div_cancel_left _ (by omega : 0 < 1 + i)]
    rw [Nat.mul_div_cancel _ h4]
  | none =>
    show ∃ n : Nat, 0 < n ∧ (row ≠ [] → row.length = n * 1 ∧ _) ∧ (row ≠ [] → row.length / 1 = n) ∧ 0 < 1
    by_cases hn : row = []
    · exact ⟨1, by decide, fun h => absurd hn h, fun h => absurd hn h, by decide⟩
    · have hl := List.length_pos_iff.mpr hn
      refine ⟨row.length, hl, fun _ => ⟨by omega, ?_⟩, fun _ => Nat.div_one _, by decide⟩
      unfold repB
      rw [List.all_eq_true]
      intro x hx
      obtain ⟨j, hj⟩ := List.mem_iff_getElem?.mp hx
      obtain ⟨h1, h2⟩ := List.getElem?_zip_eq_some.mp hj
      have hjl : j < row.length := (List.getElem?_eq_some_iff.mp h1).1
      rw [laterP_get hn hl (Nat.le_refl _) j hjl] at h2
      have := rowAt_add (p := p) (r := r) hn j 1
      rw [Int.one_mul] at this
      rw [this, rowAt_nat j hjl] at h2
      rw [List.getElem?_eq_getElem hjl] at h1
      simp only [Option.some.injEq] at h1 h2
      rw [← h1, ← h2, Nat.div_self hl]
      refine decide_eq_true ?_
      unfold Pt.mv
      simp only [Pt.mk.injEq]
      have e1 : (((1 : Nat)) : Rat) = 1 := rfl
      have e2 : (((1 : Int)) : Rat) = 1 := rfl
      rw [e1, e2]
      refine ⟨?_, ?_, ?_, ?_⟩ <;> grind
end
/-! ### curves -/
structure Crv where
  p : Rat
  r : Rat
  row : List Pt
  s : Rat
  b : Rat
def Crv.at (c : Crv) (k : Int) : Pt := rowAt c.p c.r c.row k
noncomputable def Crv.arn (c : Crv) (x : Rat) : Arn := if c.row = [] then ⟨c.b + c.s * x, c.b + c.s * x, c.b + c.s * x, c.s, c.s⟩ else DL.arn c.at x
structure Crv.Ok (c : Crv) : Prop where
  p0 : 0 < c.p
  r0 : 0 < c.r
  s : c.s = c.r / c.p
  p1 : c.row = [] → c.p = 1
  ok : c.row ≠ [] → okPts c.p c.r c.row
def keptP (p r : Rat) : List Pt → List Pt
  | [] => []
  | q :: qs => truePts p r q qs
def baseP (p r o : Rat) : List Pt → Rat
  | [] => o
  | q :: _ => q.v - r / p * q.a
/-- the normal form -/
def norm (p r : Rat) (pts : List Pt) (o : Rat) : Crv :=
  if keptP p r pts = [] then ⟨1, r / p, [], r / p, baseP p r o pts⟩
  else ⟨p / (eqParts p r (keptP p r pts) : Nat), r / (eqParts p r (keptP p r pts) : Nat), (keptP p r pts).take ((keptP p r pts).length / eqParts p r (keptP p r pts)), r / p, o⟩
section
variable {p r : Rat} {pts : List Pt} {o : Rat}
theorem keptP_eq : keptP p r pts = (trueI p r pts).map fun i : Nat => rowAt p r pts i := by
  cases pts with
  | nil => rfl
  | cons q qs => exact truePts_eq
theorem kept_ok (ok : okPts p r pts) (h : keptP p r pts ≠ []) : okPts p r (keptP p r pts) := by
  have hn : pts ≠ [] := fun z => h (by rw [z]; rfl)
  have hI : trueI p r pts ≠ [] := fun z => h (by rw [keptP_eq, z]; rfl)
  have s := sub_true hn hI
  rw [← keptP_eq] at s
  refine okPts_of ok.p0 ok.r0 h (s.trk (ok.trk hn)) fun q hq => ?_
  rw [keptP_eq] at hq
  obtain ⟨i, hi, rfl⟩ := List.mem_map.mp hq
  have hi' : i < pts.length := List.mem_range.mp (List.mem_filter.mp hi).1
  have := ok.pt _ (List.getElem_mem hi')
  rw [rowAt_nat i hi']
  exact ⟨this.lo, this.hi⟩
theorem kept_mem {q : Pt} (h : q ∈ keptP p r pts) : q ∈ pts := by
  rw [keptP_eq] at h
  obtain ⟨i, hi, rfl⟩ := List.mem_map.mp h
  have hi' : i < pts.length := List.mem_range.mp (List.mem_filter.mp hi).1
  rw [rowAt_nat i hi']
  exact List.getElem_mem hi'
theorem kept_arn (ok : okPts p r pts) (h : keptP p r pts ≠ []) (x : Rat) : arn (rowAt p r (keptP p r pts)) x = arn (rowAt p r pts) x := by
  have hn : pts ≠ [] := fun z => h (by rw [z]; rfl)
  have hI : trueI p r pts ≠ [] := fun z => h (by rw [keptP_eq, z]; rfl)
  have s := sub_true hn hI
  rw [← keptP_eq] at s
  exact s.arn (ok.trk hn) x
theorem norm_ok (ok : okPts p r pts) : (norm p r pts o).Ok := by
  unfold norm
  have p0 := ok.p0
  have r0 := ok.r0
  have d0 : 0 < r / p := by rw [Rat.lt_div_iff p0, Rat.zero_mul]; exact r0
  split
  · refine ⟨(by decide +kernel : (0 : Rat) < 1), d0, ?_, fun _ => rfl, fun h => absurd rfl h⟩
    show r / p = r / p / 1
    rw [Rat.div_def (r / p) 1, show (1 : Rat)⁻¹ = 1 from by decide +kernel, Rat.mul_one]
  · rename_i h
    obtain ⟨n, n0, h1, h2, k0⟩ := eqParts_spec (p := p) (r := r) (row := keptP p r pts)
    obtain ⟨h3, h4⟩ := h1 h
    rw [h2 h]
    have := ok_part (kept_ok ok h) h n0 h3 h4
    generalize eqParts p r (keptP p r pts) = k at *
    have k0' : (0 : Rat) < k := by exact_mod_cast k0
    refine ⟨this.p0, this.r0, ?_, fun z => ?_, fun _ => this⟩
    · show r / p = r / k / (p / k)
      have e1 : p ≠ 0 := by grind
      have e2 : (k : Rat) ≠ 0 := by grind
      rw [Rat.div_def r k, Rat.div_def p k, Rat.div_def (r * _), Rat.div_def r p, Rat.inv_mul_rev, Rat.inv_inv]
      grind
    · exfalso
      have z : (keptP p r pts).take n = [] := z
      have := congrArg List.length z
      rw [List.length_take, List.length_nil] at this
      have := List.length_pos_iff.mpr h
      omega
/-- the values of the normal form are those of the points -/
theorem norm_arn (ok : okPts p r pts) (hn : pts ≠ []) (x : Rat) : (norm p r pts o).arn x = arn (rowAt p r pts) x := by
  unfold norm
  split
  · rename_i h
    cases pts with
    | nil => exact absurd rfl hn
    | cons q qs =>
      unfold Crv.arn
      rw [if_pos rfl]
      have hI : trueI p r (q :: qs) = [] := by
        rw [keptP_eq] at h
        exact List.map_eq_nil_iff.mp h
      rw [line_of ok hn hI]
      rfl
  · rename_i h
    obtain ⟨n, n0, h1, h2, k0⟩ := eqParts_spec (p := p) (r := r) (row := keptP p r pts)
    obtain ⟨h3, h4⟩ := h1 h
    rw [h2 h]
    unfold Crv.arn
    rw [if_neg, ← kept_arn ok h]
    · have e : Crv.at ⟨p / (eqParts p r (keptP p r pts) : Nat), r / (eqParts p r (keptP p r pts) : Nat), (keptP p r pts).take n, r / p, o⟩ = rowAt p r (keptP p r pts) := funext (part_eq h n0 h3 h4)
      rw [e]
    · intro z
      have z : (keptP p r pts).take n = [] := z
      have := congrArg List.length z
      rw [List.length_take, List.length_nil] at this
      have := List.length_pos_iff.mpr h
      omega
theorem norm_arn0 (x : Rat) : (norm p r [] o).arn x = ⟨o + r / p * x, o + r / p * x, o + r / p * x, r / p, r / p⟩ := by
  unfold norm
  rw [if_pos (show keptP p r [] = [] from rfl)]
  unfold Crv.arn
  rw [if_pos rfl]
  rfl
end
end DL

/-! Plain mathematics: the curves of single steps. -/
namespace DL
section
variable {p r : Rat} {q : Pt}
theorem rowAt_one (k : Int) : rowAt p r [q] k = q.mv k p r := by
  unfold rowAt
  have h1 : k % (([q] : List Pt).length : Int) = 0 := by simp [Int.emod_one]
  have h2 : k / (([q] : List Pt).length : Int) = k := by simp
  rw [h1, h2]
  rfl
theorem kept_one (h : q.l ≠ q.r) : keptP p r [q] = [q] := by
  rw [keptP_eq]
  have : trueI p r [q] = [0] := by
    unfold trueI
    have e : isT (rowAt p r [q]) 0 = true := by
      unfold isT isTrue3
      have e0 : rowAt p r [q] 0 = q := rowAt_nat 0 (by simp)
      simp only [e0, decide_eq_false h, Bool.not_false, Bool.true_or]
    show (List.range 1).filter _ = [0]
    simp [List.range_succ, e]
  rw [this]
  show [rowAt p r [q] 0] = [q]
  rw [show (0 : Int) = ((0 : Nat) : Int) from rfl, rowAt_nat 0 (by simp)]
  rfl
theorem norm_one (h : q.l ≠ q.r) (o : Rat) : norm p r [q] o = ⟨p, r, [q], r / p, o⟩ := by
  unfold norm
  rw [kept_one h, if_neg (by simp)]
  have e : eqParts p r [q] = 1 := rfl
  rw [e]
  have e1 : ((1 : Nat) : Rat) = 1 := rfl
  rw [e1, Rat.div_def p 1, Rat.div_def r 1, show (1 : Rat)⁻¹ = 1 from by decide +kernel, Rat.mul_one, Rat.mul_one]
  simp
end
/-- an amount within a unit -/
def wthn (o u : Rat) : Rat := o - ((o / u).floor : Rat) * u
theorem wthn_in {o u : Rat} (h : 0 < u) : 0 ≤ wthn o u ∧ wthn o u < u := by
  unfold wthn
  have f1 := Rat.floor_le (o / u)
  have f2 := Rat.lt_floor_add_one (o / u)
  rw [Rat.intCast_add] at f2
  have g1 : ((o / u).floor : Rat) * u ≤ o := by
    have := fun z => (show ¬ o / u < ((o / u).floor : Rat) by grind) ((Rat.div_lt_iff h).mpr z)
    grind
  have g2 : o < (((o / u).floor : Rat) + ((1 : Int) : Rat)) * u := (Rat.div_lt_iff h).mp f2
  have e1 : (((1 : Int)) : Rat) = 1 := rfl
  rw [e1] at g2
  constructor <;> grind
def flP (u w : Rat) : Pt := ⟨w, w - u, w, w⟩
def clP (u w : Rat) : Pt := ⟨w, w, w, w + u⟩
theorem ok_one {p r : Rat} {q : Pt} (p0 : 0 < p) (r0 : 0 < r) (h1 : 0 ≤ q.a) (h2 : q.a < p) (h3 : q.l ≤ q.v) (h4 : q.v ≤ q.r) (h5 : q.r ≤ q.l + r) : okPts p r [q] := by
  refine ⟨p0, r0, fun x hx => ?_, fun x hx => ?_⟩
  · have : x = q := by simpa using hx
    subst this
    exact ⟨by grind, h2, by grind, by grind⟩
  · have : x = (q, q.mv 1 p r) := by simpa [nextPts] using hx
    subst this
    refine ⟨?_, ?_⟩
    · show q.a < q.a + 1 * p
      grind
    · show ¬ q.l + 1 * r < q.r
      grind
theorem fl_ok {u w : Rat} (h : 0 < u) (h0 : 0 ≤ w) (h1 : w < u) : okPts u u [flP u w] := ok_one h h h0 h1 (by show w - u ≤ w; grind) (by show w ≤ w; grind) (by show w ≤ w - u + u; grind)
theorem cl_ok {u w : Rat} (h : 0 < u) (h0 : 0 ≤ w) (h1 : w < u) : okPts u u [clP u w] := ok_one h h h0 h1 (by show w ≤ w; grind) (by show w ≤ w + u; grind) (by show w + u ≤ w + u; grind)
/-- the curves of floor and ceiling -/
def flC (u o : Rat) : Crv := ⟨u, u, [flP u (wthn o u)], 1, 0⟩
def clC (u o : Rat) : Crv := ⟨u, u, [clP u (wthn o u)], 1, 0⟩
theorem div_self' {u : Rat} (h : 0 < u) : u / u = 1 := by
  rw [Rat.div_def, Rat.mul_inv_cancel _ (by grind)]
theorem fl_norm {u o : Rat} (h : 0 < u) : norm u u [flP u (wthn o u)] 0 = flC u o := by
  rw [norm_one (by show wthn o u - u ≠ wthn o u; grind), div_self' h]; rfl
theorem cl_norm {u o : Rat} (h : 0 < u) : norm u u [clP u (wthn o u)] 0 = clC u o := by
  rw [norm_one (by show wthn o u ≠ wthn o u + u; grind), div_self' h]; rfl
theorem flC_ok {u o : Rat} (h : 0 < u) : (flC u o).Ok := ⟨h, h, (div_self' h).symm, (fun z => by cases z), fun _ => fl_ok h (wthn_in h).1 (wthn_in h).2⟩
theorem clC_ok {u o : Rat} (h : 0 < u) : (clC u o).Ok := ⟨h, h, (div_self' h).symm, (fun z => by cases z), fun _ => cl_ok h (wthn_in h).1 (wthn_in h).2⟩
/-- the integer part of an amount in units -/
def lowN (u o x : Rat) : Int := ((x - o) / u).floor
theorem lowN_spec {u o x : Rat} (h : 0 < u) : o + (lowN u o x : Rat) * u ≤ x ∧ x < o + ((lowN u o x : Rat) + 1) * u := by
  unfold lowN
  have f1 := Rat.floor_le ((x - o) / u)
  have f2 := Rat.lt_floor_add_one ((x - o) / u)
  rw [Rat.intCast_add] at f2
  have g1 : (((x - o) / u).floor : Rat) * u ≤ x - o := by
    have := fun z => (show ¬ (x - o) / u < (((x - o) / u).floor : Rat) by grind) ((Rat.div_lt_iff h).mpr z)
    grind
  have g2 : x - o < ((((x - o) / u).floor : Rat) + ((1 : Int) : Rat)) * u := (Rat.div_lt_iff h).mp f2
  have e1 : (((1 : Int)) : Rat) = 1 := rfl
  rw [e1] at g2
  constructor <;> grind
theorem rest_iff {u o x : Rat} (h : 0 < u) : (x - o) / u - (lowN u o x : Rat) = 0 ↔ x = o + (lowN u o x : Rat) * u := by
  constructor
  · intro e
    have : (x - o) / u = lowN u o x := by grind
    have h2 : (x - o) / u * u = x - o := Rat.div_mul_cancel (by grind)
    rw [this] at h2
    grind
  · intro e
    have : x - o = (lowN u o x : Rat) * u := by grind
    rw [this, Rat.mul_div_cancel (by grind)]
    grind
theorem grid_k {u o : Rat} (n : Int) : o + (n : Rat) * u = wthn o u + ((n + (o / u).floor : Int) : Rat) * u := by
  unfold wthn
  rw [Rat.intCast_add]
  grind
section
variable {u o x : Rat}
theorem flC_at (k : Int) : (flC u o).at k = ⟨wthn o u + k * u, wthn o u - u + k * u, wthn o u + k * u, wthn o u + k * u⟩ := rowAt_one k
theorem clC_at (k : Int) : (clC u o).at k = ⟨wthn o u + k * u, wthn o u + k * u, wthn o u + k * u, wthn o u + u + k * u⟩ := rowAt_one k
theorem flC_sl (k : Int) : slB ((flC u o).at k) ((flC u o).at (k + 1)) = 0 := by
  rw [flC_at, flC_at]
  unfold slB
  simp only []
  rw [Rat.intCast_add, show wthn o u - u + ((k : Rat) + ((1 : Int) : Rat)) * u - (wthn o u + (k : Rat) * u) = 0 from by have e1 : (((1 : Int)) : Rat) = 1 := rfl; rw [e1]; grind, Rat.div_def, Rat.zero_mul]
theorem clC_sl (k : Int) : slB ((clC u o).at k) ((clC u o).at (k + 1)) = 0 := by
  rw [clC_at, clC_at]
  unfold slB
  simp only []
  rw [Rat.intCast_add, show wthn o u + ((k : Rat) + ((1 : Int) : Rat)) * u - (wthn o u + u + (k : Rat) * u) = 0 from by have e1 : (((1 : Int)) : Rat) = 1 := rfl; rw [e1]; grind, Rat.div_def, Rat.zero_mul]
theorem flC_arn (h : 0 < u) : (flC u o).arn x = ⟨o + ((if (x - o) / u - (lowN u o x : Rat) = 0 then lowN u o x - 1 else lowN u o x : Int) : Rat) * u, o + (lowN u o x : Rat) * u, o + (lowN u o x : Rat) * u, 0, 0⟩ := by
  have trk := ((flC_ok (o := o) h).ok (by show [_] ≠ []; simp)).trk (by show [_] ≠ []; simp)
  have trk : Trk (flC u o).at := trk
  unfold Crv.arn
  rw [if_neg (by show [_] ≠ []; simp)]
  obtain ⟨s1, s2⟩ := lowN_spec (o := o) (x := x) h
  have g := grid_k (u := u) (o := o) (lowN u o x)
  have e1 : (((1 : Int)) : Rat) = 1 := rfl
  by_cases e : (x - o) / u - (lowN u o x : Rat) = 0
  · rw [if_pos e]
    have ex := (rest_iff h).mp e
    have : x = ((flC u o).at (lowN u o x + (o / u).floor)).a := by rw [flC_at]; exact ex.trans g
    conv => lhs; rw [this]
    rw [trk.arn_pt, flC_sl, show lowN u o x + (o / u).floor - 1 = lowN u o x + (o / u).floor - 1 from rfl]
    have hs := flC_sl (u := u) (o := o) (lowN u o x + (o / u).floor - 1)
    rw [show lowN u o x + (o / u).floor - 1 + 1 = lowN u o x + (o / u).floor from by omega] at hs
    rw [hs, flC_at]
    simp only [Arn.mk.injEq]
    refine ⟨?_, g.symm, g.symm, trivial, trivial⟩
    rw [Rat.intCast_sub, e1]
    grind
  · rw [if_neg e]
    have ne : x ≠ o + (lowN u o x : Rat) * u := fun z => e ((rest_iff h).mpr z)
    have a1 : ((flC u o).at (lowN u o x + (o / u).floor)).a < x := by rw [flC_at]; show wthn o u + _ < x; rw [← g]; grind
    have a2 : x < ((flC u o).at (lowN u o x + (o / u).floor + 1)).a := by
      rw [flC_at]
      show x < wthn o u + _
      rw [Rat.intCast_add, e1]
      grind
    rw [trk.arn_in a1 a2, flC_sl, flC_at]
    simp only [Arn.mk.injEq]
    have : wthn o u + ((lowN u o x + (o / u).floor : Int) : Rat) * u + 0 * (x - (wthn o u + ((lowN u o x + (o / u).floor : Int) : Rat) * u)) = o + (lowN u o x : Rat) * u := by rw [g]; grind
    exact ⟨this, this, this, trivial, trivial⟩
theorem clC_arn (h : 0 < u) : (clC u o).arn x = ⟨o + ((if (x - o) / u - (lowN u o x : Rat) = 0 then lowN u o x else lowN u o x + 1 : Int) : Rat) * u, o + ((if (x - o) / u - (lowN u o x : Rat) = 0 then lowN u o x else lowN u o x + 1 : Int) : Rat) * u, o + ((lowN u o x + 1 : Int) : Rat) * u, 0, 0⟩ := by
  have trk := ((clC_ok (o := o) h).ok (by show [_] ≠ []; simp)).trk (by show [_] ≠ []; simp)
  have trk : Trk (clC u o).at := trk
  unfold Crv.arn
  rw [if_neg (by show [_] ≠ []; simp)]
  obtain ⟨s1, s2⟩ := lowN_spec (o := o) (x := x) h
  have g := grid_k (u := u) (o := o) (lowN u o x)
  have g2 := grid_k (u := u) (o := o) (lowN u o x + 1)
  have e1 : (((1 : Int)) : Rat) = 1 := rfl
  by_cases e : (x - o) / u - (lowN u o x : Rat) = 0
  · rw [if_pos e]
    have ex := (rest_iff h).mp e
    have : x = ((clC u o).at (lowN u o x + (o / u).floor)).a := by rw [clC_at]; exact ex.trans g
    conv => lhs; rw [this]
    rw [trk.arn_pt, clC_sl]
    have hs := clC_sl (u := u) (o := o) (lowN u o x + (o / u).floor - 1)
    rw [show lowN u o x + (o / u).floor - 1 + 1 = lowN u o x + (o / u).floor from by omega] at hs
    rw [hs, clC_at]
    simp only [Arn.mk.injEq]
    refine ⟨g.symm, g.symm, ?_, trivial, trivial⟩
    rw [Rat.intCast_add (lowN u o x) 1, e1]
    grind
  · rw [if_neg e]
    have ne : x ≠ o + (lowN u o x : Rat) * u := fun z => e ((rest_iff h).mpr z)
    have a1 : ((clC u o).at (lowN u o x + (o / u).floor)).a < x := by rw [clC_at]; show wthn o u + _ < x; rw [← g]; grind
    have a2 : x < ((clC u o).at (lowN u o x + (o / u).floor + 1)).a := by
      rw [clC_at]
      show x < wthn o u + _
      rw [Rat.intCast_add, e1]
      grind
    rw [trk.arn_in a1 a2, clC_sl, clC_at]
    simp only [Arn.mk.injEq]
    have : wthn o u + u + ((lowN u o x + (o / u).floor : Int) : Rat) * u + 0 * (x - (wthn o u + ((lowN u o x + (o / u).floor : Int) : Rat) * u)) = o + ((lowN u o x + 1 : Int) : Rat) * u := by
      rw [Rat.intCast_add (lowN u o x) 1, e1]
      grind
    exact ⟨this, this, this, trivial, trivial⟩
end
end DL

/-! Plain mathematics: the normal form is normal. -/
namespace DL
theorem Sub.isT_eq {S S' : Int → Pt} {f : Int → Int} (s : Sub S S' f) (h : Trk S) (j : Int) : isT S' j = isT S (f j) := by
  have h1 := s.sl h (j - 1) (f j - 1) (by have := s.up (j - 1); rw [show j - 1 + 1 = j from by omega] at this; omega) (by rw [show j - 1 + 1 = j from by omega]; omega)
  rw [show j - 1 + 1 = j from by omega, show f j - 1 + 1 = f j from by omega] at h1
  have h2 := s.sl h j (f j) (by omega) (s.up j)
  unfold isT isTrue3
  simp only []
  rw [h1, h2, s.eq j]
/-- the points repeat after n of them -/
def lrepA (p r : Rat) (row : List Pt) (n : Nat) : Prop := ∀ j : Nat, j + n < row.length → rowAt p r row ((j : Int) + n) = (rowAt p r row j).mv 1 (p / ((row.length / n : Nat) : Rat)) (r / ((row.length / n : Nat) : Rat))
section
variable {p r : Rat} {row : List Pt}
theorem lrep_all {n k : Nat} (hn : row ≠ []) (h0 : 0 < n) (hk : row.length = n * k) (h : lrepA p r row n) (j : Int) : rowAt p r row (j + n) = (rowAt p r row j).mv 1 (p / (k : Rat)) (r / (k : Rat)) := by
  have hl := List.length_pos_iff.mpr hn
  have hk0 : 0 < k := by
    rcases Nat.eq_zero_or_pos k with e | e
    · subst e; omega
    · exact e
  have ek : row.length / n = k := by rw [hk, Nat.mul_div_cancel_left _ h0]
  unfold lrepA at h
  rw [ek] at h
  have kr : (k : Rat) ≠ 0 := by
    have : (0 : Rat) < k := by exact_mod_cast hk0
    grind
  have up : ∀ (i m : Nat), i < n → m < k → rowAt p r row ((i + m * n : Nat) : Int) = (rowAt p r row i).mv m (p / (k : Rat)) (r / (k : Rat)) := by
    intro i m hi
    induction m with
    | zero => intro _; rw [Nat.zero_mul, Nat.add_zero]; exact (Pt.mv_0 ..).symm
    | succ m ih =>
      intro hm
      have hlt : i + m * n + n < row.length := by
        rw [hk, Nat.mul_comm n k]
        have : (m + 1 + 1) * n ≤ k * n := Nat.mul_le_mul_right n (by omega)
        rw [Nat.add_mul, Nat.add_mul] at this
        omega
      have := h (i + m * n) hlt
      rw [show ((i + (m + 1) * n : Nat) : Int) = ((i + m * n : Nat) : Int) + n from by rw [Nat.add_mul]; omega, this, ih (by omega), Pt.mv_mv, Rat.natCast_add]
      rfl
  obtain ⟨j', t, hj, rfl⟩ := rowAt_split hn j
  rw [show (j' : Int) + t * row.length + n = (j' : Int) + n + t * row.length from by omega, rowAt_add hn, rowAt_add hn]
  suffices hs : rowAt p r row ((j' : Int) + n) = (rowAt p r row j').mv 1 (p / (k : Rat)) (r / (k : Rat)) by
    rw [hs]
    unfold Pt.mv
    simp only [Pt.mk.injEq]
    refine ⟨?_, ?_, ?_, ?_⟩ <;> grind
  by_cases hlt : j' + n < row.length
  · exact h j' hlt
  · -- the last part: one period behind the first one
    have e1 : j' = (j' - (k - 1) * n) + (k - 1) * n ∧ j' - (k - 1) * n < n := by
      have : (k - 1) * n + n = row.length := by
        rw [hk, Nat.mul_comm n k]
        conv => rhs; rw [show k = k - 1 + 1 from by omega, Nat.add_mul, Nat.one_mul]
      omega
    generalize j' - (k - 1) * n = i at e1
    obtain ⟨e1, hi⟩ := e1
    have h1 := up i (k - 1) hi (by omega)
    rw [← e1] at h1
    have h2 := rowAt_add (p := p) (r := r) hn i 1
    rw [show (i : Int) + 1 * row.length = (j' : Int) + n from by
      have : (k - 1) * n + n = row.length := by
        rw [hk, Nat.mul_comm n k]
        conv => rhs; rw [show k = k - 1 + 1 from by omega, Nat.add_mul, Nat.one_mul]
      omega] at h2
    rw [h2, h1, Pt.mv_mv]
    have ek1 : ((k - 1 : Nat) : Rat) + 1 = k := by
      have : k = (k - 1) + 1 := by omega
      conv => rhs; rw [this, Rat.natCast_add]
      rfl
    rw [ek1]
    have z1 : (k : Rat) * (p / k) = p := by rw [Rat.mul_comm]; exact Rat.div_mul_cancel kr
    have z2 : (k : Rat) * (r / k) = r := by rw [Rat.mul_comm]; exact Rat.div_mul_cancel kr
    have o : (((1 : Int)) : Rat) = 1 := rfl
    unfold Pt.mv
    simp only [Pt.mk.injEq, z1, z2, o, Rat.one_mul]
theorem rep_of {n k : Nat} (hn : row ≠ []) (h0 : 0 < n) (hk : row.length = n * k) (h : ∀ j : Int, rowAt p r row (j + n) = (rowAt p r row j).mv 1 (p / (k : Rat)) (r / (k : Rat))) : repB p r row n = true := by
  have hl := List.length_pos_iff.mpr hn
  have hk0 : 0 < k := by
    rcases Nat.eq_zero_or_pos k with e | e
    · subst e; omega
    · exact e
  have hle : n ≤ row.length := by rw [hk]; exact Nat.le_mul_of_pos_right n hk0
  have ek : row.length / n = k := by rw [hk, Nat.mul_div_cancel_left _ h0]
  unfold repB
  rw [ek, List.all_eq_true]
  intro x hx
  obtain ⟨j, hj⟩ := List.mem_iff_getElem?.mp hx
  obtain ⟨h1, h2⟩ := List.getElem?_zip_eq_some.mp hj
  have hjl : j < row.length := (List.getElem?_eq_some_iff.mp h1).1
  rw [laterP_get hn h0 hle j hjl, h j, rowAt_nat j hjl] at h2
  rw [List.getElem?_eq_getElem hjl] at h1
  simp only [Option.some.injEq] at h1 h2
  rw [← h1, ← h2]
  exact decide_eq_true rfl
end
structure Crv.Nf (c : Crv) : Prop where
  t : c.row ≠ [] → ∀ k, isT c.at k = true
  n : ∀ n, 0 < n → n < c.row.length → c.row.length % n = 0 → ¬ lrepA c.p c.r c.row n
theorem norm_nf {p r : Rat} {pts : List Pt} {o : Rat} (ok : okPts p r pts) : (norm p r pts o).Nf := by
  unfold norm
  split
  · exact ⟨fun z => absurd rfl z, fun n _ h => absurd h (by show ¬ n < 0; omega)⟩
  · rename_i h
    have hn : pts ≠ [] := fun z => h (by rw [z]; rfl)
    have hI : trueI p r pts ≠ [] := fun z => h (by rw [keptP_eq, z]; rfl)
    have s := sub_true hn hI
    rw [← keptP_eq] at s
    have kok := kept_ok ok h
    obtain ⟨n, n0, h1, h2, k0⟩ := eqParts_spec (p := p) (r := r) (row := keptP p r pts)
    obtain ⟨h3, h4⟩ := h1 h
    have least : ∀ m, 0 < m → m < n → (keptP p r pts).length % m = 0 → repB p r (keptP p r pts) m = true → False := fun m m0 mn md hr => by
      have hg : goodN p r (keptP p r pts) (m - 1) = true := by
        unfold goodN
        rw [show 1 + (m - 1) = m from by omega, decide_eq_true md, hr]; rfl
      have hle : n ≤ (keptP p r pts).length := by rw [h3]; exact Nat.le_mul_of_pos_right n k0
      unfold eqParts at h3
      cases hf : (List.range ((keptP p r pts).length - 1)).find? (goodN p r (keptP p r pts)) with
      | none =>
        have := List.find?_eq_none.mp hf (m - 1) (List.mem_range.mpr (by omega))
        rw [hg] at this
        exact this rfl
      | some i =>
        rw [hf] at h3
        have hi1 := List.mem_range.mp (List.mem_of_find?_eq_some hf)
        have hi : i ≤ m - 1 := by
          obtain ⟨hgi, as, bs, e1, e2⟩ := List.find?_eq_some_iff_append.mp hf
          by_cases z : i ≤ m - 1
          · exact z
          · exfalso
            have hm : m - 1 ∈ as ++ i :: bs := by rw [← e1]; exact List.mem_range.mpr (by omega)
            rcases List.mem_append.mp hm with hm | hm
            · have := e2 _ hm
              rw [hg] at this
              exact absurd this (by decide)
            · have pw : (as ++ i :: bs).Pairwise (· < ·) := by rw [← e1]; exact List.pairwise_lt_range
              rw [List.pairwise_append] at pw
              rcases List.mem_cons.mp hm with hm | hm
              · omega
              · have := (List.pairwise_cons.mp pw.2.1).1 _ hm
                omega
        have h5 : (1 + i) ∣ (keptP p r pts).length := by
          have hgi := List.find?_some hf
          unfold goodN at hgi
          simp only [Bool.and_eq_true, decide_eq_true_eq] at hgi
          exact Nat.dvd_of_mod_eq_zero hgi.1
        obtain ⟨q, hq⟩ := h5
        have h6 : (keptP p r pts).length / (1 + i) = q := by rw [hq, Nat.mul_div_cancel_left _ (by omega)]
        simp only [] at h3
        rw [h6] at h3
        have hl := List.length_pos_iff.mpr h
        have q0 : 0 < q := by
          rcases Nat.eq_zero_or_pos q with e | e
          · subst e; omega
          · exact e
        have : n = 1 + i := Nat.eq_of_mul_eq_mul_right q0 (by rw [← h3]; exact hq)
        omega
    rw [h2 h]
    generalize hkk : eqParts p r (keptP p r pts) = k at *
    have e : rowAt (p / k) (r / k) ((keptP p r pts).take n) = rowAt p r (keptP p r pts) := funext (part_eq h n0 h3 h4)
    have tl : ((keptP p r pts).take n).length = n := by
      rw [List.length_take]
      have : n ≤ (keptP p r pts).length := by rw [h3]; exact Nat.le_mul_of_pos_right n k0
      omega
    have tne : (keptP p r pts).take n ≠ [] := fun z => by rw [z] at tl; simp at tl; omega
    refine ⟨fun _ j => ?_, fun m m0 mn md hr => ?_⟩
    · show isT (rowAt (p / k) (r / k) ((keptP p r pts).take n)) j = true
      rw [e, s.isT_eq (ok.trk hn)]
      have hm := List.length_pos_iff.mpr hI
      obtain ⟨i, t, hi, rfl⟩ := isplit hm j
      rw [subF_at i t hi, isT_per hn]
      exact (List.mem_filter.mp (List.getElem_mem hi)).2
    · have mn : m < ((keptP p r pts).take n).length := mn
      have md : ((keptP p r pts).take n).length % m = 0 := md
      rw [tl] at mn md
      obtain ⟨q, hq⟩ := Nat.dvd_of_mod_eq_zero md
      have hr : lrepA (p / k) (r / k) ((keptP p r pts).take n) m := hr
      have ha := lrep_all tne m0 (by rw [tl]; exact hq) hr
      rw [e] at ha
      have hkl : (keptP p r pts).length = m * (q * k) := by rw [h3, hq, Nat.mul_assoc]
      refine least m m0 mn (by rw [hkl]; exact Nat.mul_mod_right ..) (rep_of h m0 hkl fun j => ?_)
      rw [ha j]
      have d1 : ∀ x : Rat, x / k / q = x / ((q * k : Nat) : Rat) := fun x => by
        rw [Rat.natCast_mul, Rat.div_def, Rat.div_def, Rat.div_def, Rat.inv_mul_rev, Rat.mul_assoc]
      rw [d1, d1]
end DL

/-! curves: points and their moves, in plain Lean -/
namespace DL
open PySem PySem.Spec PyProof.Rows L2 Mt
def ptD (q : Pt) : D := .tup [qD q.a, qD q.l, qD q.v, qD q.r]
structure Pt.sz (q : Pt) (B : Nat) : Prop where
  a : qs q.a ≤ B
  l : qs q.l ≤ B
  v : qs q.v ≤ B
  r : qs q.r ≤ B
theorem Pt.sz.mono {q : Pt} {B C : Nat} (h : q.sz B) (e : B ≤ C) : q.sz C := ⟨Nat.le_trans h.a e, Nat.le_trans h.l e, Nat.le_trans h.v e, Nat.le_trans h.r e⟩
theorem Pt.sz.mv {q : Pt} {B C n : Nat} {t : Int} {p r : Rat} (h : q.sz B) (ht : bz t ≤ n) (hp : qs p ≤ B) (hr : qs r ≤ B) (e : 2 * B + n + 3 ≤ C) : (q.mv t p r).sz C := by
  have h1 := qs_mul t p
  have h2 := qs_mul t r
  have h3 := qs_int t
  have h4 := qs_add q.a (t * p)
  have h5 := qs_add q.l (t * r)
  have h6 := qs_add q.v (t * r)
  have h7 := qs_add q.r (t * r)
  have := h.a
  have := h.l
  have := h.v
  have := h.r
  constructor <;> (show qs (_ + _) ≤ C) <;> omega
theorem e_slt {xs ys : List D} {lo hi : Option Int} {M : Mem} {Q : VD} (e : cutL xs lo hi = ys) (h : Q (.tup ys) M) : rSl_ (.tup xs) lo hi M Q := by subst e; exact h
theorem e_sll {xs ys : List D} {lo hi : Option Int} {M : Mem} {Q : VD} (e : cutL xs lo hi = ys) (h : Q (.lst ys) M) : rSl_ (.lst xs) lo hi M Q := by subst e; exact h
theorem e_addt {xs ys : List D} {M : Mem} {Q : VD} (h0 : xs.length + ys.length ≤ sizeLine) (h : Q (.tup (xs ++ ys)) M) : rAdd_ (.tup xs) (.tup ys) M Q := ⟨h0, h⟩
theorem asS_pt {q : Pt} : asS (ptD q) = some [qD q.a, qD q.l, qD q.v, qD q.r] := rfl
theorem for_list {α : Type} {g : TGD} {tb : TSD} {E : XD} {DD : DEnds} {rho : Rho} {M : Mem} (e : α → D) (cs : List α) (Pv : List α → Rho → Mem → Prop) (h0 : Pv cs rho M)
    (hs : ∀ c r rho M (N : Rho → Mem → Prop), Pv (c :: r) rho M → (∀ rho' M', Pv r rho' M' → N rho' M') → g (e c) E rho M fun rho' M' => tb E { DD with nx := N, ct := N, bk := DD.nx } rho' M')
    (hd : ∀ rho M, Pv [] rho M → DD.nx rho M) : forU g tb (cs.map e) E DD rho M := by
  refine for_inv (fun ds rho M => ∃ r : List α, ds = r.map e ∧ Pv r rho M) ?_ ?_ _ _ _ ⟨cs, rfl, h0⟩
  · rintro d r rho M N ⟨l, h, p⟩ hN
    cases l with
    | nil => cases h
    | cons c l =>
      cases h
      exact hs c l rho M N p fun rho' M' h' => hN rho' M' ⟨l, rfl, h'⟩
  · rintro rho M ⟨l, h, p⟩
    cases l with
    | nil => exact hd rho M p
    | cons c l => cases h
theorem zip2_map {α : Type} (e : α → D) (xs ys : List α) : zip2D (xs.map e) (ys.map e) = (xs.zip ys).map fun x => .tup [e x.1, e x.2] := by
  unfold zip2D
  rw [List.zipWith_map, List.zip, List.map_zipWith]
theorem cut_from {α : Type} {xs : List α} (n : Nat) : cutL xs (some (n : Int)) none = xs.drop n := by
  unfold cutL
  rw [HT.sIx_nat, HT.sIx_none]
  rcases Nat.le_total n xs.length with h | h
  · rw [Nat.min_eq_left h, List.take_of_length_le (by simp)]
  · rw [Nat.min_eq_right h, List.drop_of_length_le (Nat.le_refl _), List.drop_of_length_le h, List.take_nil]
theorem cut_to {α : Type} {xs : List α} (n : Nat) : cutL xs none (some (n : Int)) = xs.take n := by
  unfold cutL
  rw [HT.sIx_nat, HT.sIx_none, List.drop_zero, Nat.sub_zero, List.take_eq_take_iff]
  omega
theorem cut_tl {α : Type} {x : α} {xs : List α} : cutL (x :: xs) (some 1) none = xs := cut_from 1
/-! ### a list or a tuple -/
theorem asS_seq {P : D} {xs : List D} {M : Mem} (h : asS P = some xs) : seqD M P = some xs := by
  cases P <;> first | cases h; done | exact h
theorem e_forS {P : D} {xs : List D} {g : TGD} {tb : TSD} {E : XD} {DD : DEnds} {rho : Rho} {M : Mem} (h : asS P = some xs) (q : forU g tb xs E DD rho M) : (match (generalizing := false) P with
  | .lst xs => forU g tb xs E DD rho M
  | .rol xs => forU g tb xs E DD rho M
  | .tup xs => forU g tb xs E DD rho M
  | .str z => forU g tb (signsD z) E DD rho M
  | _ => False) := by
  cases P <;> first | (cases h; done) | (cases h; exact q)
theorem e_lcS {P : D} {xs : List D} {g : TGD} {tt : TTD} {te : TED} {vs : List Nat} {acc : List D} {rho : Rho} {M : Mem} {Q : VD} (h : asS P = some xs) (q : lcU g tt te vs xs acc rho M Q) : (match (generalizing := false) P with
  | .lst xs => lcU g tt te vs xs acc rho M Q
  | .rol xs => lcU g tt te vs xs acc rho M Q
  | .tup xs => lcU g tt te vs xs acc rho M Q
  | .str z => lcU g tt te vs (signsD z) acc rho M Q
  | _ => False) := by
  cases P <;> first | (cases h; done) | (cases h; exact q)
theorem e_slS {P : D} {xs : List D} {lo hi : Option Int} {M : Mem} {Q : VD} (h : asS P = some xs) (q : ∀ y, asS y = some (cutL xs lo hi) → Q y M) : rSl_ P lo hi M Q := by
  cases P <;> first | (cases h; done) | skip
  · cases h; exact q _ rfl
  · cases h; exact q _ rfl
  · cases h; exact q _ rfl
theorem e_listS {P : D} {xs : List D} {M : Mem} {Q : VD} (h : asS P = some xs) (q : Q (.lst xs) M) : rList_ [P] M Q := by
  cases P <;> first | (cases h; done) | skip
  · cases h; exact q
  · cases h; exact q
  · cases h; exact q
theorem e_htpt {E : XD} {rho : Rho} {M : Mem} {N : Rho → Mem → Prop} {t : TGsD} {q : Pt} (h : t [qD q.a, qD q.l, qD q.v, qD q.r] E rho M N) : hTup 4 t (ptD q) E rho M N := ⟨rfl, h⟩
theorem e_ixpt {M : Mem} {Q : VD} {q : Pt} {k : Int} {d : D} (e : L2.atI [qD q.a, qD q.l, qD q.v, qD q.r] k = some d) (h : Q d M) : rIx_ (ptD q) (.int k) M Q := e_ix rfl e h
theorem at_0 {α : Type} {x : α} {xs : List α} : L2.atI (x :: xs) 0 = some x := at_nat (xs := x :: xs) (j := 0) (by simp)
theorem lc_filt {α : Type} {g : TGD} {tt : TTD} {te : TED} {vs : List Nat} {rho : Rho} {Q : VD} {M : Mem} (e f : α → D) (cd : α → Bool) (cs : List α) (hl : cs.length ≤ sizeLine)
    (h : ∀ c ∈ cs, ∀ (Y : VD) (W : Mem → Prop), (cd c = true → Y (f c) M) → (cd c = false → W M) → g (e c) noE (wipeD rho vs) M fun rho' M1 => tt noE rho' M1 fun b M2 => if b = true then te noE rho' M2 Y else W M2)
    (hq : Q (.lst ((cs.filter cd).map f)) M) : lcU g tt te vs (cs.map e) [] rho M Q := by
  refine lc_inv (fun ds acc M' => M' = M ∧ ∃ a r : List α, cs = a ++ r ∧ ds = r.map e ∧ acc = (a.filter cd).map f) ?_ ?_ _ _ _ ⟨rfl, [], cs, rfl, rfl, rfl⟩
  · rintro d ds acc M' N ⟨rfl, a, r, hc, hd, rfl⟩ hN
    cases r with
    | nil => cases hd
    | cons c r =>
      cases hd
      refine h c (by rw [hc]; simp) _ _ (fun z => ⟨?_, hN _ _ ⟨rfl, a ++ [c], r, by rw [hc]; simp, rfl, ?_⟩⟩) (fun z => hN _ _ ⟨rfl, a ++ [c], r, by rw [hc]; simp, rfl, ?_⟩)
      · have h1 : (a.filter cd).length ≤ a.length := List.length_filter_le ..
        have h2 := congrArg List.length hc
        simp only [List.length_append, List.length_cons] at h2
        rw [List.length_map]; omega
      · simp [List.filter_append, z]
      · simp [List.filter_append, z]
  · rintro acc M' ⟨rfl, a, r, hc, hd, rfl⟩
    cases r with
    | nil => rw [List.append_nil] at hc; subst hc; exact hq
    | cons c r => cases hd
theorem zip3_map {α : Type} (e : α → D) (xs ys zs : List α) : zip3D (xs.map e) (ys.map e) (zs.map e) = (xs.zip (ys.zip zs)).map fun x => .tup [e x.1, e x.2.1, e x.2.2] := by
  unfold zip3D
  rw [List.zip_map, List.zipWith_map]
  generalize ys.zip zs = ws
  rw [List.zip, List.map_zipWith]
  rfl
theorem at_last {α : Type} {xs : List α} (h : xs ≠ []) : L2.atI xs (-1) = some (xs.getLast h) := by
  have hl : 0 < xs.length := List.length_pos_iff.mpr h
  unfold L2.atI L2.ixN
  rw [if_neg (by omega), if_pos (by omega)]
  show xs[((-1 : Int) + xs.length).toNat]? = _
  rw [show ((-1 : Int) + xs.length).toNat = xs.length - 1 from by omega, List.getLast_eq_getElem, List.getElem?_eq_getElem]
theorem mem_zip3 {α : Type} {xs ys zs : List α} {t : α × α × α} (h : t ∈ xs.zip (ys.zip zs)) : (t.1, t.2.1) ∈ xs.zip ys ∧ t.2 ∈ ys.zip zs := by
  refine ⟨?_, (List.of_mem_zip (show (t.1, t.2) ∈ _ from h)).2⟩
  obtain ⟨i, hi⟩ := List.mem_iff_getElem?.mp h
  obtain ⟨h1, h2⟩ := List.getElem?_zip_eq_some.mp hi
  obtain ⟨h3, h4⟩ := List.getElem?_zip_eq_some.mp h2
  exact List.mem_iff_getElem?.mpr ⟨i, List.getElem?_zip_eq_some.mpr ⟨h1, h3⟩⟩
theorem ring_lt {p r : Rat} {q : Pt} {qs : List Pt} (ok : okPts p r (q :: qs)) {t : Pt × Pt × Pt} (h : t ∈ (ringP p r q qs).zip (((ringP p r q qs).drop 1).zip ((ringP p r q qs).drop 2))) : t.1.a < t.2.1.a ∧ t.2.1.a < t.2.2.a := by
  have e1 : (ringP p r q qs).drop 1 = (q :: qs) ++ [q.mv 1 p r] := rfl
  have e2 : (ringP p r q qs).drop 2 = qs ++ [q.mv 1 p r] := rfl
  obtain ⟨h1, h2⟩ := mem_zip3 h
  have up : ∀ x ∈ ((q :: qs) ++ [q.mv 1 p r]).zip (qs ++ [q.mv 1 p r]), x.1.a < x.2.a := fun x hx => by
    have e3 : ((q :: qs) ++ [q.mv 1 p r]).zip (qs ++ [q.mv 1 p r]) = (q :: qs).zip (nextPts p r (q :: qs)) := by
      show _ = (q :: qs).zip (qs ++ [q.mv 1 p r])
      have hl : (q :: qs).length = (qs ++ [q.mv 1 p r]).length := by simp
      conv => lhs; rw [← List.append_nil (qs ++ [q.mv 1 p r])]
      rw [List.zip_append hl]
      simp
    rw [e3] at hx
    exact (ok.pr x hx).lt
  rw [e1, e2] at h2
  refine ⟨?_, up _ h2⟩
  rw [e1] at h1
  have e4 : (ringP p r q qs).zip ((q :: qs) ++ [q.mv 1 p r]) = (((q :: qs).getLast (by simp)).mv (-1) p r, q) :: ((q :: qs) ++ [q.mv 1 p r]).zip (qs ++ [q.mv 1 p r]) := rfl
  rw [e4] at h1
  rcases List.mem_cons.mp h1 with h1 | h1
  · have a1 : t.1 = ((q :: qs).getLast (by simp)).mv (-1) p r := congrArg Prod.fst h1
    have a2 : t.2.1 = q := congrArg Prod.snd h1
    rw [a1, a2]
    have b1 := (ok.pt _ (List.getLast_mem (by simp : q :: qs ≠ []))).hi
    have b2 := (ok.pt q (List.mem_cons_self ..)).lo
    show ((q :: qs).getLast (by simp)).a + (-1) * p < q.a
    generalize ((q :: qs).getLast (by simp)).a = z at b1
    grind
  · exact up _ h1
theorem ring_sz {p r : Rat} {q : Pt} {l : List Pt} {B : Nat} (hs : ∀ x ∈ q :: l, x.sz B) (hp : qs p ≤ B) (hr : qs r ≤ B) : ∀ x ∈ ringP p r q l, x.sz (2 * B + 4) := by
  intro x hx
  rcases List.mem_append.mp hx with hx | hx
  · rcases List.mem_cons.mp hx with rfl | hx
    · exact Pt.sz.mv (t := -1) (n := 1) (hs _ (List.getLast_mem _)) (by decide) hp hr (by omega)
    · exact (hs x hx).mono (by omega)
  · have : x = q.mv 1 p r := by simpa using hx
    subst this
    exact Pt.sz.mv (t := 1) (n := 1) (hs q (List.mem_cons_self ..)) (by decide) hp hr (by omega)
theorem hbs_map {α : Type} {n : Nat} {e : α → D} (h : ∀ a, (e a).hb n = true) : ∀ l : List α, D.hbs n (l.map e) = true
  | [] => rfl
  | a :: l => by
    show ((e a).hb n && D.hbs n (l.map e)) = true
    rw [h a, hbs_map h l]; rfl
theorem hb_pts {n : Nat} {l : List Pt} : (D.lst (l.map ptD)).hb n = true := hbs_map (fun _ => rfl) l
theorem pyEq_pt (x y : Pt) : pyEq (ptD x) (ptD y) = decide (x = y) := by
  unfold ptD
  rw [pyEq_tup rfl rfl, pyEqs_cons rfl rfl rfl rfl, pyEqs_cons rfl rfl rfl rfl, pyEqs_cons rfl rfl rfl rfl, pyEqs_cons rfl rfl rfl rfl, pyEq_qD, pyEq_qD, pyEq_qD, pyEq_qD, show pyEqs [] [] = true from rfl]
  obtain ⟨a, b, c, d⟩ := x
  obtain ⟨a', b', c', d'⟩ := y
  rw [Bool.eq_iff_iff]
  simp
theorem e_eqpt {x y : Pt} {M : Mem} {Q : VD} (h : Q (.bl (decide (x = y))) M) : rEq_ (ptD x) (ptD y) M Q := by
  refine e_eqP rfl rfl (Nat.le_of_ble_eq_true rfl) (Nat.le_of_ble_eq_true rfl) ?_
  rw [pyEq_pt]; exact h
theorem find_at {α : Type} {f : α → Bool} {a b : List α} {x : α} (h : ∀ y ∈ a, f y = false) (hx : f x = true) : (a ++ x :: b).find? f = some x := by
  rw [List.find?_append, List.find?_eq_none.mpr (fun y hy => by rw [h y hy]; decide)]
  simp [hx]
theorem find_no {α : Type} {f : α → Bool} {a : List α} (h : ∀ y ∈ a, f y = false) : a.find? f = none := List.find?_eq_none.mpr (fun y hy => by rw [h y hy]; decide)
theorem fdiv_floor (a : Rat) : a.num.fdiv a.den = a.floor := by
  rw [Int.fdiv_eq_ediv_of_nonneg _ (Int.natCast_nonneg _), Rat.floor_def]
theorem bz_floor (a : Rat) : bz a.floor ≤ qs a := by
  rw [Rat.floor_def]
  have h1 := qs_num a
  have h2 := Int.natAbs_ediv_le_natAbs a.num a.den
  exact Nat.le_trans (bs_mono h2) h1
end DL

/-! curves as objects -/
namespace DL
open PySem PySem.Spec PyProof.Rows L2 Mt
structure Crv.Sz (c : Crv) (B : Nat) : Prop where
  p : c.row ≠ [] → qs c.p ≤ B
  r : c.row ≠ [] → qs c.r ≤ B
  s : qs c.s ≤ 2 * B
  b : qs c.b ≤ 6 * B
  pt : ∀ q ∈ c.row, q.sz B
  len : c.row.length < 10000
theorem bz_ediv (a b : Int) : bz (a / b) ≤ bz a := bs_mono (Int.natAbs_ediv_le_natAbs a b)
theorem Crv.Sz.at {c : Crv} {B n : Nat} (h : c.Sz B) (hn : c.row ≠ []) {k : Int} (hk : bz k ≤ n) : (c.at k).sz (2 * B + n + 3) := by
  have hl := List.length_pos_iff.mpr hn
  unfold Crv.at rowAt
  have h1 : (k % (c.row.length : Int)).toNat < c.row.length := by
    have := Int.emod_lt_of_pos k (show (0 : Int) < c.row.length by omega)
    have := Int.emod_nonneg k (show (c.row.length : Int) ≠ 0 by omega)
    omega
  rw [List.getElem?_eq_getElem h1]
  exact Pt.sz.mv (h.pt _ (List.getElem_mem h1)) (Nat.le_trans (bz_ediv ..) hk) (h.p hn) (h.r hn) (by omega)
theorem Crv.sl_per {c : Crv} (hn : c.row ≠ []) (k t : Int) : slB (c.at (k + t * c.row.length)) (c.at (k + t * c.row.length + 1)) = slB (c.at k) (c.at (k + 1)) := by
  unfold Crv.at
  rw [show k + t * (c.row.length : Int) + 1 = k + 1 + t * c.row.length from by omega, rowAt_add hn, rowAt_add hn]
  unfold slB Pt.mv
  simp only []
  congr 1 <;> grind
theorem qs_slB {x y : Pt} {A B : Nat} (hx : x.sz A) (hy : y.sz B) : qs (slB x y) ≤ 2 * A + 2 * B + 2 := by
  unfold slB
  have h1 := qs_div (y.l - x.r) (y.a - x.a)
  have h2 := qs_sub y.l x.r
  have h3 := qs_sub y.a x.a
  have := hx.r; have := hx.a; have := hy.l; have := hy.a
  omega
theorem Crv.Sz.sl {c : Crv} {B : Nat} (h : c.Sz B) (hn : c.row ≠ []) (k : Int) : qs (slB (c.at k) (c.at (k + 1))) ≤ 8 * B + 80 := by
  obtain ⟨j, t, hj, rfl⟩ := rowAt_split hn k
  rw [Crv.sl_per hn]
  have hb : ∀ i : Nat, i ≤ c.row.length → bz (i : Int) ≤ 14 := fun i hi => bs_le (by have := h.len; show i < 2 ^ 14; omega)
  have h1 := h.at hn (hb j (by omega))
  have h2 := h.at hn (k := (j : Int) + 1) (hb (j + 1) (by omega))
  have := qs_slB h1 h2
  omega
theorem Crv.Ok.trk {c : Crv} (h : c.Ok) (hn : c.row ≠ []) : Trk c.at := (h.ok hn).trk hn
/-- x is, for the time being, the curve c -/
structure CrvX (K : PySem.W.Frag) (M : Mem) (x : D) (c : Crv) (fs : List (Str × D)) : Prop where
  ins : insOf M x = some (He.ga K "Curve", fs)
  p : lkF "period" fs = some (qD c.p)
  r : lkF "rise" fs = some (qD c.r)
  row : lkF "row" fs = some (.tup (c.row.map ptD))
  s : lkF "slope" fs = some (qD c.s)
  b : lkF "base" fs = some (qD c.b)
  m1 : lkF "point_at" fs = none
  m2 : lkF "place_from" fs = none
  m3 : lkF "slope_behind" fs = none
  m4 : lkF "around" fs = none
  m5 : lkF "value" fs = none
abbrev cvN : List Str := ["period", "rise", "row", "slope", "base", "form", "offset"]
def formD (c : Crv) : D := .tup [qD c.p, qD c.r, .tup (c.row.map ptD), qD (if c.row = [] then c.b else 0)]
noncomputable def crvD (K : PySem.W.Frag) (c : Crv) : D := .obj (He.ga K "Curve") cvN [qD c.p, qD c.r, .tup (c.row.map ptD), qD c.s, qD c.b, formD c, qD (c.arn 0).v]
theorem crvX {K : PySem.W.Frag} {M : Mem} {c : Crv} : CrvX K M (crvD K c) c (cvN.zip [qD c.p, qD c.r, .tup (c.row.map ptD), qD c.s, qD c.b, formD c, qD (c.arn 0).v]) := ⟨rfl, rfl, rfl, rfl, rfl, rfl, rfl, rfl, rfl, rfl, rfl⟩
/-! ### comparing rows -/
theorem pzs_map {α : Type} {e : α → D} (h : ∀ a, pz (e a) = true) : ∀ l : List α, pzs (l.map e) = true
  | [] => rfl
  | a :: l => by show (pz (e a) && pzs (l.map e)) = true; rw [h, pzs_map h l]; rfl
theorem dps_map {α : Type} {e : α → D} {n : Nat} (h : ∀ a, dp (e a) ≤ n) : ∀ l : List α, dps (l.map e) ≤ n
  | [] => Nat.zero_le _
  | a :: l => by
    show max (dp (e a)) (dps (l.map e)) ≤ n
    have := h a
    have := dps_map h l
    omega
theorem pyEqs_nil_cons {y : D} {ys : List D} (h1 : pz y = true) (h2 : pzs ys = true) : pyEqs [] (y :: ys) = false ∧ pyEqs (y :: ys) [] = false := by
  obtain ⟨q, e2, _, _⟩ := pz_ok h1
  obtain ⟨qs, e4, _, _⟩ := pzs_ok h2
  have f2 : toPys (y :: ys) = some (q :: qs) := by unfold toPys; rw [e2, e4]
  unfold pyEqs
  rw [f2]
  exact ⟨rfl, rfl⟩
theorem pyEqs_map {α : Type} [DecidableEq α] {e : α → D} (hz : ∀ a, pz (e a) = true) (he : ∀ a b, pyEq (e a) (e b) = decide (a = b)) : ∀ l l' : List α, pyEqs (l.map e) (l'.map e) = decide (l = l')
  | [], [] => rfl
  | [], b :: l' => by
    show pyEqs [] (e b :: l'.map e) = _
    rw [(pyEqs_nil_cons (hz b) (pzs_map hz l')).1]; rfl
  | a :: l, [] => by
    show pyEqs (e a :: l.map e) [] = _
    rw [(pyEqs_nil_cons (hz a) (pzs_map hz l)).2]; rfl
  | a :: l, b :: l' => by
    show pyEqs (e a :: l.map e) (e b :: l'.map e) = _
    rw [pyEqs_cons (hz a) (hz b) (pzs_map hz l) (pzs_map hz l'), he, pyEqs_map hz he l l', Bool.eq_iff_iff]
    simp
theorem pz_pt (q : Pt) : pz (ptD q) = true := rfl
theorem dp_pt (q : Pt) : dp (ptD q) = 2 := rfl
theorem pz_row (l : List Pt) : pz (.tup (l.map ptD)) = true := pzs_map pz_pt l
theorem dp_row (l : List Pt) : dp (.tup (l.map ptD)) ≤ 3 := Nat.succ_le_succ (dps_map (fun q => Nat.le_of_eq (dp_pt q)) l)
theorem pz_rowL (l : List Pt) : pz (.lst (l.map ptD)) = true := pzs_map pz_pt l
theorem dp_rowL (l : List Pt) : dp (.lst (l.map ptD)) ≤ 3 := Nat.succ_le_succ (dps_map (fun q => Nat.le_of_eq (dp_pt q)) l)
theorem pyEq_row (l l' : List Pt) : pyEq (.tup (l.map ptD)) (.tup (l'.map ptD)) = decide (l = l') := by
  rw [pyEq_tup (pzs_map pz_pt l) (pzs_map pz_pt l'), pyEqs_map pz_pt pyEq_pt]
theorem pyEq_rowL (l l' : List Pt) : pyEq (.lst (l.map ptD)) (.lst (l'.map ptD)) = decide (l = l') := by
  rw [pyEq_lst (pzs_map pz_pt l) (pzs_map pz_pt l'), pyEqs_map pz_pt pyEq_pt]
theorem e_eqr0 {l : List Pt} {M : Mem} {Q : VD} (h : Q (.bl (decide (l = []))) M) : rEq_ (.tup (l.map ptD)) (.tup []) M Q := by
  refine e_eqP (pz_row l) rfl (Nat.le_trans (dp_row l) (by decide)) (Nat.le_of_ble_eq_true rfl) ?_
  rw [show pyEq (.tup (l.map ptD)) (.tup []) = decide (l = []) from pyEq_row l []]
  exact h
theorem e_eqL0 {l : List Pt} {M : Mem} {Q : VD} (h : Q (.bl (decide (l = []))) M) : rEq_ (.lst (l.map ptD)) (.lst []) M Q := by
  refine e_eqP (pz_rowL l) rfl (Nat.le_trans (dp_rowL l) (by decide)) (Nat.le_of_ble_eq_true rfl) ?_
  rw [show pyEq (.lst (l.map ptD)) (.lst []) = decide (l = []) from pyEq_rowL l []]
  exact h
theorem e_neL0 {l : List Pt} {M : Mem} {Q : VD} (h : Q (.bl (!decide (l = []))) M) : rNe_ (.lst (l.map ptD)) (.lst []) M Q := by
  refine e_neP (pz_rowL l) rfl (Nat.le_trans (dp_rowL l) (by decide)) (Nat.le_of_ble_eq_true rfl) ?_
  rw [show pyEq (.lst (l.map ptD)) (.lst []) = decide (l = []) from pyEq_rowL l []]
  exact h
theorem pz_form (c : Crv) : pz (formD c) = true := by
  show (pz (qD c.p) && (pz (qD c.r) && (pz (.tup (c.row.map ptD)) && (pz (qD (if c.row = [] then c.b else 0)) && true)))) = true
  rw [pz_row]; rfl
theorem dp_form (c : Crv) : dp (formD c) ≤ 4 := by
  have := dp_row c.row
  have e : dp (formD c) = Nat.succ (max 1 (max 1 (max (dp (.tup (c.row.map ptD))) (max 1 0)))) := rfl
  rw [e]; omega
theorem pyEq_form (c d : Crv) : pyEq (formD c) (formD d) = decide (c.p = d.p ∧ c.r = d.r ∧ c.row = d.row ∧ (if c.row = [] then c.b else 0) = (if d.row = [] then d.b else 0)) := by
  unfold formD
  have h := fun c : Crv => pz_row c.row
  have z : ∀ c : Crv, pzs [D.tup (c.row.map ptD), qD (if c.row = [] then c.b else 0)] = true := fun c => by show (pz (.tup (c.row.map ptD)) && (true && true)) = true; rw [h c]; rfl
  rw [pyEq_tup (pz_form c) (pz_form d), pyEqs_cons rfl rfl (by show (_ && _) = true; rw [z c]; rfl) (by show (_ && _) = true; rw [z d]; rfl), pyEqs_cons rfl rfl (z c) (z d), pyEqs_cons (h c) (h d) rfl rfl, pyEqs_cons rfl rfl rfl rfl, pyEq_qD, pyEq_qD, pyEq_qD, pyEq_row, show pyEqs [] [] = true from rfl, Bool.eq_iff_iff]
  simp
theorem hb_row {n : Nat} {l : List Pt} : (D.tup (l.map ptD)).hb n = true := hbs_map (fun _ => rfl) l
theorem hb_form {n : Nat} {c : Crv} : (formD c).hb n = true := by
  show ((qD c.p).hb n && ((qD c.r).hb n && ((D.tup (c.row.map ptD)).hb n && ((qD (if c.row = [] then c.b else 0)).hb n && true)))) = true
  rw [hb_row]; rfl
theorem hbs_crv {n : Nat} {c : Crv} : D.hbs n [qD c.p, qD c.r, .tup (c.row.map ptD), qD c.s, qD c.b, formD c, qD (c.arn 0).v] = true := by
  show ((qD c.p).hb n && ((qD c.r).hb n && ((D.tup (c.row.map ptD)).hb n && ((qD c.s).hb n && ((qD c.b).hb n && ((formD c).hb n && ((qD (c.arn 0).v).hb n && true))))))) = true
  rw [hb_row, hb_form]; rfl
theorem hb_crv {K : PySem.W.Frag} {n : Nat} {c : Crv} : (crvD K c).hb n = true := hbs_crv
end DL
namespace DL
open PySem PySem.Spec PyProof.Rows L2 Mt
theorem plc_bz {c : Crv} {B : Nat} (hz : c.Sz B) (ok : c.Ok) (hn : c.row ≠ []) (y : Rat) : bz (plc c.at y) ≤ qs y + B + 18 := by
  have hl := List.length_pos_iff.mpr hn
  have trk := ok.trk hn
  have p0 := ok.p0
  have h0 : ∀ t : Int, (c.at (t * c.row.length)).a = (c.row[0]).a + t * c.p := fun t => by
    have h1 := rowAt_add (p := c.p) (r := c.r) hn 0 t
    rw [Int.zero_add, show (0 : Int) = ((0 : Nat) : Int) from rfl, rowAt_nat 0 hl] at h1
    unfold Crv.at
    rw [h1]; rfl
  have okp := (ok.ok hn).pt _ (List.getElem_mem hl)
  have f1 := Rat.floor_le (y / c.p)
  have f2 := Rat.lt_floor_add_one (y / c.p)
  rw [Rat.intCast_add] at f2
  have g1 : ((y / c.p).floor : Rat) * c.p ≤ y := by
    have := fun z => (show ¬ y / c.p < ((y / c.p).floor : Rat) by grind) ((Rat.div_lt_iff p0).mpr z)
    grind
  have g2 : y < (((y / c.p).floor : Rat) + ((1 : Int) : Rat)) * c.p := (Rat.div_lt_iff p0).mp f2
  have e1 : (((1 : Int)) : Rat) = 1 := rfl
  rw [e1] at g2
  obtain ⟨q1, q2⟩ := trk.plc y
  generalize plc c.at y = k at *
  have u1 : (y / c.p).floor * c.row.length - 1 < k := by
    refine trk.lt_iff.mp ?_
    have h1 := rowAt_add (p := c.p) (r := c.r) hn ((c.row.length - 1 : Nat) : Int) ((y / c.p).floor - 1)
    rw [rowAt_nat _ (by omega), show ((c.row.length - 1 : Nat) : Int) + ((y / c.p).floor - 1) * c.row.length = (y / c.p).floor * c.row.length - 1 from by rw [Int.sub_mul]; omega] at h1
    have := ((ok.ok hn).pt _ (List.getElem_mem (show c.row.length - 1 < c.row.length by omega))).hi
    have : (c.at ((y / c.p).floor * c.row.length - 1)).a < y := by
      unfold Crv.at
      rw [h1]
      show _ + _ < y
      rw [Rat.intCast_sub]
      grind
    grind
  have u2 : k - 1 < ((y / c.p).floor + 1) * c.row.length := by
    refine trk.lt_iff.mp ?_
    have : y < (c.at (((y / c.p).floor + 1) * c.row.length)).a := by
      rw [h0, Rat.intCast_add, e1]
      have := okp.lo
      grind
    grind
  have hd := qs_div y c.p
  have hf := bz_floor (y / c.p)
  have hzp := hz.p hn
  have hzl := hz.len
  have b1 := bi_mul (y / c.p).floor c.row.length
  have b2 := bi_add ((y / c.p).floor * c.row.length) (k - (y / c.p).floor * c.row.length)
  have b3 : bz (c.row.length : Int) ≤ 14 := bi_lt (by omega) (by omega)
  rw [Int.add_mul] at u2
  have b4 : bz (k - (y / c.p).floor * c.row.length) ≤ 15 := bi_lt (by omega) (by omega)
  rw [show (y / c.p).floor * (c.row.length : Int) + (k - (y / c.p).floor * c.row.length) = k from by omega] at b2
  omega
end DL
namespace DL
open PySem PySem.Spec PyProof.Rows L2 Mt
noncomputable abbrev cvX (c : Crv) : List D := [qD c.p, qD c.r, .tup (c.row.map ptD), qD c.s, qD c.b, formD c, qD (c.arn 0).v]
section
variable {K : PySem.W.Frag} {M : Mem} {Q : VD} {c : Crv} {f m : Str} {d : D} {P : Prop} {k : Int} {a : Arn} {E : XD} {rho : Rho} {N : Rho → Mem → Prop} {t : TGsD}
theorem e_fldC (e : (cvN.zip (cvX c)).lookup f = some d) (h : Q d M) : fldD (He.ga K "Curve") f (crvD K c) M Q := e_fldo e h
theorem e_isiK (e : (cvN.zip (cvX c)).lookup m = none) (h : P) : isI (He.ga K "Curve") m M (crvD K c) ∧ P := e_isi e h
theorem e_conC (e : (cvN.zip (cvX c)).lookup f = none) (h : Q d M) : conD (He.ga K "Curve") f d (crvD K c) M Q := e_cono e h
def arnD (a : Arn) : D := .tup [qD a.l, qD a.v, qD a.r, qD a.sb, qD a.sa]
theorem e_ixar (e : L2.atI [qD a.l, qD a.v, qD a.r, qD a.sb, qD a.sa] k = some d) (h : Q d M) : rIx_ (arnD a) (.int k) M Q := e_ix rfl e h
theorem e_htar (h : t [qD a.l, qD a.v, qD a.r, qD a.sb, qD a.sa] E rho M N) : hTup 5 t (arnD a) E rho M N := ⟨rfl, h⟩
end
end DL
namespace DL
open PySem PySem.Spec PyProof.Rows L2 Mt
def Crv.nums (c : Crv) : List Rat := [c.p, c.r, if c.row = [] then c.b else 0] ++ c.row.flatMap fun q => [q.a, q.l, q.v, q.r]
def Crv.long (c : Crv) : Bool := c.nums.any bigQ
def Crv.ris (c : Crv) : Bool := decide (c.row = []) || (List.range c.row.length).any fun k : Nat => decide (0 < slB (c.at k) (c.at (k + 1)))
def Crv.Eq' (c d : Crv) : Prop := c.p = d.p ∧ c.r = d.r ∧ c.row = d.row ∧ (if c.row = [] then c.b else 0) = (if d.row = [] then d.b else 0)
instance (c d : Crv) : Decidable (Crv.Eq' c d) := inferInstanceAs (Decidable (c.p = d.p ∧ c.r = d.r ∧ c.row = d.row ∧ (if c.row = [] then c.b else 0) = (if d.row = [] then d.b else 0)))
end DL
namespace DL
open PySem PySem.Spec PyProof.Rows L2 Mt
theorem insOf_app {M L : Mem} {x : D} {v : Addr × List (Str × D)} (h : insOf M x = some v) : insOf (M ++ L) x = some v := by
  cases x <;> first | exact h | skip
  unfold insOf at h ⊢
  rename_i i
  cases e : M[i]? with
  | none => simp only [e] at h; cases h
  | some o =>
    simp only [e] at h
    have e2 : (M ++ L)[i]? = some o := by rw [List.getElem?_append_left (List.getElem?_eq_some_iff.mp e).1]; exact e
    simp only [e2]
    exact h
theorem CrvX.app {K : PySem.W.Frag} {M L : Mem} {x : D} {c : Crv} {fs : List (Str × D)} (h : CrvX K M x c fs) : CrvX K (M ++ L) x c fs := ⟨insOf_app h.ins, h.p, h.r, h.row, h.s, h.b, h.m1, h.m2, h.m3, h.m4, h.m5⟩
theorem mem_at {M : Mem} {o : Option MO} : (M ++ [o])[M.length]? = some o := List.getElem?_concat_length ..
theorem range_map (n : Nat) : rangeD 0 n = (List.range n).map fun i : Nat => D.int (i : Int) := by
  unfold rangeD
  congr 1
  funext i
  rw [Int.zero_add]
theorem num_pos {q : Rat} : 0 < q.num ↔ 0 < q := by
  have h := Rat.lt_iff (a := 0) (b := q)
  rw [h]
  simp
theorem mem_put {M : Mem} {o o' : Option MO} : (M ++ [o]).set M.length o' = M ++ [o'] := by simp
end DL

/-! more of lists: extend by a tuple -/
namespace PySem.AutoSeq1
theorem list_extend_tupG (l : Addr) (items : Array Value) (n : Nat) (b : Addr) (o : Obj) (items2 : Array Value) (n2 : Nat) (hc : o.cls = .type "tuple") (hd : o.data = .seq items2 n2) (hs0 : ¬(!items.isEmpty && Builtin.List.listTooLong (items.size + items2.size)) = true) (hs1 : items.size ≤ sizeLine) (hs2 : items.size + items2.size ≤ sizeLine + 1) :
    Meets (Builtin.«list.extend» ⟨[.ref l, .ref b], []⟩) (fun _ R s => s.heap.get? l = some { cls := .type "list", dict := none, data := .seq items n, slots := #[] } ∧ s.heap.get? b = some o ∧ R (.ok (.ret Value.none)) { s with heap := s.heap.update l (Obj.mapSeq fun x => x ++ items2), toks := s.toks }) :=
  .of_wp fun prog w A R s h => by
    obtain ⟨cls, dict, data, slots⟩ := o
    simp only at hc hd
    subst hc hd
    obtain ⟨hp, g, d, tk, os⟩ := s; obtain ⟨hl, hb, h⟩ := h; have f1 := idx_int; have f2 := sub_tuple_tuple; have f3 := sub_list_list; have f4 := sub_tuple_list; have f5 := sub_list_tuple;
    have hz' : (items ++ items2).size ≤ sizeLine + 1 := by rw [Array.size_append]; exact hs2
    wp_walk using (wpAny_updateSeq hl rfl (hz := hs1) (_hz' := hz')), wpAny_loadPart' hl, wpAny_loadPart' hb; exact ⟨_, rfl, h⟩
end PySem.AutoSeq1
namespace DL
open PySem PySem.Spec PyProof.Rows L2 Mt
section
variable {X : Cx} {Tb : List (Addr × Str)}
def rExtendT : V → List V → Hp → VK → Prop := fun x vs H Q => ∃ l b xs zs, x = .ref l ∧ vs = [.ref b] ∧ H l = some (.lst xs) ∧ SqT X.K H b zs ∧ xs.length + zs.length ≤ sizeLine ∧ Q .non (upd H l (.lst (xs ++ zs)))
theorem mt_extendT : MtM X "list.extend" (rExtendT (X := X)) := by
  intro pins s σ H x vs v us Q I rx rv h
  obtain ⟨l, b, xs, zs, rfl, rfl, hH, hB, hz, q⟩ := h
  cases rx
  obtain ⟨u, rfl, ru⟩ := rv.one
  cases ru
  obtain ⟨z, its, n, r, hl, e⟩ := I.lstM hH
  obtain ⟨its2, r2, pl, hz2⟩ := I.tuple hB
  have hl2 := r2.length
  obtain ⟨o, ho, hc, n2, hd⟩ := pl
  have hsz : its.toArray.size + its2.toArray.size ≤ sizeLine := by rw [List.size_toArray, List.size_toArray]; omega
  have hlong : ¬ (!its.toArray.isEmpty && Builtin.List.listTooLong (its.toArray.size + its2.toArray.size)) = true := by
    rw [notLongL hsz, Bool.and_false]
    exact Bool.false_ne_true
  refine call_meets F.slot_list_extend ⟨_, e, rfl⟩ F.entry_list_extend (F.args_list_extend_2 _ _)
    (AutoSeq1.list_extend_tupG l its.toArray n b o its2.toArray n2 hc hd hlong (by rw [List.size_toArray]; omega) (by omega)) ⟨e, ho, ?_⟩
  refine ⟨.non, _, I.lset (its' := its ++ its2) hH e (by simp) (r.append r2) ?_, rfl, q⟩
  rw [List.length_append]
  omega
def rExtend2 : V → List V → Hp → VK → Prop := fun x vs H Q => rExtend x vs H Q ∨ rExtendT (X := X) x vs H Q
theorem mt_extend2 : MtM X "list.extend" (rExtend2 (X := X)) := by
  intro pins s σ H x vs v us Q I rx rv h
  rcases h with h | h
  · exact mt_extend pins s σ H x vs v us Q I rx rv h
  · exact mt_extendT pins s σ H x vs v us Q I rx rv h
/-- what a list can be extended by -/
def asE (M : Mem) : D → Option (List D)
  | .tup xs => some xs
  | .lst xs => some xs
  | .mt i => memL M i
  | _ => none
def rExtD : RDM := fun x ds M Q => match x, ds with
  | .mt i, [y] => (match memL M i, asE M y with
    | some xs, some ys => xs.length + ys.length ≤ sizeLine ∧ Q .non (M.set i (some (.lst (xs ++ ys))))
    | _, _ => False)
  | _, _ => False
theorem ref_extD : RefM X.K Tb (rExtend2 (X := X)) rExtD := by
  intro al M H x xs d ds Q QV w rx rs h p
  unfold rExtD at h
  split at h
  · rename_i i y
    obtain ⟨v, rfl, rv⟩ := rs.one
    split at h
    · rename_i zs ys e1 e2
      obtain ⟨b, us, rfl, hb, hm, hH, ru⟩ := memL_ok w e1 rx
      by_cases ht : ∃ ts, y = .tup ts
      · obtain ⟨ts, rfl⟩ := ht
        cases e2
        obtain ⟨c, ws, rfl, hc, rw'⟩ := rv
        obtain ⟨g1, g2⟩ := set_lst w hb hm hH (ru.append rw')
        exact .inr ⟨b, c, us, ws, rfl, rfl, hH, hc.sq, by rw [← ru.length, ← rw'.length]; exact h.1, p _ .non _ _ _ g1 g2 rfl h.2⟩
      · have e3 : asL M y = some ys := by
          cases y <;> first | exact e2 | (cases e2; done) | skip
          exact absurd ⟨_, rfl⟩ ht
        obtain ⟨c, ws, rfl, hc, rw'⟩ := asL_ok w e3 rv
        obtain ⟨g1, g2⟩ := set_lst w hb hm hH (ru.append rw')
        exact .inl ⟨b, c, us, ws, rfl, rfl, hH, hc, by rw [← ru.length, ← rw'.length]; exact h.1, p _ .non _ _ _ g1 g2 rfl h.2⟩
    · exact h.elim
  · exact h.elim
end
theorem e_ext {i : Nat} {xs ys : List D} {y : D} {M : Mem} {Q : VD} (e : M[i]? = some (some (.lst xs))) (h2 : asE M y = some ys) (hl : xs.length + ys.length ≤ sizeLine) (h : Q .non (M.set i (some (.lst (xs ++ ys))))) : rExtD (.mt i) [y] M Q := by
  unfold rExtD
  simp only [memL, e, h2]
  exact ⟨hl, h⟩
end DL
namespace DL
open PySem PySem.Spec PyProof.Rows L2 Mt
theorem mem_self {M : Mem} {i : Nat} {o : Option MO} (h : M[i]? = some o) : M.set i o = M := by
  apply List.ext_getElem?
  intro j
  by_cases e : i = j
  · subst e
    rw [List.getElem?_set_self (List.getElem?_eq_some_iff.mp h).1, h]
  · rw [List.getElem?_set_ne e]
theorem take_lst {α : Type} {f : α → D} {xs : List α} {n : Nat} {M : Mem} {Q : VD} (h : Q (.lst ((xs.take n).map f)) M) : rSl_ (.lst (xs.map f)) none (some (n : Int)) M Q := by
  refine e_sll (ys := (xs.take n).map f) ?_ h
  rw [List.map_take]
  exact cut_to n
/-- parts of the normal form -/
theorem norm_str {p r o : Rat} {pts : List Pt} (h : keptP p r pts = []) : norm p r pts o = ⟨1, r / p, [], r / p, baseP p r o pts⟩ := by
  unfold norm; rw [if_pos h]
theorem norm_not {p r o : Rat} {pts : List Pt} (h : keptP p r pts ≠ []) : norm p r pts o = ⟨p / (eqParts p r (keptP p r pts) : Nat), r / (eqParts p r (keptP p r pts) : Nat), (keptP p r pts).take ((keptP p r pts).length / eqParts p r (keptP p r pts)), r / p, o⟩ := by
  unfold norm; rw [if_neg h]
theorem kept_len {p r : Rat} {pts : List Pt} : (keptP p r pts).length ≤ pts.length := by
  rw [keptP_eq, List.length_map]
  exact Nat.le_trans (List.length_filter_le ..) (by simp)
theorem eqParts_le {p r : Rat} {row : List Pt} (h : row ≠ []) : eqParts p r row ≤ row.length := by
  obtain ⟨n, n0, h1, _, _⟩ := eqParts_spec (p := p) (r := r) (row := row)
  rw [(h1 h).1]
  exact Nat.le_mul_of_pos_left _ n0
theorem qs_nat {n k : Nat} (h : n < 2 ^ k) (h1 : 1 ≤ k) : qs (n : Rat) ≤ k := by
  have h2 := qs_int (n : Int)
  have h3 : bz (n : Int) ≤ k := bs_le h
  rw [Rat.intCast_natCast] at h2
  omega
theorem row_take_ne {p r : Rat} {row : List Pt} (h : row ≠ []) : row.take (row.length / eqParts p r row) ≠ [] := by
  obtain ⟨n, n0, h1, h2, _⟩ := eqParts_spec (p := p) (r := r) (row := row)
  rw [h2 h]
  intro z
  have := congrArg List.length z
  have := List.length_pos_iff.mpr h
  rw [List.length_take, List.length_nil] at *
  omega
end DL
namespace DL
open PySem PySem.Spec PyProof.Rows L2 Mt
theorem CutX.set {E : XD} {x : Exn} {M : Mem} {i : Nat} {mo : MO} (h : D.hbs M.length (x.fs.map (·.2)) = true) (ok : okM M.length M) (hm : mo.hb M.length = true) (q : E x (M.set i (some mo))) : CutX M.length E x (M.set i (some mo)) := by
  refine ⟨h, ?_, ?_⟩
  · intro j m hj e
    by_cases z : i = j
    · subst z
      rw [List.getElem?_set_self hj] at e
      cases e
      exact hm
    · rw [List.getElem?_set_ne z] at e
      exact ok j m hj e
  · rw [List.take_of_length_le (by rw [List.length_set]; exact Nat.le_refl _)]
    exact q
end DL
namespace DL
open PySem PySem.Spec PyProof.Rows L2 Mt
theorem qs_pos (q : Rat) : 1 ≤ qs q := Nat.le_trans (by unfold bs; have := q.den_pos; split <;> omega) (qs_den q)
theorem qs_wthn (o u : Rat) : qs (wthn o u) ≤ 2 * qs o + 2 * qs u + 1 := by
  unfold wthn
  have h1 := qs_div o u
  have h2 := bz_floor (o / u)
  have h3 := qs_int (o / u).floor
  have h4 := qs_mul ((o / u).floor : Rat) u
  have h5 := qs_sub o (((o / u).floor : Rat) * u)
  have := qs_pos o
  have := qs_pos u
  omega
theorem Crv.short {c : Crv} (h : ∀ q ∈ c.nums, qs q ≤ 199) : c.long = false := by
  unfold Crv.long
  rw [List.any_eq_false]
  intro q hq
  rw [big_no (h q hq)]
  decide
/-- what is not long is small -/
theorem big_qs {q : Rat} (h : bigQ q = false) : qs q ≤ 200 := by
  unfold bigQ at h
  rw [Bool.or_eq_false_iff, decide_eq_false_iff_not, decide_eq_false_iff_not] at h
  have e : (10 : Int) ^ 60 < 2 ^ 200 := by decide
  unfold qs
  refine Nat.max_le.mpr ⟨bs_le ?_, bs_le ?_⟩
  · have : (q.num.natAbs : Int) < ((2 ^ 200 : Nat) : Int) := Int.lt_trans (Int.not_le.mp h.1) (by decide)
    exact Int.ofNat_lt.mp this
  · have : (q.den : Int) < ((2 ^ 200 : Nat) : Int) := Int.lt_trans (Int.not_le.mp h.2) (by decide)
    exact Int.ofNat_lt.mp this
theorem Crv.small {c : Crv} (ok : c.Ok) (h : c.long = false) (hl : c.row.length < 10000) (hb : qs c.b ≤ 1200) : c.Sz 200 := by
  have hs : ∀ q ∈ c.nums, qs q ≤ 200 := fun q hq => big_qs (by
    unfold Crv.long at h
    rw [List.any_eq_false] at h
    simpa using h q hq)
  have hp := hs c.p (by simp [Crv.nums])
  have hr := hs c.r (by simp [Crv.nums])
  refine ⟨fun _ => hp, fun _ => hr, ?_, hb, fun q hq => ?_, hl⟩
  · rw [ok.s]
    have := qs_div c.r c.p
    omega
  · have : ∀ x ∈ [q.a, q.l, q.v, q.r], x ∈ c.nums := fun x hx => List.mem_append_right _ (List.mem_flatMap.mpr ⟨q, hq, hx⟩)
    exact ⟨hs _ (this _ (by simp)), hs _ (this _ (by simp)), hs _ (this _ (by simp)), hs _ (this _ (by simp))⟩
theorem flC_short {u o : Rat} (h : 2 * qs o + 3 * qs u ≤ 196) : (flC u o).long = false := by
  refine Crv.short fun q hq => ?_
  have hw := qs_wthn o u
  have hw2 := qs_sub (wthn o u) u
  have q0 : qs (0 : Rat) = 1 := by decide
  simp [Crv.nums, flC, flP] at hq
  rcases hq with rfl | rfl | rfl | rfl | rfl <;> omega
theorem clC_short {u o : Rat} (h : 2 * qs o + 3 * qs u ≤ 196) : (clC u o).long = false := by
  refine Crv.short fun q hq => ?_
  have hw := qs_wthn o u
  have hw2 := qs_add (wthn o u) u
  have q0 : qs (0 : Rat) = 1 := by decide
  simp [Crv.nums, clC, clP] at hq
  rcases hq with rfl | rfl | rfl | rfl <;> omega
end DL

/-! lists that are lent to a def -/
namespace DL
open PySem PySem.Spec PyProof.Rows L2 Mt
mutual
/-- no list within -/
def D.nl : D → Bool
  | .lst _ => false
  | .rol _ => false
  | .tup xs => D.nls xs
  | .obj _ _ xs => D.nls xs
  | .exc _ _ xs => D.nls xs
  | .dk _ xs => D.nls xs
  | .dt _ xs => D.nls xs
  | _ => true
def D.nls : List D → Bool
  | [] => true
  | d :: r => d.nl && D.nls r
end
def MO.nl : MO → Bool
  | .lst xs => D.nls xs
  | .dK kvs => D.nls (kvs.map (·.2))
  | .dT _ xs => D.nls xs
  | .ins _ fs => D.nls (fs.map (·.2))
/-- a cell that holds a list, or nothing -/
def MO.isL : MO → Bool
  | .lst _ => true
  | _ => false
/-- M' is M with more cells live, all of them lists -/
structure More (al : Al) (M M' : Mem) (H : Hp) : Prop where
  at_ : ∀ (j : Nat) (b : Addr) (mo : MO), al.a[j]? = some b → M'[j]? = some (some mo) → M[j]? = some (some mo) ∨ ∃ xs, H b = some (.lst xs)
theorem More.fz {al : Al} {M M' : Mem} {H : Hp} (m : More al M M' H) {b : Addr} {o : HO} (h : H b = some o) (n : ∀ xs, o ≠ .lst xs) (f : Fz al M b) : Fz al M' b :=
  ⟨f.1, fun j mo e1 e2 => (m.at_ j b mo e1 e2).elim (fun q => f.2 j mo e1 q) fun ⟨xs, q⟩ => n xs (Option.some.inj (h.symm.trans q))⟩
mutual
theorem Rp.more {K : PySem.W.Frag} {al : Al} {M M' : Mem} {H : Hp} (m : More al M M' H) : ∀ {d : D} {v : V}, d.nl = true → Rp K al M H d v → Rp K al M' H d v
  | .non, _, _, h => h
  | .bl _, _, _, h => h
  | .int _, _, _, h => h
  | .str _, _, _, h => h
  | .ty _, _, _, h => h
  | .tup ds, _, l, h => by
    obtain ⟨a, xs, e, q, r⟩ := h
    refine ⟨a, xs, e, ?_, Rps.more m l r⟩
    rcases q with ⟨q, f⟩ | q
    · exact .inl ⟨q, m.fz q (fun _ z => by cases z) f⟩
    · exact .inr q
  | .lst ds, _, l, h => by cases l
  | .rol ds, _, l, h => by cases l
  | .obj C ns ds, _, l, h => by
    obtain ⟨a, dx, xs, e, q, f, g, r⟩ := h
    exact ⟨a, dx, xs, e, q, m.fz q (fun _ z => by cases z) f, g, Rps.more m l r⟩
  | .dk C ds, _, l, h => by
    obtain ⟨a, dx, xs, e, q, f, g, r⟩ := h
    exact ⟨a, dx, xs, e, q, m.fz q (fun _ z => by cases z) f, g, Rps.more m l r⟩
  | .dt C ds, _, l, h => by
    obtain ⟨a, dx, xs, e, q, f, g, r⟩ := h
    exact ⟨a, dx, xs, e, q, m.fz q (fun _ z => by cases z) f, g, Rps.more m l r⟩
  | .exc C ns ds, _, l, h => by
    obtain ⟨a, dx, xs, e, q, f, q2, f2, g, r⟩ := h
    exact ⟨a, dx, xs, e, q, m.fz q (fun _ z => by unfold exs at z; cases z) f, q2, m.fz q2 (fun _ z => by cases z) f2, g, Rps.more m l r⟩
  | .ref _, _, _, h => h
  | .mt i, _, _, h => h
theorem Rps.more {K : PySem.W.Frag} {al : Al} {M M' : Mem} {H : Hp} (m : More al M M' H) : ∀ {ds : List D} {xs : List V}, D.nls ds = true → Rps K al M H ds xs → Rps K al M' H ds xs
  | [], _, _, h => h
  | d :: ds, _, l, h => by
    obtain ⟨x, r, e, q, t⟩ := h
    have l : (d.nl && D.nls ds) = true := l
    rw [Bool.and_eq_true] at l
    exact ⟨x, r, e, Rp.more m l.1 q, Rps.more m l.2 t⟩
end
/-- the cells ahead of n rest -/
def dead (n : Nat) (M : Mem) : Mem := (M.take n).map (fun _ => none) ++ M.drop n
def back (n : Nat) (M M' : Mem) : Mem := M.take n ++ M'.drop n
def lendD (M : Mem) (n : Nat) : D → D
  | .mt i => if i < n then (match M[i]? with
    | some (some (.lst xs)) => .lst xs
    | _ => .mt i) else .mt i
  | d => d
/-- what is asked of the cells -/
structure LendOk (n : Nat) (M M' : Mem) : Prop where
  len : n ≤ M'.length
  hd : M'.take n = (dead n M).take n
  tl : ∀ (j : Nat) (mo : MO), n ≤ j → M'[j]? = some (some mo) → mo.nl = true
def lendSp (dsp : DSp) : DSp := fun ds M Q E => dsp ds M Q E ∨ ∃ n, n ≤ M.length ∧ (∀ (j : Nat) (mo : MO), j < n → M[j]? = some (some mo) → mo.isL = true) ∧
  dsp (ds.map (lendD M n)) (dead n M) (fun d M' => d.nl = true ∧ LendOk n M M' ∧ Q d (back n M M')) (fun x M' => D.nls (x.fs.map (·.2)) = true ∧ LendOk n M M' ∧ E x (back n M M'))
section
variable {K : PySem.W.Frag} {Tb : List (Addr × Str)} {al : Al} {M : Mem} {H : Hp} {n : Nat}
theorem dead_len (h : n ≤ M.length) : (dead n M).length = M.length := by
  unfold dead
  rw [List.length_append, List.length_map, List.length_take, List.length_drop]
  omega
theorem dead_lt (h : n ≤ M.length) {j : Nat} (hj : j < n) : (dead n M)[j]? = some none := by
  unfold dead
  rw [List.getElem?_append_left (by rw [List.length_map, List.length_take]; omega), List.getElem?_map, List.getElem?_take_of_lt hj, List.getElem?_eq_getElem (by omega)]
  rfl
theorem dead_ge (h : n ≤ M.length) {j : Nat} (hj : n ≤ j) : (dead n M)[j]? = M[j]? := by
  unfold dead
  rw [List.getElem?_append_right (by rw [List.length_map, List.length_take]; omega), List.length_map, List.length_take, List.getElem?_drop]
  congr 1
  omega
theorem fz_dead (h : n ≤ M.length) {b : Addr} (f : Fz al M b) : Fz al (dead n M) b :=
  ⟨f.1, fun j mo e1 e2 => by
    by_cases hj : j < n
    · rw [dead_lt h hj] at e2; cases e2
    · rw [dead_ge h (by omega)] at e2; exact f.2 j mo e1 e2⟩
theorem stp_dead (h : n ≤ M.length) : Stp al M H al (dead n M) H := ⟨fun _ _ e => e, fun b o e _ f => ⟨e, fz_dead h f⟩, rfl, fun _ _ => rfl⟩
theorem wf_dead (w : Wf K Tb al H M) (h : n ≤ M.length) : Wf K Tb al H (dead n M) :=
  ⟨by rw [dead_len h]; exact w.len, w.nd, fun j b mo e1 e2 => by
      by_cases hj : j < n
      · rw [dead_lt h hj] at e2; cases e2
      · rw [dead_ge h (by omega)] at e2
        have r := w.rep j b mo e1 e2
        have s : Stp al M H al (dead n M) H := stp_dead h
        cases mo with
        | lst ds => obtain ⟨zs, h1, h2⟩ := r; exact ⟨zs, h1, h2.mono s⟩
        | dK kvs => obtain ⟨zs, h1, h2⟩ := r; exact ⟨zs, h1, h2.mono s⟩
        | dT ks ds => obtain ⟨zs, h1, h2⟩ := r; exact ⟨zs, h1, h2.mono s⟩
        | ins C fs => obtain ⟨dx, zs, h1, h2⟩ := r; exact ⟨dx, zs, h1, h2.mono s⟩,
    w.there, w.tb, w.hth, fun j b mo e1 e2 => by
      by_cases hj : j < n
      · rw [dead_lt h hj] at e2; cases e2
      · rw [dead_ge h (by omega)] at e2; exact w.hdis j b mo e1 e2⟩
/-- a resting cell's address is free to be frozen -/
theorem fz_rest (w : Wf K Tb al H M) (h : n ≤ M.length) {i : Nat} {a : Addr} {mo : MO} (hi : i < n) (e : al.a[i]? = some a) (hm : M[i]? = some (some mo)) : Fz al (dead n M) a :=
  ⟨w.hdis i a mo e hm, fun j mo' e1 e2 => by
    have hij : i = j := by
      have h1 := List.getElem?_eq_some_iff.mp e
      have h2 := List.getElem?_eq_some_iff.mp e1
      exact (List.getElem_inj w.nd).mp (h1.2.trans h2.2.symm)
    subst hij
    rw [dead_lt h hi] at e2; cases e2⟩
theorem lend_rp (w : Wf K Tb al H M) (h : n ≤ M.length) {d : D} {v : V} (r : Rp K al M H d v) : Rp K al (dead n M) H (lendD M n d) v := by
  have s : Stp al M H al (dead n M) H := stp_dead h
  cases d with
  | mt i =>
    show Rp K al (dead n M) H (if i < n then (match M[i]? with
      | some (some (.lst xs)) => .lst xs
      | _ => .mt i) else .mt i) v
    by_cases hi : i < n
    · rw [if_pos hi]
      split
      · rename_i xs e
        obtain ⟨a, ea, rfl⟩ := r
        obtain ⟨zs, h1, h2⟩ := w.rep i a _ ea e
        exact ⟨a, zs, rfl, h1, fz_rest w h hi ea e, h2.mono s⟩
      · exact r.mono s
    · rw [if_neg hi]; exact r.mono s
  | _ => exact r.mono s
theorem lend_rps (w : Wf K Tb al H M) (h : n ≤ M.length) : ∀ {ds : List D} {vs : List V}, Rps K al M H ds vs → Rps K al (dead n M) H (ds.map (lendD M n)) vs
  | [], _, r => r
  | d :: ds, _, r => by
    obtain ⟨x, t, e, q, u⟩ := r
    exact ⟨x, t, e, lend_rp w h q, lend_rps w h u⟩
theorem back_lt {M' : Mem} {j : Nat} (h : n ≤ M.length) (hj : j < n) : (back n M M')[j]? = M[j]? := by
  unfold back
  rw [List.getElem?_append_left (by rw [List.length_take]; omega), List.getElem?_take_of_lt hj]
theorem back_ge {M' : Mem} {j : Nat} (h : n ≤ M.length) (hj : n ≤ j) : (back n M M')[j]? = M'[j]? := by
  unfold back
  rw [List.getElem?_append_right (by rw [List.length_take]; omega), List.length_take, List.getElem?_drop]
  congr 1
  omega
theorem LendOk.lt {M' : Mem} (k : LendOk n M M') (h : n ≤ M.length) {j : Nat} (hj : j < n) : M'[j]? = some none := by
  have := congrArg (fun l : Mem => l[j]?) k.hd
  simp only [List.getElem?_take_of_lt hj] at this
  rw [this, dead_lt h hj]
/-- behind the call -/
theorem lend_back {al' : Al} {M' : Mem} {H' : Hp} (w : Wf K Tb al H M) (h : n ≤ M.length) (hL : ∀ (j : Nat) (mo : MO), j < n → M[j]? = some (some mo) → mo.isL = true) (s : Stp al (dead n M) H al' M' H') (w' : Wf K Tb al' H' M') (k : LendOk n M M') :
    Stp al M H al' (back n M M') H' ∧ Wf K Tb al' H' (back n M M') ∧ More al' M' (back n M M') H' := by
  have old : ∀ {i a mo}, i < n → al.a[i]? = some a → M[i]? = some (some mo) → ∃ xs, H a = some (.lst xs) ∧ H' a = some (.lst xs) ∧ al'.a[i]? = some a := fun {i a mo} hi e hm => by
    have q := hL i mo hi hm
    cases mo with
    | lst ds =>
      obtain ⟨xs, h1, h2⟩ := w.rep i a _ e hm
      exact ⟨xs, h1, (s.fz a _ h1 (fun _ z => by cases z) (fz_rest w h hi e hm)).1, s.pre i a e⟩
    | dK _ => cases q
    | dT _ _ => cases q
    | ins _ _ => cases q
  have alla : ∀ {i b}, i < n → al'.a[i]? = some b → al.a[i]? = some b := fun {i b} hi e => by
    have hl := w.len
    have h1 : al.a[i]? = some (al.a[i]'(by omega)) := List.getElem?_eq_getElem (by omega)
    have := s.pre i _ h1
    rw [this] at e
    rw [h1]; exact e
  have more : More al' M' (back n M M') H' := ⟨fun j b mo e1 e2 => by
    by_cases hj : j < n
    · rw [back_lt h hj] at e2
      obtain ⟨xs, _, q, _⟩ := old hj (alla hj e1) e2
      exact .inr ⟨xs, q⟩
    · rw [back_ge h (by omega)] at e2
      exact .inl e2⟩
  have st : Stp al M H al' (back n M M') H' := ⟨s.pre, fun b o e nt f => by
    obtain ⟨q1, q2⟩ := s.fz b o e nt (fz_dead h f)
    refine ⟨q1, q2.1, fun j mo e1 e2 => ?_⟩
    by_cases hj : j < n
    · rw [back_lt h hj] at e2
      exact f.2 j mo (alla hj e1) e2
    · rw [back_ge h (by omega)] at e2
      exact q2.2 j mo e1 e2, s.hh, s.hid⟩
  refine ⟨st, ⟨?_, w'.nd, fun j b mo e1 e2 => ?_, w'.there, w'.tb, w'.hth, fun j b mo e1 e2 => ?_⟩, more⟩
  · rw [w'.len]
    unfold back
    rw [List.length_append, List.length_take, List.length_drop]
    have := k.len
    omega
  · by_cases hj : j < n
    · rw [back_lt h hj] at e2
      obtain ⟨xs, q1, q2, _⟩ := old hj (alla hj e1) e2
      have r := w.rep j b mo (alla hj e1) e2
      have q := hL j mo hj e2
      cases mo with
      | lst ds =>
        obtain ⟨ys, h1, h2⟩ := r
        rw [q1] at h1
        cases h1
        exact ⟨xs, q2, h2.mono st⟩
      | dK _ => cases q
      | dT _ _ => cases q
      | ins _ _ => cases q
    · rw [back_ge h (by omega)] at e2
      have r := w'.rep j b mo e1 e2
      have q := k.tl j mo (by omega) e2
      cases mo with
      | lst ds => obtain ⟨zs, h1, h2⟩ := r; exact ⟨zs, h1, Rps.more more q h2⟩
      | dK kvs => obtain ⟨zs, h1, h2⟩ := r; exact ⟨zs, h1, h2.1, Rps.more more q h2.2⟩
      | dT ks ds => obtain ⟨zs, h1, h2⟩ := r; exact ⟨zs, h1, h2.1, Rps.more more q h2.2⟩
      | ins C fs => obtain ⟨dx, zs, h1, h2⟩ := r; exact ⟨dx, zs, h1, h2.1, Rps.more more q h2.2⟩
  · by_cases hj : j < n
    · rw [back_lt h hj] at e2
      intro hm
      rw [s.hh] at hm
      exact w.hdis j b mo (alla hj e1) e2 hm
    · rw [back_ge h (by omega)] at e2
      exact w'.hdis j b mo e1 e2
theorem liftSp_lend {dsp : DSp} {vs : List V} {QV : VK} {EV : XK} (q : liftSp K Tb (lendSp dsp) vs H QV EV) : liftSp K Tb dsp vs H QV EV := by
  obtain ⟨al, M, ds, Q, E, w, r, hd, pv, px⟩ := q
  rcases hd with hd | ⟨n, hn, hL, hd⟩
  · exact ⟨al, M, ds, Q, E, w, r, hd, pv, px⟩
  · refine ⟨al, dead n M, ds.map (lendD M n), _, _, wf_dead w hn, lend_rps w hn r, hd, ?_, ?_⟩
    · rintro al' d M' v H' s w' r' ⟨q1, q2, q3⟩
      obtain ⟨s2, w2, m2⟩ := lend_back w hn hL s w' q2
      exact pv al' d _ v H' s2 w2 (Rp.more m2 q1 r') q3
    · rintro al' x M' cls dct H' s w' ⟨e, dx, ys, e2, h1, h2⟩ ⟨q1, q2, q3⟩
      obtain ⟨s2, w2, m2⟩ := lend_back w hn hL s w' q2
      exact px al' x _ cls dct H' s2 w2 ⟨e, dx, ys, e2, h1, h2.1, Rps.more m2 q1 h2.2⟩ q3
end
end DL
namespace DL
open PySem PySem.Spec PyProof.Rows L2 Mt
theorem FnD.lend {P : Program} {w : World} {K : PySem.W.Frag} {mg : Str → Option Value} {base : Heap} {Tb : List (Addr × Str)} {k : Nat} {f : Addr} {fd : FuncData} {ps : List Str} {dsp : DSp} (F : FnD P w K mg base Tb k f fd ps dsp) : FnD P w K mg base Tb k f fd ps (lendSp dsp) :=
  ⟨F.ok.imp fun _ _ _ _ q => liftSp_lend q⟩
/-! ### an empty dict -/
def dDn : TED := fun _ _ M Q => Q (.mt M.length) (M ++ [some (.dK [])])
theorem dv_dn {X : Cx} {Tb : List (Addr × Str)} {EV : XK} {pos : Pos} : PD X Tb EV (.Dict [] [] pos) dDn := pe_imp pe_dnewK fun σ H QV h => by
  obtain ⟨al, rho, M, E, Q, a, t, p⟩ := h
  intro b hb
  have s := stp_mut a.wf hb (.dK []) (.dK [])
  exact p _ (.mt M.length) _ _ _ s (wf_mut a.wf hb (fun _ z => by cases z) ⟨[], upd_same, Rpk.nil⟩) ⟨b, al_last a.wf, rfl⟩ t
/-! ### methods without arguments -/
def rClr_ : RDM := fun x ds M Q => match x, ds with
  | .mt i, [] => (match memL M i with
    | some _ => Q .non (M.set i (some (.lst [])))
    | none => False)
  | _, _ => False
def rRev_ : RDM := fun x ds M Q => match x, ds with
  | .mt i, [] => (match memL M i with
    | some xs => Q .non (M.set i (some (.lst xs.reverse)))
    | none => False)
  | _, _ => False
section
variable {X : Cx} {Tb : List (Addr × Str)}
theorem ref_clr : RefM X.K Tb rClear rClr_ := by
  intro al M H x xs d ds Q QV w rx rs h p
  unfold rClr_ at h
  split at h
  · rename_i i
    split at h
    · rename_i zs e1
      obtain ⟨b, us, rfl, hb, hm, hH, ru⟩ := memL_ok w e1 rx
      cases (show _ = [] from rs)
      obtain ⟨g1, g2⟩ := set_lst w hb hm hH (show Rps X.K al M H [] [] from rfl)
      exact ⟨b, us, rfl, rfl, hH, p _ .non _ _ _ g1 g2 rfl h⟩
    · exact h.elim
  · exact h.elim
theorem Rps.rev {K : PySem.W.Frag} {al : Al} {M : Mem} {H : Hp} : ∀ {ds : List D} {xs : List V}, Rps K al M H ds xs → Rps K al M H ds.reverse xs.reverse
  | [], _, h => by cases (show _ = [] from h); rfl
  | d :: ds, _, h => by
    obtain ⟨x, r, q, t, u⟩ := h
    subst q
    rw [List.reverse_cons, List.reverse_cons]
    exact (Rps.rev u).append ⟨x, [], rfl, t, rfl⟩
theorem ref_rev : RefM X.K Tb rReverse rRev_ := by
  intro al M H x xs d ds Q QV w rx rs h p
  unfold rRev_ at h
  split at h
  · rename_i i
    split at h
    · rename_i zs e1
      obtain ⟨b, us, rfl, hb, hm, hH, ru⟩ := memL_ok w e1 rx
      cases (show _ = [] from rs)
      obtain ⟨g1, g2⟩ := set_lst w hb hm hH ru.rev
      exact ⟨b, us, rfl, rfl, hH, p _ .non _ _ _ g1 g2 rfl h⟩
    · exact h.elim
  · exact h.elim
end
theorem e_bm0 {T : String} {rD : RDM} {to : TED} {E : XD} {rho : Rho} {M : Mem} {Q : VD} (h : to E rho M fun x M1 => tyB T M1 x = true ∧ rD x [] M1 Q) : dBM0 T rD to E rho M Q := h
theorem e_clr {i : Nat} {xs : List D} {M : Mem} {Q : VD} (e : M[i]? = some (some (.lst xs))) (h : Q .non (M.set i (some (.lst [])))) : rClr_ (.mt i) [] M Q := by
  unfold rClr_
  simp only [memL, e]
  exact h
theorem e_rev {i : Nat} {xs : List D} {M : Mem} {Q : VD} (e : M[i]? = some (some (.lst xs))) (h : Q .non (M.set i (some (.lst xs.reverse)))) : rRev_ (.mt i) [] M Q := by
  unfold rRev_
  simp only [memL, e]
  exact h
theorem e_dn {E : XD} {rho : Rho} {M : Mem} {Q : VD} (h : Q (.mt M.length) (M ++ [some (.dK [])])) : dDn E rho M Q := h
/-! ### twelfths -/
def tw (q : Rat) (n : Nat) : Prop := ∃ m : Nat, m ≤ n ∧ q = (m : Rat) / 12
theorem tw.add {a b : Rat} {n m : Nat} (h : tw a n) (g : tw b m) : tw (a + b) (n + m) := by
  obtain ⟨x, hx, rfl⟩ := h
  obtain ⟨y, hy, rfl⟩ := g
  refine ⟨x + y, by omega, ?_⟩
  rw [Rat.natCast_add]
  grind
theorem tw.mono {a : Rat} {n m : Nat} (h : tw a n) (e : n ≤ m) : tw a m := let ⟨x, hx, q⟩ := h; ⟨x, by omega, q⟩
theorem tw.pos {a : Rat} {n : Nat} (h : tw a n) : 0 ≤ a := by
  obtain ⟨x, hx, rfl⟩ := h
  have : (0 : Rat) ≤ x := by exact_mod_cast Nat.zero_le x
  grind
theorem tw.qs {a : Rat} {n k : Nat} (h : tw a n) (e : n < 2 ^ k) (hk : 4 ≤ k) : Mt.qs a ≤ k := by
  obtain ⟨x, hx, rfl⟩ := h
  have h1 := qs_divInt (x : Int) 12 (by decide)
  have e1 : (x : Rat) / 12 = Rat.divInt x 12 := by
    rw [← Rat.intCast_natCast, show (12 : Rat) = ((12 : Int) : Rat) from rfl, ← Rat.divInt_eq_div]
  rw [e1]
  have h2 : bz (x : Int) ≤ k := bs_le (by show x < 2 ^ k; omega)
  have h3 : bz (12 : Int) = 4 := by decide
  omega
theorem tw0 : tw 0 0 := ⟨0, by decide, by decide +kernel⟩
/-- points that rise: a chain -/
structure Chn (L0 sp lv : Rat) (pts : List Pt) : Prop where
  s0 : 0 ≤ sp
  l0 : L0 ≤ lv
  pt : ∀ q ∈ pts, 0 ≤ q.a ∧ q.a < sp ∧ q.l ≤ q.v ∧ q.v ≤ q.r ∧ q.r ≤ lv
  pw : pts.Pairwise fun x y => x.a < y.a ∧ x.r ≤ y.l
  hd : pts.head?.map Pt.l = some L0 ∨ (pts = [] ∧ lv = L0)
theorem Chn.nil {L0 sp : Rat} (h : 0 ≤ sp) : Chn L0 sp L0 [] := ⟨h, Rat.le_refl, (fun q hq => nomatch hq), .nil, .inr ⟨rfl, rfl⟩⟩
theorem Chn.snoc {L0 sp lv g lv' : Rat} {pts : List Pt} {q : Pt} (c : Chn L0 sp lv pts) (ha : q.a = sp) (hl : q.l = lv) (hv : q.l ≤ q.v) (hr : q.v ≤ q.r) (hg : 0 < g) (h' : q.r ≤ lv') : Chn L0 (sp + g) lv' (pts ++ [q]) := by
  have s0 := c.s0
  have l0 := c.l0
  refine ⟨by grind, by grind, fun x hx => ?_, ?_, .inl ?_⟩
  · rcases List.mem_append.mp hx with hx | hx
    · obtain ⟨a1, a2, a3, a4, a5⟩ := c.pt x hx
      exact ⟨a1, by grind, a3, a4, by grind⟩
    · have : x = q := by simpa using hx
      subst this
      exact ⟨by grind, by grind, hv, hr, h'⟩
  · rw [List.pairwise_append]
    refine ⟨c.pw, List.pairwise_singleton .., fun x hx y hy => ?_⟩
    have : y = q := by simpa using hy
    subst this
    obtain ⟨a1, a2, a3, a4, a5⟩ := c.pt x hx
    exact ⟨by grind, by grind⟩
  · rcases c.hd with h | ⟨h, e⟩
    · cases pts with
      | nil => cases h
      | cons x l => exact h
    · subst h
      show some q.l = some L0
      rw [hl, e]
theorem Chn.ok {L0 sp lv : Rat} {pts : List Pt} (c : Chn L0 sp lv pts) (hn : pts ≠ []) {e : Rat} (h1 : lv ≤ e) (h2 : L0 < e) : okPts sp (e - L0) pts := by
  have p0 : 0 < sp := by
    cases pts with
    | nil => exact absurd rfl hn
    | cons q l =>
      obtain ⟨a1, a2, _⟩ := c.pt q (List.mem_cons_self ..)
      grind
  have hd : ∀ h : pts ≠ [], (pts.head h).l = L0 := fun h => by
    cases pts with
    | nil => exact absurd rfl h
    | cons q l =>
      rcases c.hd with z | ⟨z, _⟩
      · exact Option.some.inj z
      · cases z
  refine ⟨p0, by grind, fun q hq => ?_, fun x hx => ?_⟩
  · obtain ⟨a1, a2, a3, a4, a5⟩ := c.pt q hq
    exact ⟨by grind, a2, by grind, by grind⟩
  · obtain ⟨j, hj⟩ := List.mem_iff_getElem?.mp hx
    obtain ⟨g1, g2⟩ := List.getElem?_zip_eq_some.mp hj
    have hjl : j < pts.length := (List.getElem?_eq_some_iff.mp g1).1
    rw [nextPts_get j hjl] at g2
    rw [List.getElem?_eq_getElem hjl] at g1
    obtain ⟨x1, x2⟩ := x
    simp only [Option.some.injEq] at g1 g2
    subst g1 g2
    by_cases hl : j + 1 < pts.length
    · have := List.pairwise_iff_getElem.mp c.pw j (j + 1) hjl hl (by omega)
      rw [show ((j : Int) + 1) = ((j + 1 : Nat) : Int) from rfl, rowAt_nat (j + 1) hl]
      exact ⟨this.1, by grind⟩
    · have el : (j : Int) + 1 = pts.length := by omega
      rw [el, rowAt_wrap hn]
      obtain ⟨a1, a2, a3, a4, a5⟩ := c.pt _ (List.getElem_mem hjl)
      obtain ⟨b1, b2, b3, b4, b5⟩ := c.pt _ (List.head_mem hn)
      have := hd hn
      refine ⟨?_, ?_⟩
      · show pts[j].a < (pts.head hn).a + 1 * sp
        grind
      · show ¬ (pts.head hn).l + 1 * (e - L0) < pts[j].r
        grind
end DL
namespace DL
theorem hbs_app {n : Nat} : ∀ {xs ys : List D}, D.hbs n xs = true → D.hbs n ys = true → D.hbs n (xs ++ ys) = true
  | [], _, _, h => h
  | d :: xs, ys, g, h => by
    have g : (d.hb n && D.hbs n xs) = true := g
    rw [Bool.and_eq_true] at g
    show (d.hb n && D.hbs n (xs ++ ys)) = true
    rw [g.1, hbs_app g.2 h]; rfl
end DL
namespace DL
open PySem PySem.Spec PyProof.Rows L2 Mt
theorem e_lenOn {C : Addr} {dsp : DSp} {x : D} {M : Mem} {Q : VD} (e : insOf M x = none) (h : rLen_ [x] M Q) : rLenO C dsp [x] M Q := by
  unfold rLenO
  simp only [e]
  exact h
end DL
namespace DL
open PySem PySem.Spec PyProof.Rows L2 Mt
/-- a, b, c = x, y, z (plain local names) -/
abbrev dPar3 (i j l : Nat) (ta : TAD) : TSD := fun E DD rho M => ta E rho M fun ds M1 => match ds with
  | [d, d', d''] => DD.nx (((rho.set i (some d)).set j (some d')).set l (some d'')) M1
  | _ => False
theorem dp_par3 {X : Cx} {Tb : List (Addr × Str)} {EV : XK} {pos : Pos} (i j l : Nat) {x y z : Str} {a b c : Expr} {ta : TAD} {px py pz pt : Pos} {kt k2 pt2} (hc : X.calm = true) (hN : X.N.Nodup) (ha : PDA X Tb EV [a, b, c] ta)
    (hw : swappedStores [.Tuple [.Name x px, .Name y py, .Name z pz] kt pt] (.Tuple [a, b, c] k2 pt2) X.env = pure (some [x, y, z])) (hi : X.N[i]? = some x := by rfl) (hj : X.N[j]? = some y := by rfl) (hl : X.N[l]? = some z := by rfl) (hij : i ≠ j := by decide) (hil : i ≠ l := by decide) (hjl : j ≠ l := by decide)
    (hx : X.env.scope.names.lookup x = some .local := by rfl) (hy : X.env.scope.names.lookup y = some .local := by rfl) (hz : X.env.scope.names.lookup z = some .local := by rfl)
    (hs : swapsWithSole [.Tuple [.Name x px, .Name y py, .Name z pz] kt pt] (.Tuple [a, b, c] k2 pt2) pos.line X.env = pure false := by rfl) :
    PDS X Tb EV (.Assign [.Tuple [.Name x px, .Name y py, .Name z pz] kt pt] (.Tuple [a, b, c] k2 pt2) pos) (dPar3 i j l ta) := ps_imp (ps_par3 hc hN hi hj hl hij hil hjl hx hy hz ha hw hs) fun DV σ H h => by
  obtain ⟨al, rho, M, E, DD, a, t, p⟩ := h
  refine seqA a t fun al1 ds M1 vs H1 s1 a1 r1 q1 => ?_
  split at q1
  · rename_i d d' d''
    obtain ⟨v, r, rfl, rv, v', r', rfl, rv', v'', r'', rfl, rv'', e⟩ := r1
    cases (show _ = [] from e)
    exact ⟨v, v', v'', rfl, p.nx _ _ _ _ _ s1 a1.wf (((a1.sl.set i rv).set j rv').set l rv'') q1⟩
  · exact q1.elim
theorem e_par3 {aa : TAD} {E : XD} {DD : DEnds} {rho : Rho} {M : Mem} {i j l : Nat} (h : aa E rho M fun ds M1 => match ds with
  | [d, d', d''] => DD.nx (((rho.set i (some d)).set j (some d')).set l (some d'')) M1
  | _ => False) : dPar3 i j l aa E DD rho M := h
end DL
namespace DL
open PySem PySem.Spec PyProof.Rows L2 Mt
/-! ### the draws and more cells -/
def RgX (M : Mem) (i : Nat) (L M' : Mem) : Prop := ∃ M2, RgTo M i M2 ∧ M' = M2 ++ L
theorem RgAt.lt {M : Mem} {i : Nat} (a : RgAt M i) : i < M.length := by
  obtain ⟨r, h, _⟩ := a
  exact (List.getElem?_eq_some_iff.mp h).1
section
variable {M M' M'' L : Mem} {i j : Nat} {o : Option MO}
theorem RgX.of (t : RgTo M i M') : RgX M i [] M' := ⟨M', t, by simp⟩
theorem RgX.at (a : RgAt M i) (g : RgX M i L M') : RgAt M' i := by
  obtain ⟨M2, t, rfl⟩ := g
  obtain ⟨r, h, ok⟩ := t.at a
  exact ⟨r, by rw [List.getElem?_append_left (List.getElem?_eq_some_iff.mp h).1]; exact h, ok⟩
theorem RgX.to (a : RgAt M i) (g : RgX M i L M') (t : RgTo M' i M'') : RgX M i L M'' := by
  obtain ⟨M2, t2, rfl⟩ := g
  obtain ⟨r, ok, rfl⟩ := t
  have hl : i < M2.length := by rw [t2.len]; exact a.lt
  refine ⟨M2.set i (some r.mo), t2.trans ⟨r, ok, rfl⟩, ?_⟩
  rw [List.set_append_left _ _ hl]
theorem RgX.len (g : RgX M i L M') : M'.length = M.length + L.length := by
  obtain ⟨M2, t, rfl⟩ := g
  rw [List.length_append, t.len]
theorem RgX.get (g : RgX M i L M') (j : Nat) : M'[M.length + j]? = L[j]? := by
  obtain ⟨M2, t, rfl⟩ := g
  rw [List.getElem?_append_right (by rw [t.len]; omega), t.len]
  congr 1
  omega
theorem RgX.app (g : RgX M i L M') : RgX M i (L ++ [o]) (M' ++ [o]) := by
  obtain ⟨M2, t, rfl⟩ := g
  exact ⟨M2, t, by simp⟩
theorem RgX.set (g : RgX M i L M') (j : Nat) : RgX M i (L.set j o) (M'.set (M.length + j) o) := by
  obtain ⟨M2, t, rfl⟩ := g
  refine ⟨M2, t, ?_⟩
  rw [List.set_append_right _ _ (by rw [t.len]; omega), t.len]
  congr 2
  omega
theorem RgX.cut {Q : VD} {d : D} (g : RgX M i L M') (h : d.hb M.length = true) (ok : okM M.length M) (q : ∀ M2, RgTo M i M2 → Q d M2) : Cut M.length Q d M' := by
  obtain ⟨M2, t, rfl⟩ := g
  refine ⟨M.length, Nat.le_refl _, h, fun j mo hj e => ?_, ?_⟩
  · rw [List.getElem?_append_left (by rw [t.len]; exact hj)] at e
    exact t.okM ok j mo hj e
  · rw [List.take_left' t.len]
    exact q M2 t
end
end DL
namespace DL
open PySem PySem.Spec PyProof.Rows L2 Mt
/-- the law as it is asked: no cell is there yet -/
def lawSp0 : DSp := fun ds M Q E => M = [] ∧ lawSp ds M Q E
theorem nls_map {α : Type} {e : α → D} (h : ∀ a, (e a).nl = true) : ∀ l : List α, D.nls (l.map e) = true
  | [] => rfl
  | a :: l => by show ((e a).nl && D.nls (l.map e)) = true; rw [h, nls_map h l]; rfl
theorem nl_row (l : List Pt) : (D.tup (l.map ptD)).nl = true := nls_map (fun _ => rfl) l
theorem nls_crv (c : Crv) : D.nls (cvX c) = true := by
  have h := nl_row c.row
  have hf : (formD c).nl = true := by
    show ((qD c.p).nl && ((qD c.r).nl && ((D.tup (c.row.map ptD)).nl && ((qD (if c.row = [] then c.b else 0)).nl && true)))) = true
    rw [h]; rfl
  show ((qD c.p).nl && ((qD c.r).nl && ((D.tup (c.row.map ptD)).nl && ((qD c.s).nl && ((qD c.b).nl && ((formD c).nl && ((qD (c.arn 0).v).nl && true))))))) = true
  rw [h, hf]; rfl
theorem nl_crv {K : PySem.W.Frag} (c : Crv) : (crvD K c).nl = true := nls_crv c
/-- only lists in the cells -/
def AllL (M : Mem) : Prop := ∀ (j : Nat) (mo : MO), M[j]? = some (some mo) → mo.isL = true
theorem AllL.nil : AllL [] := fun j mo e => by simp at e
theorem AllL.app {M L : Mem} (h : AllL M) (g : AllL L) : AllL (M ++ L) := fun j mo e => by
  by_cases hj : j < M.length
  · rw [List.getElem?_append_left hj] at e; exact h j mo e
  · rw [List.getElem?_append_right (by omega)] at e; exact g _ mo e
theorem AllL.one {xs : List D} : AllL [some (.lst xs)] := fun j mo e => by
  cases j with
  | zero => simp at e; rw [← e]; rfl
  | succ j => simp at e
theorem AllL.cons {xs : List D} {L : Mem} (g : AllL L) : AllL (some (.lst xs) :: L) := AllL.app (M := [some (.lst xs)]) .one g
theorem AllL.consN {L : Mem} (g : AllL L) : AllL (none :: L) := AllL.app (M := [none]) (fun j mo e => by cases j <;> simp at e) g
theorem RgL.allL {L M' : Mem} (g : RgL [] L M') (h : AllL L) : AllL M' := by
  obtain ⟨r, _, rfl⟩ := g
  exact AllL.cons (xs := r.items) h
/-- lending all cells to what makes an object -/
theorem dead_ins {M : Mem} {o : Option MO} : dead M.length (M ++ [o]) = M.map (fun _ => none) ++ [o] := by
  unfold dead
  rw [List.take_left' rfl, List.drop_left' rfl]
theorem back_ins {M M2 : Mem} {o o' : Option MO} (h : M2.length = M.length) : back M.length (M ++ [o]) (M2 ++ [o']) = M ++ [o'] := by
  unfold back
  rw [List.take_left' rfl, ← h, List.drop_left' rfl]
theorem lend_ins {M : Mem} {o : Option MO} {mo : MO} (h : mo.nl = true) : LendOk M.length (M ++ [o]) (M.map (fun _ => none) ++ [some mo]) := by
  refine ⟨by simp, ?_, fun j mo' hj e => ?_⟩
  · rw [dead_ins, List.take_left' (by simp), List.take_left' (by simp)]
  · rw [List.getElem?_append_right (by simpa using hj)] at e
    have : j - (M.map fun _ => (none : Option MO)).length = 0 ∨ 0 < j - (M.map fun _ => (none : Option MO)).length := by omega
    rcases this with z | z
    · rw [z] at e; simp at e; rw [← e]; exact h
    · rw [List.getElem?_eq_none (by simp; simp at z; omega)] at e; cases e
end DL

/-! a lambda with one default, handed to a def -/
namespace LamE
open PySem PySem.Spec PySem.Calls PyProof.Rows L2 LamX
/-- the record of a lambda with defaults -/
abbrev fdL (q : Str) (params : Arguments) (body : Expr) (scope : Scope) (cl : List (Str × Addr)) (pm cv ct dV : Value) : FuncData :=
  { name := "<lambda>", qualname := q, params := params, body := .expr body, scope := scope, globals := mainGlobals, closure := cl, defaults := dV, kwdefaults := .none, doc := .none, pyModule := pm, annotations := none, code := cv, closureTuple := ct, builtins := builtinsNs }
abbrev obL (q : Str) (params : Arguments) (body : Expr) (scope : Scope) (cl : List (Str × Addr)) (pm : Value) (c' : Addr) (ct dV : Value) : Obj := { cls := .type "function", data := .func (fdL q params body scope cl pm (.ref c') ct dV) }
/-- how the code object came: new, or found -/
def Came (P : Addr) (ps : Array Value) (pos : Pos) (q : Str) (h h' : Heap) (c' : Addr) : Prop :=
  (Heap.ExtBut P h h' ∧ h.objs.size ≤ c' ∧ c' < h'.objs.size ∧ h'.CodeRec (.ref c') q ∧ h'.get? P = some (PySem.W.tabObj (ps ++ #[rawInt pos.line, rawInt pos.col, .ref c']))) ∨
  (codeAmong pos ps.toList = some (.ref c') ∧ (∀ b o, h.get? b = some o → h'.get? b = some o) ∧ h.objs.size ≤ h'.objs.size)
section
variable {M : Model} {A : Around} {E : Value → Shared → Prop} {s : Shared}
theorem tupStep {b : Bool} {l : List Value} {k : Value → Sem Value} {Q : Value → Shared → Prop} (h : ∀ v h1, (∀ a o, s.heap.get? a = some o → h1.get? a = some o) → s.heap.objs.size ≤ h1.objs.size → wpAny M A (k v) Q E { s with heap := h1 }) :
    wpAny M A (if b = true then pure .none >>= k else newTextTuple l >>= k) Q E s := by
  cases b
  · rw [if_neg (by decide)]
    exact wpAny_bind (wpAny_newTextTuple (h _ _ (fun _ _ e => Heap.get?_push_of_some _ e) (by rw [Heap.size_push]; omega)))
  · rw [if_pos rfl]
    exact wpAny_bind (wpAny_pure (h _ s.heap (fun _ _ e => e) (Nat.le_refl _)))
theorem tailL {q : Str} {params : Arguments} {body : Expr} {scope : Scope} {env : Env} {c P : Addr} {ps : Array Value} {pos : Pos} {fl : Nat} {mg : Str → Option Value} {cl : List (Str × Addr)} {Q : Value → Shared → Prop} {dV : Value}
    (h1 : closureFor scope env = pure cl) (h2 : env.globals = mainGlobals) (G : s.heap.Ns mainGlobals mg) (h3 : env.code = .ref c) (C : PySem.W.CodeHd s.heap c P) (hP : s.heap.get? P = some (PySem.W.tabObj ps)) (ht : TriplesOk ps.toList)
    (hcv : ∀ cv, codeAmong pos ps.toList = some cv → ∃ c', cv = .ref c') (gP : mainGlobals ≠ P) (B : s.heap.BuiltinsAt mg P)
    (hQ : ∀ c' ct h' tk, Came P ps pos q s.heap h' c' → Q (.ref h'.objs.size) { s with heap := h'.push (obL q params body scope cl ((mg "__name__").getD .none) c' ct dV), toks := tk }) :
    wpAny M A (makeTail "<lambda>" q params (.expr body) scope env dV .none none pos fl) Q E s := by
  obtain ⟨bm, ob, b1, b2, b3, b4, b5, b6, b7, b8⟩ := B
  unfold makeTail
  rw [h1, h2]
  refine wpAny_bind (wpAny_pure ?_)
  dsimp only
  refine tupStep fun ct hp k sz => ?_
  have C1 := C.keeps k
  have hP1 := k _ _ hP
  have G1 := G.keeps k
  cases hf : codeAmong pos ps.toList with
  | none =>
    refine wpAny_bind (wpAny_functionCodeX h3 (C1.code hP1 ht) (C1.tab hP1) hf fun c' h' tk x1 x2 x3 _ x4 x5 _ => ?_)
    have G2 := G1.extBut x1 gP
    refine wpAny_bind (wpAny_builtinsFor G2 b1 b2 (x1 _ _ b4 (k _ _ b5)) b6 b7 b8 (wpAny_bind (wpAny_nsGet G2 (wpAny_bind (wpAny_pure (wpAny_newObj_type ?_ (by size_fits)))))))
    exact hQ c' ct h' tk (.inl ⟨fun b o n e => x1 b o n (k b o e), Nat.le_trans sz x2, x3, x4, x5.2⟩)
  | some cv =>
    obtain ⟨c', rfl⟩ := hcv cv hf
    refine wpAny_bind (wpAny_functionCode_hit h3 (C1.code hP1 ht) hf ?_)
    refine wpAny_bind (wpAny_builtinsFor G1 b1 b2 (k _ _ b5) b6 b7 b8 (wpAny_bind (wpAny_nsGet G1 (wpAny_bind (wpAny_pure (wpAny_newObj_type ?_ (by size_fits)))))))
    exact hQ c' ct hp s.toks (.inr ⟨hf, k, sz⟩)
end
section
variable {X : Cx} {pins : List (Addr × Obj)} {σ : L2.St} {H : Hp} {s : Shared}
/-- the lambda is made -/
theorem makeL {T : List (Addr × Str)} {c P : Addr} {params : Arguments} {body : Expr} {scope : Scope} {pos dp : Pos} {dn : Int} {dj : Nat} {E : Value → Shared → Prop} {Q : Value → Shared → Prop} (I : Inv X pins σ H s) (TB : TabB X.base X.mg c P) (hcode : X.env.code = .ref c)
    (hm : (P, X.env.qual ++ "<lambda>") ∈ T) (hu : ∀ p ∈ T, p.1 = P → p.2 = X.env.qual ++ "<lambda>") (hT : Tabs T H) (hdef : defaultsOf params X.env = ([eval (.Constant (.int dn) dj dp) X.env], [])) (hfree : ∀ y ∈ scope.names, y.2 = .free → ∃ c, X.env.cells.lookup y.1 = some c)
    (h : ∀ (f c' T0 : Addr) (pm ct dv : Value) (H1 : Hp) (s' : Shared), Inv X pins σ H1 s' → ExtN H H1 → Tabs T H1 → s'.heap.get? f = some (obL (X.env.qual ++ "<lambda>") params body scope (cloFrom X.env.cells scope.names []) pm c' ct (.ref T0)) → H1 f = none → f ∉ frs X.stack →
      (s'.heap.get? T0 = some { cls := .type "tuple", data := .seq #[dv] } ∧ H1 T0 = none ∧ T0 ∉ frs X.stack) → H1 c' = some (CodeO c' (X.env.qual ++ "<lambda>")) → Q (.ref f) s') :
    wpAny (model X.prog X.w) X.A (eval (.Lambda params body scope pos) X.env) Q E s := by
  obtain ⟨ps, hP, ht, ha⟩ := hT _ hm
  rw [arm_eval_Lambda, hdef]
  refine wpAny_bind (wpAny_bind (wpAny_Constant_int ?_))
  refine wpAny_bind (wpAny_holding (wpAny_pure (wpAny_pure ?_)))
  refine wpAny_bind (wpAny_holding (wpAny_pure ?_))
  rw [makeFunction_eq]
  simp only [List.zip_nil_right, List.filterMap_nil, List.isEmpty_nil, List.isEmpty_cons, Bool.false_eq_true, if_true, if_false, pure_bind]
  refine wpAny_bind (wpAny_newTextTuple ?_)
  have I2 : Inv X pins σ H { s with heap := s.heap.push { cls := .type "tuple", data := .seq #[Value.int dn s.toks] }, toks := s.toks + 1 } := I.kept fun b o e => Heap.get?_push_of_some _ e
  have nT : H s.heap.objs.size = none := I.hok.fresh (Nat.le_refl _)
  have far : ∀ {s' : Shared}, Inv X pins σ H s' → ∀ f, s'.heap.objs.size ≤ f → f ∉ frs X.stack := fun J f hf z => by
    rcases List.mem_cons.mp (J.stkSub _ z) with e | e
    · have := J.lt
      rw [← e] at this
      exact Nat.lt_irrefl _ (Nat.lt_of_lt_of_le this hf)
    · exact J.nofs hf e
  have fT := far I _ (Nat.le_refl _)
  have hP2 := I2.hok P _ hP
  have pT : s.heap.objs.size ≠ P := fun z => by rw [z, hP] at nT; cases nT
  have sz2 : (s.heap.push { cls := .type "tuple", data := .seq #[Value.int dn s.toks] }).objs.size = s.heap.objs.size + 1 := by rw [Heap.size_push]
  have aT : (s.heap.push { cls := .type "tuple", data := .seq #[Value.int dn s.toks] }).get? s.heap.objs.size = some { cls := .type "tuple", data := .seq #[Value.int dn s.toks] } := Heap.get?_push_size _ rfl
  refine tailL (mg := X.mg) (c := c) (P := P) (ps := ps) (closure_ok hfree) I2.ok.glob (I2.mod.glob.keeps I2.bk) hcode (TB.code.keeps I2.bk) hP2 ht (fun cv e => let ⟨c', e1, _⟩ := ha pos cv e; ⟨c', e1⟩) TB.gP (TB.bm.keeps I2.bk) fun c' ct h' tk came => ?_
  rcases came with ⟨x1, x2, x3, ⟨c2, oc, vs, t, e2, hoc, hd, hv⟩, x5⟩ | ⟨hf, k, sz⟩
  · cases e2
    have x2 : s.heap.objs.size + 1 ≤ c' := by rw [← sz2]; exact x2
    have x3 : @LT.lt Nat _ c' h'.objs.size := x3
    have nC : H c' = none := I.hok.fresh (by omega)
    have J := inv_table (t' := tk) (more := #[rawInt pos.line, rawInt pos.col, .ref c']) (h' := h'.push (obL (X.env.qual ++ "<lambda>") params body scope (cloFrom X.env.cells scope.names []) ((X.mg "__name__").getD .none) c' ct (.ref s.heap.objs.size))) I2 hP (fun b o n e => Heap.get?_push_of_some _ (x1 b o n e)) (Heap.get?_push_of_some _ x5) (by rw [sz2]; exact x2) ⟨oc, vs, t, Heap.get?_push_of_some _ hoc, hd, hv⟩
    have hE : ExtN H (upd (upd H P (.tbl (ps ++ #[rawInt pos.line, rawInt pos.col, .ref c']))) c' (CodeO c' (X.env.qual ++ "<lambda>"))) := fun b o e n => by
      have n1 : b ≠ P := fun z => by rw [z, hP] at e; exact n ps (Option.some.inj e).symm
      rw [upd_ne (ne_of_none e nC), upd_ne n1]
      exact e
    have eL : (ps ++ #[rawInt pos.line, rawInt pos.col, .ref c']).toList = ps.toList ++ [rawInt pos.line, rawInt pos.col, .ref c'] := by simp
    have out : ∀ a, H a = none → a ≠ c' → upd (upd H P (.tbl (ps ++ #[rawInt pos.line, rawInt pos.col, .ref c']))) c' (CodeO c' (X.env.qual ++ "<lambda>")) a = none := fun a e n => by
      have n1 : a ≠ P := fun z => by rw [z, hP] at e; cases e
      rw [upd_ne n, upd_ne n1]
      exact e
    have hs : s.heap.objs.size + 1 ≤ h'.objs.size := by omega
    refine h h'.objs.size c' s.heap.objs.size _ ct _ _ _ J hE (fun p hp => ?_) (Heap.get?_push_size _ rfl) (out _ (I.hok.fresh (by omega)) (Nat.ne_of_gt x3)) (far I _ (by omega)) ⟨Heap.get?_push_of_some _ (x1 _ _ pT aT), out _ nT (Nat.ne_of_lt x2), fT⟩ upd_same
    by_cases hb : p.1 = P
    · rw [hu p hp hb, hb]
      refine ⟨_, by rw [upd_ne (ne_of_none hP nC), upd_same], by rw [eL]; exact PySem.TriplesOk_snoc _ _ _ _ ht, fun p' cv hcv => ?_⟩
      rw [eL] at hcv
      rcases among_app _ ht hcv with z | z
      · obtain ⟨c0, q1, q2⟩ := ha p' cv z
        exact ⟨c0, q1, hE _ _ q2 codeO_ne⟩
      · exact ⟨c', z, upd_same⟩
    · obtain ⟨ps', a1, a2, a3⟩ := hT p hp
      refine ⟨ps', by rw [upd_ne (ne_of_none a1 nC), upd_ne hb]; exact a1, a2, fun p' cv hcv => ?_⟩
      obtain ⟨c0, q1, q2⟩ := a3 p' cv hcv
      exact ⟨c0, q1, hE _ _ q2 codeO_ne⟩
  · obtain ⟨c0, q1, hco⟩ := ha pos _ hf
    cases q1
    have sz : s.heap.objs.size + 1 ≤ h'.objs.size := by rw [← sz2]; exact sz
    have J : Inv X pins σ H { s with heap := h'.push (obL (X.env.qual ++ "<lambda>") params body scope (cloFrom X.env.cells scope.names []) ((X.mg "__name__").getD .none) c' ct (.ref s.heap.objs.size)), toks := tk } := I2.kept fun b o e => Heap.get?_push_of_some _ (k b o e)
    exact h h'.objs.size c' s.heap.objs.size _ ct _ H _ J (ExtN.refl H) hT (Heap.get?_push_size _ rfl) (I.hok.fresh (by omega)) (far I _ (by omega)) ⟨Heap.get?_push_of_some _ (k _ _ aT), nT, fT⟩ hco
end
/-! ### its names -/
/-- captured names, globals, and names of its own that the maker does not have -/
structure ScL (N : List Str) (sc scope : Scope) : Prop where
  kind : scope.kind = .function
  co : scope.isCoroutine = false
  gen : scope.isGenerator = false
  cel : ∀ y ∈ scope.names, y.2 ≠ .cell
  own : ∀ y ∈ scope.names, y.2 = .local → y.1 ∉ N
  free : ∀ y ∈ scope.names, y.2 = .free → sc.names.lookup y.1 = some .cell ∨ sc.names.lookup y.1 = some .free
def scLB (N : List Str) (sc scope : Scope) : Bool :=
  (decide (scope.kind = .function) && (!scope.isCoroutine && !scope.isGenerator)) && scope.names.all fun y => match y.2 with
    | .cell => false
    | .local => decide (y.1 ∉ N)
    | .free => decide (sc.names.lookup y.1 = some .cell) || decide (sc.names.lookup y.1 = some .free)
    | _ => true
theorem scL_by {N : List Str} {sc scope : Scope} (h : scLB N sc scope = true) : ScL N sc scope := by
  unfold scLB at h
  rw [Bool.and_eq_true, Bool.and_eq_true, Bool.and_eq_true, List.all_eq_true] at h
  obtain ⟨⟨h1, h2, h3⟩, h4⟩ := h
  refine ⟨of_decide_eq_true h1, by simpa using h2, by simpa using h3, fun y hy e => ?_, fun y hy e => ?_, fun y hy e => ?_⟩
  · have := h4 y hy; rw [e] at this; exact absurd this Bool.false_ne_true
  · have := h4 y hy; rw [e] at this; exact of_decide_eq_true this
  · have := h4 y hy; rw [e] at this
    rw [Bool.or_eq_true] at this
    exact this.imp of_decide_eq_true of_decide_eq_true
section
variable {X : Cx} {pins : List (Addr × Obj)} {σ : L2.St} {H HZ : Hp} {s s1 : Shared}
theorem ScL.has {N : List Str} {scope : Scope} (L : ScL N X.env.scope scope) (ok : X.Ok) : ∀ y ∈ scope.names, y.2 = .free → ∃ c, X.env.cells.lookup y.1 = some c :=
  fun y hy e => (L.free y hy e).elim (fun k => ok.has _ (.inl k)) fun k => ok.has _ (.inr k)
/-- what the lambda's cells are -/
theorem ScL.cells {N : List Str} {scope : Scope} (L : ScL N X.env.scope scope) (ok : X.Ok) :
    (∀ {y c}, (cloFrom X.env.cells scope.names []).lookup y = some c → X.env.cells.lookup y = some c) ∧ ∀ {y}, scope.names.lookup y = some .free → ∃ c, (cloFrom X.env.cells scope.names []).lookup y = some c := by
  constructor
  · intro y c e
    rcases cloFrom_mem (PySem.mem_of_lookup e) with hm | ⟨h1, h2⟩
    · cases hm
    · obtain ⟨c1, hc⟩ := L.has ok _ h1 rfl
      replace hc : X.env.cells.lookup y = some c1 := hc
      rw [h2, hc]
      rfl
  · intro y hl
    exact mem_lookup (cloFrom_has (cells := X.env.cells) (acc := []) (PySem.mem_of_lookup hl))
theorem startL {A : Around} {outer : List Env} {E : XK} {scope : Scope} {f c' : Addr} {h₁ : Heap} {tk : Nat} {m : Str → Option Value} (I : Inv X pins σ H s) (L : ScL X.N X.env.scope scope) (e0 : Env0 X.prog X.w X.K X.mg X.base A outer s1 HZ) (hd : A.handled = none)
    (un : Un (frs X.stack) [] H HZ s.heap s1.heap) (hns : h₁.Ns s1.heap.objs.size m) (kp : ∀ b o, s1.heap.get? b = some o → h₁.get? b = some o) : Inv (lamCx X A outer s1 HZ E scope f c') [] σ HZ { s1 with heap := h₁, toks := tk } := by
  obtain ⟨cm, look⟩ := L.cells I.ok
  have cellK : ∀ {c : Addr} {v : Option Value}, H c = none → s.heap.IsCell c v → h₁.IsCell c v := fun {c v} n ⟨o, ho, hd⟩ => by
    obtain ⟨sl, q⟩ := un.any ho n (by simp)
    exact ⟨_, kp _ _ q, hd⟩
  have none_ : ∀ b : Addr, b ∈ (lamCx X A outer s1 HZ E scope f c').ex → False := fun b z => by cases (show b ∈ ([] : List Addr) from z)
  constructor
  case ok =>
    constructor
    case mod => exact e0.mod
    case kind => exact L.kind
    case glob => rfl
    case blt => rfl
    case above => exact Nat.le_refl _
    case inj => exact fun y z c e1 e2 => I.ok.inj y z c (cm e1) (cm e2)
    case has =>
      intro y hy
      rcases (show scope.names.lookup y = some .cell ∨ scope.names.lookup y = some .free from hy) with hy | hy
      · exact absurd rfl (L.cel _ (PySem.mem_of_lookup hy))
      · exact look hy
    case cab => exact fun y c z _ => absurd (show false = true from z) (by decide)
    case hd => exact fun _ => hd
    case frames => exact Around.frames_deeper e0.frames
    case stk => exact .inr ⟨rfl, rfl⟩
    case exf => exact fun b z => (none_ b z).elim
    case bs => exact e0.bs
    case bsz => exact e0.bsz
    case noex => exact fun b _ _ z => none_ b z
    case exfs => exact fun b z => (none_ b z).elim
    case funs => exact e0.funs
    case frf => exact e0.frf
  case os => rfl
  case bare => exact e0.bare
  case base => exact Un.kept kp
  case free => exact e0.hok.fresh (Nat.le_refl _)
  case pin => exact fun q hq => absurd (show q ∈ ([] : List (Addr × Obj)) ++ [] from hq) (by simp)
  case hok => exact e0.hok.kept kp
  case len => exact I.len
  case cell =>
    intro y c e
    obtain ⟨w', z⟩ := I.cell y c (cm e)
    exact ⟨w', cellK (I.freeC y c (cm e)) z⟩
  case freeC =>
    intro y c e
    obtain ⟨v, o, ho, _⟩ := I.cell y c (cm e)
    exact un.free c o ho (I.freeC y c (cm e)) (by simp)
  case loc =>
    refine ⟨m, hns, fun i y v e1 e2 e3 => ?_⟩
    rcases (show Vis scope y from e3) with k | k | k
    · exact absurd (List.mem_of_getElem? e1) (L.own _ (PySem.mem_of_lookup k) rfl)
    · exact absurd rfl (L.cel _ (PySem.mem_of_lookup k))
    · obtain ⟨m0, hn, hl⟩ := I.loc
      have fr := L.free _ (PySem.mem_of_lookup k) rfl
      obtain ⟨w', r, q⟩ := hl i y v e1 e2 (fr.elim (fun k => .inr (.inl k)) fun k => .inr (.inr k))
      obtain ⟨c2, h2⟩ := look k
      refine ⟨w', r, .inr ⟨.inr k, c2, h2, ?_⟩⟩
      rcases q with ⟨k', _⟩ | ⟨_, c3, e', z⟩
      · replace k' : X.env.scope.names.lookup y = some .local := k'
        rcases fr with k2 | k2
        · rw [show X.env.scope.names.lookup y = _ from k2] at k'; cases k'
        · rw [show X.env.scope.names.lookup y = _ from k2] at k'; cases k'
      · rw [cm h2] at e'
        cases e'
        exact cellK (I.freeC y _ (cm h2)) z
end
/-! ### the call -/
section
variable {X : Cx} {pins : List (Addr × Obj)} {σ : L2.St} {H HZ : Hp} {s s1 : Shared}
theorem actL {CXg : CXT} {Eg : XK} {Ng : List Str} {qg : Str} {sg : Scope} {g f c' T0 : Addr} {cdg pm ct dv : Value} {params : Arguments} {body : Expr} {scope : Scope} {k i : Nat} {a z : Str} {pn : List (Addr × Obj)} {xe : Value → Shared → Prop} {W : WX} {E : XK} {tb : TE} {p1 p2 : Pos}
    (I : Inv X pins σ H s) (L : ScL X.N X.env.scope scope) (hf : s.heap.get? f = some (obL (X.env.qual ++ "<lambda>") params body scope (cloFrom X.env.cells scope.names []) pm c' ct (.ref T0))) (hfn : H f = none) (hfr : f ∉ frs X.stack)
    (hT : s.heap.get? T0 = some { cls := .type "tuple", data := .seq #[dv] } ∧ H T0 = none ∧ T0 ∉ frs X.stack) (hz : scope.names.lookup z = some .local)
    (hb : ∃ kk, bindArgs (fdL (X.env.qual ++ "<lambda>") params body scope (cloFrom X.env.cells scope.names []) pm (.ref c') ct (.ref T0)) ⟨[], []⟩ = seqItems? (.ref T0) >>= kk ∧ kk (some #[dv]) = pure [(z, dv)])
    (tk : Takes ((cxOf CXg X.prog X.w X.K X.mg X.base Ng qg sg g cdg X.A X.stack s H Eg).tr pn xe) W) (hW : ∀ cls d σ' H', E cls d H' → W cls d σ' H') (hr : Room (k + 1) (X.A.deeper (envOfC qg sg s.heap.objs.size g cdg)))
    (hbody : ∀ (A : Around) (outer : List Env) (s : Shared) (H : Hp), Room k (A.deeper (lamEnv X scope s.heap.objs.size f c')) → PE (lamCx X A outer s H E scope f c') body tb)
    (hN : Ng[i]? = some a) (hv : Vis sg a) (hd : (a == ("__debug__" : Str)) = false) (hcd : (a == ("__classdict__" : Str)) = false) :
    PE ((cxOf CXg X.prog X.w X.K X.mg X.base Ng qg sg g cdg X.A X.stack s H Eg).tr pn xe) (.Call (.Name a p1) [] [] p2) (fun σZ HZ Q => σZ[i]? = some (some (.ref f)) ∧ HZ c' = some (CodeO c' (X.env.qual ++ "<lambda>")) ∧ tb σ HZ Q) := by
  constructor
  rintro pinsZ sZ σZ HZ Q IZ ⟨hs, hc, ht⟩
  have hvar := (pe_var (pos := p1) (i := i) hN hv hd hcd).run pinsZ sZ σZ HZ (fun v H1 => v = .ref f ∧ H1 = HZ) IZ ⟨.ref f, hs, rfl, rfl⟩
  refine wpAny_Call_Name_kw (thn hvar ?_)
  rintro u s1 ⟨v, H1, I1, r1, rfl, rfl⟩
  cases (show u = Value.ref f from r1)
  have far : ∀ {b : Addr} {o : Obj}, s.heap.get? b = some o → H b = none → b ∉ frs X.stack → s1.heap.get? b = some o := fun h1 h2 h3 => I1.base.keep _ _ h1 h2 h3 fun z => nomatch (show _ ∈ ([] : List Addr) from z)
  have of1 := far hf hfn hfr
  have oT1 := far hT.1 hT.2.1 hT.2.2
  refine PySem.W.callWith_F0 ⟨_, _, _, _, of1⟩ ?_
  obtain ⟨⟨oc, vs, t, hoc, hdc, hvc⟩, _, _⟩ := I1.hok c' _ hc
  have rc : codeAny (model X.prog X.w) (X.A.deeper (envOfC qg sg s.heap.objs.size g cdg)) (.call (.ref f) ⟨[], []⟩) (CR (L2.CX X.prog X.w) (envOfC qg sg s.heap.objs.size g cdg :: X.stack) X.prog X.w H1 s1 Q E) s1 := by
    refine PySem.W.kla_callFunE hr.depth of1 rfl L.co L.gen rfl ⟨c', oc, vs, t, rfl, hoc, hdc, hvc⟩ ?_
    obtain ⟨kk, b1, b2⟩ := hb
    rw [b1]
    refine wpAny_bind (wpAny_seqItems oT1 rfl ?_)
    rw [b2]
    refine wpAny_pure (wpAny_newFunctionEnv L.cel (fun y hy => ?_) (fun h₁ hns hsb => ⟨I1.nolimit.fresh _ hsb, ?_⟩) L.kind)
    · cases (List.mem_singleton.mp hy)
      exact hz
    have kp : ∀ b o, s1.heap.get? b = some o → h₁.get? b = some o := fun b o e => hsb.extBut b o (Nat.ne_of_lt (Heap.lt_size e)) (Heap.get?_push_of_some _ e)
    have J := startL (A := X.A.deeper (envOfC qg sg s.heap.objs.size g cdg)) (outer := envOfC qg sg s.heap.objs.size g cdg :: X.stack) (E := E) (f := f) (c' := c') (tk := s1.toks + [(z, dv)].length) I L I1.env0 hr.hd I1.base hns kp
    show codeAny _ _ (.expr body (lamEnv X scope s1.heap.objs.size f c')) _ _
    refine PySem.W.kla_codeExpr (wpAny_mono ((hbody _ _ s1 H1 (hr.deeper _)).run [] _ _ H1 Q J ht) ?_ fun e s' hq => hq)
    rintro v s' ⟨w', H', J', rv, q⟩
    exact ⟨w', H', J'.os, J'.bare, J'.base, J'.hok, rv, q⟩
  have hx : Passes (L2.CX X.prog X.w) ((cxOf CXg X.prog X.w X.K X.mg X.base Ng qg sg g cdg X.A X.stack s H Eg).tr pn xe) E := passes_call tk hW
  refine wpAny_call (codeAny_mono rc ?_)
  rintro (e | fl) s' hq
  · exact hx pinsZ σZ H1 s1 e s' I1 hq
  · cases fl with
    | ret u => exact I1.after hq
    | next => exact hq.elim
    | brk => exact hq.elim
    | cont => exact hq.elim
/-- x(lambda z=n: body) -/
theorem callL {T : List (Addr × Str)} {TT : (XK → Hp → VK → Prop) → Hp → VK → Prop} {x a z : Str} {g c P : Addr} {k : Nat} {pg : Arguments} {bg : List Stmt} {sg : Scope} {dV kV doc pm cdv ct oc : Value} {an od : Option Addr} {osl : Array (Option Value)} {Ng : List Str}
    {params : Arguments} {body : Expr} {scope : Scope} {t : XK → TE} {p lpos pos dp : Pos} {dn : Int} {dj : Nat} (hg : Gl X x) (hm : X.mg x = some (.ref g)) (hk : PySem.W.keepIn X.K (.ref g) = true)
    (lk : X.K.lookup g = some ⟨oc, od, .func (PySem.W.fnOf x x pg bg sg dV kV doc pm an cdv ct), osl⟩) (hcg : PySem.W.codeIn X.K cdv x = true) (hb : L2.Binds X.K (PySem.W.fnOf x x pg bg sg dV kV doc pm an cdv ct) [a] []) (Sg : FnScope Ng [a] sg) (hNg : Ng[0]? = some a) (hva : Vis sg a)
    (hG : GivesTo X Ng x sg g cdv bg a (X.env.qual ++ "<lambda>") TT)
    (TB : TabB X.base X.mg c P) (hcode : X.env.code = .ref c) (hmT : (P, X.env.qual ++ "<lambda>") ∈ T) (hu : ∀ p ∈ T, p.1 = P → p.2 = X.env.qual ++ "<lambda>") (hr : Room (k + 2) X.A) (L : ScL X.N X.env.scope scope) (hz : scope.names.lookup z = some .local)
    (hdef : defaultsOf params X.env = ([eval (.Constant (.int dn) dj dp) X.env], []))
    (hbind : ∀ (q : Str) (cl : List (Str × Addr)) (pm cv ct dv : Value) (T0 : Addr), ∃ kk, bindArgs (fdL q params body scope cl pm cv ct (.ref T0)) ⟨[], []⟩ = seqItems? (.ref T0) >>= kk ∧ kk (some #[dv]) = pure [(z, dv)])
    (hbody : ∀ (A : Around) (outer : List Env) (s : Shared) (H : Hp) (E : XK) (f c' : Addr), Room k (A.deeper (lamEnv X scope s.heap.objs.size f c')) → PE (lamCx X A outer s H E scope f c') body (t E))
    (hdb : (x == ("__debug__" : Str)) = false) (hd : (a == ("__debug__" : Str)) = false) (hcd : (a == ("__classdict__" : Str)) = false) :
    PE X (.Call (.Name x p) [.Lambda params body scope lpos] [] pos) (tLam T TT t) := by
  constructor
  rintro pins s σ H Q I ⟨hT, h⟩
  refine wpAny_Call_Name_kw (ld_glob I hg hm (PySem.W.callWith_K (h₀ := X.base) I.ok.mod.kin hk ?_ (by rfl) (by rfl)) hdb)
  show wpAny _ _ (spliced ((false, eval (.Lambda params body scope lpos) X.env) :: backTo pos (starEach [] X.env))) _ _ s
  refine Calls.spliced_cons (makeL I TB hcode hmT hu hT hdef (L.has I.ok) ?_)
  intro f c' T0 pm' ct' dv H1 s' I1 eN T1 hf hfn hfr hT0 hco
  refine Calls.spliced_nil ⟨I1.kIn, ?_⟩
  have rc : codeAny (model X.prog X.w) X.A (.call (.ref g) ⟨[.ref f], []⟩) (CR C8.CX0 X.stack X.prog X.w H1 s' Q C8.E0) s' :=
    run_ofS (N := Ng) (ps := [a]) (us := [.ref f]) (vs := [.ref f]) lk hcg Sg hr I1.env0 (hb s' [.ref f] I1.kIn rfl) (.cons rfl .nil) rfl fun hr' => by
      obtain ⟨t', ht', hq'⟩ := hG f c' s' H1 Q (fun E H' Q' => t E σ H' Q') (fun W pn xe E p1 p2 tk hW => actL (i := 0) I1 L hf hfn hfr hT0 hz (hbind _ _ _ _ _ _ _) tk hW hr' (fun A outer s H hr2 => hbody A outer s H E f c' hr2) hNg hva hd hcd) hco (h H1 eN T1)
      exact ⟨t', ht'.nox, hq'⟩
  refine wpAny_call (codeAny_mono rc ?_)
  rintro (e | fl) s2 hq
  · exact (show False from hq).elim
  · cases fl with
    | ret u => exact I1.after hq
    | next => exact hq.elim
    | brk => exact hq.elim
    | cont => exact hq.elim
end
end LamE
namespace DL
open PySem PySem.Spec PyProof.Rows L2 LamX
theorem dv_lamD {X : Cx} {Tb : List (Addr × Str)} {EV : XK} {TT : (XD → Mem → VD → Prop) → Mem → VD → Prop} {x a z : Str} {g c P : Addr} {k : Nat} {pg : Arguments} {bg : List Stmt} {sg : Scope} {dvs : List V} {kws : List (Str × V)} {fdg : FuncData} {Ng : List Str}
    {params : Arguments} {body : Expr} {scope : Scope} {tb : TED} {p lpos pos dp : Pos} {dn : Int} {dj : Nat} (Fg : FunD X.K x x pg bg sg dvs kws g fdg) (hg : Gl X x) (hm : X.mg x = some (.ref g)) (hb : L2.Binds X.K fdg [a] []) (Sg : FnScope Ng [a] sg) (hNg : Ng[0]? = some a) (hva : Vis sg a)
    (hG : ∀ cdv, GivesTo X Ng x sg g cdv bg a (X.env.qual ++ "<lambda>") (TTd X.K Tb TT))
    (TB : LamX.TabB X.base X.mg c P) (hcode : X.env.code = .ref c) (hmT : (P, X.env.qual ++ "<lambda>") ∈ Tb) (hu : ∀ p ∈ Tb, p.1 = P → p.2 = X.env.qual ++ "<lambda>") (hr : Room (k + 2) X.A) (L : LamE.ScL X.N X.env.scope scope) (hz : scope.names.lookup z = some .local)
    (hdef : defaultsOf params X.env = ([eval (.Constant (.int dn) dj dp) X.env], []))
    (hbind : ∀ (q : Str) (cl : List (Str × Addr)) (pm cv ct dv : Value) (T0 : Addr), ∃ kk, bindArgs (LamE.fdL q params body scope cl pm cv ct (.ref T0)) ⟨[], []⟩ = seqItems? (.ref T0) >>= kk ∧ kk (some #[dv]) = pure [(z, dv)])
    (hbody : ∀ (A : Around) (outer : List Env) (s : Shared) (H : Hp) (E : XK) (f c' : Addr), Room k (A.deeper (LamX.lamEnv X scope s.heap.objs.size f c')) → Passes (L2.CX X.prog X.w) (LamX.lamCx X A outer s H E scope f c') E → PD (LamX.lamCx X A outer s H E scope f c') Tb E body tb)
    (hdb : (x == ("__debug__" : Str)) = false := by decide) (hd : (a == ("__debug__" : Str)) = false := by decide) (hcd : (a == ("__classdict__" : Str)) = false := by decide) :
    PD X Tb EV (.Call (.Name x p) [.Lambda params body scope lpos] [] pos) (dLam TT tb) := by
  obtain ⟨oc, od, dV, kV, doc, pm, an, cdv, ct, osl, rfl, lk, hcg, _, _⟩ := Fg.ex
  refine pe_imp (LamE.callL (T := Tb) (TT := TTd X.K Tb TT) (t := fun E => lift X.K Tb E tb) hg hm Fg.kp lk hcg hb Sg hNg hva (hG cdv) TB hcode hmT hu hr L hz hdef hbind (fun A outer s H E f c' r => hbody A outer s H E f c' r (passes_call (takes_of rfl rfl rfl rfl) fun _ _ _ _ h => h)) hdb hd hcd) ?_
  rintro σ H QV ⟨al, rho, M, E, Q, a, t, p⟩
  refine ⟨a.wf.tb, fun H1 e1 t1 => ?_⟩
  have s1 := stp_ext a.wf e1
  have w1 := wf_ext a.wf e1 t1
  exact ⟨al, M, Q, _, w1, p.mono s1, fun E' EV' Q' QV' px pv h => ⟨al, rho, M, E', Q', ⟨w1, a.sl.mono s1, px⟩, h, pv⟩, t⟩
end DL

/-! dicts whose keys are tuples -/
namespace DL
open PySem PySem.Spec PyProof.Rows L2 Mt
section
variable {X : Cx}
/-- what an expression has made is locked -/
theorem pe_lock {e : Expr} {t : TE} (h : PE X e t) : PE X e (fun σ H Q => t σ H fun v H1 => Q v H1 ∨ ∃ a u, H1 a = some u ∧ Mut (some u) ∧ ∀ od, Q v (upd H1 a (.frz od u))) := ⟨fun pins s σ H Q I q =>
  thn (h.run pins s σ H _ I q) fun v s1 ⟨x, H1, I1, r1, q1⟩ => by
    rcases q1 with q1 | ⟨a, u, ha, mu, q1⟩
    · exact ⟨x, H1, I1, r1, q1⟩
    · obtain ⟨od, I2⟩ := I1.lock ha mu
      exact ⟨x, _, I2, r1, q1 od⟩⟩
end
section
variable {K : PySem.W.Frag} {Tb : List (Addr × Str)} {al : Al} {M : Mem} {H : Hp} {a : Addr}
theorem rpk_zip {κ : Type} {kvs : List (κ × D)} {ys : List (κ × V)} (h : Rpk K al M H kvs ys) : (kvs.map (·.1)).zip (ys.map (·.2)) = ys ∧ (kvs.map (·.1)).length = (ys.map (·.2)).length := by
  rw [h.1]
  exact ⟨zip_unzip ys, by simp⟩
/-- a mutable thing is locked and no longer live -/
theorem lock_stp (w : Wf K Tb al H M) {i : Nat} {mo : MO} {u : HO} {od : Obj} (hi : al.a[i]? = some a) (hm : M[i]? = some (some mo)) (hu : H a = some u) (mu : ∀ ps, u ≠ .tbl ps) :
    Stp al M H al (M.set i none) (upd H a (.frz od u)) ∧ Wf K Tb al (upd H a (.frz od u)) (M.set i none) := by
  have ne : ∀ b o, H b = some o → Fz al M b → b ≠ a := fun b o h f z => f.2 i mo (z ▸ hi) hm
  have s : Stp al M H al (M.set i none) (upd H a (.frz od u)) := ⟨fun _ _ h => h, fun b o h n f => ⟨by rw [upd_ne (ne b o h f)]; exact h, (stp_fz (i := i)).fz b o h n f |>.2⟩, rfl, fun b hb => upd_ne fun z => w.hdis i a mo hi hm (z ▸ hb)⟩
  have w2 := wf_fz w i
  refine ⟨s, w2.len, w2.nd, fun j b m e1 e2 => ?_, fun j b e => ?_, ?_, fun b hb => ?_, w2.hdis⟩
  · have hj : i ≠ j := fun z => by subst z; rw [List.getElem?_set] at e2; simp at e2
    have hb : b ≠ a := fun z => by
      subst z
      exact hj ((List.getElem?_inj (List.getElem?_eq_some_iff.mp hi).1 w.nd).mp (hi.trans e1.symm))
    rw [List.getElem?_set_ne hj] at e2
    exact (w.rep j b m e1 e2).mono s fun o h => by rw [upd_ne hb]; exact h
  · obtain ⟨o, h1, h2⟩ := w.there j b e
    by_cases hb : b = a
    · subst hb
      exact ⟨_, upd_same, fun ps z => by cases z⟩
    · exact ⟨o, by rw [upd_ne hb]; exact h1, h2⟩
  · intro p hp
    obtain ⟨ps, h1, h2, h3⟩ := w.tb p hp
    refine ⟨ps, by rw [upd_ne fun z => mu ps (by rw [z] at h1; exact Option.some.inj (hu.symm.trans h1))]; exact h1, h2, fun pos cv hc => ?_⟩
    obtain ⟨c, e1, e2⟩ := h3 pos cv hc
    refine ⟨c, e1, ?_⟩
    rw [upd_ne]; exact e2
    intro z
    subst z
    have r := w.rep i c mo hi hm
    cases mo with
    | lst ds => obtain ⟨ys, h, _⟩ := r; rw [h] at e2; cases e2
    | dK ds => obtain ⟨ys, h, _⟩ := r; rw [h] at e2; cases e2
    | dT ks ds => obtain ⟨ys, h, _⟩ := r; rw [h] at e2; exact dic_code (Option.some.inj e2)
    | ins C fs => obtain ⟨dx, ys, h, _⟩ := r; rw [h] at e2; cases e2
  · obtain ⟨xs, h, q⟩ := w.hth b hb
    have ne2 : b ≠ a := fun z => w.hdis i a mo hi hm (z ▸ hb)
    exact ⟨xs, by rw [upd_ne ne2]; exact h, q⟩
end
/-- a dict is locked from here on -/
def fzK : D → Mem → VD → Prop := fun x M Q => match x with
  | .mt i => (match M[i]? with
    | some (some (.dK kvs)) => Q (.dk (kvs.map (·.1)) (kvs.map (·.2))) (M.set i none)
    | some (some (.dT ks ds)) => Q (.dt ks ds) (M.set i none)
    | _ => Q (.mt i) M)
  | x => Q x M
abbrev dFk (t : TED) : TED := fun E rho M Q => t E rho M fun x M1 => fzK x M1 Q
theorem dv_fk {X : Cx} {Tb : List (Addr × Str)} {EV : XK} {e : Expr} {t : TED} (h : PD X Tb EV e t) : PD X Tb EV e (dFk t) := pe_imp (pe_lock h) fun σ H QV q => by
  obtain ⟨al, rho, M, E, Q, a, t, p⟩ := q
  refine seq1 a t fun al1 x M1 vx H1 s1 a1 r1 q1 => ?_
  unfold fzK at q1
  split at q1
  · rename_i i
    split at q1
    · rename_i kvs e1
      obtain ⟨b, hb, rfl⟩ := r1
      obtain ⟨ys, hH, r⟩ := a1.wf.rep i b _ hb e1
      refine .inr ⟨b, _, hH, True.intro, fun od => ?_⟩
      obtain ⟨s2, w2⟩ := lock_stp (od := od) a1.wf hb e1 hH (fun _ z => by cases z)
      refine p _ (.dk (kvs.map (·.1)) (kvs.map (·.2))) _ _ _ (s1.trans s2) w2 ⟨b, od, ys.map (·.2), rfl, ?_, fz_at a1.wf hb e1, (rpk_zip r).2, r.2.mono s2⟩ q1
      rw [(rpk_zip r).1]; exact upd_same
    · rename_i ks ds e1
      obtain ⟨b, hb, rfl⟩ := r1
      obtain ⟨ys, hH, r⟩ := a1.wf.rep i b _ hb e1
      refine .inr ⟨b, _, hH, True.intro, fun od => ?_⟩
      obtain ⟨s2, w2⟩ := lock_stp (od := od) a1.wf hb e1 hH (fun _ z => by cases z)
      exact p _ (.dt ks ds) _ _ _ (s1.trans s2) w2 ⟨b, od, ys, rfl, upd_same, fz_at a1.wf hb e1, r.1, r.2.mono s2⟩ q1
    · exact .inl (p _ _ _ _ _ s1 a1.wf r1 q1)
  · exact .inl (p _ _ _ _ _ s1 a1.wf r1 q1)
end DL

/-! dicts whose keys are tuples of ints, at the library's level -/
namespace DL
open PySem PySem.Spec PyProof.Rows L2 Mt
/-! ### a dict comprehension; what stands in the new dict is told from outside -/
/-- nw: the empty dict; sto: the store of a pair -/
def tDcG (nw : Addr → HO) (sto : Addr → V → V → Hp → (Hp → Prop) → Prop) (wi : TI) (g : TG) (tt : TT) (tk tv : TE) (vs : List Nat) : TE := fun σ H Q => wi σ H fun J H1 => ∀ A0, H1 A0 = none →
  ∃ W : Nat → Nat → Hp → Prop, (∃ m, W 0 m (upd H1 A0 (nw A0))) ∧ ∀ i m H, W i m H → (J.stop i H ∧ Q (.ref A0) H) ∨
    (J.go i H ∧ ∃ Nx : Hp → Prop, (∀ H', Nx H' → ∃ m', m' < m ∧ W (i + 1) m' H') ∧
      ∀ x H', J.yld i H x H' → g x (wipe σ vs) H' fun σ2 H2 => wipe σ2 vs = wipe σ vs ∧
        tt σ2 H2 fun b H3 => if b = true then (tk σ2 H3 fun y H4 => tv σ2 H4 fun z H5 => sto A0 y z H5 Nx) else Nx H3)
/-- the store is served in the comprehension's block -/
def StoOk (P : Program) (w : World) (K : PySem.W.Frag) (A : Around) (sto : Addr → V → V → Hp → (Hp → Prop) → Prop) : Prop :=
  ∀ (X : Cx), X.prog = P → X.w = w → X.K = K → X.A = A → ∀ (pins : List (Addr × Obj)) (s : Shared) (σ : L2.St) (H : Hp) (A0 : Addr) (y z : V) (u r : Value) (E : Value → Shared → Prop) (Q : Unit → Shared → Prop) (N : Hp → Prop),
    Inv X pins σ H s → RelV y u → RelV z r → sto A0 y z H N → (∀ s' H', Inv X pins σ H' s' → N H' → Q () s') → wpAny (model P w) A (dictSet A0 u r) Q E s
section
variable {X : Cx} {nw : Addr → HO} {sto : Addr → V → V → Hp → (Hp → Prop) → Prop} {kx vx tg iter : Expr} {ifs : List Expr} {scope : Scope} {own : List (Str × Nat)} {pos : Pos} {wi : TI} {g : TG} {tt : TT} {tk tv : TE}
theorem pe_dcG (hc : X.calm = true) (hN : X.N.Nodup) (hi : PI X tg iter wi) (ok : BlkOk X.N X.env.scope scope own)
    (hnw : ∀ (H : Hp) (h : Heap), sysModules < h.objs.size → ObjOk X.prog X.w H (h.push { cls := .type "dict", data := .dict #[] }) h.objs.size (nw h.objs.size)) (hst : StoOk X.prog X.w X.K X.A sto)
    (hg : ∀ (s : Shared) (H : Hp) (C : Addr) (cl : List (Str × Addr)) (fp : List Addr), PG (X.blk s H scope (compEnvC scope cl C X.env) fp) tg g)
    (ht : ∀ (s : Shared) (H : Hp) (C : Addr) (cl : List (Str × Addr)) (fp : List Addr), PTs (X.blk s H scope (compEnvC scope cl C X.env) fp) ifs tt)
    (hk : ∀ (s : Shared) (H : Hp) (C : Addr) (cl : List (Str × Addr)) (fp : List Addr), PE (X.blk s H scope (compEnvC scope cl C X.env) fp) kx tk)
    (he : ∀ (s : Shared) (H : Hp) (C : Addr) (cl : List (Str × Addr)) (fp : List Addr), PE (X.blk s H scope (compEnvC scope cl C X.env) fp) vx tv)
    (hs : ∀ x, foldedSetIterable iter X.env x = pure x := by intro _; rfl) : PE X (.DictComp kx vx [⟨tg, iter, ifs, 0⟩] scope pos) (tDcG nw sto wi g tt tk tv (own.map (·.2))) := by
  refine ⟨fun pins s σ H Q I0 h0 => ?_⟩
  rw [arm_eval_DictComp]
  have hfr : ∀ y ∈ scope.names, y.2 = .free → ∃ c, X.env.cells.lookup y.1 = some c := fun y hy e => (ok.free y hy e).elim (fun k => I0.ok.has _ (.inl k)) fun k => I0.ok.has _ (.inr k)
  refine wpAny_comprehension_free rfl hs (closure_ok hfr) ok.kind (fun y hy e => by rw [ok.uniq y hy, e]) (thn (hi.run pins s σ H _ I0 h0) fun _ _ hx => thn hx fun _ sB hB => ?_)
  obtain ⟨it, fp, tn, J, HB, rfl, IB, T, stB, fB, q⟩ := hB
  refine wpAny_newObj_type (newEnv_comp ?_)
  generalize eA : sB.heap.objs.size = A0
  have nA : HB A0 = none := IB.hok.fresh (Nat.le_of_eq eA)
  obtain ⟨W, ⟨m0, w0⟩, turn⟩ := q A0 nA
  generalize eC : ({ sB with heap := sB.heap.push { cls := .type "dict", data := .dict #[] } } : Shared) = sC
  have hC : sC.heap = sB.heap.push { cls := .type "dict", data := .dict #[] } := by rw [← eC]
  have kC : ∀ b o, sB.heap.get? b = some o → sC.heap.get? b = some o := fun b o e => by rw [hC]; exact Heap.get?_push_of_some _ e
  have IC : Inv X pins σ (upd HB A0 (nw A0)) sC := by
    rw [← eC]
    exact IB.laid (t' := sB.toks) (fun b o e => Heap.get?_push_of_some _ e) (Nat.le_of_eq eA) (by rw [← eA]; exact hnw _ sB.heap IB.big)
  have fpl : ∀ b ∈ fp, b < sB.heap.objs.size := fun b hb => let ⟨_, e, _⟩ := T.obj _ _ stB b hb; Heap.lt_size e
  have fC : ∀ b ∈ fp, FpOk X pins (upd HB A0 (nw A0)) b ∧ b < sC.heap.objs.size := fun b hb => by
    have hlt := fpl b hb
    exact ⟨⟨by rw [upd_ne (by rw [← eA]; exact Nat.ne_of_lt hlt)]; exact (fB b hb).1, (fB b hb).2⟩, by rw [hC, Heap.size_push]; exact Nat.lt_succ_of_lt hlt⟩
  have stC : tn 0 sC.heap := T.keep _ _ _ stB fun b _ o e => kC b o e
  have IQ := block_start IC ok hN fC
  generalize eH : upd HB A0 (nw A0) = HC at IC IQ w0 fC
  generalize eL : cellsFrom (sC.heap.objs.size + 1) scope.names (cloFrom X.env.cells scope.names []) = cl at IQ
  have pg := hg sC HC sC.heap.objs.size cl fp
  have pt := ht sC HC sC.heap.objs.size cl fp
  have pk := hk sC HC sC.heap.objs.size cl fp
  have pv := he sC HC sC.heap.objs.size cl fp
  have nfp : ∀ b ∈ fp, HC b = none := fun b hb => (fC b hb).1.1
  subst eL
  generalize hce : compEnvC scope (cellsFrom (sC.heap.objs.size + 1) scope.names (cloFrom X.env.cells scope.names [])) sC.heap.objs.size X.env = ce at IQ pg pt pk pv ⊢
  have cL : ce.locals = sC.heap.objs.size := by rw [← hce]; rfl
  generalize eQ : ({ sC with heap := pushCells (sC.heap.push { cls := .type "dict", data := .dict #[] }) scope.names } : Shared) = sQ at IQ
  have stQ : tn 0 sQ.heap := T.keep _ _ _ stC fun b _ o e => by rw [← eQ]; exact pushCells_keeps _ _ _ _ (Heap.get?_push_of_some _ e)
  have stat : ∀ {σ' : L2.St} {H' : Hp} {s' : Shared}, Inv (X.blk sC HC scope ce fp) [] σ' H' s' → (∀ b ∈ fp, H' b = none) → ∀ b ∈ fp, FpOk (X.blk sC HC scope ce fp) [] H' b := fun {σ' H' s'} I' hn b hb =>
    ⟨hn b hb, (I'.ok.exf b hb).1, I'.ok.exfs b hb, .inl hb, fun x c e => (I'.ok.exf b hb).2 x c e, fun p hp => absurd (show p ∈ ([] : List (Addr × Obj)) ++ [] from hp) (by simp)⟩
  have loop : codeAny (model X.prog X.w) X.A (.compLoop (.DictComp kx vx [⟨tg, iter, ifs, 0⟩] scope pos) 0 (.ref it) (.ref A0) ce) (compPost (model X.prog X.w) X.A X.xe none (EP X pins σ Q) (.ref A0) sC.heap.objs.size) sQ := by
    refine compLoop_anyD (fun n s' => ∃ i H', Inv (X.blk sC HC scope ce fp) [] (wipe σ (own.map (·.2))) H' s' ∧ tn i s'.heap ∧ (∀ b ∈ fp, H' b = none) ∧ W i n H') ?_ m0 ⟨0, HC, IQ, stQ, nfp, w0⟩
    rintro n s5 ⟨i, H5, I5, st5, n5, w5⟩
    rcases turn i n H5 w5 with ⟨stop, qq⟩ | ⟨go, Nx, hNx, step⟩
    · refine thnF (T.done (X.blk sC HC scope ce fp) rfl rfl rfl hc i [] s5 _ H5 (fun _ _ => False) I5 (stat I5 n5) st5 stop) fun r s6 ⟨hr, I6⟩ => ?_
      subst hr
      have I7 : Inv X pins σ H5 s6 := IC.call' (ch := fp) I6.os I6.base I6.hok I6.bare fun b hb => ⟨(fC b hb).1.2.2.2.1, (fC b hb).1.2.1, (fC b hb).1.2.2.2.2.1, (fC b hb).1.2.2.2.2.2⟩
      have nC : H5 sC.heap.objs.size = none := by rw [← cL]; exact I6.free
      obtain ⟨m, hn, _⟩ := I6.loc
      have hn : s6.heap.Ns sC.heap.objs.size m := by rw [← cL]; exact hn
      obtain ⟨f0, f1, f2, f3, f4, f5⟩ := IC.fpOk (H' := H5) (Nat.le_refl _) nC
      exact ⟨m, hn, fun h'' sb => ⟨.ref A0, H5, I7.turned (t' := s6.toks) (fun b o hb e => (sb.2 b hb).trans e) f0 f1 f3 f4 f5, rfl, qq⟩⟩
    · refine thnF (T.item (X.blk sC HC scope ce fp) rfl rfl rfl hc i [] s5 _ H5 (fun _ _ => False) I5 (stat I5 n5) st5 go) fun r s6 ⟨u, hr, h6⟩ => ?_
      subst hr
      refine thnF h6 fun _ s7 ⟨x, H7, I7, r7, y7, st7, n7⟩ => ?_
      refine thnF (pg.run _ s7 _ H7 x u _ (I7.pinned (stat I7 n7) (T.obj _ _ st7)) r7 (step x H7 y7)) fun _ s8 ⟨σ8, H8, I8, hw8, q8⟩ => ?_
      refine thnF (pt.run _ s8 σ8 H8 _ I8 q8) fun b s9 ⟨H9, I9, q9⟩ => ?_
      have fin : ∀ {s' : Shared} {H' : Hp}, Inv (X.blk sC HC scope ce fp) ([] ++ pinsAt fp s7.heap) σ8 H' s' → Nx H' →
          ∃ m, m < n ∧ ∃ i H', Inv (X.blk sC HC scope ce fp) [] (wipe σ (own.map (·.2))) H' s' ∧ tn i s'.heap ∧ (∀ b ∈ fp, H' b = none) ∧ W i m H' := fun {s' H'} I' nx => by
        obtain ⟨m', hm, w'⟩ := hNx H' nx
        have pin' : ∀ b ∈ fp, ∀ o, s7.heap.get? b = some o → s'.heap.get? b = some o ∧ H' b = none := fun b hb o e =>
          have z := I'.pin (b, o) (List.mem_append_right _ (List.mem_append_right _ (mem_pinsAt hb e)))
          ⟨z.1, z.2.1⟩
        refine ⟨m', hm, i + 1, H', (I'.unpinned (pins := [])).weak (by rw [← hw8, wipe_length]) (fun j v e => ?_), T.keep _ _ _ st7 fun b hb o e => (pin' b hb o e).1, fun b hb => ?_, w'⟩
        · rw [← hw8] at e
          exact (wipe_some e).1
        · obtain ⟨o, e, _⟩ := T.obj _ _ st7 b hb
          exact (pin' b hb o e).2
      cases b with
      | false =>
        rw [if_neg Bool.false_ne_true] at q9 ⊢
        exact fin I9 q9
      | true =>
        rw [if_pos rfl] at q9 ⊢
        refine thnF (pk.run _ s9 σ8 H9 _ I9 q9) fun uk s10 ⟨yk, H10, I10, r10, q10⟩ => thnF (pv.run _ s10 σ8 H10 _ I10 q10) fun uv s11 ⟨yv, H11, I11, r11, q11⟩ => ?_
        exact hst (X.blk sC HC scope ce fp) rfl rfl rfl rfl _ s11 σ8 H11 A0 yk yv uk uv _ _ Nx I11 r10 r11 q11 fun s12 H12 I12 nx => fin I12 nx
  show codeAny _ _ (.compStart _ 0 (.ref it) (.ref A0) (compEnvC scope (cellsFrom (sC.heap.objs.size + 1) scope.names (cloFrom X.env.cells scope.names [])) sC.heap.objs.size X.env)) _ _
  rw [hce]
  have key := codeAny_compStart_dict (kx := kx) (vx := vx) loop (T.self X.A 0 _ _ _ stQ loop)
  first | exact key | (rw [← eQ] at key; exact key)
end
end DL

namespace DL
open PySem PySem.Spec PyProof.Rows L2 Mt
/-! ### the dict at the library's level -/
def putE (L : Ents) (k : List Int) (b : Addr) (v : V) : Ents := if (L.any fun e => decide (e.1 = k)) = true then L.map (fun e => if e.1 = k then (e.1, e.2.1, v) else e) else L ++ [(k, b, v)]
def valE (L : Ents) (k : List Int) : Option V := (L.find? fun e => decide (e.1 = k)).map (·.2.2)
abbrev LR : Ents → List (List Int × Addr × Value) → Prop := Paired fun p q => p.1 = q.1 ∧ p.2.1 = q.2.1 ∧ RelV p.2.2 q.2.2
theorem length_putE (L : Ents) (k : List Int) (b : Addr) (v : V) : (putE L k b v).length ≤ L.length + 1 := by
  unfold putE; split
  · simp
  · simp
theorem LR.val {L : Ents} {xs : List (List Int × Addr × Value)} (r : LR L xs) (k : List Int) : RelO (valE L k) ((atKey xs k).map (·.2)) := by
  induction r with
  | nil => exact True.intro
  | @cons p q ps qs h t ih =>
    obtain ⟨h1, _, h2⟩ := h
    unfold valE atKey at ih ⊢
    by_cases e : p.1 = k
    · have e' : q.1 = k := h1.symm.trans e
      simp [List.find?_cons, e, e']; exact h2
    · have e' : ¬ q.1 = k := fun z => e (h1.trans z)
      simp only [List.find?_cons, decide_eq_false e, decide_eq_false e']
      exact ih
theorem LR.any {L : Ents} {xs : List (List Int × Addr × Value)} (r : LR L xs) (k : List Int) : (L.any fun e => decide (e.1 = k)) = (atKey xs k).isSome := by
  induction r with
  | nil => rfl
  | @cons p q ps qs h t ih =>
    obtain ⟨h1, _, h2⟩ := h
    unfold atKey at ih ⊢
    by_cases e : p.1 = k
    · have e' : q.1 = k := h1.symm.trans e
      simp [List.find?_cons, e, e']
    · have e' : ¬ q.1 = k := fun z => e (h1.trans z)
      simp only [List.find?_cons, List.any_cons, decide_eq_false e, decide_eq_false e', Bool.false_or]
      exact ih
theorem LR.repl {L : Ents} {xs : List (List Int × Addr × Value)} (r : LR L xs) (k : List Int) {y : V} {u : Value} (ry : RelV y u) : LR (L.map fun e => if e.1 = k then (e.1, e.2.1, y) else e) (xs.map (putAt k u)) := by
  induction r with
  | nil => exact .nil
  | @cons p q ps qs h t ih =>
    rw [List.map_cons, List.map_cons]
    refine .cons ?_ ih
    obtain ⟨h1, h2, h3⟩ := h
    unfold putAt
    by_cases e : p.1 = k
    · rw [if_pos e, if_pos (h1.symm.trans e)]; exact ⟨h1, h2, ry⟩
    · rw [if_neg e, if_neg fun z => e (h1.trans z)]; exact ⟨h1, h2, h3⟩
theorem LR.put {L : Ents} {xs : List (List Int × Addr × Value)} (r : LR L xs) (k : List Int) (b : Addr) {y : V} {u : Value} (ry : RelV y u) : LR (putE L k b y) (storedH xs k b u) := by
  unfold putE storedH
  rw [r.any k]
  by_cases q : (atKey xs k).isSome = true
  · rw [if_pos q, if_pos q]; exact r.repl k ry
  · rw [if_neg q, if_neg q]; exact Paired.snoc r ⟨rfl, rfl, ry⟩
theorem ints_are {P : Program} {w : World} : ∀ {ks : List Int} {us : List Value}, Vals (ks.map V.int) us → ItemsAre (intKind P w) ks us
  | [], _, r => by rw [List.map_nil] at r; cases r; exact .nil
  | k :: ks, _, r => by
    rw [List.map_cons] at r
    cases r with
    | cons h t => exact .cons (by obtain ⟨t, rfl⟩ := (show ∃ t, _ = Value.int k t from h); simp [PySem.intKind, Value.isInt]) (ints_are t)
section
variable {X : Cx} {pins : List (Addr × Obj)} {σ : L2.St} {H : Hp} {s : Shared} {a : Addr} {L : Ents}
theorem key_sq {b : Addr} {ks : List Int} (I : Inv X pins σ H s) (h : SqT X.K H b (ks.map V.int)) : (tupleKind (intKind X.prog X.w)).is s.heap ks b := by
  obtain ⟨its, r, ⟨o, h1, h2, n, h3⟩, _⟩ := I.tuple h
  exact ⟨o, its.toArray, n, h1, h2, h3, by simpa using ints_are r⟩
/-- all keys stand as tuples -/
def KsT (K : PySem.W.Frag) (H : Hp) (L : Ents) : Prop := ∀ e ∈ L, SqT K H e.2.1 (e.1.map V.int)
theorem dic_at {P : Program} {w : World} {h : Heap} (ok : HOk P w H h) (e : Rd H a (DicO a L)) : (a == sysModules) = false ∧ L.length ≤ sizeLine ∧ ∃ xs, LR L xs ∧
    ∃ o es ep, h.get? a = some o ∧ o.ExactDict ∧ o.data = .dict es ep ∧ es.toList = xs.map (entryOfKey (tupleKind (intKind P w))) ∧ (xs.map (·.1)).Nodup :=
  (show ObjOk P w H h a (DicO a L) from e.ok ok).1
theorem dic_H (I : Inv X pins σ H s) (e : Rd H a (DicO a L)) (hk : KsT X.K H L) : ∃ xs, LR L xs ∧ s.heap.DictOfH (tupleKind (intKind X.prog X.w)) a xs := by
  obtain ⟨_, _, xs, r, o, es, ep, h1, h2, h3, h4, h5⟩ := dic_at I.hok e
  refine ⟨xs, r, o, es, ep, h1, h2, h3, h4, fun x hx => ?_, h5⟩
  have all : ∀ {l : Ents} {m : List (List Int × Addr × Value)}, LR l m → (∀ e ∈ l, SqT X.K H e.2.1 (e.1.map V.int)) → ∀ x ∈ m, (tupleKind (intKind X.prog X.w)).is s.heap x.1 x.2.1 := by
    intro l m q
    induction q with
    | nil => intro _ x hx; exact nomatch hx
    | @cons p q ps qs hq t ih =>
      intro hh x hx
      rcases List.mem_cons.mp hx with e | hx
      · subst e
        have := key_sq I (hh p List.mem_cons_self)
        rw [hq.1, hq.2.1] at this
        exact this
      · exact ih (fun e he => hh e (List.mem_cons_of_mem _ he)) x hx
  exact all r hk x hx
theorem dic_ok {P : Program} {w : World} {H' : Hp} {h' : Heap} {xs : List (List Int × Addr × Value)} (z : L.length ≤ sizeLine) (hd : (a == sysModules) = false) (r : LR L xs) (dd : h'.DictOfH (tupleKind (intKind P w)) a xs) : ObjOk P w H' h' a (DicO a L) := by
  obtain ⟨o, es, ep, h1, h2, h3, h4, _, h5⟩ := dd
  exact ⟨⟨hd, z, xs, r, o, es, ep, h1, h2, h3, h4, h5⟩, ⟨o, h1⟩, fun g1 g2 ⟨a1, a2, xs, a3, o, es, ep, a4, a5⟩ k => ⟨a1, a2, xs, a3, o, es, ep, k _ a4, a5⟩⟩
theorem dic_new (H : Hp) (h : Heap) {P : Program} {w : World} (hb : sysModules < h.objs.size) : ObjOk P w H (h.push { cls := .type "dict", data := .dict #[] }) h.objs.size (DicO h.objs.size []) :=
  dic_ok (Nat.zero_le _) (beq_eq_false_iff_ne.mpr (Ne.symm (Nat.ne_of_lt hb))) .nil (Heap.DictOfH.new h)
/-- d[k] = v -/
def stoT (K : PySem.W.Frag) : Addr → V → V → Hp → (Hp → Prop) → Prop := fun a y z H N => ∃ b k L, y = .ref b ∧ SqT K H b (k.map V.int) ∧ H a = some (DicO a L) ∧ KsT K H L ∧ L.length < sizeLine ∧ N (upd H a (DicO a (putE L k b z)))
theorem stoT_ok {P : Program} {w : World} {K : PySem.W.Frag} {A : Around} (hu : A.units < cLine) : StoOk P w K A (stoT K) := by
  rintro X rfl rfl rfl rfl pins s σ H A0 y z u r E Q N I ry rz ⟨b, k, L, rfl, hb, hA, hks, hl, n⟩ hQ
  cases (show u = Value.ref b from ry)
  obtain ⟨hd, _⟩ := dic_at I.hok (.inl hA)
  obtain ⟨xs, rl, dd⟩ := dic_H I (.inl hA) hks
  have hz : xs.length ≤ sizeLine := by rw [← Paired.length rl]; exact Nat.le_of_lt hl
  have hl' : (putE L k b z).length ≤ sizeLine := by have := length_putE L k b z; omega
  refine wpAny_dictSet_heap (hsz := hz) (knd := tupleKind (intKind X.prog X.w)) hu (key_sq I hb) dd fun h' dd' hs => hQ _ _ ?_ n
  have he : ∃ q, h'.get? A0 = some q := let ⟨q, _, _, hq, _⟩ := dd'; ⟨q, hq⟩
  exact d_write I (by rw [hA]; exact True.intro) hs he (dic_ok hl' hd (rl.put k b rz) dd')
/-- d[k] = v, a statement -/
theorem dic_setItem {b : Addr} {k : List Int} {v : V} {r : Value} {A : Around} {E : Value → Shared → Prop} {Q : Unit → Shared → Prop} (hu : A.units + 1 < cLine) (I : Inv X pins σ H s) (hA : H a = some (DicO a L)) (hks : KsT X.K H L) (hb : SqT X.K H b (k.map V.int)) (hl : L.length < sizeLine) (rv : RelV v r)
    (h : ∀ s', Inv X pins σ (upd H a (DicO a (putE L k b v))) s' → Q () s') : wpAny (model X.prog X.w) A (setItem (.ref a) (.ref b) r) Q E s := by
  obtain ⟨hd, _⟩ := dic_at I.hok (.inl hA)
  obtain ⟨xs, rl, dd⟩ := dic_H I (.inl hA) hks
  have hz : xs.length ≤ sizeLine := by rw [← Paired.length rl]; exact Nat.le_of_lt hl
  have hl' : (putE L k b v).length ≤ sizeLine := by have := length_putE L k b v; omega
  refine wpAny_setItem_heap (hsz := hz) (knd := tupleKind (intKind X.prog X.w)) (tupleKind_room_in1 hu) (key_sq I hb) dd fun h' dd' hs => h _ ?_
  have he : ∃ q, h'.get? a = some q := let ⟨q, _, _, hq, _⟩ := dd'; ⟨q, hq⟩
  exact d_write I (by rw [hA]; exact True.intro) hs he (dic_ok hl' hd (rl.put k b rv) dd')
/-- d[k], there -/
theorem dic_getItem {b : Addr} {k : List Int} {v : V} {A : Around} {E : Value → Shared → Prop} {Q : Value → Shared → Prop} (hu : A.units + 1 < cLine) (I : Inv X pins σ H s) (hA : Rd H a (DicO a L)) (hks : KsT X.K H L) (hb : SqT X.K H b (k.map V.int)) (hv : valE L k = some v)
    (h : ∀ w' s', Inv X pins σ H s' → RelV v w' → Q w' s') : wpAny (model X.prog X.w) A (getItem (.ref a) (.ref b)) Q E s := by
  obtain ⟨xs, rl, dd⟩ := dic_H I hA hks
  obtain ⟨w', hw, rw'⟩ := RelO.some_of (v := v) (o := (atKey xs k).map (·.2)) (by rw [← hv]; exact rl.val k)
  obtain ⟨p, hp, hp2⟩ := Option.map_eq_some_iff.mp hw
  refine wpAny_getItem_heap (knd := tupleKind (intKind X.prog X.w)) (tupleKind_room_in1 hu) (key_sq I hb) dd hp ?_
  rw [hp2]
  exact h w' _ (I.tok _) rw'
end
end DL

namespace DL
open PySem PySem.Spec PyProof.Rows L2 Mt
/-! ### sorted(d, key=lambda a: a[0] * (z // a[1])), d a dict whose keys are pairs of ints -/
structure KeyS (sc scope : Scope) (a z : Str) : Prop where
  kind : scope.kind = .function
  co : scope.isCoroutine = false
  gen : scope.isGenerator = false
  ncell : ∀ y ∈ scope.names, y.2 ≠ .cell
  ha : scope.names.lookup a = some .local
  hz : scope.names.lookup z = some .free
  free : ∀ y ∈ scope.names, y.2 = .free → sc.names.lookup y.1 = some .cell ∨ sc.names.lookup y.1 = some .free
def keySB (sc scope : Scope) (a z : Str) : Bool := decide (scope.kind = .function) && (!scope.isCoroutine && (!scope.isGenerator && (decide (scope.names.lookup a = some .local) && (decide (scope.names.lookup z = some .free) &&
  scope.names.all fun y => !decide (y.2 = .cell) && (!decide (y.2 = .free) || decide (sc.names.lookup y.1 = some .cell) || decide (sc.names.lookup y.1 = some .free))))))
theorem keyS_by {sc scope : Scope} {a z : Str} (h : keySB sc scope a z = true) : KeyS sc scope a z := by
  unfold keySB at h
  simp only [Bool.and_eq_true, Bool.or_eq_true, Bool.not_eq_true', decide_eq_true_eq, decide_eq_false_iff_not, List.all_eq_true] at h
  obtain ⟨h1, h2, h3, h4, h5, h6⟩ := h
  refine ⟨h1, h2, h3, fun y hy => (h6 y hy).1, h4, h5, fun y hy e => ?_⟩
  rcases (h6 y hy).2 with (q | q) | q
  · exact absurd e q
  · exact .inl q
  · exact .inr q
/-- the key's body -/
abbrev keyBody (a z : Str) (k0 k1 : Nat) (p1 p2 p3 p4 p5 p6 p7 p8 p9 : Pos) : Expr :=
  .BinOp (.Subscript (.Name a p1) (.Constant (.int 0) k0 p2) p3) .Mult (.BinOp (.Name z p4) .FloorDiv (.Subscript (.Name a p5) (.Constant (.int 1) k1 p6) p7) p8) p9
theorem key_call {prog : Program} {w : World} {A : Around} {s : Shared} {f c' b : Addr} {q a z : Str} {params : Arguments} {sc scope : Scope} {cl : List (Str × Addr)} {pm ctv : Value} {m n d : Int} {t1 t2 : Tok} {k0 k1 : Nat} {p1 p2 p3 p4 p5 p6 p7 p8 p9 : Pos}
    (KS : KeyS sc scope a z) (hroom : A.depth < recursionLimit) (hf : s.heap.get? f = some (PySem.W.kla_obj "<lambda>" q params (keyBody a z k0 k1 p1 p2 p3 p4 p5 p6 p7 p8 p9) scope cl pm c' ctv)) (hcr : s.heap.CodeRec (.ref c') q)
    (hcell : ∃ c t, cl.lookup z = some c ∧ s.heap.IsCell c (some (.int m t))) (hlim : s.heap.NoLimit) (htup : IsTup s.heap b #[.int n t1, .int d t2]) (hdv : CDivX d) (hmul : IntMulOk n (m.fdiv d))
    (hbind : bindArgs (PySem.W.kla_fn "<lambda>" q params (keyBody a z k0 k1 p1 p2 p3 p4 p5 p6 p7 p8 p9) scope cl pm (.ref c') ctv) ⟨[.ref b], []⟩ = pure [(a, .ref b)])
    (hda : (a == ("__debug__" : Str)) = false) (hdz : (z == ("__debug__" : Str)) = false) (hcz : (z == ("__classdict__" : Str)) = false) :
    wpAny (model prog w) A (call (.ref f) [.ref b]) (PySem.W.KeyPure (.int (n * m.fdiv d)) s) (fun _ _ => False) s := by
  refine wpAny_call (PySem.W.kla_callFunE hroom hf rfl KS.co KS.gen rfl hcr ?_)
  rw [hbind]
  refine wpAny_pure (wpAny_newFunctionEnv KS.ncell (fun y hy => ?_) (fun h₁ hns hsb => ⟨hlim.fresh _ hsb, ?_⟩) KS.kind)
  · have e : y = (a, .ref b) := by simpa using hy
    subst e; exact KS.ha
  show codeAny _ _ (.expr _ (PySem.W.envX q scope s.heap.objs.size f (.ref c') cl)) _ _
  have kp : ∀ b o, s.heap.get? b = some o → h₁.get? b = some o := fun b o e => hsb.extBut b o (Nat.ne_of_lt (Heap.lt_size e)) (Heap.get?_push_of_some _ e)
  generalize s.toks + ([(a, Value.ref b)] : List (Str × Value)).length = tk0
  generalize hL : s.heap.objs.size = L at *
  have hma : (fun x => ([(a, Value.ref b)] : List (Str × Value)).reverse.lookup x) a = some (.ref b) := by simp
  have tup1 : IsTup h₁ b #[.int n t1, .int d t2] := by
    obtain ⟨o, e, r⟩ := htup
    exact ⟨o, kp _ _ e, r⟩
  obtain ⟨c, t, hc, ocl, hco, hcd⟩ := hcell
  have cell1 : h₁.IsCell c (some (.int m t)) := ⟨ocl, kp _ _ hco, hcd⟩
  refine PySem.W.kla_codeExpr ?_
  have nm : ∀ (tk : Nat) (E : Value → Shared → Prop) (Q : Value → Shared → Prop) (p : Pos), Q (.ref b) { s with heap := h₁, toks := tk } →
      wpAny (model prog w) (A.deeper (PySem.W.envX q scope L f (.ref c') cl)) (eval (.Name a p) (PySem.W.envX q scope L f (.ref c') cl)) Q E { s with heap := h₁, toks := tk } := fun tk E Q p h =>
    wpAny_Name (wpAny_loadName_local (m := fun x => ([(a, Value.ref b)] : List (Str × Value)).reverse.lookup x) KS.kind KS.ha hns hma h) hda
  have it0 : ∀ (tk : Nat) (E : Value → Shared → Prop) (Q : Value → Shared → Prop) (p r p' : Pos) (kk : Nat), (∀ tk', Q (.int n t1) { s with heap := h₁, toks := tk' }) →
      wpAny (model prog w) (A.deeper (PySem.W.envX q scope L f (.ref c') cl)) (eval (.Subscript (.Name a p) (.Constant (.int 0) kk r) p') (PySem.W.envX q scope L f (.ref c') cl)) Q E { s with heap := h₁, toks := tk } := fun tk E Q p r p' kk h =>
    wpAny_Subscript_Constant_late (nm _ _ _ _ (wpAny_Constant_int ⟨"tuple", _, slot_tuple_getitem.lookup, tup1.typeIs, getItem_tuple (j := 0) tup1 (by decide) (by decide) rfl rfl (h _)⟩))
  have it1 : ∀ (tk : Nat) (E : Value → Shared → Prop) (Q : Value → Shared → Prop) (p r p' : Pos) (kk : Nat), (∀ tk', Q (.int d t2) { s with heap := h₁, toks := tk' }) →
      wpAny (model prog w) (A.deeper (PySem.W.envX q scope L f (.ref c') cl)) (eval (.Subscript (.Name a p) (.Constant (.int 1) kk r) p') (PySem.W.envX q scope L f (.ref c') cl)) Q E { s with heap := h₁, toks := tk } := fun tk E Q p r p' kk h =>
    wpAny_Subscript_Constant_late (nm _ _ _ _ (wpAny_Constant_int ⟨"tuple", _, slot_tuple_getitem.lookup, tup1.typeIs, getItem_tuple (j := 1) tup1 (by decide) (by decide) rfl rfl (h _)⟩))
  refine wpAny_BinOp (it0 _ _ _ _ _ _ _ fun tk1 => ?_)
  refine wpAny_BinOp (wpAny_Name (wpAny_loadName_free KS.kind KS.hz hc cell1 ?_ hcz) hdz)
  refine it1 _ _ _ _ _ _ _ fun tk2 => ?_
  refine floordiv_int hdv.1 ?_ (.inl (PyProof.noPylong_of_log2 hdv.2))
  refine mul_int ?_ hmul
  exact ⟨h₁, _, rfl, fun b o e => kp b o e, .int _ _⟩
end DL
namespace DL
open PySem PySem.Spec PyProof.Rows L2 Mt LamX
/-- the sort's key of an entry -/
def keyI (m : Int) (k : List Int) : Int := (k[0]?.getD 0) * m.fdiv (k[1]?.getD 0)
def leE (m : Int) : (List Int × Addr × V) → (List Int × Addr × V) → Bool := fun a b => decide (keyI m a.1 ≤ keyI m b.1)
theorem pair_of {k : List Int} (h : k.length = 2) : ∃ n d, k = [n, d] := by
  match k, h with
  | [n, d], _ => exact ⟨n, d, rfl⟩
/-- sorted(e, key=lambda a: a[0] * (z // a[1])) -/
def rSortK (K : PySem.W.Frag) (T : List (Addr × Str)) (i : Nat) (σ : L2.St) (Q : VK) : V → Hp → Prop := fun x H1 => Tabs T H1 ∧ ∃ a L m, x = .ref a ∧ Rd H1 a (DicO a L) ∧ KsT K H1 L ∧ σ[i]? = some (some (.int m)) ∧
  (∀ e ∈ L, e.1.length = 2 ∧ CDivX (e.1[1]?.getD 0) ∧ IntMulOk (e.1[0]?.getD 0) (m.fdiv (e.1[1]?.getD 0))) ∧
  ∀ H2 p, ExtN H1 H2 → Tabs T H2 → H2 p = none → Q (.ref p) (upd H2 p (.lst ((L.mergeSort (leE m)).map fun e => V.ref e.2.1)))
def tSortK (K : PySem.W.Frag) (T : List (Addr × Str)) (i : Nat) (te : TE) : TE := fun σ H Q => te σ H (rSortK K T i σ Q)
theorem SqT.ext {K : PySem.W.Frag} {H H2 : Hp} {a : Addr} {xs : List V} (h : SqT K H a xs) (e : ExtN H H2) : SqT K H2 a xs := by
  rcases h with (h | ⟨o, h⟩) | h
  · exact .inl (.inl (e _ _ h fun _ z => by cases z))
  · exact .inl (.inr ⟨o, e _ _ h fun _ z => by cases z⟩)
  · exact .inr h
theorem each_map {α β : Type} {R : α → β → Prop} {g : β → α} : ∀ {xs : List α} {ys : List β}, PySem.W.EachIs (fun v x => v = g x) xs ys → xs = ys.map g
  | _, _, .nil => rfl
  | _, _, .cons h t => by rw [List.map_cons, ← each_map (R := R) t, ← h]
theorem map_each {α β : Type} {g : β → α} : ∀ {ys : List β}, PySem.W.EachIs (fun v x => v = g x) (ys.map g) ys
  | [] => .nil
  | _ :: _ => .cons rfl map_each
theorem pe_sortK {X : Cx} {T : List (Addr × Str)} {c P : Addr} {e : Expr} {te : TE} {a z : Str} {i k : Nat} {params : Arguments} {scope : Scope} {k0 k1 : Nat} {p p1 p2 p3 p4 p5 p6 p7 p8 p9 lpos kpos pos : Pos} (hc : X.calm = true) (hg : Gl X "sorted") (hm : X.mg "sorted" = none)
    (he : PE X e te) (TB : TabB X.base X.mg c P) (hcode : X.env.code = .ref c) (hmT : (P, X.env.qual ++ "<lambda>") ∈ T) (hu : ∀ p ∈ T, p.1 = P → p.2 = X.env.qual ++ "<lambda>") (hr : Room (k + 2) X.A) (KS : KeyS X.env.scope scope a z)
    (hNz : X.N[i]? = some z) (hdef : defaultsOf params X.env = ([], []))
    (hbind : ∀ (q : Str) (cl : List (Str × Addr)) (pm cv ctv : Value) (b : Addr), bindArgs (PySem.W.kla_fn "<lambda>" q params (keyBody a z k0 k1 p1 p2 p3 p4 p5 p6 p7 p8 p9) scope cl pm cv ctv) ⟨[.ref b], []⟩ = pure [(a, .ref b)])
    (hst : ∀ ps, backTo ps (starEach [e] X.env) = (false, eval e X.env) :: backTo ps (starEach [] X.env) := by intro _; rfl) (hpl : (backTo pos (starEach [e] X.env)).any (·.1) = false := by rfl)
    (hda : (a == ("__debug__" : Str)) = false := by decide) (hdz : (z == ("__debug__" : Str)) = false := by decide) (hcz : (z == ("__classdict__" : Str)) = false := by decide) :
    PE X (.Call (.Name "sorted" p) [e] [⟨some "key", .Lambda params (keyBody a z k0 k1 p1 p2 p3 p4 p5 p6 p7 p8 p9) scope lpos, kpos⟩] pos) (tSortK X.K T i te) := by
  refine ⟨fun pins s σ H Q I h => ?_⟩
  refine wpAny_Call_Name_kw (ld_blt I hg hm (u := .builtin "sorted") (by decide +kernel) ?_)
  refine PyProof.Rows.callWith_kw (id := "sorted") ?_ (hst pos) hpl
  rw [hst pos]
  refine Calls.spliced_cons (thn (he.run pins s σ H (rSortK X.K T i σ Q) I h) fun u s1 ⟨x, H1, I1, ru, hT, d, L, m, ed, hd, hks, hsl, hL, q⟩ => Calls.spliced_nil ?_)
  subst ed
  cases ru
  show wpAny _ _ (evalAll [(do let v ← eval (.Lambda params (keyBody a z k0 k1 p1 p2 p3 p4 p5 p6 p7 p8 p9) scope lpos) X.env; standAt pos; pure v)]) _ _ s1
  have hfree : ∀ y ∈ scope.names, y.2 = .free → ∃ c, X.env.cells.lookup y.1 = some c := fun y hy e => (KS.free y hy e).elim (fun k => I1.ok.has _ (.inl k)) fun k => I1.ok.has _ (.inr k)
  refine wpAny_evalAll_cons (wpAny_bind (lam_make2 I1 TB hcode hmT hu hT hdef hfree fun f c' pm ctv H2 s2 I2 eN T2 hf hfn hfr hco => wpAny_bind (wpAny_standAt (wpAny_pure (wpAny_evalAll_nil ?_)))))
  show wpAny _ _ (call (.builtin "sorted") [.ref d] [(Str.ofString "key", .ref f)]) _ _ s2
  have hd2 : Rd H2 d (DicO d L) := hd.elim (fun h => .inl (eN _ _ h fun _ z => by cases z)) fun ⟨o, h⟩ => .inr ⟨o, eN _ _ h fun _ z => by cases z⟩
  have hks2 : KsT X.K H2 L := fun e he => SqT.ext (hks e he) eN
  obtain ⟨lo, hz, xs, rl, o, es, ep, ho, hx, hdt, hes, hnd⟩ := dic_at I2.hok hd2
  have hxl : L.length = xs.length := Paired.length rl
  have hel : es.size = xs.length := size_of_entries hes
  -- the number that is held in the cell
  obtain ⟨cz, tz, hcz1, hcz2⟩ : ∃ c t, (cloFrom X.env.cells scope.names []).lookup z = some c ∧ s2.heap.IsCell c (some (.int m t)) := by
    have hmem : (z, NameKind.free) ∈ scope.names := PySem.mem_of_lookup KS.hz
    have hv := KS.free _ hmem rfl
    obtain ⟨ma, _, hl⟩ := I2.loc
    obtain ⟨u, ru, lk⟩ := hl i z (.int m) hNz hsl (hv.elim (fun k => .inr (.inl k)) fun k => .inr (.inr k))
    obtain ⟨t, rfl⟩ := (show ∃ t, u = Value.int m t from ru)
    rcases lk with ⟨k', _⟩ | ⟨_, c3, e3, hcell⟩
    · have k' : X.env.scope.names.lookup z = some .local := k'
      rcases hv with k2 | k2 <;> rw [show X.env.scope.names.lookup z = _ from k2] at k' <;> cases k'
    · obtain ⟨c2, h2⟩ := mem_lookup (cloFrom_has (cells := X.env.cells) (acc := []) hmem)
      refine ⟨c2, t, h2, ?_⟩
      rcases cloFrom_mem (PySem.mem_of_lookup h2) with hmm | ⟨_, h5⟩
      · cases hmm
      · have e5 : c2 = c3 := by rw [h5, e3] <;> rfl
        rw [e5]; exact hcell
  refine call_function_entry_kw kind_sorted plain_sorted entry_sorted (ksk_s1 _ _) ?_
  unfold Builtin.«sorted»
  refine wpAny_bind (m := checkCount "sorted" 1 1 _) (wpAny_pure ?_)
  refine wpAny_bind (PySem.W.kdu_collect (A := X.A.in1) (kdl_raw lo hx hdt) (I2.ok.hd hc) ho (by omega) fun h' tk acc kp hacc => ?_)
  have hal : acc.toList = L.map fun e => Value.ref e.2.1 := by
    have hl : acc.toList.length = xs.length := by rw [Array.length_toList, hacc.1]; exact hel
    have key : ∀ {l : Ents} {ms : List (List Int × Addr × Value)}, LR l ms → l.map (fun e => Value.ref e.2.1) = ms.map fun x => Value.ref x.2.1 := by
      intro l ms rr
      induction rr with
      | nil => rfl
      | cons hh _ ih => rw [List.map_cons, List.map_cons, ih, hh.2.1]
    rw [key rl]
    refine List.ext_getElem? fun j => ?_
    rw [List.getElem?_map]
    cases hj : acc.toList[j]? with
    | none => rw [List.getElem?_eq_none (by have := List.getElem?_eq_none_iff.mp hj; omega)] <;> rfl
    | some v =>
      obtain ⟨en, hen, hv⟩ := hacc.2 j v (by rw [← Array.getElem?_toList]; exact hj)
      have qe := entry_at hes j
      rw [hen] at qe
      cases hb : xs[j]? with
      | none => rw [hb] at qe; exact nomatch (show some en = none from qe)
      | some b =>
        rw [hb] at qe
        rw [hv, Option.some.inj (show some en = some _ from qe)] <;> rfl
  refine wpAny_bind (wpAny_newList ?_ (by rw [hal, List.length_map]; exact hz))
  rw [hal]
  have hoL : (h'.push (seqObj "list" (L.map fun e => Value.ref e.2.1).toArray 0)).get? h'.objs.size = some (seqObj "list" (L.map fun e => Value.ref e.2.1).toArray 0) := Heap.get?_push_size _ rfl
  have kp2 : ∀ b o, s2.heap.get? b = some o → (h'.push (seqObj "list" (L.map fun e => Value.ref e.2.1).toArray 0)).get? b = some o := fun b o e => Heap.get?_push_of_some _ (kp b o e)
  have I3 : Inv X pins σ H2 { s2 with heap := h', toks := tk } := I2.kept kp
  have nL : ∀ b o, s2.heap.get? b = some o → b ≠ h'.objs.size := fun b o e => Nat.ne_of_lt (Heap.lt_size (kp b o e))
  show wpAny _ _ _ _ _ { s2 with heap := h'.push (seqObj "list" (L.map fun e => Value.ref e.2.1).toArray 0), toks := tk }
  refine wpAny_bind (wpAny_holding (PySem.W.list_sort_key_data (b := false) (fun e : List Int × Addr × V => .int (keyI m e.1)) (R := fun v e => v = Value.ref e.2.1) (bs := L) hoL map_each ?al ?so hz ?un (ksk_l1 _ _) (ksk_t1 _ _) ?turn ?fin))
  case al => exact PySem.W.AllAlike.of fun _ _ => by simp [PySem.W.alike]
  case so =>
    refine .inr fun dd hdd => ?_
    obtain ⟨y, _, rfl⟩ := List.mem_map.mp hdd
    exact ⟨(fun z => by cases z), fun _ z => by cases z⟩
  case un =>
    intro y _
    have := hr.un
    show X.A.units + 1 + 1 + 0 < cLine
    omega
  case turn =>
    rintro v y rfl hy g tk' kpb
    obtain ⟨l2, hdv, hml⟩ := hL y hy
    obtain ⟨n, dn, e2⟩ := pair_of l2
    have up : ∀ b o, s2.heap.get? b = some o → g.get? b = some o := fun b o e => kpb b o (nL b o e) (kp2 b o e)
    obtain ⟨its, rv, pl, _⟩ := I2.tuple (hks2 y hy)
    rw [e2] at rv hdv hml
    obtain ⟨t1, t2, rfl⟩ : ∃ t1 t2, its = [Value.int n t1, Value.int dn t2] := by
      cases rv with
      | cons a1 b1 => cases b1 with
        | cons a2 b2 => cases b2; obtain ⟨t1, rfl⟩ := (show ∃ t, _ = Value.int n t from a1); obtain ⟨t2, rfl⟩ := (show ∃ t, _ = Value.int dn t from a2); exact ⟨t1, t2, rfl⟩
    obtain ⟨⟨oc, vs, t, hoc, hdc, hvc⟩, _, _⟩ := I2.hok c' _ hco
    obtain ⟨ocl, hc1, hc2⟩ := hcz2
    have ek : keyI m y.1 = n * m.fdiv dn := by rw [e2]; rfl
    rw [ek]
    refine key_call (s := { s2 with heap := g, toks := tk' }) (m := m) (n := n) (d := dn) (t1 := t1) (t2 := t2) KS ?_ (up _ _ hf) ⟨c', oc, vs, t, rfl, up _ _ hoc, hdc, hvc⟩ ⟨cz, tz, hcz1, ocl, up _ _ hc1, hc2⟩ (I2.ok.mod.nolimit.keeps fun b o e => up b o (I2.bk b o e)) ?_ hdv hml (hbind _ _ _ _ _ _) hda hdz hcz
    · exact hr.depth
    · obtain ⟨o1, h1, h2⟩ := pl
      exact ⟨o1, up _ _ h1, h2⟩
  case fin =>
    intro out cc g tk' kpb hD hlen eo
    have eout := each_map (R := fun (_ : Value) (_ : List Int × Addr × V) => True) eo
    rw [PySem.W.dataLe_int (fun e : List Int × Addr × V => keyI m e.1)] at eout
    have up : ∀ b o, ({ s2 with heap := h', toks := tk } : Shared).heap.get? b = some o → g.get? b = some o := fun b o e => kpb b o (Nat.ne_of_lt (Heap.lt_size (show h'.get? b = some o from e))) (Heap.get?_push_of_some _ e)
    refine wpAny_pure ⟨_, rfl, .ref h'.objs.size, _, I3.laid (a := h'.objs.size) (o := .lst ((L.mergeSort (leE m)).map fun e => V.ref e.2.1)) (t' := tk') up (Nat.le_refl _) ?_, rfl, q H2 h'.objs.size eN T2 (I3.hok.fresh (Nat.le_refl _))⟩
    refine ⟨by rw [List.length_map, List.length_mergeSort]; exact hz, out, cc, ?_, hD⟩
    rw [eout]
    have vm : ∀ l : Ents, Vals (l.map fun e => V.ref e.2.1) (l.map fun e => Value.ref e.2.1) := fun l => by
      induction l with
      | nil => exact .nil
      | cons y l ih => exact .cons rfl ih
    exact vm _
end DL

/-! dicts with tuple keys at data level -/
namespace DL
open PySem PySem.Spec PyProof.Rows L2 Mt LamX
/-! ### the pairs -/
def asInts : List D → Option (List Int)
  | [] => some []
  | .int i :: r => (match asInts r with
    | some l => some (i :: l)
    | none => none)
  | _ :: _ => none
def asK : D → Option (List Int)
  | .tup xs => asInts xs
  | _ => none
theorem asInts_eq : ∀ {xs : List D} {k : List Int}, asInts xs = some k → xs = k.map D.int
  | [], _, e => by cases e; rfl
  | x :: r, k, e => by
    cases x <;> first | (cases (show (none : Option (List Int)) = some k from e)) | skip
    rename_i i
    unfold asInts at e
    split at e
    · rename_i l el
      cases e
      rw [asInts_eq el]; rfl
    · cases e
theorem asK_eq {d : D} {k : List Int} (e : asK d = some k) : d = kD k := by
  cases d <;> first | (cases (show (none : Option (List Int)) = some k from e)) | skip
  rename_i xs
  rw [asInts_eq (show asInts xs = some k from e)]; rfl
theorem asInts_map : ∀ k : List Int, asInts (k.map D.int) = some k
  | [] => rfl
  | i :: k => by
    show (match asInts (k.map D.int) with
      | some l => some (i :: l)
      | none => none) = _
    rw [asInts_map k]
theorem asK_kD (k : List Int) : asK (kD k) = some k := asInts_map k
abbrev Kvs := List (List Int × D)
def putP (kvs : Kvs) (k : List Int) (z : D) : Kvs := if (kvs.any fun e => decide (e.1 = k)) = true then kvs.map (fun e => if e.1 = k then (e.1, z) else e) else kvs ++ [(k, z)]
def valP (kvs : Kvs) (k : List Int) : Option D := (kvs.find? fun e => decide (e.1 = k)).map (·.2)
def flP' (kvs : Kvs) : List D := kvs.map (fun e => kD e.1) ++ kvs.map (·.2)
def dtD (kvs : Kvs) : D := .dt (kvs.map (·.1)) (flP' kvs)
def dTM (kvs : Kvs) : MO := .dT (kvs.map (·.1)) (flP' kvs)
def kvsOf (ks : List (List Int)) (ds : List D) : Kvs := ks.zip (ds.drop ks.length)
theorem kvsOf_mk (kvs : Kvs) : kvsOf (kvs.map (·.1)) (flP' kvs) = kvs := by
  unfold kvsOf flP'
  rw [List.drop_left' (by simp)]
  induction kvs with
  | nil => rfl
  | cons e r ih => rw [List.map_cons, List.map_cons, List.zip_cons_cons, ih]
section
variable {K : PySem.W.Frag} {al : Al} {M : Mem} {H : Hp}
abbrev RP (K : PySem.W.Frag) (al : Al) (M : Mem) (H : Hp) : Kvs → Ents → Prop := Paired fun p e => p.1 = e.1 ∧ Rp K al M H (kD p.1) (.ref e.2.1) ∧ Rp K al M H p.2 e.2.2
theorem RP.mono {al' : Al} {M' : Mem} {H' : Hp} {kvs : Kvs} {L : Ents} (s : Stp al M H al' M' H') (h : RP K al M H kvs L) : RP K al' M' H' kvs L := Paired.mapP h fun _ _ z => ⟨z.1, z.2.1.mono s, z.2.2.mono s⟩
theorem RP.keys {kvs : Kvs} {L : Ents} (h : RP K al M H kvs L) : L.map (·.1) = kvs.map (·.1) := by
  induction h with
  | nil => rfl
  | cons a _ ih => rw [List.map_cons, List.map_cons, ih, a.1]
theorem RP.rps {kvs : Kvs} {L : Ents} (h : RP K al M H kvs L) : Rps K al M H (kvs.map fun e => kD e.1) (L.map fun e => V.ref e.2.1) ∧ Rps K al M H (kvs.map (·.2)) (L.map (·.2.2)) := by
  induction h with
  | nil => exact ⟨rfl, rfl⟩
  | cons a _ ih => exact ⟨⟨_, _, rfl, a.2.1, ih.1⟩, ⟨_, _, rfl, a.2.2, ih.2⟩⟩
theorem RP.rpd {kvs : Kvs} {L : Ents} (h : RP K al M H kvs L) : Rpd K al M H (kvs.map (·.1)) (flP' kvs) L :=
  ⟨⟨h.keys, by unfold flP'; rw [List.take_left' (by simp), List.map_map]; rfl⟩, h.rps.1.append h.rps.2⟩
theorem Rps.split {ds es : List D} : ∀ {xs ys : List V}, xs.length = ds.length → Rps K al M H (ds ++ es) (xs ++ ys) → Rps K al M H ds xs ∧ Rps K al M H es ys := by
  induction ds with
  | nil => intro xs ys hl h; cases xs with
    | nil => exact ⟨rfl, h⟩
    | cons _ _ => simp at hl
  | cons d ds ih => intro xs ys hl h; cases xs with
    | nil => simp at hl
    | cons x xs =>
      obtain ⟨y, r, e, q, t⟩ := h
      rw [List.cons_append] at e
      injection e with e1 e2
      subst e1 e2
      obtain ⟨a, b⟩ := ih (by simpa using hl) t
      exact ⟨⟨_, _, rfl, q, a⟩, b⟩
theorem rp_of {L : Ents} : ∀ {xs : List D}, Rps K al M H ((L.map (·.1)).map kD) (L.map fun e => V.ref e.2.1) → Rps K al M H xs (L.map (·.2.2)) → RP K al M H ((L.map (·.1)).zip xs) L := by
  induction L with
  | nil => intro xs _ _; exact .nil
  | cons e L ih =>
    intro xs h1 h2
    cases xs with
    | nil => exact absurd h2.length (by simp)
    | cons x xs =>
      obtain ⟨y, r, e1, q, t⟩ := h1
      obtain ⟨y', r', e1', q', t'⟩ := h2
      rw [List.map_cons] at e1 e1'
      injection e1 with e2 e3
      injection e1' with e2' e3'
      subst e2 e3 e2' e3'
      exact .cons ⟨rfl, q, q'⟩ (ih t t')
/-- a dict's data, taken apart -/
theorem Rpd.rp {ks : List (List Int)} {ds : List D} {L : Ents} (h : Rpd K al M H ks ds L) : ks = (kvsOf ks ds).map (·.1) ∧ ds = flP' (kvsOf ks ds) ∧ RP K al M H (kvsOf ks ds) L := by
  obtain ⟨⟨rfl, h2⟩, h3⟩ := h
  have hl : ds.length = (L.map (·.1)).length + L.length := by rw [h3.length]; unfold Lv; simp
  have ed : ds = (L.map (·.1)).map kD ++ ds.drop (L.map (·.1)).length := by
    conv => lhs; rw [← List.take_append_drop (L.map (·.1)).length ds, h2]
  have hd : (ds.drop (L.map (·.1)).length).length = L.length := by rw [List.length_drop, hl]; simp
  rw [ed] at h3
  obtain ⟨r1, r2⟩ := Rps.split (xs := L.map fun e => V.ref e.2.1) (ys := L.map (·.2.2)) (by simp) h3
  have rp := rp_of r1 r2
  have zk : ∀ (a : List (List Int)) (b : List D), b.length = a.length → (a.zip b).map (·.1) = a ∧ (a.zip b).map (·.2) = b := by
    intro a
    induction a with
    | nil => intro b hb; cases b with
      | nil => exact ⟨rfl, rfl⟩
      | cons _ _ => simp at hb
    | cons x a ih => intro b hb; cases b with
      | nil => simp at hb
      | cons y b => obtain ⟨p, q⟩ := ih b (by simpa using hb); exact ⟨by rw [List.zip_cons_cons, List.map_cons, p], by rw [List.zip_cons_cons, List.map_cons, q]⟩
  obtain ⟨z1, z2⟩ := zk (L.map (·.1)) (ds.drop (L.map (·.1)).length) (by rw [hd]; simp)
  refine ⟨z1.symm, ?_, rp⟩
  unfold flP' kvsOf
  rw [show (fun e : List Int × D => kD e.1) = kD ∘ (fun e : List Int × D => e.1) from rfl, ← List.map_map, z1, z2]
  exact ed
theorem RP.any {kvs : Kvs} {L : Ents} (h : RP K al M H kvs L) (k : List Int) : (kvs.any fun e => decide (e.1 = k)) = L.any fun e => decide (e.1 = k) := by
  induction h with
  | nil => rfl
  | cons a _ ih => rw [List.any_cons, List.any_cons, ih, a.1]
theorem RP.put {kvs : Kvs} {L : Ents} (h : RP K al M H kvs L) (k : List Int) {b : Addr} {z : D} {v : V} (rk : Rp K al M H (kD k) (.ref b)) (rz : Rp K al M H z v) : RP K al M H (putP kvs k z) (putE L k b v) := by
  unfold putP putE
  rw [h.any k]
  split
  · rename_i hany
    clear rk hany
    induction h with
    | nil => exact .nil
    | @cons p e ps es a _ ih =>
      rw [List.map_cons, List.map_cons]
      refine .cons ?_ ih
      obtain ⟨a1, a2, a3⟩ := a
      by_cases c : p.1 = k
      · rw [if_pos c, if_pos (a1.symm.trans c)]; exact ⟨a1, a2, rz⟩
      · rw [if_neg c, if_neg fun z => c (a1.trans z)]; exact ⟨a1, a2, a3⟩
  · exact Paired.snoc h ⟨rfl, rk, rz⟩
theorem RP.val {kvs : Kvs} {L : Ents} (h : RP K al M H kvs L) {k : List Int} {d : D} (e : valP kvs k = some d) : ∃ v, valE L k = some v ∧ Rp K al M H d v := by
  induction h with
  | nil => cases e
  | @cons p q ps qs a _ ih =>
    unfold valP at e ih
    unfold valE at ih ⊢
    by_cases c : p.1 = k
    · have c' : q.1 = k := a.1.symm.trans c
      rw [List.find?_cons, decide_eq_true c] at e
      rw [List.find?_cons, decide_eq_true c']
      cases (Option.some.inj e)
      exact ⟨_, rfl, a.2.2⟩
    · have c' : ¬ q.1 = k := fun z => c (a.1.trans z)
      rw [List.find?_cons, decide_eq_false c] at e
      rw [List.find?_cons, decide_eq_false c']
      exact ih e
theorem RP.kst {kvs : Kvs} {L : Ents} (h : RP K al M H kvs L) : KsT K H L := by
  induction h with
  | nil => intro e he; exact nomatch he
  | cons a _ ih =>
    intro e he
    rcases List.mem_cons.mp he with z | z
    · subst z
      obtain ⟨b, xs, eb, hq, r⟩ := a.2.1
      cases eb
      have ex : xs = e.1.map V.int := by
        rw [a.1] at r
        generalize e.1 = ks at r
        clear hq ih he
        induction ks generalizing xs with
        | nil => exact r
        | cons k ks ih2 =>
          obtain ⟨y, r', e1, q, t⟩ := r
          cases (show y = V.int k from q)
          rw [e1, ih2 _ t]; rfl
      rw [← ex]; exact hq.sq
    · exact ih e z
end
end DL

namespace DL
open PySem PySem.Spec PyProof.Rows L2 Mt LamX
/-! ### {} -/
abbrev dDnT : TED := fun _ _ M Q => Q (.mt M.length) (M ++ [some (dTM [])])
theorem pe_dnT {X : Cx} {pos : Pos} : PE X (.Dict [] [] pos) (fun _ H Q => ∀ p, H p = none → Q (.ref p) (upd H p (DicO p []))) := ⟨fun pins s σ H Q I h =>
  wpAny_Dict_empty ⟨.ref s.heap.objs.size, _, I.laid (a := s.heap.objs.size) (o := DicO s.heap.objs.size []) (t' := s.toks) (fun _ _ q => Heap.get?_push_of_some _ q) (Nat.le_refl _) (dic_new _ s.heap I.big), rfl, h _ (I.hok.fresh (Nat.le_refl _))⟩⟩
theorem dv_dnT {X : Cx} {Tb : List (Addr × Str)} {EV : XK} {pos : Pos} : PD X Tb EV (.Dict [] [] pos) dDnT := pe_imp pe_dnT fun σ H QV h => by
  obtain ⟨al, rho, M, E, Q, a, t, p⟩ := h
  intro b hb
  have s := stp_mut a.wf hb (DicO b []) (dTM [])
  exact p _ (.mt M.length) _ _ _ s (wf_mut a.wf hb (fun _ z => by cases z) ⟨[], upd_same, (RP.rpd (kvs := []) .nil)⟩) ⟨b, al_last a.wf, rfl⟩ t
/-! ### the dict of a value -/
def memT (M : Mem) (i : Nat) : Option Kvs := match M[i]? with
  | some (some (.dT ks ds)) => some (kvsOf ks ds)
  | _ => none
def asT (M : Mem) : D → Option Kvs
  | .dt ks ds => some (kvsOf ks ds)
  | .mt i => memT M i
  | _ => none
theorem memT_mk {M : Mem} {i : Nat} {kvs : Kvs} (h : M[i]? = some (some (dTM kvs))) : memT M i = some kvs := by
  unfold memT
  rw [h]
  show some (kvsOf _ _) = _
  rw [kvsOf_mk]
theorem asT_dt (M : Mem) (kvs : Kvs) : asT M (dtD kvs) = some kvs := by
  show some (kvsOf _ _) = _
  rw [kvsOf_mk]
section
variable {K : PySem.W.Frag} {Tb : List (Addr × Str)} {al : Al} {M : Mem} {H : Hp}
theorem memT_ok (w : Wf K Tb al H M) {i : Nat} {kvs : Kvs} {v : V} (e : memT M i = some kvs) (r : Rp K al M H (.mt i) v) : ∃ a L, v = .ref a ∧ al.a[i]? = some a ∧ M[i]? = some (some (dTM kvs)) ∧ H a = some (DicO a L) ∧ RP K al M H kvs L := by
  obtain ⟨a, ha, rfl⟩ := r
  unfold memT at e
  split at e
  · rename_i ks ds em
    cases e
    obtain ⟨L, hH, r⟩ := w.rep i a _ ha em
    obtain ⟨z1, z2, rp⟩ := r.rp
    refine ⟨a, L, rfl, ha, ?_, hH, rp⟩
    rw [em]
    show some (some (MO.dT ks ds)) = some (some (MO.dT _ _))
    rw [← z1, ← z2]
  · cases e
theorem asT_ok (w : Wf K Tb al H M) {d : D} {kvs : Kvs} {v : V} (e : asT M d = some kvs) (r : Rp K al M H d v) : ∃ a L, v = .ref a ∧ Rd H a (DicO a L) ∧ RP K al M H kvs L := by
  unfold asT at e
  split at e
  · rename_i ks ds
    cases e
    obtain ⟨a, o, L, rfl, h1, _, h2, h3⟩ := r
    obtain ⟨_, _, rp⟩ := Rpd.rp (show Rpd K al M H ks ds L from ⟨h2, h3⟩)
    exact ⟨a, L, rfl, .inr ⟨o, h1⟩, rp⟩
  · rename_i i
    obtain ⟨a, L, rfl, _, _, hH, rp⟩ := memT_ok w e r
    exact ⟨a, L, rfl, .inl hH, rp⟩
  · cases e
/-- a key's tuple -/
theorem key_rp {k : List Int} {v : V} (r : Rp K al M H (kD k) v) : ∃ b, v = .ref b ∧ SqT K H b (k.map V.int) := by
  obtain ⟨b, xs, rfl, hq, rr⟩ := r
  have key : ∀ (k : List Int) (xs : List V), Rps K al M H (k.map D.int) xs → xs = k.map V.int := by
    intro k
    induction k with
    | nil => intro xs h; exact h
    | cons i k ih =>
      intro xs h
      obtain ⟨y, r', e1, q, t⟩ := h
      cases (show y = V.int i from q)
      rw [e1, ih _ t]; rfl
  rw [key k xs rr] at hq
  exact ⟨b, rfl, hq.sq⟩
end
/-! ### d[k] = v -/
def rPutT : D → D → D → Mem → (Mem → Prop) → Prop := fun x y z M N => match x with
  | .mt i => (match memT M i with
    | some kvs => (match asK y with
      | some k => kvs.length < sizeLine ∧ N (M.set i (some (dTM (putP kvs k z))))
      | none => False)
    | none => False)
  | _ => False
abbrev dPutT (to ti tv : TED) : TSD := fun E DD rho M => tv E rho M fun z M1 => to E rho M1 fun x M2 => ti E rho M2 fun y M3 => rPutT x y z M3 fun M4 => DD.nx rho M4
theorem Paired.lenE {K : PySem.W.Frag} {al : Al} {M : Mem} {H : Hp} {kvs : Kvs} {L : Ents} (h : RP K al M H kvs L) : kvs.length = L.length := Paired.length h
section
variable {X : Cx} {Tb : List (Addr × Str)} {EV : XK} {o i value : Expr} {to ti tv : TED} {pos pos' : Pos}
theorem dp_putT (hu : X.A.units + 1 < cLine) (ho : PD X Tb EV o to) (hi : PD X Tb EV i ti) (hv : PD X Tb EV value tv) (hs : swapsWith value (some (.Subscript o i pos')) pos.line X.env = pure false := by rfl) :
    PDS X Tb EV (.Assign [.Subscript o i pos'] value pos) (dPutT to ti tv) := by
  refine ⟨fun pins s σ H DV I h => ?_⟩
  obtain ⟨al, rho, M, E, DD, a, t, p⟩ := h
  let W3 : V → V → V → Hp → Prop := fun v x y H3 => ∃ a b k L, x = .ref a ∧ y = .ref b ∧ H3 a = some (DicO a L) ∧ KsT X.K H3 L ∧ SqT X.K H3 b (k.map V.int) ∧ L.length < sizeLine ∧ DV.nx σ (upd H3 a (DicO a (putE L k b v)))
  have h3 : lift X.K Tb EV tv σ H fun v H1 => lift X.K Tb EV to σ H1 fun x H2 => lift X.K Tb EV ti σ H2 fun y H3 => W3 v x y H3 := by
    refine seq1 a t fun al1 z M1 vz H1 s1 a1 r1 q1 => seq1 a1 q1 fun al2 x M2 vx H2 s2 a2 r2 q2 => seq1 a2 q2 fun al3 y M3 vy H3 s3 a3 r3 q3 => ?_
    unfold rPutT at q3
    split at q3
    · rename_i j
      split at q3
      · rename_i kvs e1
        split at q3
        · rename_i k e2
          obtain ⟨c, L, ex, hj, hm, hH, rp⟩ := memT_ok a3.wf e1 (r2.mono s3)
          rw [asK_eq e2] at r3
          obtain ⟨b, eb, hb⟩ := key_rp r3
          subst ex eb
          refine ⟨c, b, k, L, rfl, rfl, hH, rp.kst, hb, by rw [← Paired.lenE rp]; exact q3.1, ?_⟩
          have rz := r1.mono (s2.trans s3)
          have s4 : Stp al3 M3 H3 al3 (M3.set j (some (dTM (putP kvs k z)))) (upd H3 c (DicO c (putE L k b vz))) := stp_set a3.wf hj hm _
          have w4 : Wf X.K Tb al3 (upd H3 c (DicO c (putE L k b vz))) (M3.set j (some (dTM (putP kvs k z)))) :=
            wf_set a3.wf hj hm (fun _ z => by cases z) ⟨_, upd_same, RP.rpd ((rp.put k r3 rz).mono s4)⟩ (fun cc q z => dic_code (Option.some.inj (hH.symm.trans z)))
          exact p.nx al3 rho _ σ _ (((s1.trans s2).trans s3).trans s4) w4 (((a.sl.mono s1).mono s2 |>.mono s3).mono s4) q3.2
        · exact q3.elim
      · exact q3.elim
    · exact q3.elim
  refine wpAny_Assign_Subscript (thn (hv.run pins s σ H _ I h3) fun r s1 ⟨v, H1, I1, rv, q1⟩ => thn (ho.run pins s1 σ H1 _ I1 q1) fun u s2 ⟨x, H2, I2, rx, q2⟩ => thn (hi.run pins s2 σ H2 _ I2 q2) fun iv s3 ⟨y, H3, I3, ry, a, b, k, L, ex, ey, hA, hks, hb, hl, q3⟩ => ?_) hs
  subst ex ey
  obtain rfl : u = Value.ref a := rx
  obtain rfl : iv = Value.ref b := ry
  exact dic_setItem hu I3 hA hks hb hl rv fun s4 I4 => ⟨σ, _, I4, q3⟩
/-! ### d[k] -/
def rIxT_ : RD2 := fun x y M Q => match asT M x with
  | some kvs => (match asK y with
    | some k => (match valP kvs k with
      | some d => Q d M
      | none => False)
    | none => False)
  | none => False
theorem dv_ixT (hu : X.A.units + 1 < cLine) (ho : PD X Tb EV o to) (hi : PD X Tb EV i ti) (hs : NoSl i := by intro _ _; rfl) : PD X Tb EV (.Subscript o i pos) (dOp rIxT_ to ti) := by
  refine ⟨fun pins s σ H QV I h => ?_⟩
  obtain ⟨al, rho, M, E, Q, a, t, p⟩ := h
  have h2 : lift X.K Tb EV to σ H fun x H1 => lift X.K Tb EV ti σ H1 fun y H2 => ∃ a b k L v, x = .ref a ∧ y = .ref b ∧ Rd H2 a (DicO a L) ∧ KsT X.K H2 L ∧ SqT X.K H2 b (k.map V.int) ∧ valE L k = some v ∧ QV v H2 := by
    refine seq1 a t fun al1 x M1 vx H1 s1 a1 r1 q1 => seq1 a1 q1 fun al2 y M2 vy H2 s2 a2 r2 q2 => ?_
    unfold rIxT_ at q2
    split at q2
    · rename_i kvs e1
      split at q2
      · rename_i k e2
        split at q2
        · rename_i d e3
          obtain ⟨c, L, ex, hH, rp⟩ := asT_ok a2.wf e1 (r1.mono s2)
          rw [asK_eq e2] at r2
          obtain ⟨b, eb, hb⟩ := key_rp r2
          obtain ⟨v, ev, rv⟩ := rp.val e3
          subst ex eb
          exact ⟨c, b, k, L, v, rfl, rfl, hH, rp.kst, hb, ev, p _ _ _ _ _ (s1.trans s2) a2.wf rv q2⟩
        · exact q2.elim
      · exact q2.elim
    · exact q2.elim
  refine subD_of PySem.F.slot_dict_getitem.lookup hs (thn (ho.run pins s σ H _ I h2) fun u s1 ⟨x, H1, I1, rx, q1⟩ => thn (hi.run pins s1 σ H1 _ I1 q1) fun iv s2 ⟨y, H2, I2, ry, a, b, k, L, v, ex, ey, hA, hks, hb, ev, q2⟩ => ?_)
  subst ex ey
  obtain rfl : u = Value.ref a := rx
  obtain rfl : iv = Value.ref b := ry
  refine ⟨?_, dic_getItem hu I2 hA hks hb ev fun w' s3 I3 rw' => ⟨v, H2, I3, rw', q2⟩⟩
  obtain ⟨xs, _, dd⟩ := dic_H I2 hA hks
  exact dd.typeIs
end
/-! ### for k in d -/
/-- the keys of the locked dict at d -/
def Itke (d : Addr) (o : Obj) (L : Ents) : It :=
  ⟨fun i H => H d = some (.frz o (DicO d L)) ∧ i < L.length, fun i H x H' => H' = H ∧ ∃ e, L[i]? = some e ∧ x = .ref e.2.1, fun i H => H d = some (.frz o (DicO d L)) ∧ L.length ≤ i⟩
theorem frzE {X : Cx} {pins : List (Addr × Obj)} {σ : L2.St} {H : Hp} {s : Shared} {d : Addr} {o : Obj} {L : Ents} (I : Inv X pins σ H s) (h : H d = some (.frz o (DicO d L))) : (d == sysModules) = false ∧ s.heap.get? d = some o ∧ o.ExactDict ∧ ∃ es ep, o.data = .dict es ep ∧ es.size = L.length ∧
    ∀ (i : Nat) (e : List Int × Addr × V), L[i]? = some e → ∃ en : DictEntry, es[i]? = some en ∧ en.key = .ref e.2.1 := by
  obtain ⟨h1, ⟨hs, hl, xs, rl, o', es, ep, h2, h3, h4, h5, _⟩, _⟩ := I.hok d _ h
  have h2 : s.heap.get? d = some o' := h2
  rw [h1] at h2
  cases h2
  refine ⟨hs, h1, h3, es, ep, h4, by rw [Paired.length rl, ← Array.length_toList, h5, List.length_map], fun i e he => ?_⟩
  have key : ∀ {l : Ents} {m : List (List Int × Addr × Value)}, LR l m → ∀ (i : Nat) e, l[i]? = some e → ∃ x, m[i]? = some x ∧ x.2.1 = e.2.1 := by
    intro l m q
    induction q with
    | nil => intro i e he; cases he
    | cons a _ ih => intro i e he; cases i with
      | zero => cases (Option.some.inj he); exact ⟨_, rfl, a.2.1.symm⟩
      | succ j => exact ih j e (by simpa using he)
  obtain ⟨x, hx, ex⟩ := key rl i e he
  refine ⟨⟨thI x.1, .ref x.2.1, x.2.2⟩, ?_, by rw [← ex]⟩
  rw [← Array.getElem?_toList, h5, List.getElem?_map, hx] <;> rfl
theorem turn_ke {P : Program} {w : World} {K : PySem.W.Frag} {tg : Expr} {d : Addr} {o : Obj} {es : Array DictEntry} {ep : Nat} {L : Ents} (it : Addr) (hod : o.data = .dict es ep) : Turn P w K tg (Itke d o L) [it] it (fun i h => h.IsKeyIter it d i L.length ep) where
  mem := List.mem_singleton.mpr rfl
  obj := fun i h st b hb => by
    cases List.mem_singleton.mp hb
    obtain ⟨oi, e, _, dd⟩ := st
    exact ⟨oi, e, fun v z => by rw [dd] at z; cases z⟩
  keep := fun i h h' st k => st.at fun oi e => k it (List.mem_singleton.mpr rfl) oi e
  item := by
    rintro X rfl rfl rfl hc i pins s σ H E I hf st ⟨hd, hi⟩
    obtain ⟨f0, f1, f2, f3, f4, f5⟩ := hf it (List.mem_singleton.mpr rfl)
    obtain ⟨_, hgd, _, es', ep', hdt, hsz, ent⟩ := frzE I hd
    obtain ⟨rfl, rfl⟩ := dict_ep hod hdt
    obtain ⟨e, he⟩ : ∃ e, L[i]? = some e := ⟨L[i], List.getElem?_eq_getElem hi⟩
    obtain ⟨en, hen, hkey⟩ := ent i e he
    refine next_key_item st hgd hdt hsz hen fun h' st' sb => ?_
    have I1 : Inv X pins σ H { s with heap := h' } := I.turned (t' := s.toks) (fun b ob hb q => (sb.2 b hb).trans q) f0 f1 f3 f4 f5
    obtain ⟨oi, e1, c, dd⟩ := id st'
    exact ⟨en.key, rfl, go_of (s := { s with heap := h' }) e1 c dd (by decide) ⟨.ref e.2.1, H, I1, hkey, ⟨rfl, e, he, rfl⟩, st', fun b hb => (hf b hb).1⟩⟩
  done := by
    rintro X rfl rfl rfl hc i pins s σ H E I hf st ⟨hd, hi⟩
    obtain ⟨f0, f1, f2, f3, f4, f5⟩ := hf it (List.mem_singleton.mpr rfl)
    obtain ⟨_, hgd, _, es', ep', hdt, hsz, ent⟩ := frzE I hd
    obtain ⟨rfl, rfl⟩ := dict_ep hod hdt
    exact next_key_end (I.ok.hd hc) st hgd hdt hsz hi fun h' eb => ⟨rfl, I.turned (t' := s.toks) (fun b ob hb q => eb b ob hb q) f0 f1 f3 f4 f5⟩
  self := fun A i s Q E st h => by
    refine wpAny_pyIter_slot st.typeIs F.slot_dict_keyiterator_iter (wpAny_call_entry F.slot_dict_keyiterator_iter st.typeIs F.entry_dict_keyiterator_iter ?_ (F.args_dict_keyiterator_iter_1 _))
    exact wpAny_pure ⟨_, rfl, "dict_keyiterator", _, st.typeIs, F.slot_dict_keyiterator_next.lookup, h⟩
theorem it_ke {K : PySem.W.Frag} {Tb : List (Addr × Str)} {al : Al} {M : Mem} {H : Hp} {a : Addr} {o : Obj} {L : Ents} {kvs : Kvs} (h : H a = some (.frz o (DicO a L))) (f : Fz al M a) (r : RP K al M H kvs L) : ItOk K Tb al M H (Itke a o L) (kvs.map fun e => kD e.1) where
  stop := fun al1 M1 H1 s w => ⟨(s.fz _ _ h (fun _ z => by cases z) f).1, by rw [List.length_map, Paired.lenE r]; exact Nat.le_refl _⟩
  go := fun al1 M1 H1 s w i d e => ⟨(s.fz _ _ h (fun _ z => by cases z) f).1, by
    have := (List.getElem?_eq_some_iff.mp e).1
    rw [List.length_map, Paired.lenE r] at this
    exact this⟩
  yld := fun al1 M1 H1 s w i d x H2 e y => by
    obtain ⟨rfl, en, he, rfl⟩ := y
    obtain ⟨v, ev, rv⟩ := r.rps.1.get e
    rw [List.getElem?_map, he] at ev
    cases (Option.some.inj ev)
    exact ⟨Stp.refl .., w, rv.monow s⟩
/-- what is walked may be a locked dict, too -/
abbrev iSeqT (t : TED) : TID := fun E rho M Q => t E rho M fun x M1 => match x with
  | .lst xs => Q xs M1
  | .rol xs => Q xs M1
  | .tup xs => Q xs M1
  | .str z => Q (signsD z) M1
  | .dt ks ds => Q ((kvsOf ks ds).map fun e => kD e.1) M1
  | _ => False
theorem di_seqT {X : Cx} {Tb : List (Addr × Str)} {EV : XK} {tg l : Expr} {tl : TED} (hl : PD X Tb EV l tl) : PDI X Tb EV tg l (iSeqT tl) := by
  refine ⟨fun pins s σ H R I h => ?_⟩
  obtain ⟨al, rho, M, E, Q, a, t, p⟩ := h
  refine thn (hl.run pins s σ H _ I (seq1 a t fun al1 x M1 vx H1 s1 a1 r1 q1 => (show (∃ z, vx = .str z ∧ R (Its z) H1) ∨ ∃ a, vx = .ref a ∧ (((∃ xs, SqL X.K H1 a xs) ∧ R (Itl X.K a) H1) ∨ ((∃ xs, SqT X.K H1 a xs) ∧ R (Itt X.K a) H1) ∨ ∃ o L, H1 a = some (.frz o (DicO a L)) ∧ R (Itke a o L) H1) from ?_))) fun v s1 ⟨x, H1, I1, r1, q1⟩ => ?_
  · split at q1
    · obtain ⟨b, ys, rfl, h1, h2, h3⟩ := r1
      exact .inr ⟨b, rfl, .inl ⟨⟨ys, SqL.of h1⟩, p _ _ _ _ _ s1 a1.wf (it_list (.inl ⟨.inl h1, h2⟩) h3) q1⟩⟩
    · obtain ⟨b, ys, rfl, h1, h3⟩ := r1
      exact .inr ⟨b, rfl, .inl ⟨⟨ys, h1.sq⟩, p _ _ _ _ _ s1 a1.wf (it_list h1 h3) q1⟩⟩
    · obtain ⟨b, ys, rfl, h1, h3⟩ := r1
      exact .inr ⟨b, rfl, .inr (.inl ⟨⟨ys, h1.sq⟩, p _ _ _ _ _ s1 a1.wf (it_tup h1 h3) q1⟩)⟩
    · rename_i z
      exact .inl ⟨z, r1, p _ _ _ _ _ s1 a1.wf it_str q1⟩
    · rename_i ks ds
      obtain ⟨b, o, L, rfl, h1, h2, h3, h4⟩ := r1
      obtain ⟨_, _, rp⟩ := Rpd.rp (show Rpd X.K al1 M1 H1 ks ds L from ⟨h3, h4⟩)
      exact .inr ⟨b, rfl, .inr (.inr ⟨o, L, h1, p _ _ _ _ _ s1 a1.wf (it_ke h1 h2 rp) q1⟩)⟩
    · exact q1.elim
  · rcases q1 with ⟨z, e, q⟩ | ⟨a, e, ⟨⟨xs, hq⟩, q⟩ | ⟨⟨xs, hq⟩, q⟩ | ⟨o, L, hq, q⟩⟩
    · subst e
      obtain ⟨t, rfl⟩ := r1
      cases ha : z.cps.all (· < 128)
      · exact wpAny_pyIter_wide ha (pi_one (tk := s1.toks) I1 _ (turn_str _ z t "str_iterator" (.inr rfl)) ⟨_, Heap.get?_push_size _ rfl, rfl, rfl⟩ q)
      · exact wpAny_pyIter_ascii ha (pi_one (tk := s1.toks) I1 _ (turn_str _ z t "str_ascii_iterator" (.inl rfl)) ⟨_, Heap.get?_push_size _ rfl, rfl, rfl⟩ q)
    · subst e
      cases r1
      obtain ⟨its, rv, p, hz⟩ := I1.list hq
      refine wpAny_pyIter_list p.isList ?_
      refine ⟨s1.heap.objs.size, [s1.heap.objs.size], _, _, H1, rfl, I1.kept (t' := s1.toks) fun b o e => Heap.get?_push_of_some _ e, turn_list a _, ⟨_, Heap.get?_push_size _ rfl, rfl, rfl⟩, fun b hb => ?_, q⟩
      have e : b = s1.heap.objs.size := by simpa using hb
      subst e
      exact I1.fpOk (Nat.le_refl _) (I1.hok.fresh (Nat.le_refl _))
    · subst e
      cases r1
      obtain ⟨its, rv, p, hz⟩ := I1.tuple hq
      refine wpAny_pyIter_tuple (show s1.heap.IsTuple a its.toArray from p) ?_
      refine ⟨s1.heap.objs.size, [s1.heap.objs.size], _, _, H1, rfl, I1.kept (t' := s1.toks) fun b o e => Heap.get?_push_of_some _ e, turn_tuple a _, ⟨_, Heap.get?_push_size _ rfl, rfl, rfl⟩, fun b hb => ?_, q⟩
      have e : b = s1.heap.objs.size := by simpa using hb
      subst e
      exact I1.fpOk (Nat.le_refl _) (I1.hok.fresh (Nat.le_refl _))
    · subst e
      cases r1
      obtain ⟨hs, hgd, hx, es, ep, hdt, hsz, ent⟩ := frzE I1 hq
      refine iter_keys hs hgd hx hdt (pi_one (tk := s1.toks) I1 _ (turn_ke _ hdt) ⟨_, Heap.get?_push_size _ rfl, rfl, ?_⟩ q)
      rw [hsz] <;> rfl
end DL

namespace DL
open PySem PySem.Spec PyProof.Rows L2 Mt LamX
/-! ### {k: v for ..}, keys tuples of ints; the dict is locked -/
def dcU (g : TGD) (tt : TTD) (tk tv : TED) (vs : List Nat) : List D → Kvs → Rho → Mem → VD → Prop
  | [], kvs => fun _ M Q => Q (dtD kvs) M
  | d :: r, kvs => fun rho M Q => g d noE (wipeD rho vs) M fun rho' M1 => tt noE rho' M1 fun b M2 => if b = true then tk noE rho' M2 (fun y M3 => tv noE rho' M3 fun z M4 => match asK y with
      | some k => kvs.length < sizeLine ∧ dcU g tt tk tv vs r (putP kvs k z) rho M4 Q
      | none => False) else dcU g tt tk tv vs r kvs rho M2 Q
abbrev dDcT (it : TID) (g : TGD) (tt : TTD) (tk tv : TED) (vs : List Nat) : TED := fun E rho M Q => it E rho M fun ds M1 => dcU g tt tk tv vs ds [] rho M1 Q
theorem dc_lift {K : PySem.W.Frag} {Tb : List (Addr × Str)} {EV : XK} {it : TID} {gV : TG} {g : TGD} {tt : TTD} {tk tv : TED} {vs : List Nat} (hN : TgN K gV g vs) {σ : L2.St} {H : Hp} {QV : VK} (h : lift K Tb EV (dDcT it g tt tk tv vs) σ H QV) :
    tDcG (fun a => DicO a []) (stoT K) (liftI K Tb EV it) gV (liftT K Tb E0 tt) (lift K Tb E0 tk) (lift K Tb E0 tv) vs σ H fun v H1 => QV v H1 ∨ ∃ a u, H1 a = some u ∧ Mut (some u) ∧ ∀ od, QV v (upd H1 a (.frz od u)) := by
  obtain ⟨al, rho, M, E, Q, a, t, p⟩ := h
  refine ⟨al, rho, M, E, _, a, t, fun al0 ds M0 H0 J s0 w0 ok q D0 hD0 => ?_⟩
  have a0 := a.go s0 w0
  have hid : ∀ L, HidO D0 (DicO D0 L) := fun L => .inr (.inr (.inl ⟨L, rfl⟩))
  refine ⟨fun i m H1 => m = ds.length - i ∧ i ≤ ds.length ∧ ∃ (l1 : List Addr) (M1 : Mem) (kvs : Kvs) (L : Ents), Stw al0 M0 H0 (Al.hide ⟨l1, al0.h⟩ D0) M1 H1 ∧ Wf K Tb (Al.hide ⟨l1, al0.h⟩ D0) H1 M1 ∧ RpS K (Al.hide ⟨l1, al0.h⟩ D0) M1 H1 σ rho ∧
      RP K (Al.hide ⟨l1, al0.h⟩ D0) M1 H1 kvs L ∧ H1 D0 = some (DicO D0 L) ∧ dcU g tt tk tv vs (ds.drop i) kvs rho M1 Q, ⟨ds.length, by simp, Nat.zero_le _, al0.a, M0, [], [], ?_⟩, ?_⟩
  · obtain ⟨w1, r1⟩ := hide_stp w0 hD0 (DicO D0 []) (hid [])
    refine ⟨⟨fun _ _ h => h, fun b o h _ f => ⟨by rw [upd_ne (ne_of_none h hD0)]; exact h, fun hm => ?_, f.2⟩, fun b hb => ⟨List.mem_cons_of_mem _ hb, upd_ne fun z => w0.nohid hD0 (z ▸ hb)⟩⟩, w1, ⟨a0.sl.1, fun i d e => let ⟨v, e1, r⟩ := a0.sl.2 i d e; ⟨v, e1, r1 _ _ r⟩⟩, .nil, upd_same, by simpa using q⟩
    rcases List.mem_cons.mp hm with z | z
    · exact absurd (z ▸ h) (by rw [hD0]; intro q; cases q)
    · exact f.1 z
  · rintro i m H1 ⟨rfl, hi, l1, M1, kvs, L, s1, w1, sl1, rp1, hD1, t1⟩
    by_cases hlt : i < ds.length
    · have e : ds[i]? = some ds[i] := by simp [hlt]
      have ed : ds.drop i = ds[i] :: ds.drop (i + 1) := List.drop_eq_getElem_cons hlt
      rw [ed] at t1
      refine .inr ⟨ok.go _ _ _ s1 w1 i _ e, fun H2 => ∃ (l2 : List Addr) (M2 : Mem) (kvs : Kvs) (L : Ents), Stw al0 M0 H0 (Al.hide ⟨l2, al0.h⟩ D0) M2 H2 ∧ Wf K Tb (Al.hide ⟨l2, al0.h⟩ D0) H2 M2 ∧ RpS K (Al.hide ⟨l2, al0.h⟩ D0) M2 H2 σ rho ∧
        RP K (Al.hide ⟨l2, al0.h⟩ D0) M2 H2 kvs L ∧ H2 D0 = some (DicO D0 L) ∧ dcU g tt tk tv vs (ds.drop (i + 1)) kvs rho M2 Q, fun H2 h2 => ⟨ds.length - (i + 1), by omega, rfl, hlt, h2⟩, fun x H2 y => ?_⟩
      obtain ⟨s2, w2, r2⟩ := ok.yld _ _ _ s1 w1 i _ x H2 e y
      have sl2 := sl1.mono s2
      refine hN _ _ _ _ _ _ _ _ _ _ (wipe_ok sl2 vs) r2 t1 fun σ' rho' ew sl' t2 => ⟨by rw [ew]; exact wipe_wipe fun _ h => h, ?_⟩
      have aB : At K Tb E0 (Al.hide ⟨l1, al0.h⟩ D0) σ' H2 rho' M1 noE := ⟨w2, sl', fun _ _ _ _ _ _ _ _ _ z => z⟩
      have hD2 : H2 D0 = some (DicO D0 L) := (s2.hid D0 List.mem_cons_self).trans hD1
      refine seqT aB t2 fun al3 b M3 H3 s3 a3 q3 => ?_
      have hh3 : al3 = Al.hide ⟨al3.a, al0.h⟩ D0 := Al.eta (show al3.h = D0 :: al0.h from s3.hh)
      have hD3 : H3 D0 = some (DicO D0 L) := (s3.hid D0 List.mem_cons_self).trans hD2
      cases b with
      | false =>
        rw [if_neg Bool.false_ne_true]
        refine ⟨al3.a, M3, kvs, L, ?_, ?_, ?_, ?_, hD3, q3⟩
        · rw [← hh3]; exact (s1.stp s2).stp s3
        · rw [← hh3]; exact a3.wf
        · rw [← hh3]; exact sl2.mono s3
        · rw [← hh3]; exact (rp1.mono s2).mono s3
      | true =>
        rw [if_pos rfl]
        refine seq1 a3 q3 fun al4 y4 M4 v4 H4 s4 a4 r4 q4 => seq1 a4 q4 fun al5 z5 M5 v5 H5 s5 a5 r5 q5 => ?_
        split at q5
        · rename_i k ek
          have hh5 : al5 = Al.hide ⟨al5.a, al0.h⟩ D0 := Al.eta (show al5.h = D0 :: al0.h from s5.hh.trans (s4.hh.trans s3.hh))
          have hm3 : D0 ∈ al3.h := by rw [hh3]; exact List.mem_cons_self
          have hm4 : D0 ∈ al4.h := by rw [s4.hh]; exact hm3
          have hD5 : H5 D0 = some (DicO D0 L) := (s5.hid D0 hm4).trans ((s4.hid D0 hm3).trans hD3)
          have S5 := (((s1.stp s2).stp s3).stp s4).stp s5
          have W5 := a5.wf
          have L5 := ((sl2.mono s3).mono s4).mono s5
          have R5 := (((rp1.mono s2).mono s3).mono s4).mono s5
          have rk := r4.mono s5
          rw [asK_eq ek] at rk
          rw [hh5] at S5 W5 L5 R5 r5 rk
          obtain ⟨b4, eb, hb4⟩ := key_rp rk
          subst eb
          obtain ⟨w6, u1, u2⟩ := hid_set W5 (DicO D0 (putE L k b4 v5)) (hid _)
          refine ⟨b4, k, L, rfl, hb4, hD5, R5.kst, by rw [← Paired.lenE R5]; exact q5.1, al5.a, M5, putP kvs k z5, putE L k b4 v5, ⟨S5.pre, fun b o h n f => ⟨?_, (S5.fz b o h n f).2⟩, fun b hb => ⟨(S5.hid b hb).1, ?_⟩⟩, w6, ⟨L5.1, fun i d e => let ⟨v, e1, r⟩ := L5.2 i d e; ⟨v, e1, u1 _ _ r⟩⟩, ?_, upd_same, q5.2⟩
          · rw [upd_ne (ne_of_none h hD0)]; exact (S5.fz b o h n f).1
          · rw [upd_ne (fun (z : b = D0) => w0.nohid hD0 (z ▸ hb))]; exact (S5.hid b hb).2
          · exact Paired.mapP (R5.put k rk r5) fun _ _ z => ⟨z.1, u1 _ _ z.2.1, u1 _ _ z.2.2⟩
        · exact q5.elim
    · have e : i = ds.length := by omega
      subst e
      refine .inl ⟨ok.stop _ _ _ s1 w1, .inr ⟨D0, _, hD1, True.intro, fun od => ?_⟩⟩
      simp [dcU] at t1
      obtain ⟨w3, u1, _⟩ := hid_set w1 (.frz od (DicO D0 L)) (.inr (.inr (.inr ⟨_, _, rfl⟩)))
      obtain ⟨w2, v1, _⟩ := unhide w3
      have rp2 : RP K ⟨l1, al0.h⟩ M1 (upd H1 D0 (.frz od (DicO D0 L))) kvs L := Paired.mapP rp1 fun _ _ z => ⟨z.1, v1 _ _ (u1 _ _ z.2.1), v1 _ _ (u1 _ _ z.2.2)⟩
      refine p ⟨l1, al0.h⟩ (dtD kvs) M1 _ _ (s0.trans ⟨s1.pre, fun b o h n f => ⟨by rw [upd_ne (ne_of_none h hD0)]; exact (s1.fz b o h n f).1, (fz_unhide (s1.fz b o h n f).2).2⟩, rfl, fun b hb => by rw [upd_ne (fun (z : b = D0) => w0.nohid hD0 (z ▸ hb))]; exact (s1.hid b hb).2⟩) w2
        ⟨D0, od, L, rfl, upd_same, ⟨fun hm => w0.nohid hD0 hm, fun j mo e1 e2 => w1.hdis j D0 mo e1 e2 List.mem_cons_self⟩, rp2.rpd.1, rp2.rpd.2⟩ t1
section
variable {X : Cx} {Tb : List (Addr × Str)} {EV : XK} {kx vx tg iter : Expr} {ifs : List Expr} {scope : Scope} {own : List (Str × Nat)} {pos : Pos} {it : TID} {gV : TG} {g : TGD} {tt : TTD} {tk tv : TED}
theorem dv_dcT (hu : X.A.units < cLine) (hc : X.calm = true) (hN : X.N.Nodup) (hi : PDI X Tb EV tg iter it) (ok : BlkOk X.N X.env.scope scope own) (hT : TgN X.K gV g (own.map (·.2)))
    (hg : ∀ (s : Shared) (H : Hp) (C : Addr) (cl : List (Str × Addr)) (fp : List Addr), PG (X.blk s H scope (compEnvC scope cl C X.env) fp) tg gV)
    (ht : ∀ (s : Shared) (H : Hp) (C : Addr) (cl : List (Str × Addr)) (fp : List Addr), PTs (X.blk s H scope (compEnvC scope cl C X.env) fp) ifs (liftT X.K Tb E0 tt))
    (hk : ∀ (s : Shared) (H : Hp) (C : Addr) (cl : List (Str × Addr)) (fp : List Addr), PD (X.blk s H scope (compEnvC scope cl C X.env) fp) Tb E0 kx tk)
    (he : ∀ (s : Shared) (H : Hp) (C : Addr) (cl : List (Str × Addr)) (fp : List Addr), PD (X.blk s H scope (compEnvC scope cl C X.env) fp) Tb E0 vx tv) (hs : ∀ x, foldedSetIterable iter X.env x = pure x := by intro _; rfl) :
    PD X Tb EV (.DictComp kx vx [⟨tg, iter, ifs, 0⟩] scope pos) (dDcT it g tt tk tv (own.map (·.2))) :=
  pe_imp (pe_lock (pe_dcG hc hN hi ok (fun H h hb => dic_new H h hb) (stoT_ok hu) hg ht hk he hs)) fun _ _ _ h => dc_lift hT h
end
/-! ### sorted(d, key=lambda a: a[0] * (z // a[1])) -/
def leK (m : Int) : List Int → List Int → Bool := fun a b => decide (keyI m a ≤ keyI m b)
theorem merge_map {α β : Type} {r : α → α → Bool} {s : β → β → Bool} {f : α → β} (h : ∀ a b, r a b = s (f a) (f b)) (l : List α) : (l.mergeSort r).map f = (l.map f).mergeSort s := by
  exact List.map_mergeSort fun a _ b _ => h a b
def rSortK_ (i : Nat) (rho : Rho) : D → Mem → VD → Prop := fun x M Q => match asT M x with
  | some kvs => (match rho[i]? with
    | some (some (.int m)) => (∀ e ∈ kvs, e.1.length = 2 ∧ CDivX (e.1[1]?.getD 0) ∧ IntMulOk (e.1[0]?.getD 0) (m.fdiv (e.1[1]?.getD 0))) ∧ Q (.lst (((kvs.map (·.1)).mergeSort (leK m)).map kD)) M
    | _ => False)
  | none => False
abbrev dSortK (i : Nat) (t : TED) : TED := fun E rho M Q => t E rho M fun x M1 => rSortK_ i rho x M1 Q
theorem RP.mem {K : PySem.W.Frag} {al : Al} {M : Mem} {H : Hp} {kvs : Kvs} {L : Ents} (h : RP K al M H kvs L) {e : List Int × Addr × V} (he : e ∈ L) : ∃ p ∈ kvs, p.1 = e.1 ∧ Rp K al M H (kD e.1) (.ref e.2.1) := by
  induction h with
  | nil => exact nomatch he
  | cons a _ ih =>
    rcases List.mem_cons.mp he with z | z
    · subst z; exact ⟨_, List.mem_cons_self, a.1, a.1 ▸ a.2.1⟩
    · obtain ⟨p, hp, q⟩ := ih z; exact ⟨p, List.mem_cons_of_mem _ hp, q⟩
theorem dv_sortK {X : Cx} {Tb : List (Addr × Str)} {EV : XK} {c P : Addr} {e : Expr} {te : TED} {a z : Str} {i k : Nat} {params : Arguments} {scope : Scope} {k0 k1 : Nat} {p p1 p2 p3 p4 p5 p6 p7 p8 p9 lpos kpos pos : Pos} (hc : X.calm = true) (hg : Gl X "sorted") (hm : X.mg "sorted" = none)
    (he : PD X Tb EV e te) (TB : TabB X.base X.mg c P) (hcode : X.env.code = .ref c) (hmT : (P, X.env.qual ++ "<lambda>") ∈ Tb) (hu : ∀ p ∈ Tb, p.1 = P → p.2 = X.env.qual ++ "<lambda>") (hr : Room (k + 2) X.A) (KS : KeyS X.env.scope scope a z)
    (hNz : X.N[i]? = some z) (hdef : defaultsOf params X.env = ([], []))
    (hbind : ∀ (q : Str) (cl : List (Str × Addr)) (pm cv ctv : Value) (b : Addr), bindArgs (PySem.W.kla_fn "<lambda>" q params (keyBody a z k0 k1 p1 p2 p3 p4 p5 p6 p7 p8 p9) scope cl pm cv ctv) ⟨[.ref b], []⟩ = pure [(a, .ref b)])
    (hst : ∀ ps, backTo ps (starEach [e] X.env) = (false, eval e X.env) :: backTo ps (starEach [] X.env) := by intro _; rfl) (hpl : (backTo pos (starEach [e] X.env)).any (·.1) = false := by rfl)
    (hda : (a == ("__debug__" : Str)) = false := by decide) (hdz : (z == ("__debug__" : Str)) = false := by decide) (hcz : (z == ("__classdict__" : Str)) = false := by decide) :
    PD X Tb EV (.Call (.Name "sorted" p) [e] [⟨some "key", .Lambda params (keyBody a z k0 k1 p1 p2 p3 p4 p5 p6 p7 p8 p9) scope lpos, kpos⟩] pos) (dSortK i te) :=
  pe_imp (pe_sortK (T := Tb) (i := i) hc hg hm he TB hcode hmT hu hr KS hNz hdef hbind hst hpl hda hdz hcz) fun σ H QV h => by
    obtain ⟨al, rho, M, E, Q, at0, t, pq⟩ := h
    refine seq1 at0 t fun al1 x M1 vx H1 s1 a1 r1 q1 => ?_
    unfold rSortK_ at q1
    split at q1
    · rename_i kvs e1
      split at q1
      · rename_i m em
        obtain ⟨b, L, rfl, hH, rp⟩ := asT_ok a1.wf e1 r1
        obtain ⟨vm, ev, rm⟩ := a1.sl.2 i _ em
        cases (show vm = V.int m from rm)
        refine ⟨a1.wf.tb, b, L, m, rfl, hH, rp.kst, ev, fun y hy => ?_, fun H2 pp eN T2 hp => ?_⟩
        · obtain ⟨pe, hpe, e2, _⟩ := rp.mem hy
          rw [← e2]; exact q1.1 pe hpe
        · have s2 := stp_ext a1.wf eN
          have w2 := wf_ext a1.wf eN T2
          refine pq _ _ _ _ _ ((s1.trans s2).trans (stp_new w2 hp _)) (wf_new w2 hp _) (rp_lst (ds := ((kvs.map (·.1)).mergeSort (leK m)).map kD) w2 hp ?_) q1.2
          have ek : (kvs.map (·.1)).mergeSort (leK m) = (L.mergeSort (leE m)).map (·.1) := by rw [← rp.keys]; exact (merge_map (r := leE m) (s := leK m) (f := fun e : List Int × Addr × V => e.1) (fun _ _ => rfl) L).symm
          rw [ek]
          have all : ∀ l : Ents, (∀ y ∈ l, y ∈ L) → Rps X.K al1 M1 H2 ((l.map (·.1)).map kD) (l.map fun e => V.ref e.2.1) := fun l => by
            induction l with
            | nil => intro _; rfl
            | cons y l ih =>
              intro hl
              obtain ⟨_, _, _, rk⟩ := rp.mem (hl y List.mem_cons_self)
              exact ⟨_, _, rfl, rk.mono s2, ih fun z hz => hl z (List.mem_cons_of_mem _ hz)⟩
          exact all _ fun y hy => (List.mergeSort_perm L (leE m)).mem_iff.mp hy
      · exact q1.elim
    · exact q1.elim
def rSortKM_ (i : Nat) (rho : Rho) : D → Mem → VD → Prop := fun x M Q => match asT M x with
  | some kvs => (match rho[i]? with
    | some (some (.int m)) => (∀ e ∈ kvs, e.1.length = 2 ∧ CDivX (e.1[1]?.getD 0) ∧ IntMulOk (e.1[0]?.getD 0) (m.fdiv (e.1[1]?.getD 0))) ∧ Q (.mt M.length) (M ++ [some (.lst (((kvs.map (·.1)).mergeSort (leK m)).map kD))])
    | _ => False)
  | none => False
abbrev dSortKM (i : Nat) (t : TED) : TED := fun E rho M Q => t E rho M fun x M1 => rSortKM_ i rho x M1 Q
theorem dv_sortKM {X : Cx} {Tb : List (Addr × Str)} {EV : XK} {c P : Addr} {e : Expr} {te : TED} {a z : Str} {i k : Nat} {params : Arguments} {scope : Scope} {k0 k1 : Nat} {p p1 p2 p3 p4 p5 p6 p7 p8 p9 lpos kpos pos : Pos} (hc : X.calm = true) (hg : Gl X "sorted") (hm : X.mg "sorted" = none)
    (he : PD X Tb EV e te) (TB : TabB X.base X.mg c P) (hcode : X.env.code = .ref c) (hmT : (P, X.env.qual ++ "<lambda>") ∈ Tb) (hu : ∀ p ∈ Tb, p.1 = P → p.2 = X.env.qual ++ "<lambda>") (hr : Room (k + 2) X.A) (KS : KeyS X.env.scope scope a z)
    (hNz : X.N[i]? = some z) (hdef : defaultsOf params X.env = ([], []))
    (hbind : ∀ (q : Str) (cl : List (Str × Addr)) (pm cv ctv : Value) (b : Addr), bindArgs (PySem.W.kla_fn "<lambda>" q params (keyBody a z k0 k1 p1 p2 p3 p4 p5 p6 p7 p8 p9) scope cl pm cv ctv) ⟨[.ref b], []⟩ = pure [(a, .ref b)])
    (hst : ∀ ps, backTo ps (starEach [e] X.env) = (false, eval e X.env) :: backTo ps (starEach [] X.env) := by intro _; rfl) (hpl : (backTo pos (starEach [e] X.env)).any (·.1) = false := by rfl)
    (hda : (a == ("__debug__" : Str)) = false := by decide) (hdz : (z == ("__debug__" : Str)) = false := by decide) (hcz : (z == ("__classdict__" : Str)) = false := by decide) :
    PD X Tb EV (.Call (.Name "sorted" p) [e] [⟨some "key", .Lambda params (keyBody a z k0 k1 p1 p2 p3 p4 p5 p6 p7 p8 p9) scope lpos, kpos⟩] pos) (dSortKM i te) :=
  pe_imp (pe_sortK (T := Tb) (i := i) hc hg hm he TB hcode hmT hu hr KS hNz hdef hbind hst hpl hda hdz hcz) fun σ H QV h => by
    obtain ⟨al, rho, M, E, Q, at0, t, pq⟩ := h
    refine seq1 at0 t fun al1 x M1 vx H1 s1 a1 r1 q1 => ?_
    unfold rSortKM_ at q1
    split at q1
    · rename_i kvs e1
      split at q1
      · rename_i m em
        obtain ⟨b, L, rfl, hH, rp⟩ := asT_ok a1.wf e1 r1
        obtain ⟨vm, ev, rm⟩ := a1.sl.2 i _ em
        cases (show vm = V.int m from rm)
        refine ⟨a1.wf.tb, b, L, m, rfl, hH, rp.kst, ev, fun y hy => ?_, fun H2 pp eN T2 hp => ?_⟩
        · obtain ⟨pe, hpe, e2, _⟩ := rp.mem hy
          rw [← e2]; exact q1.1 pe hpe
        · have s2 := stp_ext a1.wf eN
          have w2 := wf_ext a1.wf eN T2
          have s3 := stp_mut w2 hp (.lst ((L.mergeSort (leE m)).map fun e => V.ref e.2.1)) (.lst (((kvs.map (·.1)).mergeSort (leK m)).map kD))
          refine pq _ (.mt M1.length) _ _ _ ((s1.trans s2).trans s3) (wf_mut w2 hp (fun _ z => by cases z) ⟨_, upd_same, Rps.mono s3 ?_⟩) ⟨pp, al_last w2, rfl⟩ q1.2
          have ek : (kvs.map (·.1)).mergeSort (leK m) = (L.mergeSort (leE m)).map (·.1) := by rw [← rp.keys]; exact (merge_map (r := leE m) (s := leK m) (f := fun e : List Int × Addr × V => e.1) (fun _ _ => rfl) L).symm
          rw [ek]
          have all : ∀ l : Ents, (∀ y ∈ l, y ∈ L) → Rps X.K al1 M1 H2 ((l.map (·.1)).map kD) (l.map fun e => V.ref e.2.1) := fun l => by
            induction l with
            | nil => intro _; rfl
            | cons y l ih =>
              intro hl
              obtain ⟨_, _, _, rk⟩ := rp.mem (hl y List.mem_cons_self)
              exact ⟨_, _, rfl, rk.mono s2, ih fun z hz => hl z (List.mem_cons_of_mem _ hz)⟩
          exact all _ fun y hy => (List.mergeSort_perm L (leE m)).mem_iff.mp hy
      · exact q1.elim
    · exact q1.elim
end DL
namespace DL
open PySem PySem.Spec PyProof.Rows L2
theorem units1 {A : Around} (h : A.units + 64 < cLine) : A.units + 1 < cLine := by omega
theorem units0 {A : Around} (h : A.units + 64 < cLine) : A.units < cLine := by omega
theorem hu_of {l : List ((Addr × Addr) × Str)} {p : (Addr × Addr) × Str} (nd : (l.map fun p => p.1.2).Nodup) (hp : p ∈ l) : ∀ q ∈ l.map (fun p => (p.1.2, p.2)), q.1 = p.1.2 → q.2 = p.2 := by
  intro q hq e
  obtain ⟨r, hr, rfl⟩ := List.mem_map.mp hq
  obtain ⟨i, hi⟩ := List.getElem?_of_mem hp
  obtain ⟨j, hj⟩ := List.getElem?_of_mem hr
  have h1 : (l.map fun p => p.1.2)[i]? = some p.1.2 := by rw [List.getElem?_map, hi]; rfl
  have h2 : (l.map fun p => p.1.2)[j]? = some p.1.2 := by rw [List.getElem?_map, hj]; show some r.1.2 = _; rw [show r.1.2 = p.1.2 from e]
  have : i = j := (List.getElem?_inj (List.getElem?_eq_some_iff.mp h1).1 nd).mp (h1.trans h2.symm)
  subst this
  rw [hi] at hj
  cases hj
  rfl
end DL

/-! fractions in order, each one once -/
namespace Mt
def ddStep (acc : List Rat) (q : Rat) : List Rat := if q ∈ acc then acc else acc ++ [q]
def ddQ (l : List Rat) : List Rat := l.foldl ddStep []
def leR : Rat → Rat → Bool := fun a b => decide (a ≤ b)
def ordQ (l : List Rat) : List Rat := (ddQ l).mergeSort leR
theorem ddf (l : List Rat) : ∀ acc : List Rat, acc.Nodup → (l.foldl ddStep acc).Nodup ∧ ∀ x, x ∈ l.foldl ddStep acc ↔ x ∈ acc ∨ x ∈ l := by
  induction l with
  | nil => intro acc h; exact ⟨h, fun x => by simp⟩
  | cons q l ih =>
    intro acc h
    have h1 : (ddStep acc q).Nodup ∧ ∀ x, x ∈ ddStep acc q ↔ x ∈ acc ∨ x = q := by
      unfold ddStep
      by_cases c : q ∈ acc
      · rw [if_pos c]
        exact ⟨h, fun x => ⟨.inl, fun z => z.elim (fun y => y) fun y => y ▸ c⟩⟩
      · rw [if_neg c]
        refine ⟨List.nodup_append.mpr ⟨h, by simp, fun a ha b hb => ?_⟩, fun x => by simp⟩
        have : b = q := by simpa using hb
        subst this
        exact fun z => c (z ▸ ha)
    obtain ⟨a, b⟩ := ih _ h1.1
    refine ⟨a, fun x => ?_⟩
    rw [List.foldl_cons, b x, h1.2 x, List.mem_cons]
    exact or_assoc
theorem ddQ_nodup (l : List Rat) : (ddQ l).Nodup := (ddf l [] List.nodup_nil).1
theorem mem_ddQ {l : List Rat} {x : Rat} : x ∈ ddQ l ↔ x ∈ l := ((ddf l [] List.nodup_nil).2 x).trans (by simp)
theorem ordQ_mem {l : List Rat} {x : Rat} : x ∈ ordQ l ↔ x ∈ l := ((List.mergeSort_perm _ _).mem_iff).trans mem_ddQ
theorem ordQ_lt (l : List Rat) : (ordQ l).Pairwise (· < ·) := by
  have h1 : (ordQ l).Pairwise fun a b => leR a b = true := List.pairwise_mergeSort (le := leR) (fun a b c h1 h2 => decide_eq_true (Rat.le_trans (of_decide_eq_true h1) (of_decide_eq_true h2))) (fun a b => by
    rcases Rat.le_total (a := a) (b := b) with h | h
    · simp [leR, h]
    · simp [leR, h]) _
  have h2 : (ordQ l).Nodup := (List.mergeSort_perm _ _).nodup_iff.mpr (ddQ_nodup l)
  refine List.Pairwise.imp₂ (fun a b h3 h4 => ?_) h1 h2
  exact Rat.lt_of_le_of_ne (of_decide_eq_true h3) h4
theorem asc_uniq : ∀ {a b : List Rat}, a.Pairwise (· < ·) → b.Pairwise (· < ·) → (∀ x, x ∈ a ↔ x ∈ b) → a = b
  | [], [], _, _, _ => rfl
  | [], y :: b, _, _, h => absurd ((h y).mpr List.mem_cons_self) (by simp)
  | x :: a, [], _, _, h => absurd ((h x).mp List.mem_cons_self) (by simp)
  | x :: a, y :: b, ha, hb, h => by
    obtain ⟨a1, a2⟩ := List.pairwise_cons.mp ha
    obtain ⟨b1, b2⟩ := List.pairwise_cons.mp hb
    have e : x = y := by
      rcases List.mem_cons.mp ((h x).mp List.mem_cons_self) with z | z
      · exact z
      · rcases List.mem_cons.mp ((h y).mpr List.mem_cons_self) with z2 | z2
        · exact z2.symm
        · exact absurd (a1 y z2) (Rat.not_lt.mpr (Rat.le_of_lt (b1 x z)))
    subst e
    rw [asc_uniq a2 b2 fun z => ⟨fun hz => ?_, fun hz => ?_⟩]
    · rcases List.mem_cons.mp ((h z).mp (List.mem_cons_of_mem _ hz)) with q | q
      · exact absurd (a1 z hz) (by rw [q]; exact Rat.lt_irrefl)
      · exact q
    · rcases List.mem_cons.mp ((h z).mpr (List.mem_cons_of_mem _ hz)) with q | q
      · exact absurd (b1 z hz) (by rw [q]; exact Rat.lt_irrefl)
      · exact q
theorem ordQ_uniq {l a : List Rat} (h : a.Pairwise (· < ·)) (hm : ∀ x, x ∈ a ↔ x ∈ l) : a = ordQ l := asc_uniq h (ordQ_lt l) fun x => (hm x).trans ordQ_mem.symm
theorem ordQ_len (l : List Rat) : (ordQ l).length ≤ l.length := by
  unfold ordQ
  rw [List.length_mergeSort]
  have : ∀ (l acc : List Rat), (l.foldl ddStep acc).length ≤ acc.length + l.length := by
    intro l
    induction l with
    | nil => intro acc; simp
    | cons q l ih =>
      intro acc
      rw [List.foldl_cons]
      have h1 := ih (ddStep acc q)
      have h2 : (ddStep acc q).length ≤ acc.length + 1 := by unfold ddStep; split <;> simp
      rw [List.length_cons]; omega
  have := this l []
  simpa [ddQ] using this
/-! ### the key -/
def qk (q : Rat) : List Int := [q.num, (q.den : Int)]
theorem qk_inj {a b : Rat} (h : qk a = qk b) : a = b := by
  unfold qk at h
  injection h with h1 h2
  injection h2 with h2 _
  exact Rat.ext h1 (Int.ofNat.inj h2)
def lcmD : List Rat → Nat → Nat
  | [], m => m
  | q :: l, m => lcmD l (Nat.lcm m q.den)
theorem lcmD_dvd : ∀ (l : List Rat) (m : Nat), m ∣ lcmD l m ∧ ∀ q ∈ l, q.den ∣ lcmD l m
  | [], m => ⟨Nat.dvd_refl _, fun q h => nomatch h⟩
  | p :: l, m => by
    obtain ⟨a, b⟩ := lcmD_dvd l (Nat.lcm m p.den)
    refine ⟨Nat.dvd_trans (Nat.dvd_lcm_left ..) a, fun q h => ?_⟩
    rcases List.mem_cons.mp h with z | z
    · subst z; exact Nat.dvd_trans (Nat.dvd_lcm_right ..) a
    · exact b q z
theorem lcmD_pos : ∀ (l : List Rat) (m : Nat), 0 < m → 0 < lcmD l m
  | [], _, h => h
  | p :: l, m, h => lcmD_pos l _ (Nat.lcm_pos h p.den_pos)
theorem lcm_bs (m d : Nat) (hm : 0 < m) (hd : 0 < d) : bs (Nat.lcm m d) ≤ bs m + bs d := by
  refine Nat.le_trans (bs_mono ?_) (bs_mul m d)
  exact Nat.le_of_dvd (Nat.mul_pos hm hd) (Nat.lcm_dvd_mul m d)
theorem fdiv_nat (a b : Nat) (hb : 0 < b) : ((a : Int)).fdiv (b : Int) = ((a / b : Nat) : Int) := by
  rw [Int.fdiv_eq_ediv_of_nonneg _ (by omega)]; rfl
theorem key_le {m : Nat} (hm : 0 < m) {a b : Rat} (ha : a.den ∣ m) (hb : b.den ∣ m) : (a.num * ((m : Int).fdiv a.den) ≤ b.num * ((m : Int).fdiv b.den)) ↔ a ≤ b := by
  obtain ⟨s, hs⟩ := ha
  obtain ⟨t, ht⟩ := hb
  have e1 : ((m : Int)).fdiv a.den = s := by rw [fdiv_nat _ _ a.den_pos, hs, Nat.mul_div_cancel_left _ a.den_pos]
  have e2 : ((m : Int)).fdiv b.den = t := by rw [fdiv_nat _ _ b.den_pos, ht, Nat.mul_div_cancel_left _ b.den_pos]
  rw [e1, e2, Rat.le_iff]
  have hs0 : (0 : Int) < s := by
    rcases Nat.eq_zero_or_pos s with z | z
    · rw [z, Nat.mul_zero] at hs; omega
    · omega
  have ht0 : (0 : Int) < t := by
    rcases Nat.eq_zero_or_pos t with z | z
    · rw [z, Nat.mul_zero] at ht; omega
    · omega
  have ms : (m : Int) = a.den * s := by rw [hs]; exact Int.natCast_mul ..
  have mt : (m : Int) = b.den * t := by rw [ht]; exact Int.natCast_mul ..
  have pa : (0 : Int) < a.den := by have := a.den_pos; omega
  have pb : (0 : Int) < b.den := by have := b.den_pos; omega
  have mp : (0 : Int) < m := by omega
  have l1 : (a.num * s) * (a.den * b.den) = (a.num * b.den) * m := by rw [ms]; grind
  have l2 : (b.num * t) * (a.den * b.den) = (b.num * a.den) * m := by rw [mt]; grind
  constructor
  · intro h
    have := Int.mul_le_mul_of_nonneg_right h (Int.le_of_lt (Int.mul_pos pa pb))
    rw [l1, l2] at this
    exact Int.le_of_mul_le_mul_right this mp
  · intro h
    have := Int.mul_le_mul_of_nonneg_right h (Int.le_of_lt mp)
    rw [← l1, ← l2] at this
    exact Int.le_of_mul_le_mul_right this (Int.mul_pos pa pb)
/-! ### the least common multiple -/
def cmQ (a b : Rat) : Rat := Rat.divInt (Nat.lcm a.num.natAbs b.num.natAbs : Nat) (Nat.gcd a.den b.den : Nat)
def cmL (a b : Rat) : Nat := b.num.natAbs / Nat.gcd a.num.natAbs b.num.natAbs * (a.den / Nat.gcd a.den b.den)
theorem num_pos' {a : Rat} (h : 0 < a) : 0 < a.num := by
  have h1 : 0 ≤ a.num := Rat.num_nonneg.mpr (Rat.le_of_lt h)
  have h2 : a.num ≠ 0 := fun z => by rw [Rat.num_eq_zero.mp z] at h; exact Rat.lt_irrefl h
  omega
theorem rat_nat {a : Rat} (h : 0 < a) : a = (a.num.natAbs : Rat) / (a.den : Rat) := by
  have hp : 0 < a.num := num_pos' h
  have e : ((a.num.natAbs : Nat) : Rat) = ((a.num : Int) : Rat) := by
    have : ((a.num.natAbs : Nat) : Int) = a.num := by omega
    rw [← this]; rfl
  rw [e]
  conv => lhs; rw [← Rat.num_divInt_den a, Rat.divInt_eq_div]
  rfl
theorem cmQ_comm (a b : Rat) : cmQ a b = cmQ b a := by unfold cmQ; rw [Nat.lcm_comm, Nat.gcd_comm]
theorem cm_l {a b : Rat} (ha : 0 < a) (hb : 0 < b) : cmQ a b = (cmL a b : Rat) * a ∧ 0 < cmL a b := by
  have pa : 0 < a.num.natAbs := by have := num_pos' ha; omega
  have pb : 0 < b.num.natAbs := by have := num_pos' hb; omega
  have hg : 0 < Nat.gcd a.num.natAbs b.num.natAbs := Nat.gcd_pos_of_pos_left _ pa
  have hh : 0 < Nat.gcd a.den b.den := Nat.gcd_pos_of_pos_left _ a.den_pos
  have ea := rat_nat ha
  unfold cmL cmQ
  have hl : Nat.lcm a.num.natAbs b.num.natAbs = a.num.natAbs * (b.num.natAbs / Nat.gcd a.num.natAbs b.num.natAbs) := by
    rw [Nat.lcm, Nat.mul_div_assoc _ (Nat.gcd_dvd_right ..)]
  rw [hl]
  obtain ⟨nb', hnb⟩ := Nat.gcd_dvd_right a.num.natAbs b.num.natAbs
  obtain ⟨da', hda⟩ := Nat.gcd_dvd_left a.den b.den
  have e1 : b.num.natAbs / Nat.gcd a.num.natAbs b.num.natAbs = nb' := Nat.div_eq_of_eq_mul_right hg hnb
  have e2 : a.den / Nat.gcd a.den b.den = da' := Nat.div_eq_of_eq_mul_right hh hda
  rw [e1, e2]
  generalize Nat.gcd a.den b.den = h at *
  generalize a.num.natAbs = na at *
  have hd0 : 0 < da' := by
    rcases Nat.eq_zero_or_pos da' with z | z
    · rw [z, Nat.mul_zero] at hda; have := a.den_pos; omega
    · exact z
  have hn0 : 0 < nb' := by
    rcases Nat.eq_zero_or_pos nb' with z | z
    · rw [z, Nat.mul_zero] at hnb; omega
    · exact z
  refine ⟨?_, Nat.mul_pos hn0 hd0⟩
  have hr : (h : Rat) ≠ 0 := by exact_mod_cast (by omega : h ≠ 0)
  have dr : (da' : Rat) ≠ 0 := by exact_mod_cast (by omega : da' ≠ 0)
  have ed : ((a.den : Nat) : Rat) = (h : Rat) * (da' : Rat) := by rw [hda]; exact Rat.natCast_mul ..
  have e3 : Rat.divInt ((na * nb' : Nat) : Int) ((h : Nat) : Int) = (((na * nb' : Nat) : Int) : Rat) / (((h : Nat) : Int) : Rat) := Rat.divInt_eq_div ..
  rw [e3]
  rw [show (((h : Nat) : Int) : Rat) = (h : Rat) from rfl, show ((((na * nb' : Nat)) : Int) : Rat) = ((na * nb' : Nat) : Rat) from rfl, Rat.natCast_mul, Rat.natCast_mul, ea, ed]
  grind
theorem cm_r {a b : Rat} (ha : 0 < a) (hb : 0 < b) : cmQ a b = (cmL b a : Rat) * b ∧ 0 < cmL b a := by
  rw [cmQ_comm]; exact cm_l hb ha
theorem cm_cop {a b : Rat} (ha : 0 < a) (hb : 0 < b) : Nat.Coprime (cmL a b) (cmL b a) := by
  have pa : 0 < a.num.natAbs := by have := num_pos' ha; omega
  have pb : 0 < b.num.natAbs := by have := num_pos' hb; omega
  have hg : 0 < Nat.gcd a.num.natAbs b.num.natAbs := Nat.gcd_pos_of_pos_left _ pa
  have hh : 0 < Nat.gcd a.den b.den := Nat.gcd_pos_of_pos_left _ a.den_pos
  have c1 : Nat.Coprime (b.num.natAbs / Nat.gcd b.num.natAbs a.num.natAbs) (a.num.natAbs / Nat.gcd b.num.natAbs a.num.natAbs) := Nat.coprime_div_gcd_div_gcd (by rw [Nat.gcd_comm]; exact hg)
  have c2 : Nat.Coprime (a.den / Nat.gcd a.den b.den) (b.den / Nat.gcd a.den b.den) := Nat.coprime_div_gcd_div_gcd hh
  have r1 : Nat.Coprime a.num.natAbs a.den := a.reduced
  have r2 : Nat.Coprime b.num.natAbs b.den := b.reduced
  unfold cmL
  rw [Nat.gcd_comm a.num.natAbs b.num.natAbs, Nat.gcd_comm b.den a.den]
  refine Nat.Coprime.mul_left (Nat.Coprime.mul_right c1 ?_) (Nat.Coprime.mul_right ?_ c2)
  · exact Nat.Coprime.coprime_dvd_left (Nat.div_dvd_of_dvd (Nat.gcd_dvd_left ..)) (Nat.Coprime.coprime_dvd_right (Nat.div_dvd_of_dvd (Nat.gcd_dvd_right ..)) r2)
  · exact (Nat.Coprime.coprime_dvd_left (Nat.div_dvd_of_dvd (Nat.gcd_dvd_right ..)) (Nat.Coprime.coprime_dvd_right (Nat.div_dvd_of_dvd (Nat.gcd_dvd_left ..)) r1)).symm
theorem cm_pos {a b : Rat} (ha : 0 < a) (hb : 0 < b) : 0 < cmQ a b := by
  obtain ⟨e, h⟩ := cm_l ha hb
  rw [e]
  exact Rat.mul_pos (by exact_mod_cast h) ha
theorem cm_bs {a b : Rat} (ha : 0 < a) (hb : 0 < b) : bz (cmL a b : Int) ≤ qs b + qs a := by
  show bs (cmL a b) ≤ _
  unfold cmL
  refine Nat.le_trans (bs_mul _ _) ?_
  have h1 : bs (b.num.natAbs / Nat.gcd a.num.natAbs b.num.natAbs) ≤ bs b.num.natAbs := bs_mono (Nat.div_le_self ..)
  have h2 : bs (a.den / Nat.gcd a.den b.den) ≤ bs a.den := bs_mono (Nat.div_le_self ..)
  have h3 : bs b.num.natAbs ≤ qs b := qs_num b
  have h4 : bs a.den ≤ qs a := qs_den a
  omega
theorem cm_qs {a b : Rat} (ha : 0 < a) (hb : 0 < b) {n : Nat} (h1 : qs a ≤ n) (h2 : qs a + qs b + qs a ≤ 100) : qs (cmQ a b) ≤ 100 := by
  rw [(cm_l ha hb).1]
  have h3 := qs_mul (cmL a b : Rat) a
  have h4 : qs (cmL a b : Rat) ≤ max (bz (cmL a b : Int)) 1 := qs_int (cmL a b : Int)
  have h5 := cm_bs ha hb
  have h6 : 1 ≤ qs a := by
    have := qs_den a
    have hd := a.den_pos
    have : 1 ≤ bs a.den := by unfold bs; split <;> omega
    omega
  omega
end Mt
namespace DL
open PySem PySem.Spec PyProof.Rows L2 Mt
theorem kD_qk (q : Rat) : kD (qk q) = qD q := rfl
theorem asK_qD (q : Rat) : asK (qD q) = some (qk q) := rfl
def qE (q : Rat) : List Int × D := (qk q, .bl true)
theorem putP_dd (acc : List Rat) (q : Rat) : putP (acc.map qE) (qk q) (.bl true) = (ddStep acc q).map qE := by
  unfold putP ddStep
  have h1 : ((acc.map qE).any fun e => decide (e.1 = qk q)) = decide (q ∈ acc) := by
    rw [List.any_map]
    induction acc with
    | nil => rfl
    | cons a acc ih =>
      rw [List.any_cons, ih]
      by_cases c : a = q
      · subst c; simp [qE]
      · have c2 : ¬ (qE a).1 = qk q := fun z => c (qk_inj z)
        have c3 : ¬ q = a := fun z => c z.symm
        simp [c2, c3, List.mem_cons]
  rw [h1]
  by_cases c : q ∈ acc
  · rw [decide_eq_true c, if_pos rfl, if_pos c, List.map_map]
    apply List.map_congr_left
    intro a _
    show (if (qE a).1 = qk q then ((qE a).1, D.bl true) else qE a) = qE a
    split <;> rfl
  · rw [decide_eq_false c, if_neg Bool.false_ne_true, if_neg c, List.map_append]; rfl
/-- fractions as a list, a tuple or the keys of a dict -/
def OrdIn (x : D) (l : List Rat) : Prop := asS x = some (l.map qD) ∨ ∃ kvs, x = dtD kvs ∧ kvs.map (·.1) = l.map qk
theorem OrdIn.it {P : D} {l : List Rat} (h : OrdIn P l) {M : Mem} {Q : List D → Mem → Prop} (q : Q (l.map qD) M) : (match (generalizing := false) P with
  | .lst xs => Q xs M
  | .rol xs => Q xs M
  | .tup xs => Q xs M
  | .str z => Q (signsD z) M
  | .dt ks ds => Q ((kvsOf ks ds).map fun e => kD e.1) M
  | _ => False) := by
  rcases h with h | ⟨kvs, rfl, h⟩
  · cases P <;> first | (cases h; done) | (cases h; exact q)
  · show Q ((kvsOf _ _).map fun e => kD e.1) M
    rw [kvsOf_mk, show (fun e : List Int × D => kD e.1) = kD ∘ (fun e : List Int × D => e.1) from rfl, ← List.map_map, h, List.map_map]
    exact q
theorem ord_sorted {l : List Rat} {m : Nat} (hm : 0 < m) (h : ∀ q ∈ l, q.den ∣ m) : ((((ddQ l).map qE).map (·.1)).mergeSort (leK m)).map kD = (ordQ l).map qD := by
  have e : ((ddQ l).map qE).map (·.1) = (ddQ l).map qk := by rw [List.map_map]; rfl
  rw [e]
  have e2 : ((ddQ l).map qk).mergeSort (leK m) = ((ddQ l).mergeSort leR).map qk := by
    symm
    refine List.map_mergeSort fun a ha b hb => ?_
    have h1 := key_le hm (h a (mem_ddQ.mp ha)) (h b (mem_ddQ.mp hb))
    unfold leR leK keyI
    exact (decide_eq_decide.mpr h1).symm
  rw [e2, List.map_map]
  rfl
theorem dc_inv {g : TGD} {tt : TTD} {tk tv : TED} {vs : List Nat} {rho : Rho} {Q : VD} (Pv : List D → Kvs → Mem → Prop)
    (hs : ∀ d r kvs M (N : Kvs → Mem → Prop), Pv (d :: r) kvs M → (∀ kvs' M', Pv r kvs' M' → N kvs' M') → g d noE (wipeD rho vs) M fun rho' M1 => tt noE rho' M1 fun b M2 => if b = true then tk noE rho' M2 (fun y M3 => tv noE rho' M3 fun z M4 => match asK y with
      | some k => kvs.length < sizeLine ∧ N (putP kvs k z) M4
      | none => False) else N kvs M2)
    (hd : ∀ kvs M, Pv [] kvs M → Q (dtD kvs) M) : ∀ ds kvs M, Pv ds kvs M → dcU g tt tk tv vs ds kvs rho M Q
  | [], kvs, M, h => hd kvs M h
  | d :: r, kvs, M, h => hs d r kvs M (fun kvs' M' => dcU g tt tk tv vs r kvs' rho M' Q) h fun kvs' M' h' => dc_inv Pv hs hd r kvs' M' h'
theorem e_iv {C : Int → Int → Prop} {g : Int → Int → D} {i j : Int} {d : D} {M : Mem} {Q : VD} (hc : C i j) (e : g i j = d) (h : Q d M) : rIntD C g (.int i) (.int j) M Q := ⟨hc, e ▸ h⟩
theorem pz_ql (l : List Rat) : pz (.lst (l.map qD)) = true := pzs_map (fun _ => rfl) l
theorem dp_ql (l : List Rat) : dp (.lst (l.map qD)) ≤ 2 := by
  show dps (l.map qD) + 1 ≤ 2
  have : dps (l.map qD) ≤ 1 := by
    induction l with
    | nil => exact Nat.zero_le _
    | cons q l ih => show max (dp (qD q)) (dps (l.map qD)) ≤ 1; exact Nat.max_le.mpr ⟨Nat.le_refl 1, ih⟩
  omega
theorem pyEq_ql (l l' : List Rat) : pyEq (.lst (l.map qD)) (.lst (l'.map qD)) = decide (l = l') := by
  rw [pyEq_lst (pzs_map (fun _ => rfl) l) (pzs_map (fun _ => rfl) l'), pyEqs_map (fun _ => rfl) pyEq_qD]
theorem e_neql0 {l : List Rat} {M : Mem} {Q : VD} (h : Q (.bl (!decide (l = []))) M) : rNe_ (.lst (l.map qD)) (.lst []) M Q := by
  refine e_neP (pz_ql l) rfl (Nat.le_trans (dp_ql l) (by decide)) (Nat.le_of_ble_eq_true rfl) ?_
  rw [show D.lst [] = D.lst (([] : List Rat).map qD) from rfl, pyEq_ql]; exact h
theorem e_neql {l l' : List Rat} {M : Mem} {Q : VD} (h : Q (.bl (!decide (l = l'))) M) : rNe_ (.lst (l.map qD)) (.lst (l'.map qD)) M Q := by
  refine e_neP (pz_ql l) (pz_ql l') (Nat.le_trans (dp_ql l) (by decide)) (Nat.le_trans (dp_ql l') (by decide)) ?_
  rw [pyEq_ql]; exact h
/-- the least of a list, taken out -/
theorem ord_least {l : List Rat} {m : Rat} (hm : m ∈ l) (hl : ∀ x ∈ l, m ≤ x) : ordQ l = m :: ordQ (l.filter fun x => !decide (x = m)) := by
  symm
  refine ordQ_uniq ?_ fun x => ?_
  · refine List.pairwise_cons.mpr ⟨fun x hx => ?_, ordQ_lt _⟩
    have hx := ordQ_mem.mp hx
    rw [List.mem_filter] at hx
    obtain ⟨h1, h2⟩ := hx
    have h2 : x ≠ m := by simpa using h2
    exact Rat.lt_of_le_of_ne (hl x h1) fun z => h2 z.symm
  · rw [List.mem_cons, ordQ_mem, List.mem_filter]
    constructor
    · rintro (rfl | ⟨h, _⟩)
      · exact hm
      · exact h
    · intro h
      by_cases c : x = m
      · exact .inl c
      · exact .inr ⟨h, by simpa using c⟩
/-- a list in a cell is handed to the law's same -/
theorem lend_sm {k i : Nat} {xs : List D} {M : Mem} {Q : VD} {E : XD} (all : AllL M) (em : M[i]? = some (some (.lst xs))) (hx : pu (.lst xs) = true) (hd : dp (.lst xs) < k) (h : Q (.bl true) M) : lendSp (sm_sp k) [.mt i, .lst xs] M Q E := by
  refine .inr ⟨M.length, Nat.le_refl _, fun j mo _ e => all j mo e, .lst xs, .lst xs, ?_, hx, hx, hd, rfl, ⟨?_, rfl, ?_⟩, ?_⟩
  · show [lendD M M.length (.mt i), D.lst xs] = _
    have : lendD M M.length (.mt i) = .lst xs := by
      simp only [lendD]
      rw [if_pos (List.getElem?_eq_some_iff.mp em).1, em]
    rw [this]
  · rw [dead_len (Nat.le_refl _)]; exact Nat.le_refl _
  · intro j mo hj e
    rw [List.getElem?_eq_none (by rw [dead_len (Nat.le_refl _)]; exact hj)] at e
    cases e
  · rw [smD_refl hx]
    have : back M.length M (dead M.length M) = M := by
      unfold back
      rw [List.take_length, List.drop_of_length_le (by rw [dead_len (Nat.le_refl _)]; exact Nat.le_refl _), List.append_nil]
    rw [this]; exact h
theorem pu_ql {l : List Rat} (h : l.length ≤ sizeLine) : pu (.lst (l.map qD)) = true := by
  show (decide ((l.map qD).length ≤ sizeLine) && pus (l.map qD)) = true
  rw [decide_eq_true (by rw [List.length_map]; exact h), Bool.true_and]
  clear h
  induction l with
  | nil => rfl
  | cons q l ih => show (pu (qD q) && pus (l.map qD)) = true; rw [ih]; rfl
theorem e_eqMP {i : Nat} {xs : List D} {y : D} {M : Mem} {Q : VD} (em : M[i]? = some (some (.lst xs))) (hx : pz (.lst xs) = true) (hy : pz y = true) (dx : dp (.lst xs) ≤ 64) (dy : dp y ≤ 64) (h : Q (.bl (pyEq (.lst xs) y)) M) : rEq_ (.mt i) y M Q := by
  unfold rEq_
  have hs : scalD (.mt i) y = none := by cases y <;> rfl
  rw [hs]
  obtain ⟨p, e1, a1, b1⟩ := pz_ok hx
  obtain ⟨q, e2, a2, b2⟩ := pz_ok hy
  have e3 : toPyM M (.mt i) = some p := by
    simp only [toPyM]
    rw [memL_at em]
    exact e1
  rw [e3, toPyM_pz hy, e2]
  refine ⟨shaped_of a1 b1 dx, shaped_of a2 b2 dy, ?_⟩
  unfold pyEq at h
  rw [e1, e2] at h
  exact h
theorem AllL.set {M : Mem} {i : Nat} {xs : List D} (h : AllL M) : AllL (M.set i (some (.lst xs))) := fun j mo e => by
  by_cases hij : i = j
  · subst hij
    rw [List.getElem?_set] at e
    simp at e
    rw [← e.2]; rfl
  · rw [List.getElem?_set_ne hij] at e
    exact h j mo e
theorem RgTo.allL {M M' : Mem} {i : Nat} (h : AllL M) (t : RgTo M i M') : AllL M' := by
  obtain ⟨r, _, rfl⟩ := t
  exact AllL.set (xs := r.items) h
end DL

/-! Plain mathematics: rounding to the nearest. -/
namespace DL
open PySem Mt
def dnT (t : Str) (k : Int) : Prop := t = "down" ∨ (t = "even" ∧ k % 2 = 0)
instance (t : Str) (k : Int) : Decidable (dnT t k) := by unfold dnT; exact inferInstance
/-- the tie between the k-th and the next one -/
def nT (t : Str) (u o : Rat) (k : Int) : Pt := ⟨o + k * u + u / 2, o + k * u, if dnT t k then o + k * u else o + k * u + u, o + k * u + u⟩
theorem dn_two (t : Str) (k j : Int) : dnT t (k + j * 2) ↔ dnT t k := by
  unfold dnT
  rw [Int.add_mul_emod_self_right]
theorem nT_mv (t : Str) (u o : Rat) (k j : Int) : nT t u o (k + j * 2) = (nT t u o k).mv j (2 * u) (2 * u) := by
  unfold nT Pt.mv
  have e2 : (((2 : Int)) : Rat) = 2 := rfl
  simp only [dn_two, Pt.mk.injEq, Rat.intCast_add, Rat.intCast_mul, e2]
  refine ⟨by grind, by grind, ?_, by grind⟩
  split <;> grind
theorem nT_next {t : Str} {u o : Rat} {k : Int} : (nT t u o (k + 1)).a = (nT t u o k).a + u ∧ (nT t u o (k + 1)).l = (nT t u o k).r := by
  unfold nT
  have e1 : (((1 : Int)) : Rat) = 1 := rfl
  simp only [Rat.intCast_add, e1]
  constructor <;> grind
theorem nT_a {t : Str} {u o : Rat} (c k : Int) : (nT t u o (c + k)).a = (nT t u o c).a + k * u := by
  unfold nT
  simp only [Rat.intCast_add]
  grind
/-- the first tie that is not below zero -/
def nC (u o : Rat) : Int := -((o + u / 2) / u).floor
theorem nC_a {t : Str} {u o : Rat} : (nT t u o (nC u o)).a = wthn (o + u / 2) u := by
  unfold nT nC wthn
  simp only [Rat.intCast_neg]
  grind
theorem nC_in {t : Str} {u o : Rat} (h : 0 < u) : 0 ≤ (nT t u o (nC u o)).a ∧ (nT t u o (nC u o)).a < u := by
  rw [nC_a]; exact wthn_in h
def nrPts (t : Str) (u o : Rat) : List Pt := [nT t u o (nC u o), nT t u o (nC u o + 1)]
theorem nT_trk {t : Str} {u o : Rat} (h : 0 < u) (c : Int) : Trk fun k => nT t u o (c + k) := by
  refine ⟨fun k => ?_, fun k => ?_, fun k => ?_, fun k => ?_, fun x => ?_, fun x => ?_⟩
  · show (nT t u o (c + k)).a < (nT t u o (c + (k + 1))).a
    rw [← Int.add_assoc, nT_next.1]; grind
  · unfold nT; simp only []; split <;> grind
  · unfold nT; simp only []; split <;> grind
  · show (nT t u o (c + k)).r ≤ (nT t u o (c + (k + 1))).l
    rw [← Int.add_assoc, nT_next.2]; exact Rat.le_refl
  · obtain ⟨n, hn, _⟩ := int_between ((x - (nT t u o c).a) / u)
    refine ⟨n, ?_⟩
    show x < (nT t u o (c + n)).a
    rw [nT_a]
    have := (Rat.div_lt_iff h).mp hn
    grind
  · obtain ⟨n, hn, _⟩ := int_between (((nT t u o c).a - x) / u)
    refine ⟨-n, ?_⟩
    show (nT t u o (c + -n)).a < x
    rw [nT_a, Rat.intCast_neg]
    have := (Rat.div_lt_iff h).mp hn
    grind
theorem nr_row (t : Str) (u o : Rat) : rowAt (2 * u) (2 * u) (nrPts t u o) = fun k => nT t u o (nC u o + k) := by
  funext k
  have hn : nrPts t u o ≠ [] := by unfold nrPts; simp
  obtain ⟨j, s, hj, rfl⟩ := rowAt_split hn k
  rw [rowAt_add hn, rowAt_nat j hj]
  have hl : (nrPts t u o).length = 2 := rfl
  have e : nC u o + ((j : Int) + s * (nrPts t u o).length) = (nC u o + j) + s * 2 := by rw [hl]; omega
  rw [e, nT_mv]
  congr 1
  rw [hl] at hj
  match j, hj with
  | 0, _ => show nT t u o (nC u o) = nT t u o (nC u o + 0); rw [Int.add_zero]
  | 1, _ => rfl
theorem nr_ok {t : Str} {u o : Rat} (h : 0 < u) : okPts (2 * u) (2 * u) (nrPts t u o) := by
  have h2 : 0 < 2 * u := by grind
  refine okPts_of h2 h2 (by unfold nrPts; simp) (by rw [nr_row]; exact nT_trk h _) fun q hq => ?_
  obtain ⟨a, b⟩ := nC_in (t := t) (o := o) h
  have hq : q = nT t u o (nC u o) ∨ q = nT t u o (nC u o + 1) := by simpa [nrPts] using hq
  rcases hq with rfl | rfl
  · exact ⟨Rat.not_lt.mpr a, by grind⟩
  · rw [nT_next.1]; exact ⟨Rat.not_lt.mpr (by grind), by grind⟩
theorem nT_jump {t : Str} {u o : Rat} {k : Int} (h : 0 < u) : (nT t u o k).l ≠ (nT t u o k).r := by
  unfold nT; simp only []; grind
theorem nr_kept {t : Str} {u o : Rat} (h : 0 < u) : keptP (2 * u) (2 * u) (nrPts t u o) = nrPts t u o := by
  rw [keptP_eq]
  have e : ∀ k, isT (rowAt (2 * u) (2 * u) (nrPts t u o)) k = true := fun k => by
    rw [nr_row]
    unfold isT isTrue3
    simp only [decide_eq_false (nT_jump h), Bool.not_false, Bool.true_or]
  have : trueI (2 * u) (2 * u) (nrPts t u o) = [0, 1] := by
    unfold trueI
    show (List.range 2).filter _ = _
    simp [List.range_succ, e]
  rw [this, nr_row]
  show [nT t u o (nC u o + 0), nT t u o (nC u o + 1)] = _
  rw [Int.add_zero]; rfl
/-- whether both ties are alike -/
def alk (t : Str) : Prop := t ≠ "even"
instance (t : Str) : Decidable (alk t) := by unfold alk; exact inferInstance
theorem half_two {u : Rat} : 2 * u / ((2 : Nat) : Rat) = u := by
  have e : ((2 : Nat) : Rat) = 2 := rfl
  rw [e]; grind
theorem mv_one {t : Str} {u o : Rat} (k : Int) (h : 0 < u) : ((nT t u o k).mv 1 u u = nT t u o (k + 1)) ↔ (dnT t k ↔ dnT t (k + 1)) := by
  unfold nT Pt.mv
  have e1 : (((1 : Int)) : Rat) = 1 := rfl
  simp only [Pt.mk.injEq, Rat.intCast_add, e1]
  constructor
  · rintro ⟨_, _, h3, _⟩
    by_cases a : dnT t k <;> by_cases b : dnT t (k + 1) <;> simp only [a, b, if_true, if_false] at h3 ⊢ <;> first | trivial | (exfalso; grind)
  · intro e
    refine ⟨by grind, by grind, ?_, by grind⟩
    simp only [e]
    split <;> grind
theorem dn_alk {t : Str} (k : Int) : (dnT t k ↔ dnT t (k + 1)) ↔ alk t := by
  unfold dnT alk
  constructor
  · intro h e
    subst e
    have n : ¬ (("even" : Str) = "down") := by decide
    simp only [n, false_or, true_and] at h
    omega
  · intro h
    simp [h]
/-- the curve -/
def nrC (t : Str) (u o : Rat) : Crv := if alk t then ⟨u, u, [nT t u o (nC u o)], 1, 0⟩ else ⟨2 * u, 2 * u, nrPts t u o, 1, 0⟩
theorem nr_norm {t : Str} {u o : Rat} (h : 0 < u) : norm (2 * u) (2 * u) (nrPts t u o) 0 = nrC t u o := by
  have h2 : 0 < 2 * u := by grind
  unfold norm
  rw [nr_kept h, if_neg (by unfold nrPts; simp), div_self' h2]
  have hl : (nrPts t u o).length = 2 := rfl
  have e1 : (((1 : Int)) : Rat) = 1 := rfl
  have rb : repB (2 * u) (2 * u) (nrPts t u o) 1 = decide (alk t) := by
    unfold repB
    rw [hl]
    show ((nrPts t u o).zip (laterP (2 * u) (2 * u) (nrPts t u o) 1)).all (fun x => decide (x.1.mv 1 (2 * u / ((2 : Nat) : Rat)) (2 * u / ((2 : Nat) : Rat)) = x.2)) = _
    rw [half_two]
    show (decide ((nT t u o (nC u o)).mv 1 u u = nT t u o (nC u o + 1)) && (decide ((nT t u o (nC u o + 1)).mv 1 u u = (nT t u o (nC u o)).mv 1 (2 * u) (2 * u)) && true)) = _
    have m2 : (nT t u o (nC u o)).mv 1 (2 * u) (2 * u) = nT t u o (nC u o + 1 + 1) := by
      have := nT_mv t u o (nC u o) 1
      rw [e1] at this
      rw [← this]; congr 1; omega
    rw [m2, Bool.and_true, decide_eq_decide.mpr ((mv_one (nC u o) h).trans (dn_alk _)), decide_eq_decide.mpr ((mv_one (nC u o + 1) h).trans (dn_alk _)), Bool.and_self]
  have ep : eqParts (2 * u) (2 * u) (nrPts t u o) = if alk t then 2 else 1 := by
    unfold eqParts
    rw [hl]
    show (match [0].find? (goodN (2 * u) (2 * u) (nrPts t u o)) with
      | some i => 2 / (1 + i)
      | none => 1) = _
    have g : goodN (2 * u) (2 * u) (nrPts t u o) 0 = decide (alk t) := by
      unfold goodN
      rw [hl, show 1 + 0 = 1 from rfl, rb]; rfl
    by_cases a : alk t
    · rw [if_pos a, List.find?_cons, g, decide_eq_true a]
    · rw [if_neg a, List.find?_cons, g, decide_eq_false a]; rfl
  rw [ep]
  unfold nrC
  by_cases a : alk t
  · rw [if_pos a, if_pos a, half_two, hl]; rfl
  · rw [if_neg a, if_neg a, show ((1 : Nat) : Rat) = 1 from rfl, Rat.div_def, show (1 : Rat)⁻¹ = 1 from by decide +kernel, Rat.mul_one, hl]; rfl
theorem nrC_ok {t : Str} {u o : Rat} (h : 0 < u) : (nrC t u o).Ok := by rw [← nr_norm h]; exact norm_ok (nr_ok h)
theorem nrC_nf {t : Str} {u o : Rat} (h : 0 < u) : (nrC t u o).Nf := by rw [← nr_norm h]; exact norm_nf (nr_ok h)
/-- the rounded number, seen from a side -/
def nrN (t : Str) (low : Int) (rest : Rat) (side : Int) : Int := if rest = qHalf then (if 0 < side ∨ (side = 0 ∧ (t = "up" ∨ (t = "even" ∧ low.fmod 2 = 1))) then low + 1 else low) else if qHalf < rest then low + 1 else low
theorem arn_shift {S : Int → Pt} (h : Trk S) (c : Int) (h' : Trk fun k => S (c + k)) (x : Rat) : arn (fun k => S (c + k)) x = arn S x := by
  have hp := h.plc x
  have e : plc (fun k => S (c + k)) x = plc S x - c := h'.plc_eq (by
    unfold IsPl at hp ⊢
    simp only []
    rw [show c + (plc S x - c - 1) = plc S x - 1 from by omega, show c + (plc S x - c) = plc S x from by omega]
    exact hp)
  unfold arn
  rw [e]
  unfold arnAt
  simp only []
  rw [show c + (plc S x - c) = plc S x from by omega, show c + (plc S x - c - 1) = plc S x - 1 from by omega, show c + (plc S x - c + 1) = plc S x + 1 from by omega]
theorem nT_sl {t : Str} {u o : Rat} (k : Int) : slB (nT t u o k) (nT t u o (k + 1)) = 0 := by
  unfold slB
  rw [nT_next.2]
  grind
theorem nT_trk0 {t : Str} {u o : Rat} (h : 0 < u) : Trk (nT t u o) := by
  have := nT_trk (t := t) (o := o) h 0
  have e : (fun k => nT t u o (0 + k)) = nT t u o := by funext k; rw [Int.zero_add]
  rw [e] at this; exact this
theorem nrN_tie {t : Str} (ht : t = "up" ∨ t = "down" ∨ t = "even") (low : Int) : ((t = "up" ∨ (t = "even" ∧ low.fmod 2 = 1)) ↔ ¬ dnT t low) := by
  have fm : low.fmod 2 = low % 2 := Int.fmod_eq_emod_of_nonneg _ (by decide)
  rw [fm]
  unfold dnT
  have ne : ¬ (("up" : Str) = "down") := by decide
  have ne2 : ¬ (("up" : Str) = "even") := by decide
  have ne3 : ¬ (("down" : Str) = "up") := by decide
  have ne4 : ¬ (("down" : Str) = "even") := by decide
  have ne5 : ¬ (("even" : Str) = "up") := by decide
  have ne6 : ¬ (("even" : Str) = "down") := by decide
  rcases ht with rfl | rfl | rfl
  · simp [ne, ne2]
  · simp [ne3, ne4]
  · simp [ne5, ne6]; omega
theorem nr_arn {t : Str} {u o x : Rat} (ht : t = "up" ∨ t = "down" ∨ t = "even") (h : 0 < u) : (nrC t u o).arn x = ⟨o + (nrN t (lowN u o x) ((x - o) / u - (lowN u o x : Rat)) (-1) : Int) * u, o + (nrN t (lowN u o x) ((x - o) / u - (lowN u o x : Rat)) 0 : Int) * u, o + (nrN t (lowN u o x) ((x - o) / u - (lowN u o x : Rat)) 1 : Int) * u, 0, 0⟩ := by
  rw [← nr_norm h, norm_arn (nr_ok h) (by unfold nrPts; simp), nr_row, arn_shift (nT_trk0 h) _ (nT_trk h _)]
  have trk := nT_trk0 (t := t) (o := o) h
  obtain ⟨s1, s2⟩ := lowN_spec (o := o) (x := x) h
  have hx : (x - o) / u * u = x - o := Rat.div_mul_cancel (by grind)
  generalize (x - o) / u = sh at *
  generalize lowN u o x = low at *
  have hq : qHalf = 1 / 2 := by decide +kernel
  have e1 : (((1 : Int)) : Rat) = 1 := rfl
  have e1i : ((low + 1 : Int) : Rat) = (low : Rat) + 1 := by rw [Rat.intCast_add, e1]
  have e1m : ((low - 1 : Int) : Rat) = (low : Rat) - 1 := by rw [Rat.intCast_sub, e1]
  by_cases ht1 : sh - (low : Rat) = qHalf
  · have ex : x = (nT t u o low).a := by unfold nT; simp only []; grind
    conv => lhs; rw [ex]
    rw [trk.arn_pt]
    have z1 := nT_sl (t := t) (u := u) (o := o) (low - 1)
    have z2 := nT_sl (t := t) (u := u) (o := o) low
    rw [show low - 1 + 1 = low from by omega] at z1
    rw [z1, z2]
    unfold nrN
    rw [ht1]
    rw [if_pos rfl, if_pos rfl, if_pos rfl]
    have n1 : ¬ ((0 : Int) < -1 ∨ ((-1 : Int) = 0 ∧ (t = "up" ∨ (t = "even" ∧ low.fmod 2 = 1)))) := by omega
    have n2 : ((0 : Int) < 1 ∨ ((1 : Int) = 0 ∧ (t = "up" ∨ (t = "even" ∧ low.fmod 2 = 1)))) := by omega
    have n3 : ((0 : Int) < 0 ∨ ((0 : Int) = 0 ∧ (t = "up" ∨ (t = "even" ∧ low.fmod 2 = 1)))) ↔ ¬ dnT t low := by
      rw [nrN_tie ht]; simp
    rw [if_neg n1, if_pos n2, e1i]
    by_cases dn : dnT t low
    · rw [if_neg (fun z => n3.mp z dn)]
      unfold nT
      simp only [Arn.mk.injEq, if_pos dn]
      refine ⟨trivial, trivial, by grind, trivial, trivial⟩
    · rw [if_pos (n3.mpr dn), e1i]
      unfold nT
      simp only [Arn.mk.injEq, if_neg dn]
      refine ⟨trivial, by grind, by grind, trivial, trivial⟩
  · have nn : ∀ side : Int, nrN t low (sh - (low : Rat)) side = if qHalf < sh - (low : Rat) then low + 1 else low := fun side => by unfold nrN; rw [if_neg ht1]
    rw [nn, nn, nn]
    by_cases hl : qHalf < sh - (low : Rat)
    · rw [if_pos hl]
      have m1 : 0 < (sh - low - 1/2) * u := Rat.mul_pos (by grind) h
      have a1 : (nT t u o low).a < x := by unfold nT; simp only []; grind
      have a2 : x < (nT t u o (low + 1)).a := by unfold nT; simp only [e1i]; grind
      rw [trk.arn_in a1 a2, nT_sl, e1i]
      unfold nT
      simp only [Arn.mk.injEq]
      refine ⟨by grind, by grind, by grind, trivial, trivial⟩
    · rw [if_neg hl]
      have m1 : 0 < (1/2 - (sh - low)) * u := Rat.mul_pos (by grind) h
      have a1 : (nT t u o (low - 1)).a < x := by unfold nT; simp only [e1m]; grind
      have a2 : x < (nT t u o (low - 1 + 1)).a := by
        rw [show low - 1 + 1 = low from by omega]; unfold nT; simp only []; grind
      rw [trk.arn_in a1 a2, nT_sl]
      unfold nT
      simp only [Arn.mk.injEq, e1m]
      refine ⟨by grind, by grind, by grind, trivial, trivial⟩
end DL
namespace DL
open PySem PySem.Spec PyProof.Rows L2 Mt
/-- a tuple among a class's values -/
def seqB (K : PySem.W.Frag) (vs : List He.Dv) : Option Obj → Bool
  | some ⟨.type c, _, .seq its _, _⟩ => decide (c = "tuple") && (decide (its.size ≤ sizeLine) && He.relAll (vs.map (He.Dv.v K)) its.toList)
  | _ => false
theorem seqB_ok {K : PySem.W.Frag} {vs : List He.Dv} {a : Addr} (h : seqB K vs (K.lookup a) = true) (H : Hp) : SqT K H a (vs.map (He.Dv.v K)) := by
  cases q : K.lookup a with
  | none => rw [q] at h; cases h
  | some o =>
    obtain ⟨oc, od, dt, osl⟩ := o
    rw [q] at h
    cases oc <;> cases dt <;> first | (cases h; done) | skip
    rename_i c its n
    have h : (decide (c = "tuple") && (decide (its.size ≤ sizeLine) && He.relAll (vs.map (He.Dv.v K)) its.toList)) = true := h
    simp only [Bool.and_eq_true] at h
    exact .inr ⟨_, its, n, q, congrArg Value.type (of_decide_eq_true h.1), rfl, of_decide_eq_true h.2.1, He.relAll_ok h.2.2⟩
def cvTB (K : PySem.W.Frag) (x f : Str) (vs : List He.Dv) : Bool := match PySem.W.findCls K (.ref (He.ga K x)) (.type "type") f with
  | some (.val (.ref a)) => seqB K vs (K.lookup a)
  | _ => false
theorem cvTB_ok {K : PySem.W.Frag} {x f : Str} {vs : List He.Dv} {ds : List D} (c : ClO K (He.ga K x)) (h : cvTB K x f vs = true) (hr : ∀ al M H, Rps K al M H ds (vs.map (He.Dv.v K))) : CValD K (He.ga K x) f (.tup ds) := by
  unfold cvTB at h
  split at h
  · rename_i a e
    exact cval_of (v := .ref a) c e rfl fun al M H => ⟨a, _, rfl, .inr (seqB_ok h noH), hr al M H⟩
  · cases h
end DL

/-! a variable's thing is frozen ahead of a statement -/
namespace DL
open PySem PySem.Spec PyProof.Rows L2 Mt
def dFkv (i : Nat) (t : TSD) : TSD := fun E DD rho M => match rho[i]? with
  | some (some (.mt j)) => (match M[j]? with
    | some (some (.dT ks ds)) => t E DD (rho.set i (some (.dt ks ds))) (M.set j none)
    | some (some (.lst xs)) => t E DD (rho.set i (some (.lst xs))) (M.set j none)
    | _ => t E DD rho M)
  | _ => t E DD rho M
theorem RpS.at {K : PySem.W.Frag} {al : Al} {M : Mem} {H : Hp} {σ : L2.St} {rho : Rho} (h : RpS K al M H σ rho) (i : Nat) {d : D} {v : V} (hs : σ[i]? = some (some v)) (r : Rp K al M H d v) : RpS K al M H σ (rho.set i (some d)) := by
  have := h.set i r
  rw [show σ.set i (some v) = σ from by
    apply List.ext_getElem?
    intro j
    by_cases hj : i = j
    · subst hj; rw [List.getElem?_set_self (List.getElem?_eq_some_iff.mp hs).1, hs]
    · rw [List.getElem?_set_ne hj]] at this
  exact this
theorem dp_fkv {X : Cx} {Tb : List (Addr × Str)} {EV : XK} {st : Stmt} {t : TSD} (i : Nat) (h : PDS X Tb EV st t) : PDS X Tb EV st (dFkv i t) := by
  refine ⟨fun pins s σ H DV I q => ?_⟩
  obtain ⟨al, rho, M, E, DD, a, t0, p⟩ := q
  unfold dFkv at t0
  split at t0
  · rename_i j ej
    split at t0
    · rename_i ks ds e1
      obtain ⟨v, hv, b, hb, rfl⟩ := a.sl.2 i _ ej
      obtain ⟨L, hH, r⟩ := a.wf.rep j b _ hb e1
      obtain ⟨od, I2⟩ := I.lock hH True.intro
      obtain ⟨s2, w2⟩ := lock_stp (od := od) a.wf hb e1 hH (fun _ z => by cases z)
      exact h.run pins s σ _ DV I2 ⟨al, _, _, E, DD, ⟨w2, (a.sl.mono s2).at (d := .dt ks ds) i hv ⟨b, od, L, rfl, upd_same, fz_at a.wf hb e1, r.1, r.2.mono s2⟩, a.ex.mono s2⟩, t0, p.mono s2⟩
    · rename_i xs e1
      obtain ⟨v, hv, b, hb, rfl⟩ := a.sl.2 i _ ej
      obtain ⟨ys, hH, r⟩ := a.wf.rep j b _ hb e1
      have s2 : Stp al M H al (M.set j none) H := stp_fz
      exact h.run pins s σ _ DV I ⟨al, _, _, E, DD, ⟨wf_fz a.wf j, (a.sl.mono s2).at (d := .lst xs) i hv ⟨b, ys, rfl, hH, fz_at a.wf hb e1, r.mono s2⟩, a.ex.mono s2⟩, t0, p.mono s2⟩
    · exact h.run pins s σ _ DV I ⟨al, _, _, E, DD, a, t0, p⟩
  · exact h.run pins s σ _ DV I ⟨al, _, _, E, DD, a, t0, p⟩
theorem e_fkvT {i j : Nat} {kvs : Kvs} {t : TSD} {E : XD} {DD : DEnds} {rho : Rho} {M : Mem} (h1 : rho[i]? = some (some (.mt j))) (h2 : M[j]? = some (some (dTM kvs))) (h : t E DD (rho.set i (some (dtD kvs))) (M.set j none)) : dFkv i t E DD rho M := by
  unfold dFkv
  rw [h1]
  simp only []
  rw [h2]
  exact h
theorem e_fkvL {i j : Nat} {xs : List D} {t : TSD} {E : XD} {DD : DEnds} {rho : Rho} {M : Mem} (h1 : rho[i]? = some (some (.mt j))) (h2 : M[j]? = some (some (.lst xs))) (h : t E DD (rho.set i (some (.lst xs))) (M.set j none)) : dFkv i t E DD rho M := by
  unfold dFkv
  rw [h1]
  simp only []
  rw [h2]
  exact h
end DL
namespace DL
open PySem PySem.Spec PyProof.Rows L2 Mt
theorem e_nin3 {t a b c : Str} {M : Mem} {Q : VD} (h : Q (.bl (!decide (t = a ∨ t = b ∨ t = c))) M) : rInX true (.str t) (.tup [.str a, .str b, .str c]) M Q := by
  show Q (.bl (if true = true then !L2.inV (.str t) [.str a, .str b, .str c] else L2.inV (.str t) [.str a, .str b, .str c])) M
  have e : L2.inV (.str t) [.str a, .str b, .str c] = decide (t = a ∨ t = b ∨ t = c) := by
    unfold L2.inV
    have e1 : ∀ z : Str, L2.eqV (.str z) (.str t) = decide (t = z) := fun z => by
      show decide _ = decide _
      exact decide_eq_decide.mpr ⟨fun h => by cases h; rfl, fun h => by rw [h]⟩
    simp only [List.any_cons, List.any_nil, e1, Bool.or_false]
    by_cases h1 : t = a <;> by_cases h2 : t = b <;> by_cases h3 : t = c <;> simp [h1, h2, h3]
  rw [if_pos rfl, e]; exact h
theorem e_putT {i : Nat} {kvs : Kvs} {y z : D} {k : List Int} {M : Mem} {N : Mem → Prop} (h1 : M[i]? = some (some (dTM kvs))) (h2 : asK y = some k) (hl : kvs.length < sizeLine) (h : N (M.set i (some (dTM (putP kvs k z))))) : rPutT (.mt i) y z M N := by
  unfold rPutT
  simp only []
  rw [memT_mk h1, h2]
  exact ⟨hl, h⟩
theorem e_ixTd {kvs : Kvs} {y d : D} {k : List Int} {M : Mem} {Q : VD} (h2 : asK y = some k) (h3 : valP kvs k = some d) (h : Q d M) : rIxT_ (dtD kvs) y M Q := by
  unfold rIxT_
  rw [asT_dt]
  simp only []
  rw [h2]
  simp only []
  rw [h3]
  exact h
theorem okM.appn {M : Mem} (ok : okM M.length M) : okM (M ++ [none]).length (M ++ [none]) := fun i mo hi e => by
  by_cases q : i < M.length
  · rw [List.getElem?_append_left q] at e
    exact MO.hb_mono (by simp) (ok i mo q e)
  · rw [List.getElem?_append_right (by omega)] at e
    cases hk : i - M.length with
    | zero => rw [hk] at e; simp at e
    | succ k => rw [hk] at e; simp at e
/-! ### the two ties of a period -/
theorem nT_idx {t : Str} {u o : Rat} (h : 0 < u) {k : Int} (h0 : 0 ≤ (nT t u o k).a) (h1 : (nT t u o k).a < 2 * u) : k = nC u o ∨ k = nC u o + 1 := by
  obtain ⟨c0, c1⟩ := nC_in (t := t) (o := o) h
  have trk := nT_trk0 (t := t) (o := o) h
  have l1 : ¬ k ≤ nC u o - 1 := fun z => by
    have hm : (nT t u o (nC u o - 1)).a = (nT t u o (nC u o)).a - u := by
      have := (nT_next (t := t) (u := u) (o := o) (k := nC u o - 1)).1
      rw [show nC u o - 1 + 1 = nC u o from by omega] at this
      grind
    rcases Int.lt_or_eq_of_le z with z | z
    · have := trk.lt z; grind
    · rw [z] at h0; grind
  have l2 : ¬ nC u o + 2 ≤ k := fun z => by
    have hm : (nT t u o (nC u o + 2)).a = (nT t u o (nC u o)).a + 2 * u := by
      have := nT_a (t := t) (u := u) (o := o) (nC u o) 2
      have e2 : (((2 : Int)) : Rat) = 2 := rfl
      rw [this, e2]
    rcases Int.lt_or_eq_of_le z with z | z
    · have := trk.lt z; grind
    · rw [← z] at h1; grind
  omega
/-- the tie of a number, moved into the period -/
def nP (t : Str) (u o : Rat) (n : Int) : Pt := (nT t u o n).mv (-((nT t u o n).a / (2 * u)).floor : Int) (2 * u) (2 * u)
theorem nP_at {t : Str} {u o : Rat} (n : Int) : nP t u o n = nT t u o (n + -((nT t u o n).a / (2 * u)).floor * 2) := by
  unfold nP
  rw [nT_mv]
theorem nP_in {t : Str} {u o : Rat} (h : 0 < u) (n : Int) : 0 ≤ (nP t u o n).a ∧ (nP t u o n).a < 2 * u := by
  have h2 : 0 < 2 * u := by grind
  have e : (nP t u o n).a = wthn (nT t u o n).a (2 * u) := by
    unfold nP Pt.mv wthn
    simp only [Rat.intCast_neg]
    grind
  rw [e]; exact wthn_in h2
theorem nP_two {t : Str} {u o : Rat} (h : 0 < u) : (nP t u o 0 = nT t u o (nC u o) ∧ nP t u o 1 = nT t u o (nC u o + 1)) ∨ (nP t u o 0 = nT t u o (nC u o + 1) ∧ nP t u o 1 = nT t u o (nC u o)) := by
  have a0 := nP_in (t := t) (o := o) h 0
  have a1 := nP_in (t := t) (o := o) h 1
  rw [nP_at] at a0 a1
  have b0 := nT_idx h a0.1 a0.2
  have b1 := nT_idx h a1.1 a1.2
  rw [nP_at, nP_at]
  generalize ((nT t u o 0).a / (2 * u)).floor = t0 at *
  generalize ((nT t u o 1).a / (2 * u)).floor = t1 at *
  rcases b0 with b0 | b0 <;> rcases b1 with b1 | b1 <;> first | (exfalso; omega) | skip
  · left; rw [b0, b1]; exact ⟨rfl, rfl⟩
  · right; rw [b0, b1]; exact ⟨rfl, rfl⟩
theorem nT_ne {t : Str} {u o : Rat} (h : 0 < u) : (nT t u o (nC u o)).a < (nT t u o (nC u o + 1)).a := by rw [nT_next.1]; grind
def nKv (t : Str) (u o : Rat) : Nat → Kvs
  | 0 => []
  | n + 1 => putP (nKv t u o n) (qk (nP t u o n).a) (ptD (nP t u o n))
theorem nKv2 {t : Str} {u o : Rat} (h : 0 < u) : nKv t u o 2 = [(qk (nP t u o 0).a, ptD (nP t u o 0)), (qk (nP t u o 1).a, ptD (nP t u o 1))] := by
  have ne : ¬ qk (nP t u o 0).a = qk (nP t u o 1).a := fun z => by
    have z := qk_inj z
    have hlt := nT_ne (t := t) (o := o) h
    rcases nP_two (t := t) (o := o) h with ⟨e0, e1⟩ | ⟨e0, e1⟩
    · rw [e0, e1] at z; rw [z] at hlt; exact Rat.lt_irrefl hlt
    · rw [e0, e1] at z; rw [z] at hlt; exact Rat.lt_irrefl hlt
  show putP (putP [] (qk (nP t u o 0).a) (ptD (nP t u o 0))) (qk (nP t u o 1).a) (ptD (nP t u o 1)) = _
  have e1 : putP [] (qk (nP t u o 0).a) (ptD (nP t u o 0)) = [(qk (nP t u o 0).a, ptD (nP t u o 0))] := rfl
  rw [e1]
  unfold putP
  rw [List.any_cons, decide_eq_false ne]
  rfl
theorem nKv_ord {t : Str} {u o : Rat} (h : 0 < u) : ordQ [(nP t u o 0).a, (nP t u o 1).a] = (nrPts t u o).map (·.a) := by
  symm
  refine ordQ_uniq ?_ fun x => ?_
  · have := nT_ne (t := t) (o := o) h
    unfold nrPts
    simp [this]
  · unfold nrPts
    rcases nP_two (t := t) (o := o) h with ⟨e0, e1⟩ | ⟨e0, e1⟩
    · rw [e0, e1]; simp
    · rw [e0, e1]; simp [or_comm]
theorem nKv_val {t : Str} {u o : Rat} (h : 0 < u) {q : Pt} (hq : q ∈ nrPts t u o) : valP (nKv t u o 2) (qk q.a) = some (ptD q) := by
  rw [nKv2 h]
  have hlt := nT_ne (t := t) (o := o) h
  have ne : ¬ (nT t u o (nC u o)).a = (nT t u o (nC u o + 1)).a := fun z => by rw [z] at hlt; exact Rat.lt_irrefl hlt
  have hq : q = nT t u o (nC u o) ∨ q = nT t u o (nC u o + 1) := by simpa [nrPts] using hq
  unfold valP
  rcases nP_two (t := t) (o := o) h with ⟨e0, e1⟩ | ⟨e0, e1⟩ <;> rw [e0, e1] <;> rcases hq with rfl | rfl
  · rw [List.find?_cons, decide_eq_true rfl]; rfl
  · rw [List.find?_cons, decide_eq_false (fun z => ne (qk_inj z)), List.find?_cons, decide_eq_true rfl]; rfl
  · rw [List.find?_cons, decide_eq_false (fun z => ne (qk_inj z).symm), List.find?_cons, decide_eq_true rfl]; rfl
  · rw [List.find?_cons, decide_eq_true rfl]; rfl
theorem qs_nT {t : Str} {u o : Rat} {k : Int} {n : Nat} (hk : bz k ≤ n) : (nT t u o k).sz (n + 2 * qs u + qs o + 8) := by
  have h1 := qs_int k
  have h2 := qs_mul (k : Rat) u
  have h3 := qs_add o (k * u)
  have h4 := qs_add (o + k * u) u
  have h5 : qs (u / 2) ≤ qs u + 2 := by
    have := qs_div u 2
    have e : qs (2 : Rat) = 2 := by decide
    omega
  have h6 := qs_add (o + k * u) (u / 2)
  have h7 := qs_pos u
  constructor
  · show qs (o + k * u + u / 2) ≤ _; omega
  · show qs (o + k * u) ≤ _; omega
  · show qs (if dnT t k then o + k * u else o + k * u + u) ≤ _
    split <;> omega
  · show qs (o + k * u + u) ≤ _; omega
theorem bz_nC (u o : Rat) : bz (nC u o) ≤ qs o + 2 * qs u + 4 := by
  unfold nC
  rw [bi_neg]
  have h5 : qs (u / 2) ≤ qs u + 2 := by
    have := qs_div u 2
    have e : qs (2 : Rat) = 2 := by decide
    omega
  have h1 := qs_add o (u / 2)
  have h2 := qs_div (o + u / 2) u
  have h3 := bz_floor ((o + u / 2) / u)
  omega
theorem nr_sz {t : Str} {u o : Rat} {q : Pt} (hq : q ∈ nrPts t u o) : q.sz (2 * qs o + 4 * qs u + 16) := by
  have h1 := bz_nC u o
  have h2 := bi_add (nC u o) 1
  have e1 : bz (1 : Int) = 1 := rfl
  have hq : q = nT t u o (nC u o) ∨ q = nT t u o (nC u o + 1) := by simpa [nrPts] using hq
  rcases hq with rfl | rfl
  · exact (qs_nT (n := qs o + 2 * qs u + 8) (by omega)).mono (by omega)
  · exact (qs_nT (n := qs o + 2 * qs u + 8) (by omega)).mono (by omega)
theorem nP_mem {t : Str} {u o : Rat} (h : 0 < u) {n : Int} (hn : n = 0 ∨ n = 1) : nP t u o n ∈ nrPts t u o := by
  unfold nrPts
  rcases nP_two (t := t) (o := o) h with ⟨e0, e1⟩ | ⟨e0, e1⟩ <;> rcases hn with rfl | rfl
  · rw [e0]; simp
  · rw [e1]; simp
  · rw [e0]; simp
  · rw [e1]; simp
end DL

/-! the head's facts over a written list of addresses; the run looked at piece by piece -/
namespace He
open PySem PySem.Spec PyProof.Rows L2
def obsZ (as : List Addr) (fa : List Fa) (fn : List DefE) (tf : List Defn) (ex : PySem.W.Frag → Bool) (g : Addr → Option Obj) : AlYX := (obsYK fa fn ex (frT g as), tabsB g tf (frT g as))
theorem saysZ_of {as : List Addr} {fa : List Fa} {fn : List DefE} {tf : List Defn} {ex : PySem.W.Frag → Bool} {h : Heap} (e : obsZ as fa fn tf ex h.get? = (valY fn, true)) : SaysY fa fn tf ex h (frT h.get? as) := by
  have e1 : obsYK fa fn ex (frT h.get? as) = valY fn := congrArg (fun z : AlYX => z.1) e
  have e2 : tabsB h.get? tf (frT h.get? as) = true := congrArg (fun z : AlYX => z.2) e
  have key : ∀ p ∈ tf, PySem.W.codeHdIn (frT h.get? as) (cT (frT h.get? as) p).1 (cT (frT h.get? as) p).2 = true ∧ ∃ o, h.get? (cT (frT h.get? as) p).2 = some o ∧ emptyTab o = true := fun p hp => by
    obtain ⟨h3, h4⟩ := ba (List.all_eq_true.mp e2 p hp)
    refine ⟨h3, ?_⟩
    cases q : h.get? (cT (frT h.get? as) p).2 with
    | none => rw [q] at h4; cases h4
    | some o => rw [q] at h4; exact ⟨o, rfl, h4⟩
  exact ⟨e1, fun p hp => (key p hp).1, fun p hp => let ⟨_, _, q, z⟩ := key p hp; frT_none q z, fun p hp => let ⟨_, _, q, z⟩ := key p hp; by rw [q, emptyTab_eq z]⟩
def hookZ (as : List Addr) (fa : List Fa) (fn : List DefE) (tf : List Defn) (ex : PySem.W.Frag → Bool) : PySem.W.Hook where
  α := AlYX
  obs := fun s => obsZ as fa fn tf ex s.heap.get?
  val := fun _ => (valY fn, true)
  says := fun _ h => ∃ K : PySem.W.Frag, K.In h ∧ SaysY fa fn tf ex h K
  of := fun _ _ e => ⟨_, frT_in, saysZ_of e⟩
  keeps := fun _ _ _ ⟨K, hK, c⟩ k => ⟨K, PySem.W.Frag.In.keeps hK k, ⟨c.t, c.hd, c.out, fun p hp => k _ _ (c.empty p hp)⟩⟩
theorem obsZ_eq {as : List Addr} {fa : List Fa} {fn : List DefE} {tf : List Defn} {ex : PySem.W.Frag → Bool} {g : Addr → Option Obj} {s : Shared} (h : ∀ a, g a = s.heap.get? a) : obsZ as fa fn tf ex g = (hookZ as fa fn tf ex).obs s := by
  have e : g = s.heap.get? := funext h
  rw [e] <;> rfl
/-- one look at the state behind the top -/
def LookEq (r : PySem.W.OpenRow) (M : Nat) (w : World) {β : Type} (f : PySem.W.SharedT → β) (v : β) : Prop :=
  ∀ os : OsState, (HandSHeadRun.endF (HandSHeadRun.stepQ (HandSHeadRun.denQ HandSHeadRun.tabQ) r.prog w) M r.prog w os).map f = some v
theorem LookEq.and {r : PySem.W.OpenRow} {M : Nat} {w : World} {β γ : Type} {f : PySem.W.SharedT → β} {g : PySem.W.SharedT → γ} {v : β} {u : γ} (a : LookEq r M w f v) (b : LookEq r M w g u) : LookEq r M w (fun s => (f s, g s)) (v, u) := fun os => by
  have h1 := a os
  have h2 := b os
  generalize HandSHeadRun.endF _ _ _ _ _ = x at h1 h2
  cases x with
  | none => cases h1
  | some s =>
    simp only [Option.map_some, Option.some.injEq] at h1 h2 ⊢
    rw [h1, h2]
theorem LookEq.to {r : PySem.W.OpenRow} {M : Nat} {w : World} {β γ : Type} {f : PySem.W.SharedT → β} {v : β} (a : LookEq r M w f v) (k : β → γ) : LookEq r M w (fun s => k (f s)) (k v) := fun os => by
  have h1 := a os
  generalize HandSHeadRun.endF _ _ _ _ _ = x at h1
  cases x with
  | none => cases h1
  | some s =>
    simp only [Option.map_some, Option.some.injEq] at h1 ⊢
    rw [h1]
end He

/-! Starred targets and match statements at data level. -/
namespace DL
open PySem PySem.Spec PySem.Calls PyProof.Rows L2

section
variable {prog : Program} {w : World} {A : Around} {E : Value → Shared → Prop} {s : Shared}
theorem isl_of {h : Heap} {a : Addr} {its : Array Value} (x : PlainL h a its) : h.IsList a its := let ⟨o, n, e, c, _, d⟩ := x; ⟨o, e, c, n, d⟩
/-- a, b, *r = a tuple -/
theorem unp_tupS {l : Addr} {items : Array Value} {k : Nat} {Q : List Value → Shared → Prop} (hh : A.handled = none) (hl : IsTup s.heap l items) (hk : k ≤ items.size) (hz : items.size ≤ sizeLine)
    (h : ∀ (h₂ : Heap) (tk : Nat), (∀ b o, s.heap.get? b = some o → h₂.get? b = some o) → Q (items.toList.take k ++ [.ref h₂.objs.size]) { s with heap := h₂.push { cls := .type "list", data := .seq (items.toList.drop k).toArray }, toks := tk }) :
    wpAny (model prog w) A (unpackItems (.ref l) (k + 1) (some k)) Q E s := by
  have hlt : l ≠ s.heap.objs.size := by obtain ⟨o, ho, _⟩ := hl; exact Nat.ne_of_lt (Heap.lt_size ho)
  unfold unpackItems
  refine wpAny_bind ?_
  unfold notIterableAtAll
  refine wpAny_bind (wpAny_specialOf hl.typeIs slot_tuple_iter.lookup ?_)
  refine wpAny_pure ?_
  simp only [Bool.false_eq_true, if_false]
  refine wpAny_bind (wpAny_holding (iter_tuple hl ?_))
  refine wpAny_bind (wpAny_holding (draw_tuple hlt k 0 _ _ ⟨_, Heap.get?_push_size _ rfl, rfl, rfl⟩ (hl.push _) (by omega) fun h₁ hit₁ hs₁ => ?_))
  have hl₁ : IsTup h₁ l items := (hl.push _).extBut hs₁.extBut hlt
  rw [Nat.zero_add] at hit₁
  have hit₁' := hit₁
  obtain ⟨oi, hoi, _⟩ := hit₁'
  have hl₁' := hl₁
  obtain ⟨ol, hol, _⟩ := hl₁'
  rw [List.drop_zero]
  have hfl : (items.toList.take k).length = k := by rw [List.length_take, Array.length_toList]; omega
  rw [if_neg (show ¬ ((items.toList.take k).length < k) by rw [hfl]; omega)]
  refine wpAny_bind (wpAny_holding (PySem.W.kun_collect (s := { s with heap := h₁ }) (T := "tuple_iterator") (.inr (.inr (.inr rfl))) (Walks.tuple (A := A.in1) hh s.heap.objs.size l hlt items) (fun j u st => st.1.typeIs) (k := k) (by omega) ⟨hit₁, hl₁⟩ (Heap.lt_size hoi) (Heap.lt_size hol) (fun h₂ tk hk => ?_) hz))
  show wpAny _ _ (if (items.toList.drop k).length < k + 1 - 1 - k then _ else _) _ _ _
  rw [if_neg (by omega)]
  show wpAny _ _ (newList ((items.toList.drop k).take ((items.toList.drop k).length - (k + 1 - 1 - k))) >>= fun d => pure (items.toList.take k ++ [d] ++ (items.toList.drop k).drop ((items.toList.drop k).length - (k + 1 - 1 - k)))) _ _ _
  rw [show k + 1 - 1 - k = 0 by omega, Nat.sub_zero, List.take_length, List.drop_length]
  refine wpAny_bind (wpAny_newList (wpAny_pure ?_) (by rw [List.length_drop, Array.length_toList]; omega))
  rw [List.append_nil]
  refine h h₂ tk fun b o e => ?_
  have hb : b ≠ s.heap.objs.size := Nat.ne_of_lt (Heap.lt_size e)
  exact hk b o hb (hs₁.extBut b o hb (Heap.get?_push_of_some _ e))
theorem unp_lstS {l : Addr} {items : Array Value} {k : Nat} {Q : List Value → Shared → Prop} (hh : A.handled = none) (hl : s.heap.IsList l items) (hk : k ≤ items.size) (hz : items.size ≤ sizeLine)
    (h : ∀ (h₂ : Heap) (tk : Nat), (∀ b o, s.heap.get? b = some o → h₂.get? b = some o) → Q (items.toList.take k ++ [.ref h₂.objs.size]) { s with heap := h₂.push { cls := .type "list", data := .seq (items.toList.drop k).toArray }, toks := tk }) :
    wpAny (model prog w) A (unpackItems (.ref l) (k + 1) (some k)) Q E s := by
  have hlt : l ≠ s.heap.objs.size := by obtain ⟨o, ho, _⟩ := hl; exact Nat.ne_of_lt (Heap.lt_size ho)
  unfold unpackItems
  refine wpAny_bind ?_
  unfold notIterableAtAll
  refine wpAny_bind (wpAny_specialOf hl.typeIs slot_list_iter.lookup ?_)
  refine wpAny_pure ?_
  simp only [Bool.false_eq_true, if_false]
  refine wpAny_bind (wpAny_holding (wpAny_pyIter_list hl ?_))
  refine wpAny_bind (wpAny_holding (PySem.W.kun_draw hlt k 0 _ _ ⟨_, Heap.get?_push_size _ rfl, rfl, rfl⟩ (hl.push _) (by omega) fun h₁ hit₁ hs₁ => ?_))
  have hl₁ : h₁.IsList l items := (hl.push _).extBut hs₁.extBut hlt
  rw [Nat.zero_add] at hit₁
  have hit₁' := hit₁
  obtain ⟨oi, hoi, _⟩ := hit₁'
  have hl₁' := hl₁
  obtain ⟨ol, hol, _⟩ := hl₁'
  rw [List.drop_zero]
  have hfl : (items.toList.take k).length = k := by rw [List.length_take, Array.length_toList]; omega
  rw [if_neg (show ¬ ((items.toList.take k).length < k) by rw [hfl]; omega)]
  refine wpAny_bind (wpAny_holding (PySem.W.kun_collect (s := { s with heap := h₁ }) (T := "list_iterator") (.inr (.inr (.inl rfl))) (Walks.list (A := A.in1) hh s.heap.objs.size l hlt items) (fun j u st => st.1.typeIs) (k := k) (by omega) ⟨hit₁, hl₁⟩ (Heap.lt_size hoi) (Heap.lt_size hol) (fun h₂ tk hk => ?_) hz))
  show wpAny _ _ (if (items.toList.drop k).length < k + 1 - 1 - k then _ else _) _ _ _
  rw [if_neg (by omega)]
  show wpAny _ _ (newList ((items.toList.drop k).take ((items.toList.drop k).length - (k + 1 - 1 - k))) >>= fun d => pure (items.toList.take k ++ [d] ++ (items.toList.drop k).drop ((items.toList.drop k).length - (k + 1 - 1 - k)))) _ _ _
  rw [show k + 1 - 1 - k = 0 by omega, Nat.sub_zero, List.take_length, List.drop_length]
  refine wpAny_bind (wpAny_newList (wpAny_pure ?_) (by rw [List.length_drop, Array.length_toList]; omega))
  rw [List.append_nil]
  refine h h₂ tk fun b o e => ?_
  have hb : b ≠ s.heap.objs.size := Nat.ne_of_lt (Heap.lt_size e)
  exact hk b o hb (hs₁.extBut b o hb (Heap.get?_push_of_some _ e))
end

section
variable {X : Cx} {pos : Pos}
def gStar (K : PySem.W.Frag) (k : Nat) (t : TGs) : TG := fun v σ H Q => ∃ a xs, v = .ref a ∧ (SqT K H a xs ∨ SqL K H a xs) ∧ k ≤ xs.length ∧ ∀ p, H p = none → t (xs.take k ++ [.ref p]) σ (upd H p (.lst (xs.drop k))) Q
theorem Vals.take' {xs : List V} {us : List Value} (r : Vals xs us) : ∀ k, Vals (xs.take k) (us.take k) := by
  induction r with
  | nil => intro k; simp; exact .nil
  | cons a b ih => intro k; cases k with
    | zero => exact .nil
    | succ k => exact .cons a (ih k)
theorem Vals.drop' {xs : List V} {us : List Value} (r : Vals xs us) : ∀ k, Vals (xs.drop k) (us.drop k) := by
  induction r with
  | nil => intro k; simp; exact .nil
  | cons a b ih => intro k; cases k with
    | zero => exact .cons a b
    | succ k => exact ih k
theorem pg_star {es : List Expr} {k0 : _} {t : TGs} {k : Nat} (hc : X.calm = true) (h : PGs X es t)
    (hn : (assignEach es X.env).length = k + 1 := by rfl) (hst : (assignEach es X.env).findIdx? (·.1) = some k := by rfl) : PG X (.Tuple es k0 pos) (gStar X.K k t) := by
  refine ⟨fun pins s σ H v u Q I r hw => ?_⟩
  obtain ⟨a, xs, e1, hq, hl, hw⟩ := hw
  subst e1
  cases r
  rw [assign_Tuple]
  refine wpAny_bind (wpAny_standAt ?_)
  unfold unpack
  rw [hn, hst]
  have fin : ∀ {its : List Value}, Vals xs its → xs.length ≤ sizeLine → ∀ (h₂ : Heap) (tk : Nat), (∀ b o, s.heap.get? b = some o → h₂.get? b = some o) →
      wpAny (model X.prog X.w) X.A (assignInOrder ((assignEach es X.env).map (·.2)) (its.toArray.toList.take k ++ [.ref h₂.objs.size])) (fun _ s' => ∃ σ' H', Inv X pins σ' H' s' ∧ Q σ' H') X.xe { s with heap := h₂.push { cls := .type "list", data := .seq (its.toArray.toList.drop k).toArray }, toks := tk } := by
    intro its rv hz h₂ tk hk
    have I1 : Inv X pins σ H { s with heap := h₂, toks := tk } := I.kept hk
    have I2 : Inv X pins σ (upd H h₂.objs.size (.lst (xs.drop k))) { s with heap := h₂.push { cls := .type "list", data := .seq (its.toArray.toList.drop k).toArray }, toks := tk } :=
      I1.laid (t' := tk) (fun b u e => Heap.get?_push_of_some _ e) (Nat.le_refl _) ⟨by rw [List.length_drop]; omega, its.drop k, 0, Vals.drop' rv k, Heap.get?_push_size _ rfl⟩
    refine h.run pins _ σ _ _ _ Q I2 ?_ (hw _ (I1.hok.fresh (Nat.le_refl _)))
    exact Vals.append (Vals.take' rv k) (.cons rfl .nil)
  rcases hq with hq | hq
  · obtain ⟨its, rv, ht, hz⟩ := I.tuple hq
    have e := rv.length
    refine wpAny_bind (wpAny_holding (unp_tupS (I.ok.hd hc) ht (by simp; omega) (by simp; omega) fun h₂ tk hk => fin rv hz h₂ tk hk))
  · obtain ⟨its, rv, ht, hz⟩ := I.list hq
    have e := rv.length
    refine wpAny_bind (wpAny_holding (unp_lstS (I.ok.hd hc) (isl_of ht) (by simp; omega) (by simp; omega) fun h₂ tk hk => fin rv hz h₂ tk hk))
theorem pgs_consS {e : Expr} {es : List Expr} {p : Pos} {t : TG} {u : TGs} (h1 : PG X e t) (h2 : PGs X es u) : PGs X (.Starred e p :: es) (gCons t u) := by
  refine ⟨fun pins s σ H vs us Q I r h => ?_⟩
  obtain ⟨v, vr, e1, h⟩ := h
  subst e1
  cases r with
  | cons r rr =>
    show wpAny _ _ (assignInOrder (assign e X.env :: (assignEach es X.env).map (·.2)) _) _ _ _
    refine assignInOrder_cons (thn (h1.run pins s σ H _ _ _ I r h) fun _ s1 ⟨σ1, H1, I1, q1⟩ => ?_)
    exact h2.run pins s1 σ1 H1 _ _ Q I1 rr q1
end

/-! ### data level -/
@[reducible] def hStar (k : Nat) (t : TGsD) : TGD := fun d E rho M Q => match d with
  | .tup xs => k ≤ xs.length ∧ t (xs.take k ++ [.lst (xs.drop k)]) E rho M Q
  | .lst xs => k ≤ xs.length ∧ t (xs.take k ++ [.lst (xs.drop k)]) E rho M Q
  | _ => False
section
variable {X : Cx} {Tb : List (Addr × Str)} {EV : XK} {pos : Pos}
theorem rps_app {K : PySem.W.Frag} {al : Al} {M : Mem} {H : Hp} {d : D} {v : V} (r : Rp K al M H d v) : ∀ {ds : List D} {vs : List V}, Rps K al M H ds vs → Rps K al M H (ds ++ [d]) (vs ++ [v])
  | [], _, h => by cases h; exact ⟨v, [], rfl, r, rfl⟩
  | x :: ds, _, h => by
    obtain ⟨y, ys, rfl, rx, rs⟩ := h
    exact ⟨y, _, rfl, rx, rps_app r rs⟩
theorem dgs_consS {e : Expr} {es : List Expr} {p : Pos} {t : TGD} {u : TGsD} (h1 : PDG X Tb EV e t) (h2 : PDGs X Tb EV es u) : PDGs X Tb EV (.Starred e p :: es) (hCons t u) := by
  refine ⟨fun pins s σ H vs us Q I r h => (pgs_consS h1 h2).run pins s σ H vs us Q I r ?_⟩
  obtain ⟨al, rho, M, E, ds, Q', a, rd, t, p⟩ := h
  unfold hCons at t
  split at t
  · obtain ⟨x, xs, rfl, rx, rxs⟩ := rd
    exact ⟨x, xs, rfl, al, rho, M, E, _, _, a, rx, t, fun al' rho' M' σ' H' s w r q => ⟨al', rho', M', E, _, Q', ⟨w, r, a.ex.mono s⟩, rxs.mono s, q, p.mono s⟩⟩
  · exact t.elim
theorem dg_star {es : List Expr} {k0 : _} {t0 : TGsD} {k : Nat} (hc : X.calm = true) (hg : PDGs X Tb EV es t0)
    (hn : (assignEach es X.env).length = k + 1 := by rfl) (hst : (assignEach es X.env).findIdx? (·.1) = some k := by rfl) : PDG X Tb EV (.Tuple es k0 pos) (hStar k t0) := by
  refine ⟨fun pins s σ H v u Q I r h => (pg_star hc hg hn hst).run pins s σ H v u Q I r ?_⟩
  obtain ⟨al, rho, M, E, d, Q', a, rd, t, p⟩ := h
  unfold hStar at t
  have fin : ∀ {ds : List D} {ys : List V}, Rps X.K al M H ds ys → ∀ q, H q = none → (k ≤ ds.length ∧ t0 (ds.take k ++ [.lst (ds.drop k)]) E rho M Q') → liftGs X.K Tb EV t0 (ys.take k ++ [.ref q]) σ (upd H q (.lst (ys.drop k))) Q := by
    intro ds ys q2 q hq t
    have st := stp_new a.wf hq (.lst (ys.drop k))
    refine ⟨al, rho, M, E, _, Q', a.go st (wf_new a.wf hq _), ?_, t.2, p.mono st⟩
    exact rps_app (rp_lst a.wf hq (q2.drop k)) ((q2.take k).mono st)
  split at t
  · obtain ⟨b, ys, rfl, q1, q2⟩ := rd
    exact ⟨b, ys, rfl, .inl q1.sq, by rw [← q2.length]; exact t.1, fun q hq => fin q2 q hq t⟩
  · obtain ⟨b, ys, rfl, q1, _, q2⟩ := rd
    exact ⟨b, ys, rfl, .inr (.inl (.inl q1)), by rw [← q2.length]; exact t.1, fun q hq => fin q2 q hq t⟩
  · exact t.elim
end

/-! ### match -/
structure PDM (X : Cx) (Tb : List (Addr × Str)) (EV : XK) (cs : List MatchCase) (t : D → TSD) : Prop where
  run : ∀ (first : Bool) (pins : List (Addr × Obj)) (s : Shared) (σ : L2.St) (H : Hp) (u : Value) (al : Al) (rho : Rho) (M : Mem) (E : XD) (DD : DEnds) (d : D) (v : V) (DV : Ends),
    L2.Inv X pins σ H s → At X.K Tb EV al σ H rho M E → Rp X.K al M H d v → RelV v u → t d E DD rho M → PostE X.K Tb al M H DD DV →
    wpAny (model X.prog X.w) X.A (matchCases cs X.env u first) (SP X pins DV) X.xe s
inductive Capts : List Pattern → List Str → Prop where
  | nil : Capts [] []
  | cons {n : Str} {p : Pos} {ps : List Pattern} {ns : List Str} : Capts ps ns → Capts (.MatchAs none (some n) p :: ps) (n :: ns)
inductive NSl (X : Cx) : List Str → List Nat → Prop where
  | nil : NSl X [] []
  | cons {n : Str} {i : Nat} {ns : List Str} {is : List Nat} : X.N[i]? = some n → Loc X.env.scope n → (X.fn n = true ∨ X.env.scope.names.lookup n = some .local) → NSl X ns is → NSl X (n :: ns) (i :: is)
@[reducible] def bindM : List Nat → List D → Rho → Option Rho
  | [], [], rho => some rho
  | i :: is, x :: xs, rho => bindM is xs (rho.set i (some x))
  | _, _, _ => none
def bindV : List Nat → List V → L2.St → L2.St
  | i :: is, x :: xs, σ => bindV is xs (σ.set i (some x))
  | _, _, σ => σ
theorem Capts.len {ps : List Pattern} {ns : List Str} (c : Capts ps ns) : ps.length = ns.length := by induction c with
  | nil => rfl
  | cons _ ih => simp [ih]
theorem Capts.star {ps : List Pattern} {ns : List Str} (c : Capts ps ns) : ps.findIdx? (·.isStar) = none := by induction c with
  | nil => rfl
  | cons _ ih => rw [List.findIdx?_cons]; show (if false = true then _ else _) = none; rw [if_neg (by decide), ih]; rfl
theorem Capts.wild {ps : List Pattern} {n : Str} {ns : List Str} (c : Capts ps (n :: ns)) : (ps.all fun p => p.isWildcard || (p.isStar && p.names.isEmpty)) = false := by
  cases c; rfl
theorem each_capts {M : Model} {A : Around} {E : Value → Shared → Prop} {s : Shared} {env : Env} {ps : List Pattern} {ns : List Str} (c : Capts ps ns) : ∀ {us : List Value} {Q : Option (List (Str × Value)) → Shared → Prop}, us.length = ns.length → Q (some (ns.zip us)) s → wpAny M A (matchEach ps env us) Q E s := by
  induction c with
  | nil => intro us Q hl h; cases us with
    | nil => exact wpAny_matchEach_nil h
    | cons _ _ => cases hl
  | cons c ih => intro us Q hl h; cases us with
    | nil => cases hl
    | cons u us =>
      refine wpAny_matchEach_cons (wpAny_matchPattern_Capture ?_)
      refine ih (by simpa using hl) ?_
      exact h
section
variable {X : Cx} {Tb : List (Addr × Str)} {EV : XK} {pos : Pos}
theorem bindM_none {is : List Nat} : ∀ {xs : List D} {rho : Rho}, is.length ≠ xs.length → bindM is xs rho = none := by
  induction is with
  | nil => intro xs rho h; cases xs with
    | nil => exact absurd rfl h
    | cons _ _ => rfl
  | cons i is ih => intro xs rho h; cases xs with
    | nil => rfl
    | cons x xs => exact ih (by simpa using h)
theorem bindM_len {is : List Nat} : ∀ {xs : List D} {rho : Rho}, is.length = xs.length → ∃ r, bindM is xs rho = some r := by
  induction is with
  | nil => intro xs rho h; cases xs with
    | nil => exact ⟨_, rfl⟩
    | cons _ _ => cases h
  | cons i is ih => intro xs rho h; cases xs with
    | nil => cases h
    | cons x xs => exact ih (by simpa using h)
theorem NSl.len {ns : List Str} {is : List Nat} (c : NSl X ns is) : ns.length = is.length := by induction c with
  | nil => rfl
  | cons _ _ _ _ ih => simp [ih]
theorem bind_caps {al : Al} {M : Mem} {H : Hp} {pins : List (Addr × Obj)} (hN : X.N.Nodup) {ns : List Str} {is : List Nat} (c : NSl X ns is) : ∀ {s : Shared} {σ : L2.St} {rho rho' : Rho} {xs : List D} {vs : List V} {us : List Value} {Q : Unit → Shared → Prop},
    L2.Inv X pins σ H s → RpS X.K al M H σ rho → Rps X.K al M H xs vs → Vals vs us → bindM is xs rho = some rho' → (∀ s' σ', L2.Inv X pins σ' H s' → RpS X.K al M H σ' rho' → Q () s') →
    wpAny (model X.prog X.w) X.A (assignInOrder ((ns.zip us).map fun (n, _) => bindName X.env n) ((ns.zip us).map (·.2))) Q X.xe s := by
  induction c with
  | nil => intro s σ rho rho' xs vs us Q I r rs rv hb h; cases xs with
    | nil => cases hb; exact wpAny_assignInOrder_none (h _ _ I r)
    | cons _ _ => cases hb
  | cons hi hx hf c ih => intro s σ rho rho' xs vs us Q I r rs rv hb h; cases xs with
    | nil => cases hb
    | cons x xs =>
      obtain ⟨v, vs, rfl, rx, rs⟩ := rs
      cases rv with
      | cons ru rus =>
        refine wpAny_assignInOrder_more (wpAny_bindName (store_ok I hN hi hx ru (fun s' I' => ?_) hf))
        exact ih I' (r.set _ rx) rs rus hb h
theorem dm_nil : PDM X Tb EV [] (fun _ _ DD rho M => DD.nx rho M) := ⟨fun first pins s σ H u al rho M E DD d v DV I a rd ru t p => wpAny_matchCases_nil ⟨σ, H, I, p.nx _ _ _ _ _ (.refl _ _ _) a.wf a.sl t⟩⟩
@[reducible] def mAny (tb : TSD) : D → TSD := fun _ E DD rho M => tb E DD rho M
theorem dm_any {body : List Stmt} {rest : List MatchCase} {tb : TSD} {p : Pos} (hb : PDSs X Tb EV body tb) : PDM X Tb EV (⟨.MatchAs none none p, none, body⟩ :: rest) (mAny tb) :=
  ⟨fun first pins s σ H u al rho M E DD d v DV I a rd ru t q => by
    refine wpAny_matchCases_cons (wpAny_matchPattern_Capture ?_)
    refine wpAny_assignInOrder_none ?_
    exact hb.run pins s σ H DV I ⟨al, rho, M, E, DD, a, t, q⟩⟩
@[reducible] def mStr (z : Str) (tb : TSD) (rest : D → TSD) : D → TSD := fun d E DD rho M => match d with
  | .str x => if decide (x = z) = true then tb E DD rho M else rest d E DD rho M
  | _ => False
theorem dm_str {z : Str} {j : _} {body : List Stmt} {rest : List MatchCase} {tb : TSD} {tr : D → TSD} {p p2 : Pos} (hb : PDSs X Tb EV body tb) (hr : PDM X Tb EV rest tr) : PDM X Tb EV (⟨.MatchValue (.Constant (.str z) j p) p2, none, body⟩ :: rest) (mStr z tb tr) :=
  ⟨fun first pins s σ H u al rho M E DD d v DV I a rd ru t q => by
    unfold mStr at t
    split at t
    · rename_i x
      have rd' : v = .str x := rd
      subst rd'
      have hc : PE X (.Constant (.str z) j p) (tC (.str z)) := pe_str
      refine wpAny_matchCases_cons (wpAny_matchPattern_Value (thn (hc.run pins s σ H _ I (show tC (.str z) σ H (fun y H1 => y = .str z ∧ H1 = H) from ⟨rfl, rfl⟩)) fun y s1 ⟨vy, H1, I1, ry, e1, e2⟩ => ?_))
      subst e1 e2
      obtain ⟨t1, rfl⟩ := ru
      obtain ⟨t2, rfl⟩ := ry
      have e : (x.cps.toList == z.cps.toList) = decide (x = z) := by
        rw [toList_beq, Bool.eq_iff_iff]; simp
      refine PySem.P.eq_str (wpAny_pure ?_)
      rw [e]
      by_cases hx : x = z
      · rw [decide_eq_true hx, if_pos rfl] at t
        rw [decide_eq_true hx]
        refine wpAny_assignInOrder_none ?_
        exact hb.run pins s1 σ _ DV I1 ⟨al, rho, M, E, DD, a, t, q⟩
      · rw [decide_eq_false hx, if_neg (by decide)] at t
        rw [decide_eq_false hx]
        exact hr.run false pins s1 σ _ _ al rho M E DD (.str x) (.str x) DV I1 a rfl ⟨t1, rfl⟩ t q
    · exact t.elim⟩
@[reducible] def mSeq (is : List Nat) (tg : TTD) (tb : TSD) (rest : D → TSD) : D → TSD := fun d E DD rho M => match d with
  | .lst xs => (match bindM is xs rho with
    | some r => tg E r M fun b M1 => if b = true then tb E DD r M1 else rest d E DD r M1
    | none => rest d E DD rho M)
  | _ => False
theorem dm_seq {n : Str} {ns : List Str} (is : List Nat) {ps : List Pattern} {g : Expr} {body : List Stmt} {rest : List MatchCase} {tg : TTD} {tb : TSD} {tr : D → TSD} {p : Pos} (hc : X.calm = true) (hN : X.N.Nodup) (cp : Capts ps (n :: ns)) (sl : NSl X (n :: ns) is) (hg : PDT X Tb EV g tg) (hb : PDSs X Tb EV body tb) (hr : PDM X Tb EV rest tr) :
    PDM X Tb EV (⟨.MatchSequence ps p, some g, body⟩ :: rest) (mSeq is tg tb tr) :=
  ⟨fun first pins s σ H u al rho M E DD d v DV I a rd ru t q => by
    unfold mSeq at t
    split at t
    · rename_i xs
      obtain ⟨b, ys, rfl, q1, q2, q3⟩ := rd
      cases ru
      have hq : SqL X.K H b ys := .inl (.inl q1)
      obtain ⟨its, rv, ht, hz⟩ := I.list hq
      have rd' : Rp X.K al M H (.lst xs) (.ref b) := ⟨b, ys, rfl, q1, q2, q3⟩
      have e1 := rv.length
      have e2 := q3.length
      have e3 := cp.len
      have e4 := sl.len
      have e7 : its.toArray.toList.length = its.length := by simp
      have e5 : sizeLine = 16777216 := rfl
      by_cases hl : is.length = xs.length
      · obtain ⟨r, hr'⟩ := bindM_len (rho := rho) hl
        rw [hr'] at t
        refine wpAny_matchCases_cons (matchSeq_list_hit (isl_of ht) (by simp; omega) (by simp; omega) ?_ cp.star cp.wild)
        have e6 : ps.length = its.toArray.size := by simp; omega
        rw [e6]
        refine PySem.W.kun_itemsOf (I.ok.hd hc) (show Heap.IsList _ _ _ from isl_of ht) fun h' hx => ?_
        refine each_capts cp (by rw [e7]; omega) ?_
        have I1 : L2.Inv X pins σ H { s with heap := h', toks := s.toks + 1 + 1 } := I.kept fun b o e => hx b o (Nat.ne_of_lt (Heap.lt_size e)) e
        refine bind_caps hN sl I1 a.sl q3 (show Vals ys its.toArray.toList by simpa using rv) hr' fun s2 σ2 I2 r2 => ?_
        have a2 : At X.K Tb EV al σ2 H r M E := ⟨a.wf, r2, a.ex⟩
        refine thn (hg.run pins s2 σ2 H (fun k H1 => ∃ al1 M1, Stp al M H al1 M1 H1 ∧ At X.K Tb EV al1 σ2 H1 r M1 E ∧ (if k = true then tb E DD r M1 else tr (.lst xs) E DD r M1)) I2 ?_) fun k s3 ⟨H1, I3, al1, M1, st, a3, q5⟩ => ?_
        · exact seqT a2 t fun al1 k M1 H1 s1 a1 q => ⟨al1, M1, s1, a1, q⟩
        · cases k with
          | true => exact hb.run pins s3 σ2 H1 DV I3 ⟨al1, r, M1, E, DD, a3, q5, q.mono st⟩
          | false => exact hr.run false pins s3 σ2 H1 _ al1 r M1 E DD (.lst xs) (.ref b) DV I3 a3 (rd'.mono st) rfl q5 (q.mono st)
      · rw [bindM_none hl] at t
        refine wpAny_matchCases_cons (matchSeq_list_miss (isl_of ht) (by simp; omega) (by simp; omega) ?_ cp.star cp.wild)
        exact hr.run false pins _ σ H _ al rho M E DD (.lst xs) (.ref b) DV (I.kept fun _ _ e => e) a rd' rfl t q
    · exact t.elim⟩
theorem dp_match {e : Expr} {cs : List MatchCase} {te : TED} {t : D → TSD} (he : PD X Tb EV e te) (hm : PDM X Tb EV cs t) : PDS X Tb EV (.Match e cs pos) (fun E DD rho M => te E rho M fun d M1 => t d E DD rho M1) :=
  ⟨fun pins s σ H DV I h => by
    obtain ⟨al, rho, M, E, DD, a, t', p⟩ := h
    refine wpAny_Match (thn (he.run pins s σ H (fun v H1 => ∃ al1 M1 d, At X.K Tb EV al1 σ H1 rho M1 E ∧ Rp X.K al1 M1 H1 d v ∧ t d E DD rho M1 ∧ PostE X.K Tb al1 M1 H1 DD DV) I ?_) fun u s1 ⟨v, H1, I1, r1, al1, M1, d, a1, rd, t1, p1⟩ => ?_)
    · exact seq1 a t' fun al1 x M1 vx H1 s1 a1 rx q => ⟨al1, M1, x, a1, rx, q, p.mono s1⟩
    · exact hm.run true pins s1 σ H1 u al1 rho M1 E DD d v DV I1 a1 rd r1 t1 p1⟩
end
end DL

/-! Texts at data level: partition, split, text * int; texts of whole numbers and fractions. -/
namespace DL
open PySem PySem.Spec PySem.Calls PyProof.Rows L2
open SX (S S_tl S_len)

@[reducible] def rPart_ : RDM := fun x ds M Q => match x, ds with
  | .str a, [.str b] => (b.length == 0) = false ∧ a.length ≤ sizeLine ∧ Q (.tup [.str (Txt.partition a b).1, .str (Txt.partition a b).2.1, .str (Txt.partition a b).2.2]) M
  | _, _ => False
@[reducible] def rSplit_ : RDM := fun x ds M Q => match x, ds with
  | .str a, [.str b] => (b.length == 0) = false ∧ a.length + 2 ≤ sizeLine ∧ Q (.lst ((Txt.split a b).map D.str)) M
  | _, _ => False
@[reducible] def rRepS_ : RD2 := fun x y M Q => match x, y with
  | .str a, .int k => (1 ≤ k ∧ k < 1000000 ∧ a.length = 1) ∧ Q (.str (Txt.mul a k)) M
  | _, _ => False
section
variable {X : Cx} {Tb : List (Addr × Str)} {EV : XK}
theorem rps_strs {K : PySem.W.Frag} {al : Al} {M : Mem} {H : Hp} : ∀ l : List Str, Rps K al M H (l.map D.str) (l.map V.str)
  | [] => rfl
  | x :: l => ⟨_, _, rfl, rfl, rps_strs l⟩
theorem ref_part : RefM X.K Tb (fun x xs H Q => ∃ a b, x = .str a ∧ xs = [.str b] ∧ (b.length == 0) = false ∧ a.length ≤ sizeLine ∧
    ∀ p, H p = none → Q (.ref p) (upd H p (.tup [.str (Txt.partition a b).1, .str (Txt.partition a b).2.1, .str (Txt.partition a b).2.2]))) rPart_ := by
  intro al M H x xs d ds Q QV w rx rs h p
  unfold rPart_ at h
  split at h
  · rename_i a b
    obtain ⟨v, rfl, rv⟩ := rs.one
    cases rx
    cases rv
    exact ⟨a, b, rfl, rfl, h.1, h.2.1, fun q hq => p _ _ _ _ _ (stp_new w hq _) (wf_new w hq _) (rp_tup w hq (rps_strs [_, _, _])) h.2.2⟩
  · exact h.elim
theorem ref_split : RefM X.K Tb (fun x xs H Q => ∃ a b, x = .str a ∧ xs = [.str b] ∧ (b.length == 0) = false ∧ a.length + 2 ≤ sizeLine ∧ rNewStrs (Txt.split a b) H Q) rSplit_ := by
  intro al M H x xs d ds Q QV w rx rs h p
  unfold rSplit_ at h
  split at h
  · rename_i a b
    obtain ⟨v, rfl, rv⟩ := rs.one
    cases rx
    cases rv
    exact ⟨a, b, rfl, rfl, h.1, h.2.1, fun q hq => p _ _ _ _ _ (stp_new w hq _) (wf_new w hq _) (rp_lst w hq (rps_strs _)) h.2.2⟩
  · exact h.elim
theorem mulOk_one {a : Str} {k : Int} (h1 : 1 ≤ k) (h2 : k < 1000000) (ha : a.length = 1) : MulOk a k := by
  have z : sizeLine = 16777216 := rfl
  refine ⟨?_, fun _ _ => ?_, fun _ _ => ?_⟩
  · rw [decide_eq_false (by omega), decide_eq_false (by omega)]; rfl
  · rw [ha]
    have h : (1 : Int) ≤ (2 ^ 63 - 1) / k := Int.le_ediv_of_mul_le (by omega) (by omega)
    intro z
    have : ((1 : Nat) : Int) > (2 ^ 63 - 1) / k := z
    omega
  · rw [ha, Nat.one_mul]
    exact decide_eq_false (by show ¬ k.toNat > sizeLine; omega)
theorem op_repS : OpR X (binaryOp .Mult) (fun x y H Q => ∃ a k, x = .str a ∧ y = .int k ∧ MulOk a k ∧ Q (.str (Txt.mul a k)) H) := by
  intro pins s σ H x y v u Q I rx ry h
  obtain ⟨a, k, rfl, rfl, hk, h⟩ := h
  obtain ⟨t, rfl⟩ := rx
  obtain ⟨t', rfl⟩ := ry
  exact SB.mul hk fun t2 k2 => ⟨.str _, H, I.tok _, ⟨_, rfl⟩, h⟩
theorem ref_repS : RefOp X.K Tb (fun x y H Q => ∃ a k, x = .str a ∧ y = .int k ∧ MulOk a k ∧ Q (.str (Txt.mul a k)) H) rRepS_ := by
  intro al M H x y dx dy Q QV w rx ry h p
  unfold rRepS_ at h
  split at h
  · rename_i a k
    cases rx
    cases ry
    exact ⟨a, k, rfl, rfl, mulOk_one h.1.1 h.1.2.1 h.1.2.2, p _ (.str (Txt.mul a k)) _ _ _ (Stp.refl ..) w rfl h.2⟩
  · exact h.elim
theorem dv_repS {a b : Expr} {ta tb : TED} {pos : Pos} (ha : PD X Tb EV a ta) (hb : PD X Tb EV b tb) : PD X Tb EV (.BinOp a .Mult b pos) (dOp rRepS_ ta tb) := dv_op op_repS ref_repS ha hb
end

/-! ### texts of whole numbers -/
abbrev cl (z : Str) : List Nat := z.cps.toList
def dg9 : Str := "0123456789"
theorem dig_iff (c : Nat) : c ∈ cl dg9 ↔ 48 ≤ c ∧ c ≤ 57 := by
  have e : cl dg9 = [48, 49, 50, 51, 52, 53, 54, 55, 56, 57] := by decide +kernel
  rw [e]
  simp only [List.mem_cons, List.not_mem_nil, or_false]
  omega
def figs (l : List Nat) : List Nat := if l.take 1 = [45] then l.drop 1 else l
def figB (l : List Nat) : Bool := if decide (1 ≤ ((figs l).length : Int)) = true then (if decide (((figs l).length : Int) ≤ 12) = true then ((figs l).map fun c => decide (c ∈ cl dg9)).all _root_.id else false) else false
def fgN (z : Str) : Option Int := if figB (cl z) = true then (if itx ((intText? z).getD 0) = z then some ((intText? z).getD 0) else none) else none
theorem figB_iff {l : List Nat} : figB l = true ↔ 1 ≤ (figs l).length ∧ (figs l).length ≤ 12 ∧ NumText.AllDigits (figs l) := by
  unfold figB
  by_cases h1 : 1 ≤ ((figs l).length : Int)
  · by_cases h2 : ((figs l).length : Int) ≤ 12
    · rw [if_pos (decide_eq_true h1), if_pos (decide_eq_true h2), List.all_eq_true]
      refine ⟨fun h => ⟨by omega, by omega, fun c hc => (dig_iff c).mp (of_decide_eq_true (h _ (List.mem_map.mpr ⟨c, hc, rfl⟩)))⟩, fun h x hx => ?_⟩
      obtain ⟨c, hc, rfl⟩ := List.mem_map.mp hx
      exact decide_eq_true ((dig_iff c).mpr (h.2.2 c hc))
    · rw [if_pos (decide_eq_true h1), if_neg (by simp; omega)]
      exact ⟨fun h => (Bool.false_ne_true h).elim, fun h => absurd h.2.1 (by omega)⟩
  · rw [if_neg (by simp; omega)]
    exact ⟨fun h => (Bool.false_ne_true h).elim, fun h => absurd h.1 (by omega)⟩
theorem digitsVal_lt : ∀ (cs : List Nat) (acc : Nat), NumText.AllDigits cs → cs.foldl (fun acc c => acc * 10 + (c - 48)) acc + 1 ≤ (acc + 1) * 10 ^ cs.length
  | [], acc, _ => by simp
  | c :: cs, acc, h => by
    have h1 := h c (List.mem_cons_self ..)
    have h2 := digitsVal_lt cs (acc * 10 + (c - 48)) fun d hd => h d (List.mem_cons_of_mem _ hd)
    rw [List.foldl_cons, List.length_cons, Nat.pow_succ]
    refine Nat.le_trans h2 ?_
    rw [Nat.mul_comm (10 ^ cs.length) 10, ← Nat.mul_assoc]
    exact Nat.mul_le_mul_right _ (by omega)
theorem fig_num {z : Str} (h : figB (cl z) = true) : ∃ n, intText? z = some n ∧ n.natAbs < 10 ^ 12 ∧ z.length ≤ 13 ∧ ∀ c ∈ cl z, c = 45 ∨ (48 ≤ c ∧ c ≤ 57) := by
  obtain ⟨h1, h2, h3⟩ := figB_iff.mp h
  have hz : z.length = (cl z).length := Array.length_toList.symm
  have hp : 10 ^ (figs (cl z)).length ≤ 10 ^ 12 := Nat.pow_le_pow_right (by decide) h2
  have hv := digitsVal_lt (figs (cl z)) 0 h3
  unfold figs at h1 h2 h3 hp hv
  split at h1
  · rename_i hm
    rw [if_pos hm] at h2 h3 hp hv
    have e : cl z = 45 :: (cl z).drop 1 := by
      cases hl : cl z with
      | nil => rw [hl] at hm; simp at hm
      | cons c cs => rw [hl] at hm; simp at hm; rw [hm]; rfl
    have hlen : (cl z).length = ((cl z).drop 1).length + 1 := by conv => lhs; rw [e, List.length_cons]
    refine ⟨_, intText_neg e h3 (fun z => by rw [z] at h1; simp at h1) (by omega), ?_, by omega, ?_⟩
    · unfold NumText.digitsVal; omega
    · intro c hc
      rw [e] at hc
      rcases List.mem_cons.mp hc with z | hc
      · exact .inl z
      · exact .inr (h3 c hc)
  · rename_i hm
    rw [if_neg hm] at h2 h3 hp hv
    refine ⟨_, intText_digits h3 (fun e => by rw [show cl z = [] from e] at h1; simp at h1) (by omega), ?_, by omega, fun c hc => .inr (h3 c hc)⟩
    have hv' : NumText.digitsVal (cl z) + 1 ≤ _ := hv
    show ((NumText.digitsVal (cl z) : Nat) : Int).natAbs < _
    omega
theorem fgN_some {z : Str} {n : Int} (h : fgN z = some n) : n.natAbs < 10 ^ 12 ∧ itx n = z ∧ 47 ∉ cl z ∧ z.length ≤ 13 := by
  unfold fgN at h
  split at h
  · rename_i hf
    obtain ⟨m, e1, e2, e3, e4⟩ := fig_num hf
    rw [e1] at h
    split at h
    · rename_i hi
      cases h
      refine ⟨e2, hi, fun hm => ?_, e3⟩
      have := e4 47 hm
      omega
    · cases h
  · cases h
/-! ### texts of fractions -/
theorem split_first {c : Nat} : ∀ {l : List Nat}, c ∈ l → ∃ a b, l = a ++ c :: b ∧ c ∉ a
  | x :: l, h => by
    by_cases e : x = c
    · subst e; exact ⟨[], l, rfl, by simp⟩
    · rcases List.mem_cons.mp h with z | h
      · exact absurd z.symm e
      · obtain ⟨a, b, rfl, ha⟩ := split_first h
        exact ⟨x :: a, b, rfl, by simp [ha]; exact fun z => e z.symm⟩
theorem cut_case (l : List Nat) : (47 ∉ l ∧ TL.par [47] [] l = none ∧ TL.spl [47] 0 [] l = [l]) ∨ ∃ a b, l = a ++ 47 :: b ∧ 47 ∉ a ∧ TL.par [47] [] l = some (a, b) ∧ TL.spl [47] 0 [] l = a :: TL.spl [47] 0 [] b := by
  by_cases h : 47 ∈ l
  · right
    obtain ⟨a, b, rfl, hn⟩ := split_first h
    exact ⟨a, b, rfl, hn, SX.par_head (c := 47) (sep := []) b hn, TL.spl_part1 (s := 47) (S := []) (acc := []) hn⟩
  · left
    exact ⟨h, SX.par_head_none h, TL.spl_last1 h⟩
theorem e_itx {z : Str} {n : Int} {M : Mem} {Q : VD} (h : intText? z = some n) (hl : z.length ≤ 640) (q : Q (.int n) M) : rInt_ [.str z] M Q := by
  show (match intText? z with
    | some n => z.length ≤ 640 ∧ Q (.int n) M
    | none => False)
  rw [h]; exact ⟨hl, q⟩
theorem e_inn {xs : List D} {vs : List V} {M : Mem} {Q : VD} (h : vsOf xs = some vs) (q : Q (.bl (L2.inV .non vs)) M) : rIn_ .non (.lst xs) M Q := by
  show rInX false .non (.lst xs) M Q
  unfold rInX
  simp only [seqD, asL, vOf, h]
  exact q
theorem den_gcd {n d : Int} (h : 1 < d) : ((Rat.divInt n d).den : Int) = d ↔ Int.gcd n d = 1 := by
  rw [Rat.den_divInt, if_neg (by omega)]
  have hg : 0 < d.gcd n := Int.gcd_pos_of_ne_zero_left _ (by omega)
  have hd : d.gcd n ∣ d.natAbs := by simpa using Int.gcd_dvd_natAbs_left d n
  rw [Int.gcd_comm n d]
  constructor
  · intro e
    have e2 : d.natAbs / d.gcd n = d.natAbs := by omega
    have := Nat.div_mul_cancel hd
    rw [e2] at this
    have h3 : d.natAbs * d.gcd n = d.natAbs * 1 := by omega
    exact Nat.eq_of_mul_eq_mul_left (by omega) h3
  · intro e
    rw [e, Nat.div_one]; omega
theorem bz_12 {n : Int} (h : n.natAbs < 10 ^ 12) : Mt.bz n ≤ 64 := bi_lt (i := n) (k := 64) (by omega) (by omega)
theorem spl_ne (l : List Nat) : TL.spl [47] 0 [] l ≠ [] := by
  rcases cut_case l with ⟨_, _, h⟩ | ⟨a, b, _, _, _, h⟩ <;> rw [h] <;> simp
theorem spl_sub : ∀ (n : Nat) (l : List Nat), l.length ≤ n → ∀ p ∈ TL.spl [47] 0 [] l, p.length ≤ l.length := by
  intro n
  induction n with
  | zero =>
    intro l hl p hp
    cases l with
    | nil => rw [TL.spl_nil] at hp; rw [List.mem_singleton.mp hp]; exact Nat.le_refl _
    | cons _ _ => simp at hl
  | succ n ih =>
    intro l hl p hp
    rcases cut_case l with ⟨_, _, h⟩ | ⟨a, b, e, _, _, h⟩
    · rw [h] at hp; rw [List.mem_singleton.mp hp]; exact Nat.le_refl _
    · rw [h] at hp
      have e2 : l.length = a.length + (b.length + 1) := by rw [e, List.length_append, List.length_cons]
      rcases List.mem_cons.mp hp with rfl | hp
      · omega
      · have := ih b (by omega) p hp; omega
theorem spl_three (l : List Nat) : (47 ∉ l ∧ TL.par [47] [] l = none ∧ TL.spl [47] 0 [] l = [l]) ∨ (∃ a b, TL.par [47] [] l = some (a, b) ∧ TL.spl [47] 0 [] l = [a, b]) ∨ ∃ a b, TL.par [47] [] l = some (a, b) ∧ 2 < (TL.spl [47] 0 [] l).length ∧ 47 ∈ b := by
  rcases cut_case l with h | ⟨a, b, e, ha, hp, hs⟩
  · exact .inl h
  · rcases cut_case b with ⟨hb, _, h⟩ | ⟨c, d, e2, _, _, h⟩
    · exact .inr (.inl ⟨a, b, hp, by rw [hs, h]⟩)
    · refine .inr (.inr ⟨a, b, hp, ?_, by rw [e2]; simp⟩)
      rw [hs, h]
      have : 0 < (TL.spl [47] 0 [] d).length := List.length_pos_iff.mpr (spl_ne d)
      simp only [List.length_cons]
      omega
def pfN (z : Str) : Option (Int × Int) := match TL.par [47] [] (cl z) with
  | none => (fgN z).map (·, 1)
  | some (a, b) => (match fgN (S a), fgN (S b) with
    | some n, some d => if 1 < d ∧ Int.gcd n d = 1 then some (n, d) else none
    | _, _ => none)
@[reducible] def oiD : Option Int → D
  | some n => .int n
  | none => .non
def pfD : Option (Int × Int) → D
  | some p => .tup [.int p.1, .int p.2]
  | none => .non
def isfr (a b : Int) : Bool := decide (a.natAbs < 10 ^ 12) && decide (0 < b) && decide (b < 10 ^ 12) && decide (Int.gcd a b = 1)

/-! ### the texts of numbers read back -/
theorem itx_nat (n : Nat) : itx (n : Int) = SX.S (TL.numL n) := SX.num_S n
theorem tostr_neg (n : Nat) (h : 0 < n) : toString (-(n : Int)) = "-" ++ toString (n : Int) := by
  cases n with
  | zero => omega
  | succ n => rfl
theorem itx_neg (n : Nat) (h : 0 < n) : itx (-(n : Int)) = SX.S (45 :: TL.numL n) := by
  refine TL.ext_tl ?_
  show cl (Str.ofString (toString (-(n : Int)))) = 45 :: TL.numL n
  rw [show cl (Str.ofString (toString (-(n : Int)))) = (toString (-(n : Int))).toList.map Char.toNat from TL.tl_ofString _, tostr_neg n h, String.toList_append, List.map_append]
  have e := TL.tl_num n
  rw [show TL.tl (Str.ofString (toString ((n : Nat) : Int))) = (toString ((n : Nat) : Int)).toList.map Char.toNat from TL.tl_ofString _] at e
  rw [e]
  rfl
theorem numL_45 (n : Nat) : (TL.numL n).take 1 ≠ [45] := by
  cases h : TL.numL n with
  | nil => exact absurd h (TL.numL_ne n)
  | cons c r =>
    have := TL.numL_digits n c (by rw [h]; exact List.mem_cons_self ..)
    intro e
    have : c = 45 := by simpa using e
    omega
theorem fg_itx {n : Int} (h : n.natAbs < 10 ^ 12) : fgN (itx n) = some n := by
  have hl : (TL.numL n.natAbs).length ≤ 12 := TL.numL_len (by decide) h
  have h0 : 1 ≤ (TL.numL n.natAbs).length := List.length_pos_iff.mpr (TL.numL_ne _)
  have hd := TL.numL_digits n.natAbs
  rcases Int.lt_or_le n 0 with hn | hn
  · have e : n = -((n.natAbs : Nat) : Int) := by omega
    have hx : itx n = SX.S (45 :: TL.numL n.natAbs) := (congrArg itx e).trans (itx_neg _ (by omega))
    have hf : figs (cl (itx n)) = TL.numL n.natAbs := by rw [hx]; rfl
    have hi : intText? (itx n) = some n := by
      rw [hx, intText_neg (x := SX.S (45 :: TL.numL n.natAbs)) rfl hd (TL.numL_ne _) (by rw [SX.S_len, List.length_cons]; omega), TL.numL_val]
      exact congrArg some e.symm
    unfold fgN
    rw [if_pos (figB_iff.mpr ⟨by rw [hf]; exact h0, by rw [hf]; exact hl, by rw [hf]; exact hd⟩), hi]
    exact if_pos rfl
  · have e : n = ((n.natAbs : Nat) : Int) := by omega
    have hx : itx n = SX.S (TL.numL n.natAbs) := (congrArg itx e).trans (itx_nat _)
    have hf : figs (cl (itx n)) = TL.numL n.natAbs := by rw [hx]; exact if_neg (numL_45 _)
    have hi : intText? (itx n) = some n := by
      rw [hx, intText_digits (x := SX.S (TL.numL n.natAbs)) hd (TL.numL_ne _) (by rw [SX.S_len]; omega), show (SX.S (TL.numL n.natAbs)).cps.toList = TL.numL n.natAbs from rfl, TL.numL_val]
      exact congrArg some e.symm
    unfold fgN
    rw [if_pos (figB_iff.mpr ⟨by rw [hf]; exact h0, by rw [hf]; exact hl, by rw [hf]; exact hd⟩), hi]
    exact if_pos rfl
theorem pf_qtx {q : Rat} (h1 : q.num.natAbs < 10 ^ 12) (h2 : q.den < 10 ^ 12) : pfN (qtx q) = some (q.num, (q.den : Int)) := by
  have f1 := fg_itx h1
  have f2 := fg_itx (n := (q.den : Int)) (by omega)
  have n1 := (fgN_some f1).2.2.1
  have n2 := (fgN_some f2).2.2.1
  unfold qtx
  by_cases hd : q.den = 1
  · rw [if_pos hd]
    unfold pfN
    rw [SX.par_head_none n1, hd]
    show (fgN (itx q.num)).map (·, 1) = _
    rw [f1]; rfl
  · rw [if_neg hd]
    have e : cl (itx q.num ++ (Str.ofString "/" ++ itx (q.den : Int))) = cl (itx q.num) ++ (47 :: [] ++ cl (itx (q.den : Int))) := by
      rw [show cl (itx q.num ++ (Str.ofString "/" ++ itx (q.den : Int))) = _ from TL.tl_append _ _, TL.tl_append]
      rfl
    unfold pfN
    rw [e, SX.par_head (sep := []) _ n1]
    show (match fgN (SX.S (cl (itx q.num))), fgN (SX.S (cl (itx (q.den : Int)))) with
      | some n, some d => if 1 < d ∧ Int.gcd n d = 1 then some (n, d) else none
      | _, _ => none) = _
    rw [SX.S_tl, SX.S_tl, f1, f2]
    refine if_pos ⟨?_, ?_⟩
    · have := q.den_pos; omega
    · have := q.reduced
      exact this
theorem fg_long {z : Str} (h : 13 < z.length) : fgN z = none := by
  cases e : fgN z with
  | none => rfl
  | some n => exact absurd (fgN_some e).2.2.2 (by omega)
theorem pf_long {z : Str} (h : 47 ∉ cl z) (hl : 13 < z.length) : pfN z = none := by
  unfold pfN
  rw [SX.par_head_none h, fg_long hl]; rfl
theorem pf_long2 {z : Str} {a b : List Nat} (e : cl z = a ++ 47 :: b) (ha : 47 ∉ a) (hl : 13 < a.length ∨ 13 < b.length) : pfN z = none := by
  unfold pfN
  rw [e, show a ++ 47 :: b = a ++ (47 :: [] ++ b) from rfl, SX.par_head (sep := []) _ ha]
  rcases hl with h | h
  · have := fg_long (z := SX.S a) (by rw [SX.S_len]; exact h)
    simp only [this]
  · have := fg_long (z := SX.S b) (by rw [SX.S_len]; exact h)
    cases hh : fgN (SX.S a) <;> simp only [hh, this]
theorem reps_one (c : Nat) : ∀ (n : Nat) (acc : Array Nat), ((List.replicate n (#[c] : Array Nat)).foldl (· ++ ·) acc).toList = acc.toList ++ List.replicate n c
  | 0, acc => by simp
  | n + 1, acc => by
    rw [List.replicate_succ, List.foldl_cons, reps_one c n, List.replicate_succ, Array.toList_append]
    simp
theorem mul_one {c : Nat} {k : Int} (h : 1 < k) : cl (Txt.mul ⟨#[c]⟩ k) = List.replicate k.toNat c := by
  unfold Txt.mul
  rw [if_neg (by omega), if_neg (by
    have : (k == 1) = false := by simpa using (by omega : k ≠ 1)
    rw [this]
    exact Bool.false_ne_true)]
  have := reps_one c k.toNat #[]
  simpa using this
end DL

namespace LW
open PySem PySem.Spec PyProof.Rows L2 DL Mt
def top (i : Nat) : Stmt := PySem.Challenge.pw_roundmaps_k04_texts_of_fractions.main.body.getD i (.Pass ⟨0, 0, 0, 0⟩)

local macro_rules | `(tactic| walk_at "dlall") => `(tactic| ((try (with_reducible conv => whnf)); repeat' ((first | ((with_reducible apply e_var); · exact rfl) | ((with_reducible apply e_sz); · exact rfl) | with_reducible refine e_seq ?_ | ((with_reducible apply e_arg); (· exact rfl); (· exact rfl)) | ((with_reducible apply e_ix); (· first | exact seq_at (by assumption) | exact rfl); (· exact rfl)) | ((with_reducible apply e_fldC); · exact rfl) | ((with_reducible apply e_fldo); · exact rfl) | ((with_reducible apply e_isiK); · exact rfl) | ((with_reducible apply e_ixpt); · exact rfl) | ((with_reducible apply e_ixar); · exact rfl) | with_reducible refine e_cls ?_ | ((with_reducible apply e_isi); · exact rfl) | with_reducible refine e_add ?_ | with_reducible refine e_sub ?_ | ((with_reducible apply e_subc); (· assumption); (· exact rfl)) | with_reducible refine e_ift ?_ | with_reducible refine e_iff ?_ | ((with_reducible apply e_ht); · exact rfl) | with_reducible refine e_htq ?_ | with_reducible refine e_htpt ?_ | with_reducible refine e_eqi ?_ | ((with_reducible apply e_len); · first | exact seq_at (by assumption) | exact rfl) | with_reducible refine e_eqs ?_ | with_reducible refine e_eqq ?_ | with_reducible refine e_neq ?_ | ((with_reducible apply e_int); · first | with_reducible assumption | with_reducible exact nz (by decide) | with_reducible exact mok_r (by decide) (by decide) | with_reducible exact mok_l (by decide) (by decide) | with_reducible exact cdx_d (by decide) | with_reducible exact cpow (by decide) (by decide) (by omega) (by omega)) | with_reducible refine e_nei ?_ | with_reducible refine e_isc ?_ | ((with_reducible apply e_cono); · exact rfl) | with_reducible refine e_fmt ?_ | with_reducible refine e_isB ?_ | with_reducible refine e_isnotB ?_ | with_reducible refine e_inO ?_ | with_reducible refine e_blq ?_ | ((with_reducible apply e_conC); · exact rfl) | with_reducible refine e_htar ?_ | with_reducible refine e_abs ?_ | with_reducible refine e_tpl ?_ | with_reducible refine e_tpt ?_ | with_reducible refine e_lsl ?_ | with_reducible refine e_lst' ?_ | with_reducible refine e_slnil ?_ | with_reducible refine e_fzl ?_ | with_reducible refine e_isrf ?_ | ((with_reducible apply e_eqO); · exact rfl) | ((with_reducible apply e_neO); · exact rfl) | ((with_reducible apply e_eqOo); · first | exact rfl | (rw [kind_obj]; rfl)) | ((with_reducible apply e_neOo); · first | exact rfl | (rw [kind_obj]; rfl)) | with_reducible refine e_join0 ?_ | with_reducible refine e_js0 ?_ | with_reducible refine e_js1 ?_ | with_reducible refine e_nes ?_ | with_reducible refine e_tyS ?_ | with_reducible refine e_sls (by assumption) ?_ | with_reducible refine e_chain ?_ | with_reducible refine e_dchain ?_ | with_reducible refine e_in ?_ | with_reducible refine e_zip2 ?_ | with_reducible refine e_zip3 ?_ | with_reducible refine e_lenS (by assumption) ?_ | ((with_reducible apply e_lenOn); · exact rfl) | with_reducible refine e_dn ?_ | with_reducible refine e_int1 ?_ | with_reducible refine e_int2 ?_ | with_reducible refine e_ib ?_ | with_reducible refine e_ii ?_ | with_reducible refine e_is ?_ | with_reducible refine e_isn ?_ | with_reducible refine e_eqb ?_ | with_reducible refine e_neb ?_ | with_reducible refine e_rg1 ?_ | with_reducible refine isi_l (by assumption) ?_ | with_reducible refine isi_t (by assumption) ?_ | with_reducible refine isi_lt (by assumption) ?_ | with_reducible refine isi_b (by assumption) ?_ | with_reducible refine isi_i (by assumption) ?_ | with_reducible refine isi_s (by assumption) ?_ | refine ifd (fun _ => ?_) (fun _ => ?_) | refine ifn (fun _ => ?_) (fun _ => ?_) | refine ifb (fun _ => ?_) (fun _ => ?_)) <;> (try (with_reducible conv => whnf)))))
local macro_rules | `(tactic| walk_at "dlstep") => `(tactic| ((first | ((with_reducible apply e_var); · exact rfl) | ((with_reducible apply e_sz); · exact rfl) | with_reducible refine e_seq ?_ | ((with_reducible apply e_arg); (· exact rfl); (· exact rfl)) | ((with_reducible apply e_ix); (· first | exact seq_at (by assumption) | exact rfl); (· exact rfl)) | ((with_reducible apply e_fldC); · exact rfl) | ((with_reducible apply e_fldo); · exact rfl) | ((with_reducible apply e_isiK); · exact rfl) | ((with_reducible apply e_ixpt); · exact rfl) | ((with_reducible apply e_ixar); · exact rfl) | with_reducible refine e_cls ?_ | ((with_reducible apply e_isi); · exact rfl) | with_reducible refine e_add ?_ | with_reducible refine e_sub ?_ | ((with_reducible apply e_subc); (· assumption); (· exact rfl)) | with_reducible refine e_ift ?_ | with_reducible refine e_iff ?_ | ((with_reducible apply e_ht); · exact rfl) | with_reducible refine e_htq ?_ | with_reducible refine e_htpt ?_ | with_reducible refine e_eqi ?_ | ((with_reducible apply e_len); · first | exact seq_at (by assumption) | exact rfl) | with_reducible refine e_eqs ?_ | with_reducible refine e_eqq ?_ | with_reducible refine e_neq ?_ | ((with_reducible apply e_int); · first | with_reducible assumption | with_reducible exact nz (by decide) | with_reducible exact mok_r (by decide) (by decide) | with_reducible exact mok_l (by decide) (by decide) | with_reducible exact cdx_d (by decide) | with_reducible exact cpow (by decide) (by decide) (by omega) (by omega)) | with_reducible refine e_nei ?_ | with_reducible refine e_isc ?_ | ((with_reducible apply e_cono); · exact rfl) | with_reducible refine e_fmt ?_ | with_reducible refine e_isB ?_ | with_reducible refine e_isnotB ?_ | with_reducible refine e_inO ?_ | with_reducible refine e_blq ?_ | ((with_reducible apply e_conC); · exact rfl) | with_reducible refine e_htar ?_ | with_reducible refine e_abs ?_ | with_reducible refine e_tpl ?_ | with_reducible refine e_tpt ?_ | with_reducible refine e_lsl ?_ | with_reducible refine e_lst' ?_ | with_reducible refine e_slnil ?_ | with_reducible refine e_fzl ?_ | with_reducible refine e_isrf ?_ | ((with_reducible apply e_eqO); · exact rfl) | ((with_reducible apply e_neO); · exact rfl) | ((with_reducible apply e_eqOo); · first | exact rfl | (rw [kind_obj]; rfl)) | ((with_reducible apply e_neOo); · first | exact rfl | (rw [kind_obj]; rfl)) | with_reducible refine e_join0 ?_ | with_reducible refine e_js0 ?_ | with_reducible refine e_js1 ?_ | with_reducible refine e_nes ?_ | with_reducible refine e_tyS ?_ | with_reducible refine e_sls (by assumption) ?_ | with_reducible refine e_chain ?_ | with_reducible refine e_dchain ?_ | with_reducible refine e_in ?_ | with_reducible refine e_zip2 ?_ | with_reducible refine e_zip3 ?_ | with_reducible refine e_lenS (by assumption) ?_ | ((with_reducible apply e_lenOn); · exact rfl) | with_reducible refine e_dn ?_ | with_reducible refine e_int1 ?_ | with_reducible refine e_int2 ?_ | with_reducible refine e_ib ?_ | with_reducible refine e_ii ?_ | with_reducible refine e_is ?_ | with_reducible refine e_isn ?_ | with_reducible refine e_eqb ?_ | with_reducible refine e_neb ?_ | with_reducible refine e_rg1 ?_ | with_reducible refine isi_l (by assumption) ?_ | with_reducible refine isi_t (by assumption) ?_ | with_reducible refine isi_lt (by assumption) ?_ | with_reducible refine isi_b (by assumption) ?_ | with_reducible refine isi_i (by assumption) ?_ | with_reducible refine isi_s (by assumption) ?_); (try (with_reducible conv => whnf))))
local macro_rules | `(tactic| walk_at "dlrun") => `(tactic| ((try (with_reducible conv => whnf)); repeat ((first | ((with_reducible apply e_var); · exact rfl) | ((with_reducible apply e_sz); · exact rfl) | with_reducible refine e_seq ?_ | ((with_reducible apply e_arg); (· exact rfl); (· exact rfl)) | ((with_reducible apply e_ix); (· first | exact seq_at (by assumption) | exact rfl); (· exact rfl)) | ((with_reducible apply e_fldC); · exact rfl) | ((with_reducible apply e_fldo); · exact rfl) | ((with_reducible apply e_isiK); · exact rfl) | ((with_reducible apply e_ixpt); · exact rfl) | ((with_reducible apply e_ixar); · exact rfl) | with_reducible refine e_cls ?_ | ((with_reducible apply e_isi); · exact rfl) | with_reducible refine e_add ?_ | with_reducible refine e_sub ?_ | ((with_reducible apply e_subc); (· assumption); (· exact rfl)) | with_reducible refine e_ift ?_ | with_reducible refine e_iff ?_ | ((with_reducible apply e_ht); · exact rfl) | with_reducible refine e_htq ?_ | with_reducible refine e_htpt ?_ | with_reducible refine e_eqi ?_ | ((with_reducible apply e_len); · first | exact seq_at (by assumption) | exact rfl) | with_reducible refine e_eqs ?_ | with_reducible refine e_eqq ?_ | with_reducible refine e_neq ?_ | ((with_reducible apply e_int); · first | with_reducible assumption | with_reducible exact nz (by decide) | with_reducible exact mok_r (by decide) (by decide) | with_reducible exact mok_l (by decide) (by decide) | with_reducible exact cdx_d (by decide) | with_reducible exact cpow (by decide) (by decide) (by omega) (by omega)) | with_reducible refine e_nei ?_ | with_reducible refine e_isc ?_ | ((with_reducible apply e_cono); · exact rfl) | with_reducible refine e_fmt ?_ | with_reducible refine e_isB ?_ | with_reducible refine e_isnotB ?_ | with_reducible refine e_inO ?_ | with_reducible refine e_blq ?_ | ((with_reducible apply e_conC); · exact rfl) | with_reducible refine e_htar ?_ | with_reducible refine e_abs ?_ | with_reducible refine e_tpl ?_ | with_reducible refine e_tpt ?_ | with_reducible refine e_lsl ?_ | with_reducible refine e_lst' ?_ | with_reducible refine e_slnil ?_ | with_reducible refine e_fzl ?_ | with_reducible refine e_isrf ?_ | ((with_reducible apply e_eqO); · exact rfl) | ((with_reducible apply e_neO); · exact rfl) | ((with_reducible apply e_eqOo); · first | exact rfl | (rw [kind_obj]; rfl)) | ((with_reducible apply e_neOo); · first | exact rfl | (rw [kind_obj]; rfl)) | with_reducible refine e_join0 ?_ | with_reducible refine e_js0 ?_ | with_reducible refine e_js1 ?_ | with_reducible refine e_nes ?_ | with_reducible refine e_tyS ?_ | with_reducible refine e_sls (by assumption) ?_ | with_reducible refine e_chain ?_ | with_reducible refine e_dchain ?_ | with_reducible refine e_in ?_ | with_reducible refine e_zip2 ?_ | with_reducible refine e_zip3 ?_ | with_reducible refine e_lenS (by assumption) ?_ | ((with_reducible apply e_lenOn); · exact rfl) | with_reducible refine e_dn ?_ | with_reducible refine e_int1 ?_ | with_reducible refine e_int2 ?_ | with_reducible refine e_ib ?_ | with_reducible refine e_ii ?_ | with_reducible refine e_is ?_ | with_reducible refine e_isn ?_ | with_reducible refine e_eqb ?_ | with_reducible refine e_neb ?_ | with_reducible refine e_rg1 ?_ | with_reducible refine isi_l (by assumption) ?_ | with_reducible refine isi_t (by assumption) ?_ | with_reducible refine isi_lt (by assumption) ?_ | with_reducible refine isi_b (by assumption) ?_ | with_reducible refine isi_i (by assumption) ?_ | with_reducible refine isi_s (by assumption) ?_); (try (with_reducible conv => whnf)))))
local macro_rules | `(tactic| walk_at "dlrun1") => `(tactic| ((try (with_reducible conv => whnf)); repeat ((first | ((with_reducible apply e_var); · exact rfl) | ((with_reducible apply e_sz); · exact rfl) | ((with_reducible apply e_arg); (· exact rfl); (· exact rfl)) | ((with_reducible apply e_ix); (· first | exact seq_at (by assumption) | exact rfl); (· exact rfl)) | ((with_reducible apply e_fldC); · exact rfl) | ((with_reducible apply e_fldo); · exact rfl) | ((with_reducible apply e_isiK); · exact rfl) | ((with_reducible apply e_ixpt); · exact rfl) | ((with_reducible apply e_ixar); · exact rfl) | with_reducible refine e_cls ?_ | ((with_reducible apply e_isi); · exact rfl) | with_reducible refine e_add ?_ | with_reducible refine e_sub ?_ | ((with_reducible apply e_subc); (· assumption); (· exact rfl)) | with_reducible refine e_ift ?_ | with_reducible refine e_iff ?_ | ((with_reducible apply e_ht); · exact rfl) | with_reducible refine e_htq ?_ | with_reducible refine e_htpt ?_ | with_reducible refine e_eqi ?_ | ((with_reducible apply e_len); · first | exact seq_at (by assumption) | exact rfl) | with_reducible refine e_eqs ?_ | with_reducible refine e_eqq ?_ | with_reducible refine e_neq ?_ | ((with_reducible apply e_int); · first | with_reducible assumption | with_reducible exact nz (by decide) | with_reducible exact mok_r (by decide) (by decide) | with_reducible exact mok_l (by decide) (by decide) | with_reducible exact cdx_d (by decide) | with_reducible exact cpow (by decide) (by decide) (by omega) (by omega)) | with_reducible refine e_nei ?_ | with_reducible refine e_isc ?_ | ((with_reducible apply e_cono); · exact rfl) | with_reducible refine e_fmt ?_ | with_reducible refine e_isB ?_ | with_reducible refine e_isnotB ?_ | with_reducible refine e_inO ?_ | with_reducible refine e_blq ?_ | ((with_reducible apply e_conC); · exact rfl) | with_reducible refine e_htar ?_ | with_reducible refine e_abs ?_ | with_reducible refine e_tpl ?_ | with_reducible refine e_tpt ?_ | with_reducible refine e_lsl ?_ | with_reducible refine e_lst' ?_ | with_reducible refine e_slnil ?_ | with_reducible refine e_fzl ?_ | with_reducible refine e_isrf ?_ | ((with_reducible apply e_eqO); · exact rfl) | ((with_reducible apply e_neO); · exact rfl) | ((with_reducible apply e_eqOo); · first | exact rfl | (rw [kind_obj]; rfl)) | ((with_reducible apply e_neOo); · first | exact rfl | (rw [kind_obj]; rfl)) | with_reducible refine e_join0 ?_ | with_reducible refine e_js0 ?_ | with_reducible refine e_js1 ?_ | with_reducible refine e_nes ?_ | with_reducible refine e_tyS ?_ | with_reducible refine e_sls (by assumption) ?_ | with_reducible refine e_chain ?_ | with_reducible refine e_dchain ?_ | with_reducible refine e_in ?_ | with_reducible refine e_zip2 ?_ | with_reducible refine e_zip3 ?_ | with_reducible refine e_lenS (by assumption) ?_ | ((with_reducible apply e_lenOn); · exact rfl) | with_reducible refine e_dn ?_ | with_reducible refine e_int1 ?_ | with_reducible refine e_int2 ?_ | with_reducible refine e_ib ?_ | with_reducible refine e_ii ?_ | with_reducible refine e_is ?_ | with_reducible refine e_isn ?_ | with_reducible refine e_eqb ?_ | with_reducible refine e_neb ?_ | with_reducible refine e_rg1 ?_ | with_reducible refine isi_l (by assumption) ?_ | with_reducible refine isi_t (by assumption) ?_ | with_reducible refine isi_lt (by assumption) ?_ | with_reducible refine isi_b (by assumption) ?_ | with_reducible refine isi_i (by assumption) ?_ | with_reducible refine isi_s (by assumption) ?_); (try (with_reducible conv => whnf)))))

section
variable {P : Program} {w : World} {K : PySem.W.Frag} {mg : Str → Option Value} {base : Heap} {Tb : List (Addr × Str)}

abbrev CC_MAX_FIGURES (K : PySem.W.Frag) (mg : Str → Option Value) : Prop := CcD K mg "MAX_FIGURES" (.int 12)
abbrev CC_MAX_NUMBER (K : PySem.W.Frag) (mg : Str → Option Value) : Prop := CcD K mg "MAX_NUMBER" (.int 1000000000000)
/-! ### InvalidText -/
abbrev s_InvalidTextu_initu : Stmt := inClass (top 2) 0
theorem sc_InvalidTextu_initu : FnScope ["self"] ["self"] (defScope s_InvalidTextu_initu) := ⟨rfl, rfl, rfl, by decide +kernel, rfl, by decide +kernel, by decide +kernel⟩
abbrev F_InvalidTextu_initu (K : PySem.W.Frag) (f : Addr) (fd : FuncData) : Prop := FunD K "__init__" "InvalidText.__init__" (defArgs s_InvalidTextu_initu) (defBody s_InvalidTextu_initu) (defScope s_InvalidTextu_initu) [] [] f fd
theorem bd_InvalidTextu_initu {K : PySem.W.Frag} {f : Addr} {fd : FuncData} (F : F_InvalidTextu_initu K f fd) : Binds K fd ["self"] [] := F.bindsN fun _ _ _ _ _ _ us hl => match us, hl with | [_], _ => rfl
abbrev XC_InvalidText (P : Program) (w : World) (K : PySem.W.Frag) (mg : Str → Option Value) (base : Heap) := XCal P w K mg base "InvalidText" [("code", .k "InvalidText")] 0 1
theorem ok_InvalidTextu_initu {C fI : Addr} {fdI : FuncData} (F : F_InvalidTextu_initu K fI fdI) (T : OexC K C) (h_code : PySem.W.findIn K (.ref C) "code" = some none) : FnOk P w K mg base (L2.CX P w) 1 fI fdI ["self"] (spX C [("code", .k "InvalidText")] 0) := by
  refine F.ok sc_InvalidTextu_initu (fun vs H Q E h => ?_) (fun cdv A outer s H vs Q E hr h => ⟨_, (pss_one (ps_ost (pv 0) pe_str)), ?_⟩)
  · obtain ⟨a, ws, rfl, hl, _⟩ := h
    show ws.length + 1 = _
    rw [hl]; rfl
  · obtain ⟨a, ws, rfl, hl, h0, hQ⟩ := h
    match ws, hl with
    | [], _ => exact init_first T h_code h0 ev_c (ev_var rfl) fun dx h1 h2 => hQ dx h1 h2
abbrev s__law_told : Stmt := top 20
theorem sc__law_told : FnScope ["_law_ask", "_law_e"] ["_law_ask"] (defScope s__law_told) := ⟨rfl, rfl, rfl, by decide +kernel, rfl, by decide +kernel, by decide +kernel⟩
abbrev F__law_told (K : PySem.W.Frag) (f : Addr) (fd : FuncData) : Prop := FunD K "_law_told" "_law_told" (defArgs s__law_told) (defBody s__law_told) (defScope s__law_told) [] [] f fd
theorem bd__law_told {K : PySem.W.Frag} {f : Addr} {fd : FuncData} (F : F__law_told K f fd) : Binds K fd ["_law_ask"] [] := F.bindsN fun _ _ _ _ _ _ us hl => match us, hl with | [_], _ => rfl
/-! ### _law_fields -/
abbrev s__law_fields : Stmt := top 19
theorem sc__law_fields : FnScope ["_law_e"] ["_law_e"] (defScope s__law_fields) := ⟨rfl, rfl, rfl, by decide +kernel, rfl, by decide +kernel, by decide +kernel⟩
abbrev F__law_fields (K : PySem.W.Frag) (f : Addr) (fd : FuncData) : Prop := FunD K "_law_fields" "_law_fields" (defArgs s__law_fields) (defBody s__law_fields) (defScope s__law_fields) [] [] f fd
theorem bd__law_fields {K : PySem.W.Frag} {f : Addr} {fd : FuncData} (F : F__law_fields K f fd) : Binds K fd ["_law_e"] [] := F.bindsN fun _ _ _ _ _ _ us hl => match us, hl with | [_], _ => rfl
abbrev sp__law_fields (K : PySem.W.Frag) : DSp := fieldsSp K

/-! ### _law_begin -/
abbrev s__law_begin : Stmt := top 15
theorem sc__law_begin : FnScope ["_law_script", "_law_salt", "_law_cell"] ["_law_script"] (defScope s__law_begin) := ⟨rfl, rfl, rfl, by decide +kernel, rfl, by decide +kernel, by decide +kernel⟩
abbrev F__law_begin (K : PySem.W.Frag) (f : Addr) (fd : FuncData) : Prop := FunD K "_law_begin" "_law_begin" (defArgs s__law_begin) (defBody s__law_begin) (defScope s__law_begin) [] [] f fd
theorem bd__law_begin {K : PySem.W.Frag} {f : Addr} {fd : FuncData} (F : F__law_begin K f fd) : Binds K fd ["_law_script"] [] := F.bindsN fun _ _ _ _ _ _ us hl => match us, hl with | [_], _ => rfl
def sp__law_begin : DSp := fun ds M Q E => ∃ ns : List Int, ds = [.rol (ns.map D.int)] ∧ ∀ r : Rng, r.Ok → Q (.mt M.length) (M ++ [some r.mo])

abbrev Cal__law_begin (P : Program) (w : World) (K : PySem.W.Frag) (mg : Str → Option Value) (base : Heap) (Tb : List (Addr × Str)) := Cal P w K mg base Tb "_law_begin" "_law_begin" s__law_begin [] [] 1 ["_law_script"] sp__law_begin
/-! ### _law_draw -/
abbrev s__law_draw : Stmt := top 16
theorem sc__law_draw : FnScope ["_law_rng", "_law_many", "_law_cell", "_law_got", "_law_seed"] ["_law_rng", "_law_many"] (defScope s__law_draw) := ⟨rfl, rfl, rfl, by decide +kernel, rfl, by decide +kernel, by decide +kernel⟩
abbrev F__law_draw (K : PySem.W.Frag) (f : Addr) (fd : FuncData) : Prop := FunD K "_law_draw" "_law_draw" (defArgs s__law_draw) (defBody s__law_draw) (defScope s__law_draw) [] [] f fd
theorem bd__law_draw {K : PySem.W.Frag} {f : Addr} {fd : FuncData} (F : F__law_draw K f fd) : Binds K fd ["_law_rng", "_law_many"] [] := F.bindsN fun _ _ _ _ _ _ us hl => match us, hl with | [_, _], _ => rfl
abbrev sp__law_draw : DSp := drawSp

abbrev Cal__law_draw (P : Program) (w : World) (K : PySem.W.Frag) (mg : Str → Option Value) (base : Heap) (Tb : List (Addr × Str)) := Cal P w K mg base Tb "_law_draw" "_law_draw" s__law_draw [] [] 1 ["_law_rng", "_law_many"] sp__law_draw
/-! ### _law_pick -/
abbrev s__law_pick : Stmt := top 17
theorem sc__law_pick : FnScope ["_law_rng", "_law_some"] ["_law_rng", "_law_some"] (defScope s__law_pick) := ⟨rfl, rfl, rfl, by decide +kernel, rfl, by decide +kernel, by decide +kernel⟩
abbrev F__law_pick (K : PySem.W.Frag) (f : Addr) (fd : FuncData) : Prop := FunD K "_law_pick" "_law_pick" (defArgs s__law_pick) (defBody s__law_pick) (defScope s__law_pick) [] [] f fd
theorem bd__law_pick {K : PySem.W.Frag} {f : Addr} {fd : FuncData} (F : F__law_pick K f fd) : Binds K fd ["_law_rng", "_law_some"] [] := F.bindsN fun _ _ _ _ _ _ us hl => match us, hl with | [_, _], _ => rfl
abbrev sp__law_pick : DSp := pickSp

abbrev Cal__law_pick (P : Program) (w : World) (K : PySem.W.Frag) (mg : Str → Option Value) (base : Heap) (Tb : List (Addr × Str)) := Cal P w K mg base Tb "_law_pick" "_law_pick" s__law_pick [] [] 2 ["_law_rng", "_law_some"] sp__law_pick
/-! ### _law_lowest -/
abbrev s__law_lowest : Stmt := top 21
theorem sc__law_lowest : FnScope ["_law_top", "_law_bottom", "_law_one", "_law_other"] ["_law_top", "_law_bottom"] (defScope s__law_lowest) := ⟨rfl, rfl, rfl, by decide +kernel, rfl, by decide +kernel, by decide +kernel⟩
abbrev F__law_lowest (K : PySem.W.Frag) (f : Addr) (fd : FuncData) : Prop := FunD K "_law_lowest" "_law_lowest" (defArgs s__law_lowest) (defBody s__law_lowest) (defScope s__law_lowest) [] [] f fd
theorem bd__law_lowest {K : PySem.W.Frag} {f : Addr} {fd : FuncData} (F : F__law_lowest K f fd) : Binds K fd ["_law_top", "_law_bottom"] [] := F.bindsN fun _ _ _ _ _ _ us hl => match us, hl with | [_, _], _ => rfl
def sp__law_lowest : DSp := fun ds M Q E => ∃ (a b : Int), ds = [.int a, .int b] ∧ b ≠ 0 ∧ bz b ≤ 8000 ∧ Q (qD (Rat.divInt a b)) M

abbrev Cal__law_lowest (P : Program) (w : World) (K : PySem.W.Frag) (mg : Str → Option Value) (base : Heap) (Tb : List (Addr × Str)) := Cal P w K mg base Tb "_law_lowest" "_law_lowest" s__law_lowest [] [] 1 ["_law_top", "_law_bottom"] sp__law_lowest
/-! ### _law_amount -/
abbrev s__law_amount : Stmt := top 22
theorem sc__law_amount : FnScope ["_law_rng", "_law_size", "_law_bottom"] ["_law_rng"] (defScope s__law_amount) := ⟨rfl, rfl, rfl, by decide +kernel, rfl, by decide +kernel, by decide +kernel⟩
abbrev F__law_amount (K : PySem.W.Frag) (f : Addr) (fd : FuncData) : Prop := FunD K "_law_amount" "_law_amount" (defArgs s__law_amount) (defBody s__law_amount) (defScope s__law_amount) [] [] f fd
theorem bd__law_amount {K : PySem.W.Frag} {f : Addr} {fd : FuncData} (F : F__law_amount K f fd) : Binds K fd ["_law_rng"] [] := F.bindsN fun _ _ _ _ _ _ us hl => match us, hl with | [_], _ => rfl
def sp__law_amount : DSp := fun ds M Q E => ∃ (i : Nat), ds = [.mt i] ∧ RgAt M i ∧ ∀ (q : Rat) (M' : Mem), RgTo M i M' → qs q ≤ 64 → q.num.natAbs < 10 ^ 12 → q.den < 10 ^ 12 → Q (qD q) M'
theorem divInt_le (a b : Int) (hb : b ≠ 0) : (Rat.divInt a b).num.natAbs ≤ a.natAbs ∧ (Rat.divInt a b).den ≤ b.natAbs := by
  refine ⟨?_, ?_⟩
  · rw [Rat.num_divInt]
    have h1 : (b.sign * a).natAbs = a.natAbs := by
      rw [Int.natAbs_mul]
      rcases Int.lt_or_gt_of_ne hb with h | h
      · rw [Int.sign_eq_neg_one_of_neg h]; simp
      · rw [Int.sign_eq_one_of_pos h]; simp
    rw [← h1, Int.natAbs_ediv_of_dvd (Int.dvd_mul_of_dvd_right (Int.gcd_dvd_right ..))]
    exact Nat.div_le_self ..
  · rw [Rat.den_divInt, if_neg hb]
    exact Nat.div_le_self ..

abbrev Cal__law_amount (P : Program) (w : World) (K : PySem.W.Frag) (mg : Str → Option Value) (base : Heap) (Tb : List (Addr × Str)) := Cal P w K mg base Tb "_law_amount" "_law_amount" s__law_amount [] [] 3 ["_law_rng"] sp__law_amount
/-! ### _law_same -/
abbrev s__law_same : Stmt := top 18
theorem sc__law_same : FnScope ["_law_found", "_law_due", "_law_k"] ["_law_found", "_law_due"] (defScope s__law_same) := ⟨rfl, rfl, rfl, by decide +kernel, rfl, by decide +kernel, by decide +kernel⟩
abbrev F__law_same (K : PySem.W.Frag) (f : Addr) (fd : FuncData) : Prop := FunD K "_law_same" "_law_same" (defArgs s__law_same) (defBody s__law_same) (defScope s__law_same) [] [] f fd
theorem bd__law_same {K : PySem.W.Frag} {f : Addr} {fd : FuncData} (F : F__law_same K f fd) : Binds K fd ["_law_found", "_law_due"] [] := F.bindsN fun _ _ _ _ _ _ us hl => match us, hl with | [_, _], _ => rfl
abbrev sp__law_same : DSp := sm_sp 10

abbrev Cal__law_same (P : Program) (w : World) (K : PySem.W.Frag) (mg : Str → Option Value) (base : Heap) (Tb : List (Addr × Str)) := Cal P w K mg base Tb "_law_same" "_law_same" s__law_same [] [] 10 ["_law_found", "_law_due"] sp__law_same
/-! ### parse_integer -/
abbrev s_parse_integer : Stmt := top 12
theorem sc_parse_integer : FnScope ["text", "figures", "sign"] ["text"] (defScope s_parse_integer) := ⟨rfl, rfl, rfl, by decide +kernel, rfl, by decide +kernel, by decide +kernel⟩
abbrev F_parse_integer (K : PySem.W.Frag) (f : Addr) (fd : FuncData) : Prop := FunD K "parse_integer" "parse_integer" (defArgs s_parse_integer) (defBody s_parse_integer) (defScope s_parse_integer) [] [] f fd
theorem bd_parse_integer {K : PySem.W.Frag} {f : Addr} {fd : FuncData} (F : F_parse_integer K f fd) : Binds K fd ["text"] [] := F.bindsN fun _ _ _ _ _ _ us hl => match us, hl with | [_], _ => rfl
def sp_parse_integer : DSp := fun ds M Q E => ∃ z : Str, ds = [.str z] ∧ z.length ≤ 9000 ∧ Q (oiD (fgN z)) M

abbrev Cal_parse_integer (P : Program) (w : World) (K : PySem.W.Frag) (mg : Str → Option Value) (base : Heap) (Tb : List (Addr × Str)) := Cal P w K mg base Tb "parse_integer" "parse_integer" s_parse_integer [] [] 1 ["text"] sp_parse_integer
/-! ### fraction_text -/
abbrev s_fraction_text : Stmt := top 11
theorem sc_fraction_text : FnScope ["value"] ["value"] (defScope s_fraction_text) := ⟨rfl, rfl, rfl, by decide +kernel, rfl, by decide +kernel, by decide +kernel⟩
abbrev F_fraction_text (K : PySem.W.Frag) (f : Addr) (fd : FuncData) : Prop := FunD K "fraction_text" "fraction_text" (defArgs s_fraction_text) (defBody s_fraction_text) (defScope s_fraction_text) [] [] f fd
theorem bd_fraction_text {K : PySem.W.Frag} {f : Addr} {fd : FuncData} (F : F_fraction_text K f fd) : Binds K fd ["value"] [] := F.bindsN fun _ _ _ _ _ _ us hl => match us, hl with | [_], _ => rfl
def sp_fraction_text : DSp := fun ds M Q E => ∃ a b : Int, ds = [.tup [.int a, .int b]] ∧ bz a ≤ 1900 ∧ bz b ≤ 1900 ∧ Q (.str (if b = 1 then itx a else itx a ++ (Str.ofString "/" ++ itx b))) M

abbrev Cal_fraction_text (P : Program) (w : World) (K : PySem.W.Frag) (mg : Str → Option Value) (base : Heap) (Tb : List (Addr × Str)) := Cal P w K mg base Tb "fraction_text" "fraction_text" s_fraction_text [] [] 1 ["value"] sp_fraction_text
/-! ### is_integer -/
abbrev s_is_integer : Stmt := top 10
theorem sc_is_integer : FnScope ["thing"] ["thing"] (defScope s_is_integer) := ⟨rfl, rfl, rfl, by decide +kernel, rfl, by decide +kernel, by decide +kernel⟩
abbrev F_is_integer (K : PySem.W.Frag) (f : Addr) (fd : FuncData) : Prop := FunD K "is_integer" "is_integer" (defArgs s_is_integer) (defBody s_is_integer) (defScope s_is_integer) [] [] f fd
theorem bd_is_integer {K : PySem.W.Frag} {f : Addr} {fd : FuncData} (F : F_is_integer K f fd) : Binds K fd ["thing"] [] := F.bindsN fun _ _ _ _ _ _ us hl => match us, hl with | [_], _ => rfl
def sp_is_integer : DSp := fun ds M Q E => ∃ a : Int, ds = [.int a] ∧ Q (.bl true) M

abbrev Cal_is_integer (P : Program) (w : World) (K : PySem.W.Frag) (mg : Str → Option Value) (base : Heap) (Tb : List (Addr × Str)) := Cal P w K mg base Tb "is_integer" "is_integer" s_is_integer [] [] 1 ["thing"] sp_is_integer
/-! ### common_divisor -/
abbrev s_common_divisor : Stmt := top 8
theorem sc_common_divisor : FnScope ["one", "other"] ["one", "other"] (defScope s_common_divisor) := ⟨rfl, rfl, rfl, by decide +kernel, rfl, by decide +kernel, by decide +kernel⟩
abbrev F_common_divisor (K : PySem.W.Frag) (f : Addr) (fd : FuncData) : Prop := FunD K "common_divisor" "common_divisor" (defArgs s_common_divisor) (defBody s_common_divisor) (defScope s_common_divisor) [] [] f fd
theorem bd_common_divisor {K : PySem.W.Frag} {f : Addr} {fd : FuncData} (F : F_common_divisor K f fd) : Binds K fd ["one", "other"] [] := F.bindsN fun _ _ _ _ _ _ us hl => match us, hl with | [_, _], _ => rfl
def sp_common_divisor : DSp := fun ds M Q E => ∃ (a b : Int), ds = [.int a, .int b] ∧ Q (.int (Int.gcd a b)) M

abbrev Cal_common_divisor (P : Program) (w : World) (K : PySem.W.Frag) (mg : Str → Option Value) (base : Heap) (Tb : List (Addr × Str)) := Cal P w K mg base Tb "common_divisor" "common_divisor" s_common_divisor [] [] 1 ["one", "other"] sp_common_divisor
/-! ### is_fraction -/
abbrev s_is_fraction : Stmt := top 9
theorem sc_is_fraction : FnScope ["thing", "part"] ["thing"] (defScope s_is_fraction) := ⟨rfl, rfl, rfl, by decide +kernel, rfl, by decide +kernel, by decide +kernel⟩
abbrev F_is_fraction (K : PySem.W.Frag) (f : Addr) (fd : FuncData) : Prop := FunD K "is_fraction" "is_fraction" (defArgs s_is_fraction) (defBody s_is_fraction) (defScope s_is_fraction) [] [] f fd
theorem bd_is_fraction {K : PySem.W.Frag} {f : Addr} {fd : FuncData} (F : F_is_fraction K f fd) : Binds K fd ["thing"] [] := F.bindsN fun _ _ _ _ _ _ us hl => match us, hl with | [_], _ => rfl
def sp_is_fraction : DSp := fun ds M Q E => ∃ a b : Int, ds = [.tup [.int a, .int b]] ∧ Q (.bl (isfr a b)) M

abbrev Cal_is_fraction (P : Program) (w : World) (K : PySem.W.Frag) (mg : Str → Option Value) (base : Heap) (Tb : List (Addr × Str)) := Cal P w K mg base Tb "is_fraction" "is_fraction" s_is_fraction [] [] 2 ["thing"] sp_is_fraction
/-! ### parse_fraction -/
abbrev s_parse_fraction : Stmt := top 13
theorem sc_parse_fraction : FnScope ["text", "above", "mark", "below", "parts"] ["text"] (defScope s_parse_fraction) := ⟨rfl, rfl, rfl, by decide +kernel, rfl, by decide +kernel, by decide +kernel⟩
abbrev F_parse_fraction (K : PySem.W.Frag) (f : Addr) (fd : FuncData) : Prop := FunD K "parse_fraction" "parse_fraction" (defArgs s_parse_fraction) (defBody s_parse_fraction) (defScope s_parse_fraction) [] [] f fd
theorem bd_parse_fraction {K : PySem.W.Frag} {f : Addr} {fd : FuncData} (F : F_parse_fraction K f fd) : Binds K fd ["text"] [] := F.bindsN fun _ _ _ _ _ _ us hl => match us, hl with | [_], _ => rfl
def sp_parse_fraction (K : PySem.W.Frag) : DSp := fun ds M Q E => ∃ z : Str, ds = [.str z] ∧ z.length ≤ 9000 ∧ (match pfN z with
  | some p => Q (.tup [.int p.1, .int p.2]) M
  | none => E ⟨He.ga K "InvalidText", [("code", .str "InvalidText")]⟩ M)

abbrev Cal_parse_fraction (P : Program) (w : World) (K : PySem.W.Frag) (mg : Str → Option Value) (base : Heap) (Tb : List (Addr × Str)) := Cal P w K mg base Tb "parse_fraction" "parse_fraction" s_parse_fraction [] [] 3 ["text"] (sp_parse_fraction K)
theorem kb_parse_fraction_0_text {f : Addr} {fd : FuncData} (F : F_parse_fraction K f fd) : KBp K fd ["text"] 0 ["text"] [0] [] := kbp_plain F 0 ["text"] [0] fun _ _ _ _ _ _ us ws h1 h2 => match us, ws, h1, h2 with | [], [_], _, _ => rfl
/-! ### _law_figures -/
abbrev s__law_figures : Stmt := top 23
theorem sc__law_figures : FnScope ["_law_text_z", "_law_figures_here", "_law_sign"] ["_law_text_z"] (defScope s__law_figures) := ⟨rfl, rfl, rfl, by decide +kernel, rfl, by decide +kernel, by decide +kernel⟩
abbrev F__law_figures (K : PySem.W.Frag) (f : Addr) (fd : FuncData) : Prop := FunD K "_law_figures" "_law_figures" (defArgs s__law_figures) (defBody s__law_figures) (defScope s__law_figures) [] [] f fd
theorem bd__law_figures {K : PySem.W.Frag} {f : Addr} {fd : FuncData} (F : F__law_figures K f fd) : Binds K fd ["_law_text_z"] [] := F.bindsN fun _ _ _ _ _ _ us hl => match us, hl with | [_], _ => rfl
def sp__law_figures : DSp := fun ds M Q E => ∃ z : Str, ds = [.str z] ∧ z.length ≤ 9000 ∧ Q (oiD (fgN z)) M

abbrev Cal__law_figures (P : Program) (w : World) (K : PySem.W.Frag) (mg : Str → Option Value) (base : Heap) (Tb : List (Addr × Str)) := Cal P w K mg base Tb "_law_figures" "_law_figures" s__law_figures [] [] 1 ["_law_text_z"] sp__law_figures
/-! ### _law_read -/
abbrev s__law_read : Stmt := top 24
theorem sc__law_read : FnScope ["_law_text_z", "_law_parts", "_law_numbers", "_law_part"] ["_law_text_z"] (defScope s__law_read) := ⟨rfl, rfl, rfl, by decide +kernel, rfl, by decide +kernel, by decide +kernel⟩
abbrev F__law_read (K : PySem.W.Frag) (f : Addr) (fd : FuncData) : Prop := FunD K "_law_read" "_law_read" (defArgs s__law_read) (defBody s__law_read) (defScope s__law_read) [] [] f fd
theorem bd__law_read {K : PySem.W.Frag} {f : Addr} {fd : FuncData} (F : F__law_read K f fd) : Binds K fd ["_law_text_z"] [] := F.bindsN fun _ _ _ _ _ _ us hl => match us, hl with | [_], _ => rfl
def sp__law_read : DSp := fun ds M Q E => ∃ z : Str, ds = [.str z] ∧ z.length ≤ 9000 ∧ Q (pfD (pfN z)) M

abbrev Cal__law_read (P : Program) (w : World) (K : PySem.W.Frag) (mg : Str → Option Value) (base : Heap) (Tb : List (Addr × Str)) := Cal P w K mg base Tb "_law_read" "_law_read" s__law_read [] [] 2 ["_law_text_z"] sp__law_read
/-! ### law -/
abbrev s_law : Stmt := top 25
theorem sc_law : FnScope ["_law_script", "_law_rng", "_law_turn", "_law_value", "_law_text_z", "_law_change", "_law_at", "_law_sign", "_law_due", "_law_long"] ["_law_script"] (defScope s_law) := ⟨rfl, rfl, rfl, by decide +kernel, rfl, by decide +kernel, by decide +kernel⟩
abbrev F_law (K : PySem.W.Frag) (f : Addr) (fd : FuncData) : Prop := FunD K "law" "law" (defArgs s_law) (defBody s_law) (defScope s_law) [] [] f fd
theorem bd_law {K : PySem.W.Frag} {f : Addr} {fd : FuncData} (F : F_law K f fd) : Binds K fd ["_law_script"] [] := F.bindsN fun _ _ _ _ _ _ us hl => match us, hl with | [_], _ => rfl
abbrev sp_law : DSp := lawSp
def dueT (z : Str) : D := match pfN z with
  | some p => .tup [.str "told", .tup [.int p.1, .int p.2]]
  | none => .tup [.str "no", .str "InvalidText"]
theorem dueT_pu (z : Str) : pu (dueT z) = true := by unfold dueT; split <;> rfl
theorem dueT_dp (z : Str) : dp (dueT z) ≤ 4 := by unfold dueT; split <;> exact Nat.le_of_ble_eq_true rfl
theorem xf_it : xfields "InvalidText" = [] := by decide +kernel

abbrev Cal_law (P : Program) (w : World) (K : PySem.W.Frag) (mg : Str → Option Value) (base : Heap) (Tb : List (Addr × Str)) := Cal P w K mg base Tb "law" "law" s_law [] [] 11 ["_law_script"] sp_law
end
end LW

namespace LW
open PySem PySem.Spec PyProof.Rows L2 DL Mt
def dd__law_fields : He.DefE := ⟨fun K => He.fAd K ("_law_fields", none), "_law_fields", "_law_fields", defArgs s__law_fields, defBody s__law_fields, defScope s__law_fields, [], []⟩
def dd__law_begin : He.DefE := ⟨fun K => He.fAd K ("_law_begin", none), "_law_begin", "_law_begin", defArgs s__law_begin, defBody s__law_begin, defScope s__law_begin, [], []⟩
def dd__law_draw : He.DefE := ⟨fun K => He.fAd K ("_law_draw", none), "_law_draw", "_law_draw", defArgs s__law_draw, defBody s__law_draw, defScope s__law_draw, [], []⟩
def dd__law_pick : He.DefE := ⟨fun K => He.fAd K ("_law_pick", none), "_law_pick", "_law_pick", defArgs s__law_pick, defBody s__law_pick, defScope s__law_pick, [], []⟩
def dd__law_lowest : He.DefE := ⟨fun K => He.fAd K ("_law_lowest", none), "_law_lowest", "_law_lowest", defArgs s__law_lowest, defBody s__law_lowest, defScope s__law_lowest, [], []⟩
def dd__law_amount : He.DefE := ⟨fun K => He.fAd K ("_law_amount", none), "_law_amount", "_law_amount", defArgs s__law_amount, defBody s__law_amount, defScope s__law_amount, [], []⟩
def dd__law_same : He.DefE := ⟨fun K => He.fAd K ("_law_same", none), "_law_same", "_law_same", defArgs s__law_same, defBody s__law_same, defScope s__law_same, [], []⟩
def dd_parse_integer : He.DefE := ⟨fun K => He.fAd K ("parse_integer", none), "parse_integer", "parse_integer", defArgs s_parse_integer, defBody s_parse_integer, defScope s_parse_integer, [], []⟩
def dd_fraction_text : He.DefE := ⟨fun K => He.fAd K ("fraction_text", none), "fraction_text", "fraction_text", defArgs s_fraction_text, defBody s_fraction_text, defScope s_fraction_text, [], []⟩
def dd_is_integer : He.DefE := ⟨fun K => He.fAd K ("is_integer", none), "is_integer", "is_integer", defArgs s_is_integer, defBody s_is_integer, defScope s_is_integer, [], []⟩
def dd_common_divisor : He.DefE := ⟨fun K => He.fAd K ("common_divisor", none), "common_divisor", "common_divisor", defArgs s_common_divisor, defBody s_common_divisor, defScope s_common_divisor, [], []⟩
def dd_is_fraction : He.DefE := ⟨fun K => He.fAd K ("is_fraction", none), "is_fraction", "is_fraction", defArgs s_is_fraction, defBody s_is_fraction, defScope s_is_fraction, [], []⟩
def dd_parse_fraction : He.DefE := ⟨fun K => He.fAd K ("parse_fraction", none), "parse_fraction", "parse_fraction", defArgs s_parse_fraction, defBody s_parse_fraction, defScope s_parse_fraction, [], []⟩
def dd__law_figures : He.DefE := ⟨fun K => He.fAd K ("_law_figures", none), "_law_figures", "_law_figures", defArgs s__law_figures, defBody s__law_figures, defScope s__law_figures, [], []⟩
def dd__law_read : He.DefE := ⟨fun K => He.fAd K ("_law_read", none), "_law_read", "_law_read", defArgs s__law_read, defBody s__law_read, defScope s__law_read, [], []⟩
def dd_law : He.DefE := ⟨fun K => He.fAd K ("law", none), "law", "law", defArgs s_law, defBody s_law, defScope s_law, [], []⟩
def dd__law_told : He.DefE := ⟨fun K => He.fAd K ("_law_told", none), "_law_told", "_law_told", defArgs s__law_told, defBody s__law_told, defScope s__law_told, [], []⟩
def dd_InvalidTextu_initu : He.DefE := ⟨fun K => He.fAd K ("InvalidText", some "__init__"), "__init__", "InvalidText.__init__", defArgs s_InvalidTextu_initu, defBody s_InvalidTextu_initu, defScope s_InvalidTextu_initu, [], []⟩
def tfq : List (He.Defn × Str) := [(("law", none), (envOfC "law" (defScope s_law) 0 0 .none).qual ++ "<lambda>")]
def tf : List He.Defn := [("law", none)]
def csL (K : PySem.W.Frag) : List ((Addr × Addr) × Str) := tfq.map fun q => (He.cT K q.1, q.2)
def fn : List He.DefE := [dd__law_fields, dd__law_begin, dd__law_draw, dd__law_pick, dd__law_lowest, dd__law_amount, dd__law_same, dd_parse_integer, dd_fraction_text, dd_is_integer, dd_common_divisor, dd_is_fraction, dd_parse_fraction, dd__law_figures, dd__law_read, dd_law, dd__law_told, dd_InvalidTextu_initu]
def fa : List He.Fa := [.glo "_law_fields", .glo "_law_begin", .glo "_law_draw", .glo "_law_pick", .glo "_law_lowest", .glo "_law_amount", .glo "_law_same", .glo "parse_integer", .glo "fraction_text", .glo "is_integer", .glo "common_divisor", .glo "is_fraction", .glo "parse_fraction", .glo "_law_figures", .glo "_law_read", .glo "law", .glo "_law_told", .free "list", .free "len", .free "abs", .free "isinstance", .free "tuple", .free "all", .free "range", .free "int", .free "bool", .free "str", .int "MAX_FIGURES" 12, .int "MAX_NUMBER" 1000000000000, .glo "InvalidText", .glo "RoundError", .glo "Missing", .glo "NothingLeft"]
def exl (K : PySem.W.Frag) : List Bool := [xcB K "InvalidText" ["code"], xfaB K "InvalidText" []]
def exB (K : PySem.W.Frag) : Bool := (exl K).all _root_.id
abbrev R : PySem.W.OpenRow := PySem.W.OpenLaw.row PySem.Challenge.rw_roundmaps_k04_texts_of_fractions
abbrev hk : PySem.W.Hook := He.hookY 4 fa fn tf exB
def ob (s : PySem.W.SharedT) : He.AlYX := He.obsY 4 fa fn tf exB (HandSHeadRun.getT s)
theorem ob_eq (s : PySem.W.SharedT) : ob s = hk.obs s.abs := He.obsY_eq (HandSHeadRun.getT_eq s)
theorem run (w : World) : HandSHeadRun.RunEq R (PySem.W.view R.prog [25]) hk ob 8000 ["common_divisor", "is_fraction", "is_integer", "fraction_text", "parse_integer", "parse_fraction", "_law_begin", "_law_draw", "_law_pick", "_law_same", "_law_fields", "_law_told", "_law_lowest", "_law_amount", "_law_figures", "_law_read", "MAX_FIGURES", "MAX_NUMBER", "RoundError", "InvalidText", "Missing", "NothingLeft"] w := by
  intro os
  kernel_rfl
end LW
namespace LW
open PySem PySem.Spec PyProof.Rows L2 DL Mt
local macro_rules | `(tactic| walk_at "dlall") => `(tactic| ((try (with_reducible conv => whnf)); repeat' ((first | ((with_reducible apply e_var); · exact rfl) | ((with_reducible apply e_sz); · exact rfl) | with_reducible refine e_seq ?_ | ((with_reducible apply e_arg); (· exact rfl); (· exact rfl)) | ((with_reducible apply e_ix); (· first | exact seq_at (by assumption) | exact rfl); (· exact rfl)) | ((with_reducible apply e_fldC); · exact rfl) | ((with_reducible apply e_fldo); · exact rfl) | ((with_reducible apply e_isiK); · exact rfl) | ((with_reducible apply e_ixpt); · exact rfl) | ((with_reducible apply e_ixar); · exact rfl) | with_reducible refine e_cls ?_ | ((with_reducible apply e_isi); · exact rfl) | with_reducible refine e_add ?_ | with_reducible refine e_sub ?_ | ((with_reducible apply e_subc); (· assumption); (· exact rfl)) | with_reducible refine e_ift ?_ | with_reducible refine e_iff ?_ | ((with_reducible apply e_ht); · exact rfl) | with_reducible refine e_htq ?_ | with_reducible refine e_htpt ?_ | with_reducible refine e_eqi ?_ | ((with_reducible apply e_len); · first | exact seq_at (by assumption) | exact rfl) | with_reducible refine e_eqs ?_ | with_reducible refine e_eqq ?_ | with_reducible refine e_neq ?_ | ((with_reducible apply e_int); · first | with_reducible assumption | with_reducible exact nz (by decide) | with_reducible exact mok_r (by decide) (by decide) | with_reducible exact mok_l (by decide) (by decide) | with_reducible exact cdx_d (by decide) | with_reducible exact cpow (by decide) (by decide) (by omega) (by omega)) | with_reducible refine e_nei ?_ | with_reducible refine e_isc ?_ | ((with_reducible apply e_cono); · exact rfl) | with_reducible refine e_fmt ?_ | with_reducible refine e_isB ?_ | with_reducible refine e_isnotB ?_ | with_reducible refine e_inO ?_ | with_reducible refine e_blq ?_ | ((with_reducible apply e_conC); · exact rfl) | with_reducible refine e_htar ?_ | with_reducible refine e_abs ?_ | with_reducible refine e_tpl ?_ | with_reducible refine e_tpt ?_ | with_reducible refine e_lsl ?_ | with_reducible refine e_lst' ?_ | with_reducible refine e_slnil ?_ | with_reducible refine e_fzl ?_ | with_reducible refine e_isrf ?_ | ((with_reducible apply e_eqO); · exact rfl) | ((with_reducible apply e_neO); · exact rfl) | ((with_reducible apply e_eqOo); · first | exact rfl | (rw [kind_obj]; rfl)) | ((with_reducible apply e_neOo); · first | exact rfl | (rw [kind_obj]; rfl)) | with_reducible refine e_join0 ?_ | with_reducible refine e_js0 ?_ | with_reducible refine e_js1 ?_ | with_reducible refine e_nes ?_ | with_reducible refine e_tyS ?_ | with_reducible refine e_sls (by assumption) ?_ | with_reducible refine e_chain ?_ | with_reducible refine e_dchain ?_ | with_reducible refine e_in ?_ | with_reducible refine e_zip2 ?_ | with_reducible refine e_zip3 ?_ | with_reducible refine e_lenS (by assumption) ?_ | ((with_reducible apply e_lenOn); · exact rfl) | with_reducible refine e_dn ?_ | with_reducible refine e_int1 ?_ | with_reducible refine e_int2 ?_ | with_reducible refine e_ib ?_ | with_reducible refine e_ii ?_ | with_reducible refine e_is ?_ | with_reducible refine e_isn ?_ | with_reducible refine e_eqb ?_ | with_reducible refine e_neb ?_ | with_reducible refine e_rg1 ?_ | with_reducible refine isi_l (by assumption) ?_ | with_reducible refine isi_t (by assumption) ?_ | with_reducible refine isi_lt (by assumption) ?_ | with_reducible refine isi_b (by assumption) ?_ | with_reducible refine isi_i (by assumption) ?_ | with_reducible refine isi_s (by assumption) ?_ | refine ifd (fun _ => ?_) (fun _ => ?_) | refine ifn (fun _ => ?_) (fun _ => ?_) | refine ifb (fun _ => ?_) (fun _ => ?_)) <;> (try (with_reducible conv => whnf)))))
local macro_rules | `(tactic| walk_at "dlstep") => `(tactic| ((first | ((with_reducible apply e_var); · exact rfl) | ((with_reducible apply e_sz); · exact rfl) | with_reducible refine e_seq ?_ | ((with_reducible apply e_arg); (· exact rfl); (· exact rfl)) | ((with_reducible apply e_ix); (· first | exact seq_at (by assumption) | exact rfl); (· exact rfl)) | ((with_reducible apply e_fldC); · exact rfl) | ((with_reducible apply e_fldo); · exact rfl) | ((with_reducible apply e_isiK); · exact rfl) | ((with_reducible apply e_ixpt); · exact rfl) | ((with_reducible apply e_ixar); · exact rfl) | with_reducible refine e_cls ?_ | ((with_reducible apply e_isi); · exact rfl) | with_reducible refine e_add ?_ | with_reducible refine e_sub ?_ | ((with_reducible apply e_subc); (· assumption); (· exact rfl)) | with_reducible refine e_ift ?_ | with_reducible refine e_iff ?_ | ((with_reducible apply e_ht); · exact rfl) | with_reducible refine e_htq ?_ | with_reducible refine e_htpt ?_ | with_reducible refine e_eqi ?_ | ((with_reducible apply e_len); · first | exact seq_at (by assumption) | exact rfl) | with_reducible refine e_eqs ?_ | with_reducible refine e_eqq ?_ | with_reducible refine e_neq ?_ | ((with_reducible apply e_int); · first | with_reducible assumption | with_reducible exact nz (by decide) | with_reducible exact mok_r (by decide) (by decide) | with_reducible exact mok_l (by decide) (by decide) | with_reducible exact cdx_d (by decide) | with_reducible exact cpow (by decide) (by decide) (by omega) (by omega)) | with_reducible refine e_nei ?_ | with_reducible refine e_isc ?_ | ((with_reducible apply e_cono); · exact rfl) | with_reducible refine e_fmt ?_ | with_reducible refine e_isB ?_ | with_reducible refine e_isnotB ?_ | with_reducible refine e_inO ?_ | with_reducible refine e_blq ?_ | ((with_reducible apply e_conC); · exact rfl) | with_reducible refine e_htar ?_ | with_reducible refine e_abs ?_ | with_reducible refine e_tpl ?_ | with_reducible refine e_tpt ?_ | with_reducible refine e_lsl ?_ | with_reducible refine e_lst' ?_ | with_reducible refine e_slnil ?_ | with_reducible refine e_fzl ?_ | with_reducible refine e_isrf ?_ | ((with_reducible apply e_eqO); · exact rfl) | ((with_reducible apply e_neO); · exact rfl) | ((with_reducible apply e_eqOo); · first | exact rfl | (rw [kind_obj]; rfl)) | ((with_reducible apply e_neOo); · first | exact rfl | (rw [kind_obj]; rfl)) | with_reducible refine e_join0 ?_ | with_reducible refine e_js0 ?_ | with_reducible refine e_js1 ?_ | with_reducible refine e_nes ?_ | with_reducible refine e_tyS ?_ | with_reducible refine e_sls (by assumption) ?_ | with_reducible refine e_chain ?_ | with_reducible refine e_dchain ?_ | with_reducible refine e_in ?_ | with_reducible refine e_zip2 ?_ | with_reducible refine e_zip3 ?_ | with_reducible refine e_lenS (by assumption) ?_ | ((with_reducible apply e_lenOn); · exact rfl) | with_reducible refine e_dn ?_ | with_reducible refine e_int1 ?_ | with_reducible refine e_int2 ?_ | with_reducible refine e_ib ?_ | with_reducible refine e_ii ?_ | with_reducible refine e_is ?_ | with_reducible refine e_isn ?_ | with_reducible refine e_eqb ?_ | with_reducible refine e_neb ?_ | with_reducible refine e_rg1 ?_ | with_reducible refine isi_l (by assumption) ?_ | with_reducible refine isi_t (by assumption) ?_ | with_reducible refine isi_lt (by assumption) ?_ | with_reducible refine isi_b (by assumption) ?_ | with_reducible refine isi_i (by assumption) ?_ | with_reducible refine isi_s (by assumption) ?_); (try (with_reducible conv => whnf))))
local macro_rules | `(tactic| walk_at "dlrun") => `(tactic| ((try (with_reducible conv => whnf)); repeat ((first | ((with_reducible apply e_var); · exact rfl) | ((with_reducible apply e_sz); · exact rfl) | with_reducible refine e_seq ?_ | ((with_reducible apply e_arg); (· exact rfl); (· exact rfl)) | ((with_reducible apply e_ix); (· first | exact seq_at (by assumption) | exact rfl); (· exact rfl)) | ((with_reducible apply e_fldC); · exact rfl) | ((with_reducible apply e_fldo); · exact rfl) | ((with_reducible apply e_isiK); · exact rfl) | ((with_reducible apply e_ixpt); · exact rfl) | ((with_reducible apply e_ixar); · exact rfl) | with_reducible refine e_cls ?_ | ((with_reducible apply e_isi); · exact rfl) | with_reducible refine e_add ?_ | with_reducible refine e_sub ?_ | ((with_reducible apply e_subc); (· assumption); (· exact rfl)) | with_reducible refine e_ift ?_ | with_reducible refine e_iff ?_ | ((with_reducible apply e_ht); · exact rfl) | with_reducible refine e_htq ?_ | with_reducible refine e_htpt ?_ | with_reducible refine e_eqi ?_ | ((with_reducible apply e_len); · first | exact seq_at (by assumption) | exact rfl) | with_reducible refine e_eqs ?_ | with_reducible refine e_eqq ?_ | with_reducible refine e_neq ?_ | ((with_reducible apply e_int); · first | with_reducible assumption | with_reducible exact nz (by decide) | with_reducible exact mok_r (by decide) (by decide) | with_reducible exact mok_l (by decide) (by decide) | with_reducible exact cdx_d (by decide) | with_reducible exact cpow (by decide) (by decide) (by omega) (by omega)) | with_reducible refine e_nei ?_ | with_reducible refine e_isc ?_ | ((with_reducible apply e_cono); · exact rfl) | with_reducible refine e_fmt ?_ | with_reducible refine e_isB ?_ | with_reducible refine e_isnotB ?_ | with_reducible refine e_inO ?_ | with_reducible refine e_blq ?_ | ((with_reducible apply e_conC); · exact rfl) | with_reducible refine e_htar ?_ | with_reducible refine e_abs ?_ | with_reducible refine e_tpl ?_ | with_reducible refine e_tpt ?_ | with_reducible refine e_lsl ?_ | with_reducible refine e_lst' ?_ | with_reducible refine e_slnil ?_ | with_reducible refine e_fzl ?_ | with_reducible refine e_isrf ?_ | ((with_reducible apply e_eqO); · exact rfl) | ((with_reducible apply e_neO); · exact rfl) | ((with_reducible apply e_eqOo); · first | exact rfl | (rw [kind_obj]; rfl)) | ((with_reducible apply e_neOo); · first | exact rfl | (rw [kind_obj]; rfl)) | with_reducible refine e_join0 ?_ | with_reducible refine e_js0 ?_ | with_reducible refine e_js1 ?_ | with_reducible refine e_nes ?_ | with_reducible refine e_tyS ?_ | with_reducible refine e_sls (by assumption) ?_ | with_reducible refine e_chain ?_ | with_reducible refine e_dchain ?_ | with_reducible refine e_in ?_ | with_reducible refine e_zip2 ?_ | with_reducible refine e_zip3 ?_ | with_reducible refine e_lenS (by assumption) ?_ | ((with_reducible apply e_lenOn); · exact rfl) | with_reducible refine e_dn ?_ | with_reducible refine e_int1 ?_ | with_reducible refine e_int2 ?_ | with_reducible refine e_ib ?_ | with_reducible refine e_ii ?_ | with_reducible refine e_is ?_ | with_reducible refine e_isn ?_ | with_reducible refine e_eqb ?_ | with_reducible refine e_neb ?_ | with_reducible refine e_rg1 ?_ | with_reducible refine isi_l (by assumption) ?_ | with_reducible refine isi_t (by assumption) ?_ | with_reducible refine isi_lt (by assumption) ?_ | with_reducible refine isi_b (by assumption) ?_ | with_reducible refine isi_i (by assumption) ?_ | with_reducible refine isi_s (by assumption) ?_); (try (with_reducible conv => whnf)))))
local macro_rules | `(tactic| walk_at "dlrun1") => `(tactic| ((try (with_reducible conv => whnf)); repeat ((first | ((with_reducible apply e_var); · exact rfl) | ((with_reducible apply e_sz); · exact rfl) | ((with_reducible apply e_arg); (· exact rfl); (· exact rfl)) | ((with_reducible apply e_ix); (· first | exact seq_at (by assumption) | exact rfl); (· exact rfl)) | ((with_reducible apply e_fldC); · exact rfl) | ((with_reducible apply e_fldo); · exact rfl) | ((with_reducible apply e_isiK); · exact rfl) | ((with_reducible apply e_ixpt); · exact rfl) | ((with_reducible apply e_ixar); · exact rfl) | with_reducible refine e_cls ?_ | ((with_reducible apply e_isi); · exact rfl) | with_reducible refine e_add ?_ | with_reducible refine e_sub ?_ | ((with_reducible apply e_subc); (· assumption); (· exact rfl)) | with_reducible refine e_ift ?_ | with_reducible refine e_iff ?_ | ((with_reducible apply e_ht); · exact rfl) | with_reducible refine e_htq ?_ | with_reducible refine e_htpt ?_ | with_reducible refine e_eqi ?_ | ((with_reducible apply e_len); · first | exact seq_at (by assumption) | exact rfl) | with_reducible refine e_eqs ?_ | with_reducible refine e_eqq ?_ | with_reducible refine e_neq ?_ | ((with_reducible apply e_int); · first | with_reducible assumption | with_reducible exact nz (by decide) | with_reducible exact mok_r (by decide) (by decide) | with_reducible exact mok_l (by decide) (by decide) | with_reducible exact cdx_d (by decide) | with_reducible exact cpow (by decide) (by decide) (by omega) (by omega)) | with_reducible refine e_nei ?_ | with_reducible refine e_isc ?_ | ((with_reducible apply e_cono); · exact rfl) | with_reducible refine e_fmt ?_ | with_reducible refine e_isB ?_ | with_reducible refine e_isnotB ?_ | with_reducible refine e_inO ?_ | with_reducible refine e_blq ?_ | ((with_reducible apply e_conC); · exact rfl) | with_reducible refine e_htar ?_ | with_reducible refine e_abs ?_ | with_reducible refine e_tpl ?_ | with_reducible refine e_tpt ?_ | with_reducible refine e_lsl ?_ | with_reducible refine e_lst' ?_ | with_reducible refine e_slnil ?_ | with_reducible refine e_fzl ?_ | with_reducible refine e_isrf ?_ | ((with_reducible apply e_eqO); · exact rfl) | ((with_reducible apply e_neO); · exact rfl) | ((with_reducible apply e_eqOo); · first | exact rfl | (rw [kind_obj]; rfl)) | ((with_reducible apply e_neOo); · first | exact rfl | (rw [kind_obj]; rfl)) | with_reducible refine e_join0 ?_ | with_reducible refine e_js0 ?_ | with_reducible refine e_js1 ?_ | with_reducible refine e_nes ?_ | with_reducible refine e_tyS ?_ | with_reducible refine e_sls (by assumption) ?_ | with_reducible refine e_chain ?_ | with_reducible refine e_dchain ?_ | with_reducible refine e_in ?_ | with_reducible refine e_zip2 ?_ | with_reducible refine e_zip3 ?_ | with_reducible refine e_lenS (by assumption) ?_ | ((with_reducible apply e_lenOn); · exact rfl) | with_reducible refine e_dn ?_ | with_reducible refine e_int1 ?_ | with_reducible refine e_int2 ?_ | with_reducible refine e_ib ?_ | with_reducible refine e_ii ?_ | with_reducible refine e_is ?_ | with_reducible refine e_isn ?_ | with_reducible refine e_eqb ?_ | with_reducible refine e_neb ?_ | with_reducible refine e_rg1 ?_ | with_reducible refine isi_l (by assumption) ?_ | with_reducible refine isi_t (by assumption) ?_ | with_reducible refine isi_lt (by assumption) ?_ | with_reducible refine isi_b (by assumption) ?_ | with_reducible refine isi_i (by assumption) ?_ | with_reducible refine isi_s (by assumption) ?_); (try (with_reducible conv => whnf)))))
section
variable {P : Program} {w : World} {K : PySem.W.Frag} {mg : Str → Option Value} {base : Heap} {Tb : List (Addr × Str)}
theorem ok__law_fields {f : Addr} {fd : FuncData} (F : F__law_fields K f fd)  : FnDC P w K mg base Tb 1 f fd ["_law_e"] (sp__law_fields K) := by
  refine fnDC_of _ F sc__law_fields (by rintro ds M Q E ⟨C, ns, xs, z, ys, rfl, _⟩; rfl) (fun cdv A outer s H EV hr => (ds_cons (dp_if (dt_in (dv_xf K (dv_var 0)) (dv_tup (da_cons dv_str (da_cons dv_str (da_cons dv_str (da_cons dv_str da_nil)))))) (ds_one (dp_ret (dv_tup (da_cons (dv_xf K (dv_var 0)) da_nil)))) ds_nil)
 (ds_cons (dp_if (dt_in (dv_xf K (dv_var 0)) (dv_tup (da_cons dv_str (da_cons dv_str da_nil)))) (ds_one (dp_ret (dv_tup (da_cons (dv_xf K (dv_var 0)) da_nil)))) ds_nil)
 (ds_cons (dp_if (dt_eq (roomH_units hr) (dv_xf K (dv_var 0)) dv_str) (ds_one (dp_ret (dv_tup (da_cons (dv_xf K (dv_var 0)) (da_cons (dv_xf K (dv_var 0)) da_nil))))) ds_nil)
 (ds_cons (dp_if (dt_eq (roomH_units hr) (dv_xf K (dv_var 0)) dv_str) (ds_one (dp_ret (dv_tup (da_cons (dv_xf K (dv_var 0)) (da_cons (dv_xf K (dv_var 0)) da_nil))))) ds_nil)
 (ds_cons (dp_if (dt_eq (roomH_units hr) (dv_xf K (dv_var 0)) dv_str) (ds_one (dp_ret (dv_tup (da_cons (dv_xf K (dv_var 0)) da_nil)))) ds_nil)
 (ds_cons (dp_if (dt_eq (roomH_units hr) (dv_xf K (dv_var 0)) dv_str) (ds_one (dp_ret (dv_tup (da_cons (dv_xf K (dv_var 0)) da_nil)))) ds_nil)
 (ds_one (dp_ret (dv_if (dt_eq (roomH_units hr) (dv_xf K (dv_var 0)) dv_str) (dv_tup (da_cons (dv_xf K (dv_var 0)) da_nil)) (dv_tup da_nil))))))))))) ?_
  rintro ds M Q E hM hD ⟨C, ns, xs, z, ys, rfl, T, hn, hz, hy, hQ⟩
  have hc := hn "code" List.mem_cons_self
  have hys : D.hbs M.length ys = true → Cut M.length Q (.tup ys) M := fun h => Cut.same h hM hQ
  have hlk : ∀ (f : Str) (d : D), (ns.zip xs).lookup f = some d → d.hb M.length = true := fun f d e => zip_hb (by have h : (_ && _) = true := hD; simp only [Bool.and_eq_true] at h; exact h.1) e
  unfold xfields at hy hn
  change dSeq _ _ _ _ [some (.exc C ns xs)] M
  walk_at "dlrun"
  with_reducible refine e_xf0 T hc hz ?_
  walk_at "dlrun"
  refine ifb (fun h => ?_) (fun h => ?_)
  · try simp only [Bool.false_eq_true, if_false] at h
    rw [if_pos h] at hy hn
    obtain ⟨y, e, rfl⟩ := map1 hy
    walk_at "dlrun"
    with_reducible refine e_xf0 T (hn _ (by simp)) e ?_
    walk_at "dlrun"
    exact hys (by show (_ && true) = true; rw [hlk _ _ e]; rfl)
  try simp only [Bool.false_eq_true, if_false] at h
  rw [if_neg (by rw [h]; decide)] at hy hn
  walk_at "dlrun"
  with_reducible refine e_xf0 T hc hz ?_
  walk_at "dlrun"
  refine ifb (fun h => ?_) (fun h => ?_)
  · try simp only [Bool.false_eq_true, if_false] at h
    rw [if_pos h] at hy hn
    obtain ⟨y, e, rfl⟩ := map1 hy
    walk_at "dlrun"
    with_reducible refine e_xf0 T (hn _ (by simp)) e ?_
    walk_at "dlrun"
    exact hys (by show (_ && true) = true; rw [hlk _ _ e]; rfl)
  try simp only [Bool.false_eq_true, if_false] at h
  rw [if_neg (by rw [h]; decide)] at hy hn
  walk_at "dlrun"
  with_reducible refine e_xf0 T hc hz ?_
  walk_at "dlrun"
  refine ifb (fun h => ?_) (fun h => ?_)
  · try simp only [Bool.false_eq_true, if_false] at h
    rw [if_pos h] at hy hn
    obtain ⟨y, w, e, e2, rfl⟩ := map2 hy
    walk_at "dlrun"
    with_reducible refine e_xf0 T (hn _ (by simp)) e ?_
    walk_at "dlrun"
    with_reducible refine e_xf0 T (hn _ (by simp)) e2 ?_
    walk_at "dlrun"
    exact hys (by show (_ && (_ && true)) = true; rw [hlk _ _ e, hlk _ _ e2]; rfl)
  try simp only [Bool.false_eq_true, if_false] at h
  rw [if_neg (by rw [h]; decide)] at hy hn
  walk_at "dlrun"
  with_reducible refine e_xf0 T hc hz ?_
  walk_at "dlrun"
  refine ifb (fun h => ?_) (fun h => ?_)
  · try simp only [Bool.false_eq_true, if_false] at h
    rw [if_pos h] at hy hn
    obtain ⟨y, w, e, e2, rfl⟩ := map2 hy
    walk_at "dlrun"
    with_reducible refine e_xf0 T (hn _ (by simp)) e ?_
    walk_at "dlrun"
    with_reducible refine e_xf0 T (hn _ (by simp)) e2 ?_
    walk_at "dlrun"
    exact hys (by show (_ && (_ && true)) = true; rw [hlk _ _ e, hlk _ _ e2]; rfl)
  try simp only [Bool.false_eq_true, if_false] at h
  rw [if_neg (by rw [h]; decide)] at hy hn
  walk_at "dlrun"
  with_reducible refine e_xf0 T hc hz ?_
  walk_at "dlrun"
  refine ifb (fun h => ?_) (fun h => ?_)
  · try simp only [Bool.false_eq_true, if_false] at h
    rw [if_pos h] at hy hn
    obtain ⟨y, e, rfl⟩ := map1 hy
    walk_at "dlrun"
    with_reducible refine e_xf0 T (hn _ (by simp)) e ?_
    walk_at "dlrun"
    exact hys (by show (_ && true) = true; rw [hlk _ _ e]; rfl)
  try simp only [Bool.false_eq_true, if_false] at h
  rw [if_neg (by rw [h]; decide)] at hy hn
  walk_at "dlrun"
  with_reducible refine e_xf0 T hc hz ?_
  walk_at "dlrun"
  refine ifb (fun h => ?_) (fun h => ?_)
  · try simp only [Bool.false_eq_true, if_false] at h
    rw [if_pos h] at hy hn
    obtain ⟨y, e, rfl⟩ := map1 hy
    walk_at "dlrun"
    with_reducible refine e_xf0 T (hn _ (by simp)) e ?_
    walk_at "dlrun"
    exact hys (by show (_ && true) = true; rw [hlk _ _ e]; rfl)
  try simp only [Bool.false_eq_true, if_false] at h
  rw [if_neg (by rw [h]; decide)] at hy hn
  walk_at "dlrun"
  with_reducible refine e_xf0 T hc hz ?_
  walk_at "dlrun"
  refine ifb (fun h => ?_) (fun h => ?_)
  · try simp only [Bool.false_eq_true, if_false] at h
    rw [if_pos h] at hy hn
    obtain ⟨y, e, rfl⟩ := map1 hy
    walk_at "dlrun"
    with_reducible refine e_xf0 T (hn _ (by simp)) e ?_
    walk_at "dlrun"
    exact hys (by show (_ && true) = true; rw [hlk _ _ e]; rfl)
  try simp only [Bool.false_eq_true, if_false] at h
  rw [if_neg (by rw [h]; decide)] at hy hn
  cases map0 hy
  walk_at "dlrun"
  exact hys rfl


theorem ok__law_begin {f : Addr} {fd : FuncData} (F : F__law_begin K f fd) (g_list : mg "list" = none) : FnD P w K mg base Tb 1 f fd ["_law_script"] sp__law_begin := by
  refine fnD_of _ F sc__law_begin (by rintro ds M Q E ⟨ns, rfl, _⟩; rfl) (fun cdv A outer s H EV hr => (ds_cons (dp_set 1 sc__law_begin.nd dv_int)
 (ds_cons (dp_for PassesOwn.leaving rfl (di_seq (dv_slice (dv_var 0) do_none (do_some dv_int))) (dg_name 2 sc__law_begin.nd) (ds_one (dp_set 1 sc__law_begin.nd (dv_mod (dv_add (dv_add (dv_mul (dv_var 1) dv_int) (dv_mod (dv_var 2) dv_int)) dv_int) dv_int))))
 (ds_one (dp_ret (dv_lstM (da_cons (dv_callTy call_list_of ref_list (by rfl) g_list (by decide +kernel) (da_cons (dv_slice (dv_var 0) do_none (do_some dv_int)) da_nil)) (da_cons dv_int (da_cons dv_int (da_cons (dv_var 1) (da_cons dv_int da_nil))))))))))) ?_
  rintro ds M Q E hM hD ⟨ns, rfl, hQ⟩
  have hall : ∀ d ∈ cutL (ns.map D.int) none (some 63), ∃ n, d = D.int n := fun d hd => by
    have := List.mem_of_mem_drop (List.mem_of_mem_take hd)
    obtain ⟨n, _, rfl⟩ := List.mem_map.mp this
    exact ⟨n, rfl⟩
  have hcut : cutL (ns.map D.int) none (some 63) = (cutL ns none (some 63)).map D.int := by
    unfold cutL
    simp [List.map_drop, List.map_take]
  refine for_inv (fun ds rho M' => (∀ d ∈ ds, ∃ n, d = D.int n) ∧ M' = M ∧ ∃ (s : Int) (c : Option D), rho = [some (.rol (ns.map D.int)), some (.int s), c] ∧ 0 ≤ s ∧ s < 2147483647) ?_ ?_ _ _ _ ⟨hall, rfl, 3809, none, rfl, by decide, by decide⟩
  · rintro d r rho M' N ⟨hd, rfl, s, c, rfl, h0, h1⟩ hN
    obtain ⟨n, rfl⟩ := hd _ List.mem_cons_self
    refine ⟨mok_r (by decide) (by decide), nz (by decide), nz (by decide), ?_⟩
    refine hN _ _ ⟨fun d h => hd d (List.mem_cons_of_mem _ h), rfl, _, _, rfl, ?_⟩
    exact fmod_pos (by decide)
  · rintro rho M' ⟨_, rfl, s, c, rfl, h0, h1⟩
    have r := hQ ⟨cutL ns none (some 63), 0, 0, s, 0⟩ ⟨Int.le_refl 0, Int.le_refl 0, h0, h1, Int.le_refl 0⟩
    refine ⟨by show 5 ≤ sizeLine; decide, ?_⟩
    rw [hcut]
    exact Cut.new hM (Rng.hb ⟨cutL ns none (some 63), 0, 0, s, 0⟩ _) r


theorem ok__law_draw {f : Addr} {fd : FuncData} (F : F__law_draw K f fd) (g_len : mg "len" = none) : FnD P w K mg base Tb 1 f fd ["_law_rng", "_law_many"] sp__law_draw := by
  refine fnD_of _ F sc__law_draw (by rintro ds M Q E ⟨i, m, rfl, _⟩; rfl) (fun cdv A outer s H EV hr => (ds_cons (dp_if (dt_w (dw_and (dt_eq hr.units (dv_ix (dv_var 0) dv_int) dv_int) (dw_and1 (dt_lt (dv_ix (dv_var 0) dv_int) (dv_callB call_len ref_len (by rfl) g_len PySem.boot_len (da_cons (dv_ix (dv_var 0) dv_int) da_nil)))))) (ds_cons (dp_set 2 sc__law_draw.nd (dv_ix (dv_ix (dv_var 0) dv_int) (dv_ix (dv_var 0) dv_int)))
 (ds_cons (dp_asg (dv_add (dv_ix (dv_var 0) dv_int) dv_int) (dg_sub (dv_var 0) dv_int))
 (ds_one (dp_if (dt_ge (dv_var 2) (dv_pow dv_int dv_int)) (ds_one (dp_asg (dv_var 2) (dg_sub (dv_var 0) dv_int))) (ds_one (dp_asg (dv_mod (dv_add (dv_add (dv_mul (dv_ix (dv_var 0) dv_int) dv_int) (dv_mod (dv_var 2) dv_int)) dv_int) dv_int) (dg_sub (dv_var 0) dv_int))))))) ds_nil)
 (ds_cons (dp_if (dt_gt (dv_ix (dv_var 0) dv_int) dv_int) (ds_cons (dp_set 3 sc__law_draw.nd (dv_mod (dv_ix (dv_var 0) dv_int) (dv_var 1)))
 (ds_cons (dp_asg (dv_fdiv (dv_ix (dv_var 0) dv_int) (dv_var 1)) (dg_sub (dv_var 0) dv_int))
 (ds_one (dp_ret (dv_var 3))))) ds_nil)
 (ds_cons (dp_asg (dv_add (dv_ix (dv_var 0) dv_int) dv_int) (dg_sub (dv_var 0) dv_int))
 (ds_cons (dp_set 4 sc__law_draw.nd (dv_mod (dv_add (dv_ix (dv_var 0) dv_int) (dv_mul (dv_ix (dv_var 0) dv_int) dv_int)) dv_int))
 (ds_cons (dp_asg (dv_mod (dv_add (dv_add (dv_pow (dv_var 4) dv_int) (dv_mul dv_int (dv_var 4))) dv_int) dv_int) (dg_sub (dv_var 0) dv_int))
 (ds_one (dp_ret (dv_mod (dv_add (dv_fdiv (dv_ix (dv_var 0) dv_int) dv_int) (dv_mul (dv_mod (dv_ix (dv_var 0) dv_int) dv_int) dv_int)) (dv_var 1)))))))))) ?_
  rintro ds M Q E hM hD ⟨i, m, rfl, ⟨r, hi, ok⟩, hm, hm2, hQ⟩
  have hl : i < M.length := (List.getElem?_eq_some_iff.mp hi).1
  have nm : m ≠ 0 := by omega
  have cm : CDivX m := cdx_small hm hm2
  refine e_cut (fun rho M1 => ∃ (r' : Rng) (c : Option D), rho = [some (.mt i), some (.int m), c, none, none] ∧ r'.Ok ∧ M1 = M.set i (some r'.mo)) ?_ ?_
  · rintro rho M1 ⟨r', c, rfl, ok', e1⟩
    have h1 : M1[i]? = some (some r'.mo) := by rw [e1, List.getElem?_set_self hl]
    unfold Rng.mo Rng.items at h1
    walk_at "dlrun"
    refine ifd (fun hc => ?_) (fun hc => ?_)
    · walk_at "dlrun"
      intro M2 e2 h2
      walk_at "dlrun"
      subst e1
      rw [List.set_set] at e2
      exact Cut.rg ⟨⟨r'.ns, r'.p, r'.c.fdiv m, r'.s, r'.k⟩, ⟨ok'.p0, Int.fdiv_nonneg ok'.c0 (by omega), ok'.s0, ok'.s1, ok'.k0⟩, e2⟩ rfl hM (hQ _ _ ⟨⟨r'.ns, r'.p, r'.c.fdiv m, r'.s, r'.k⟩, ⟨ok'.p0, Int.fdiv_nonneg ok'.c0 (by omega), ok'.s0, ok'.s1, ok'.k0⟩, e2⟩ (fmod_pos hm).1 (fmod_pos hm).2)
    · walk_at "dlrun"
      intro M2 e2 h2
      have b3 := fmod_pos (a := r'.s + (r'.k + 1) * 7927) (b := 2147483647) (by decide)
      walk_at "dlrun"
      intro M3 e3 h3
      walk_at "dlrun"
      have b4 := fmod_pos (a := ((r'.s + (r'.k + 1) * 7927).fmod 2147483647 ^ (3 : Int).toNat + 30013 * (r'.s + (r'.k + 1) * 7927).fmod 2147483647 + 1999)) (b := 2147483647) (by decide)
      subst e1
      rw [List.set_set] at e2
      rw [e2, List.set_set] at e3
      have q : RgTo M i M3 := ⟨⟨r'.ns, r'.p, r'.c, _, r'.k + 1⟩, ⟨ok'.p0, ok'.c0, b4.1, b4.2, by have := ok'.k0; show 0 ≤ r'.k + 1; omega⟩, e3⟩
      exact Cut.rg q rfl hM (hQ _ _ q (fmod_pos hm).1 (fmod_pos hm).2)
  · intro N hN
    have h1 := hi
    unfold Rng.mo Rng.items at h1
    have hN' : N [some (.mt i), some (.int m), none, none, none] M := hN _ _ ⟨r, none, rfl, ok, (RgTo.same hi)⟩
    walk_at "dlrun"
    refine ifd (fun hc => ?_) (fun hc => hN')
    walk_at "dlrun"
    refine ifd (fun hp => ?_) (fun hp => hN')
    obtain ⟨x, hn, hx⟩ := at_ex ok.p0 hp
    obtain ⟨n, _, rfl⟩ := List.mem_map.mp hx
    walk_at "dlrun"
    refine e_ix (d := .lst _) rfl hn ?_
    walk_at "dlrun"
    intro M2 e2 h2
    walk_at "dlrun"
    refine ifd (fun hg => ?_) (fun hg => ?_)
    · walk_at "dlrun"
      intro M3 e3 h3
      refine hN _ _ ⟨⟨r.ns, r.p + 1, n, r.s, r.k⟩, _, rfl, ⟨?_, ?_, ok.s0, ok.s1, ok.k0⟩, ?_⟩
      · have := ok.p0; show 0 ≤ r.p + 1; omega
      · exact Int.le_trans (by decide) hg
      · rw [e3, e2, List.set_set]; rfl
    · walk_at "dlrun"
      intro M3 e3 h3
      refine hN _ _ ⟨⟨r.ns, r.p + 1, r.c, (r.s * 36217 + n.fmod 2147483579 + 19).fmod 2147483647, r.k⟩, _, rfl, ⟨?_, ok.c0, (fmod_pos (by decide)).1, (fmod_pos (by decide)).2, ok.k0⟩, ?_⟩
      · have := ok.p0; show 0 ≤ r.p + 1; omega
      · rw [e3, e2, List.set_set]; rfl


theorem ok__law_pick {f : Addr} {fd : FuncData} (F : F__law_pick K f fd) (C__law_draw : Cal__law_draw P w K mg base Tb) (g_len : mg "len" = none) : FnD P w K mg base Tb 2 f fd ["_law_rng", "_law_some"] sp__law_pick := by
  refine fnD_of _ F sc__law_pick (by rintro ds M Q E ⟨i, x, xs, rfl, _⟩; rfl) (fun cdv A outer s H EV hr => (ds_one (dp_ret (dv_ix (dv_var 1) (dv_call C__law_draw.fn (hr.mono (by decide)) (by rfl) C__law_draw.mgx C__law_draw.F.kp (bd__law_draw C__law_draw.F) hxF (da_cons (dv_var 0) (da_cons (dv_callB call_len ref_len (by rfl) g_len PySem.boot_len (da_cons (dv_var 1) da_nil)) da_nil))))))) ?_
  rintro ds M Q E hM hD ⟨i, x, xs, rfl, ha, hx, h0, hz, hQ⟩
  have hhb : ∀ d ∈ xs, d.hb M.length = true := pk_hb hx (by have h : (_ && (_ && _)) = true := hD; simp only [Bool.and_eq_true] at h; exact h.2.1)
  have hlen : 0 < xs.length := List.length_pos_iff.mpr h0
  walk_at "dlrun"
  refine pk_len hx ?_
  walk_at "dlrun"
  refine ⟨i, xs.length, rfl, ha, by omega, Int.lt_of_le_of_lt (Int.ofNat_le.mpr hz) (by decide +kernel), fun k M' ht k0 k1 => ?_⟩
  obtain ⟨d, hd, hm⟩ := at_ex k0 k1
  refine pk_ix hx hd ?_
  exact Cut.rg ht (hhb d hm) hM (hQ d M' ht hm)


theorem ok__law_lowest {f : Addr} {fd : FuncData} (F : F__law_lowest K f fd) (g_abs : mg "abs" = none) : FnD P w K mg base Tb 1 f fd ["_law_top", "_law_bottom"] sp__law_lowest := by
  refine fnD_of _ F sc__law_lowest (by rintro ds M Q E ⟨a, b, rfl, _⟩; rfl) (fun cdv A outer s H EV hr => (ds_cons (dp_par 2 3 rfl sc__law_lowest.nd (da_cons (dv_callB call_abs ref_abs (by rfl) g_abs (by decide +kernel) (da_cons (dv_var 0) da_nil)) (da_cons (dv_callB call_abs ref_abs (by rfl) g_abs (by decide +kernel) (da_cons (dv_var 1) da_nil)) da_nil)) (by rfl))
 (ds_cons (dp_while PassesOwn.leaving (dt_ne hr.units (dv_var 3) dv_int) (ds_one (dp_par 2 3 rfl sc__law_lowest.nd (da_cons (dv_var 3) (da_cons (dv_mod (dv_var 2) (dv_var 3)) da_nil)) (by rfl))))
 (ds_cons (dp_if (dt_lt (dv_var 1) dv_int) (ds_one (dp_set 2 sc__law_lowest.nd (dv_sub dv_int (dv_var 2)))) ds_nil)
 (ds_one (dp_ret (dv_tup (da_cons (dv_fdiv (dv_var 0) (dv_var 2)) (da_cons (dv_fdiv (dv_var 1) (dv_var 2)) da_nil))))))))) ?_
  rintro ds M Q E hM hD ⟨a, b, rfl, hb, hs, hQ⟩
  refine wh_inv (fun rho M' => M' = M ∧ ∃ p q : Nat, rho = [some (.int a), some (.int b), some (.int (p : Int)), some (.int (q : Int))] ∧ Nat.gcd p q = Nat.gcd a.natAbs b.natAbs) (fun rho _ => match rho with
    | [_, _, _, some (.int q)] => q.natAbs
    | _ => 0) ?_ _ _ ⟨rfl, a.natAbs, b.natAbs, rfl, rfl⟩
  rintro rho M' N ⟨rfl, p, q, rfl, hg⟩ hN
  refine ifn (fun h => ?_) (fun h => ?_)
  · have hq : q ≠ 0 := fun e => h (by rw [e]; rfl)
    refine ⟨fun e => hq (Int.ofNat.inj e), ?_⟩
    refine hN _ _ ⟨rfl, q, p % q, ?_, ?_⟩ ?_
    · show [some (D.int a), some (D.int b), some (D.int (q : Int)), some (D.int ((p : Int).fmod (q : Int)))] = _
      rw [fmod_nat]
    · rw [← hg, Nat.gcd_comm q (p % q), ← Nat.gcd_rec, Nat.gcd_comm]
    · show (Int.fmod (p : Int) (q : Int)).natAbs < (q : Int).natAbs
      rw [fmod_nat]
      exact Nat.mod_lt p (Nat.pos_of_ne_zero hq)
  · have hq : q = 0 := Int.ofNat.inj h
    subst hq
    rw [Nat.gcd_zero_right] at hg
    have hp : p ≠ 0 := by
      rw [hg]
      exact Nat.pos_iff_ne_zero.mp (Nat.gcd_pos_of_pos_right _ (by omega))
    have hz : bz (p : Int) ≤ 8000 := Nat.le_trans (bs_mono (by
      show p ≤ b.natAbs
      rw [hg]; exact Nat.le_of_dvd (by omega) (Nat.gcd_dvd_right _ _))) hs
    refine ifd (fun hn => ?_) (fun hn => ?_)
    · have cp : CDivX (0 - (p : Int)) := cdx (by omega) (by rw [show bz (0 - (p : Int)) = bz (p : Int) by unfold bz; congr 1; omega]; omega)
      refine ⟨cp, cp, by show 2 ≤ sizeLine; decide, ?_⟩
      refine Cut.same rfl hM ?_
      have e : (D.tup [.int (a.fdiv (0 - (p : Int))), .int (b.fdiv (0 - (p : Int)))]) = qD (Rat.divInt a b) := by
        have h1 := low_num a b hb
        have h2 := low_den a b hb
        rw [if_pos hn] at h1 h2
        have e : (0 - (p : Int)) = -(Int.gcd a b : Int) := by rw [hg, Int.zero_sub]; rfl
        rw [e, h1, h2]; rfl
      exact e ▸ hQ
    · have cp : CDivX (p : Int) := cdx (by omega) (by omega)
      refine ⟨cp, cp, by show 2 ≤ sizeLine; decide, ?_⟩
      refine Cut.same rfl hM ?_
      have e : (D.tup [.int (a.fdiv (p : Int)), .int (b.fdiv (p : Int))]) = qD (Rat.divInt a b) := by
        have h1 := low_num a b hb
        have h2 := low_den a b hb
        rw [if_neg hn] at h1 h2
        have e : (p : Int) = (Int.gcd a b : Int) := by rw [hg]; rfl
        rw [e, h1, h2]; rfl
      exact e ▸ hQ


theorem ok__law_amount {f : Addr} {fd : FuncData} (F : F__law_amount K f fd) (C__law_pick : Cal__law_pick P w K mg base Tb) (C__law_draw : Cal__law_draw P w K mg base Tb) (C__law_lowest : Cal__law_lowest P w K mg base Tb) : FnD P w K mg base Tb 3 f fd ["_law_rng"] sp__law_amount := by
  refine fnD_of _ F sc__law_amount (by rintro ds M Q E ⟨i, rfl, _⟩; rfl) (fun cdv A outer s H EV hr => (ds_cons (dp_set 1 sc__law_amount.nd (dv_call C__law_pick.fn (hr.mono (by decide)) (by rfl) C__law_pick.mgx C__law_pick.F.kp (bd__law_pick C__law_pick.F) hxF (da_cons (dv_var 0) (da_cons (dv_lst (da_cons dv_int (da_cons dv_int (da_cons dv_int (da_cons (dv_pow dv_int dv_int) (da_cons (dv_sub (dv_pow dv_int dv_int) dv_int) da_nil)))))) da_nil))))
 (ds_cons (dp_set 2 sc__law_amount.nd (dv_call C__law_pick.fn (hr.mono (by decide)) (by rfl) C__law_pick.mgx C__law_pick.F.kp (bd__law_pick C__law_pick.F) hxF (da_cons (dv_var 0) (da_cons (dv_lst (da_cons dv_int (da_cons dv_int (da_cons dv_int (da_cons dv_int (da_cons (dv_add dv_int (dv_call C__law_draw.fn (hr.mono (by decide)) (by rfl) C__law_draw.mgx C__law_draw.F.kp (bd__law_draw C__law_draw.F) hxF (da_cons (dv_var 0) (da_cons (dv_var 1) da_nil)))) da_nil)))))) da_nil))))
 (ds_one (dp_ret (dv_call C__law_lowest.fn (hr.mono (by decide)) (by rfl) C__law_lowest.mgx C__law_lowest.F.kp (bd__law_lowest C__law_lowest.F) hxF (da_cons (dv_sub (dv_call C__law_draw.fn (hr.mono (by decide)) (by rfl) C__law_draw.mgx C__law_draw.F.kp (bd__law_draw C__law_draw.F) hxF (da_cons (dv_var 0) (da_cons (dv_add (dv_mul dv_int (dv_var 1)) dv_int) da_nil))) (dv_var 1)) (da_cons (dv_var 2) da_nil)))))))) ?_
  rintro ds M Q E hM hD ⟨i, rfl, ha, hQ⟩
  refine ⟨cpow (by decide) (by decide) (by decide) (by decide), cpow (by decide) (by decide) (by decide) (by decide), by show 5 ≤ sizeLine; decide, i, _, _, rfl, ha, .inl fun _ => rfl, by decide, by show 5 ≤ sizeLine; decide, fun d M1 t1 hd => ?_⟩
  obtain ⟨s, rfl, s0, s1⟩ : ∃ s : Int, d = .int s ∧ 1 ≤ s ∧ s < 10 ^ 12 := by
    simp only [List.mem_cons, List.not_mem_nil, or_false] at hd
    rcases hd with rfl | rfl | rfl | rfl | rfl <;> exact ⟨_, rfl, by decide, by decide⟩
  have a1 := t1.at ha
  refine ⟨i, s, rfl, a1, by omega, Int.lt_trans s1 (by decide +kernel), fun k M2 t2 k0 k1 => ?_⟩
  have a2 := t2.at a1
  refine ⟨by show 5 ≤ sizeLine; decide, i, _, _, rfl, a2, .inl fun _ => rfl, (by intro h; cases h), by show 5 ≤ sizeLine; decide, fun d M3 t3 hd => ?_⟩
  obtain ⟨b, rfl, b0, b1⟩ : ∃ b : Int, d = .int b ∧ 1 ≤ b ∧ b < 10 ^ 12 := by
    simp only [List.mem_cons, List.not_mem_nil, or_false] at hd
    rcases hd with rfl | rfl | rfl | rfl | rfl
    · exact ⟨_, rfl, by decide, by decide⟩
    · exact ⟨_, rfl, by decide, by decide⟩
    · exact ⟨_, rfl, by decide, by decide⟩
    · exact ⟨_, rfl, by decide, by decide⟩
    · exact ⟨_, rfl, by omega, by omega⟩
  have a3 := t3.at a2
  refine ⟨mok_l (by decide) (by decide), i, _, rfl, a3, by omega, Int.lt_trans (b := 10 ^ 13) (by omega) (by decide +kernel), fun j M4 t4 j0 j1 => ?_⟩
  have t := ((t1.trans t2).trans t3).trans t4
  have hb : bz b ≤ 40 := bi_lt (by omega) (by omega)
  refine ⟨_, _, rfl, by omega, by omega, ?_⟩
  refine Cut.rg t rfl hM (hQ _ _ t ?_ ?_ ?_)
  · have h1 := qs_divInt (j - s) b (by omega)
    have h2 : bz (j - s) ≤ 40 := bi_lt (by omega) (by omega)
    omega
  · have := (divInt_le (j - s) b (by omega)).1
    omega
  · have := (divInt_le (j - s) b (by omega)).2
    omega


theorem sm_all {f : Addr} {fd : FuncData} (F : F__law_same K f fd) (mgs : mg "_law_same" = some (.ref f)) (g_isinstance : mg "isinstance" = none) (g_tuple : mg "tuple" = none) (g_list : mg "list" = none) (g_all : mg "all" = none) (g_range : mg "range" = none) (g_len : mg "len" = none) (g_int : mg "int" = none) (g_bool : mg "bool" = none) (g_str : mg "str" = none) : ∀ n, FnD P w K mg base Tb n f fd ["_law_found", "_law_due"] (sm_sp n)
  | 0 => ⟨⟨fun vs H Q E h => by obtain ⟨_, _, _, _, _, _, _, ⟨_, _, _, _, _, h, _⟩, _⟩ := h; omega, fun A outer s H args us vs Q E hr he hb hv h => by obtain ⟨_, _, _, _, _, _, _, ⟨_, _, _, _, _, h, _⟩, _⟩ := h; omega⟩⟩
  | n + 1 => by
    have C__law_same : Cal P w K mg base Tb "_law_same" "_law_same" s__law_same [] [] n ["_law_found", "_law_due"] (sm_sp n) := ⟨f, fd, F, sm_all F mgs g_isinstance g_tuple g_list g_all g_range g_len g_int g_bool g_str n, mgs⟩
    refine fnD_of _ F sc__law_same (by rintro ds M Q E ⟨f, d, rfl, _⟩; rfl) (fun cdv A outer s H EV hr => (ds_cons (dp_if (dt_tru (dv_callB (call_isi.or (call_isiT.or call_isiK)) ref_isi (by rfl) g_isinstance (by decide +kernel) (da_cons (dv_var 1) (da_cons (dv_tup (da_cons (dv_bltn (by rfl) g_list (v := .ty "list") (d := .ty "list") DL.boot_list rfl fun _ _ _ => rfl) (da_cons (dv_bltn (by rfl) g_tuple (v := .ty "tuple") (d := .ty "tuple") DL.boot_tuple rfl fun _ _ _ => rfl) da_nil))) da_nil)))) (ds_cons (dp_if (dt_w (dw_or (dt_ne hr.units (dv_callB (call_isi.or (call_isiT.or call_isiK)) ref_isi (by rfl) g_isinstance (by decide +kernel) (da_cons (dv_var 0) (da_cons (dv_bltn (by rfl) g_list (v := .ty "list") (d := .ty "list") DL.boot_list rfl fun _ _ _ => rfl) da_nil))) (dv_callB (call_isi.or (call_isiT.or call_isiK)) ref_isi (by rfl) g_isinstance (by decide +kernel) (da_cons (dv_var 1) (da_cons (dv_bltn (by rfl) g_list (v := .ty "list") (d := .ty "list") DL.boot_list rfl fun _ _ _ => rfl) da_nil)))) (dw_or1 (dt_ne hr.units (dv_callB (call_isi.or (call_isiT.or call_isiK)) ref_isi (by rfl) g_isinstance (by decide +kernel) (da_cons (dv_var 0) (da_cons (dv_bltn (by rfl) g_tuple (v := .ty "tuple") (d := .ty "tuple") DL.boot_tuple rfl fun _ _ _ => rfl) da_nil))) (dv_callB (call_isi.or (call_isiT.or call_isiK)) ref_isi (by rfl) g_isinstance (by decide +kernel) (da_cons (dv_var 1) (da_cons (dv_bltn (by rfl) g_tuple (v := .ty "tuple") (d := .ty "tuple") DL.boot_tuple rfl fun _ _ _ => rfl) da_nil))))))) (ds_one (dp_ret dv_bl)) ds_nil)
 (ds_one (dp_ret (dv_and (dv_eq hr.units (dv_callB call_len ref_len (by rfl) g_len PySem.boot_len (da_cons (dv_var 0) da_nil)) (dv_callB call_len ref_len (by rfl) g_len PySem.boot_len (da_cons (dv_var 1) da_nil))) (dv_one (dv_callB (cr_all rfl) ref_all (by rfl) g_all (by decide +kernel) (da_cons (dv_lc rfl sc__law_same.nd (di_range1 (by rfl) g_range (da_cons (dv_callB call_len ref_len (by rfl) g_len PySem.boot_len (da_cons (dv_var 1) da_nil)) da_nil)) (blkOk_by (own := [("_law_k", 2)]) (N := ["_law_found", "_law_due", "_law_k"]) (sc := defScope s__law_same) (by decide +kernel)) (tgn_name (i := 2) (by decide)) (fun _ _ _ _ _ => pg_name (i := 2) sc__law_same.nd rfl (by first | exact Or.inl rfl | exact Or.inr rfl)) (fun _ _ _ _ _ => dts_nil) (fun _ _ _ _ _ => (dv_call C__law_same.fn (hr.mono (Nat.le_refl _)) (by rfl) C__law_same.mgx C__law_same.F.kp (bd__law_same C__law_same.F) passL (da_cons (dv_ix (dv_var 0) (dv_var 2)) (da_cons (dv_ix (dv_var 1) (dv_var 2)) da_nil))))) da_nil))))))) ds_nil)
 (ds_cons (dp_if (dt_w (dw_or (dt_is (dv_var 1) dv_non) (dw_or1 (dt_is (dv_var 0) dv_non)))) (ds_one (dp_ret (dv_and (dv_is (dv_var 0) dv_non) (dv_one (dv_is (dv_var 1) dv_non))))) ds_nil)
 (ds_cons (dp_if (dt_w (dw_or (dt_ne hr.units (dv_callB (call_isi.or (call_isiT.or call_isiK)) ref_isi (by rfl) g_isinstance (by decide +kernel) (da_cons (dv_var 1) (da_cons (dv_bltn (by rfl) g_bool (v := .ty "bool") (d := .ty "bool") DL.boot_bool rfl fun _ _ _ => rfl) da_nil))) (dv_callB (call_isi.or (call_isiT.or call_isiK)) ref_isi (by rfl) g_isinstance (by decide +kernel) (da_cons (dv_var 0) (da_cons (dv_bltn (by rfl) g_bool (v := .ty "bool") (d := .ty "bool") DL.boot_bool rfl fun _ _ _ => rfl) da_nil)))) (dw_or1 (dt_ne hr.units (dv_callB (call_isi.or (call_isiT.or call_isiK)) ref_isi (by rfl) g_isinstance (by decide +kernel) (da_cons (dv_var 1) (da_cons (dv_bltn (by rfl) g_int (v := .ty "int") (d := .ty "int") DL.boot_int rfl fun _ _ _ => rfl) da_nil))) (dv_callB (call_isi.or (call_isiT.or call_isiK)) ref_isi (by rfl) g_isinstance (by decide +kernel) (da_cons (dv_var 0) (da_cons (dv_bltn (by rfl) g_int (v := .ty "int") (d := .ty "int") DL.boot_int rfl fun _ _ _ => rfl) da_nil))))))) (ds_one (dp_ret dv_bl)) ds_nil)
 (ds_one (dp_ret (dv_and (dv_eq hr.units (dv_callB (call_isi.or (call_isiT.or call_isiK)) ref_isi (by rfl) g_isinstance (by decide +kernel) (da_cons (dv_var 1) (da_cons (dv_bltn (by rfl) g_str (v := .ty "str") (d := .ty "str") DL.boot_str rfl fun _ _ _ => rfl) da_nil))) (dv_callB (call_isi.or (call_isiT.or call_isiK)) ref_isi (by rfl) g_isinstance (by decide +kernel) (da_cons (dv_var 0) (da_cons (dv_bltn (by rfl) g_str (v := .ty "str") (d := .ty "str") DL.boot_str rfl fun _ _ _ => rfl) da_nil)))) (dv_one (dv_eq hr.units (dv_var 0) (dv_var 1)))))))))) ?_
    rintro ds M Q E hM hD ⟨f, d, rfl, pf, pd, hdp, hQ⟩
    have fin : ∀ b, smD f d = b → Cut M.length Q (.bl b) M := fun b e => Cut.same rfl hM (e ▸ hQ)
    walk_at "dlrun"
    refine ifb (fun h0 => ?_) (fun h0 => ?_)
    · walk_at "dlrun"
      refine ifn (fun h1 => fin _ (sm_l h1)) (fun h1 => ?_)
      walk_at "dlrun"
      refine ifn (fun h2 => fin _ (sm_t h2)) (fun h2 => ?_)
      obtain ⟨xs, ys, sx, sy, px, py, lx, ly, ed, es⟩ := seq_case pf pd h0 h1 h2
      walk_at "dlrun"
      refine e_len (sx _) ?_
      walk_at "dlrun"
      refine e_len (sy _) ?_
      walk_at "dlrun"
      refine ifd (fun hl => ?_) (fun hl => fin _ ?_)
      · have hl : xs.length = ys.length := Int.ofNat.inj hl
        walk_at "dlrun"
        refine e_len (sy _) ?_
        walk_at "dlrun"
        have : sizeLine < 2 ^ 62 := by decide
        refine ⟨⟨by omega, Int.lt_of_le_of_lt (Int.ofNat_le.mpr ly) (by decide)⟩, ?_⟩
        refine lc_range (fun j acc M' => M' = M ∧ acc = ((List.zipWith smD xs ys).take j).map D.bl) ⟨rfl, rfl⟩ ?_ ?_
        · rintro j acc M' N hj ⟨rfl, rfl⟩ hN
          have hx : j < xs.length := by omega
          walk_at "dlrun"
          refine e_ix (sx _) (at_nat hx) ?_
          walk_at "dlrun"
          refine e_ix (sy _) (at_nat hj) ?_
          walk_at "dlrun"
          have e2 : ys[j]? = some ys[j] := List.getElem?_eq_getElem hj
          refine ⟨_, _, rfl, pus_at px (List.getElem?_eq_getElem hx), pus_at py e2, by have := dps_at e2; omega, ?_, hN _ _ ⟨rfl, ?_⟩⟩
          · simp; omega
          · have hz : j < (List.zipWith smD xs ys).length := by simp; omega
            rw [List.take_add_one, List.getElem?_eq_getElem hz]
            simp
        · rintro acc M' ⟨rfl, rfl⟩
          walk_at "dlrun"
          refine e_all ?_
          rw [List.take_of_length_le (by simp; omega), ← smDs_zip hl]
          exact fin _ es
      · rw [es]
        cases q : smDs xs ys with
        | false => rfl
        | true => exact absurd (by rw [smDs_len q]) hl
    · walk_at "dlrun"
      refine ifb (fun n2 => ?_) (fun n2 => ?_)
      · walk_at "dlrun"
        refine ifb (fun n1 => ?_) (fun n1 => fin _ (sm_n3 n1 n2))
        walk_at "dlrun"
        rw [n2]
        exact fin _ (sm_n1 n1 n2)
      · walk_at "dlrun"
        refine ifb (fun n1 => ?_) (fun n1 => ?_)
        · walk_at "dlrun"
          refine ifb (fun n3 => ?_) (fun n3 => absurd n3 (by rw [n1]; decide))
          walk_at "dlrun"
          rw [n2]
          exact fin _ (sm_n2 n1 n2)
        · walk_at "dlrun"
          refine ifn (fun h1 => fin _ (sm_b h1)) (fun h1 => ?_)
          walk_at "dlrun"
          refine ifn (fun h2 => fin _ (sm_i h2)) (fun h2 => ?_)
          walk_at "dlrun"
          refine ifd (fun h3 => ?_) (fun h3 => fin _ (sm_s h3))
          walk_at "dlrun"
          exact sm_eq pf pd h0 n1 n2 h1 h2 h3 (fin _ rfl)
theorem ok__law_same {f : Addr} {fd : FuncData} (F : F__law_same K f fd) (mgs : mg "_law_same" = some (.ref f)) (g_isinstance : mg "isinstance" = none) (g_tuple : mg "tuple" = none) (g_list : mg "list" = none) (g_all : mg "all" = none) (g_range : mg "range" = none) (g_len : mg "len" = none) (g_int : mg "int" = none) (g_bool : mg "bool" = none) (g_str : mg "str" = none) : FnD P w K mg base Tb 10 f fd ["_law_found", "_law_due"] sp__law_same := by
  exact sm_all F mgs g_isinstance g_tuple g_list g_all g_range g_len g_int g_bool g_str 10


theorem ok_parse_integer {f : Addr} {fd : FuncData} (F : F_parse_integer K f fd) (g_all : mg "all" = none) (g_len : mg "len" = none) (g_str : mg "str" = none) (g_int : mg "int" = none) (c_MAX_FIGURES : CC_MAX_FIGURES K mg) : FnD P w K mg base Tb 1 f fd ["text"] sp_parse_integer := by
  refine fnD_of _ F sc_parse_integer (by rintro ds M Q E ⟨z, rfl, _⟩; rfl) (fun cdv A outer s H EV hr => (ds_cons (dp_set 1 sc_parse_integer.nd (dv_if (dt_eq hr.units (dv_slice (dv_var 0) do_none (do_some dv_int)) dv_str) (dv_slice (dv_var 0) (do_some dv_int) do_none) (dv_var 0)))
 (ds_cons (dp_if (dt_w (dw_or (dt_not (dt_chain op_le (ref_int0 (gD := fun i j => .bl (decide (i ≤ j))) fun _ _ _ _ _ => rfl) op_le (ref_int0 (gD := fun i j => .bl (decide (i ≤ j))) fun _ _ _ _ _ => rfl) dv_int (dv_callB call_len ref_len (by rfl) g_len PySem.boot_len (da_cons (dv_var 1) da_nil)) (dv_gl c_MAX_FIGURES (by rfl)))) (dw_or1 (dt_not (dt_tru (dv_callB (cr_all rfl) ref_all (by rfl) g_all (by decide +kernel) (da_cons (dv_lc rfl sc_parse_integer.nd (di_seq (dv_var 1)) (blkOk_by (own := [("sign", 2)]) (N := ["text", "figures", "sign"]) (sc := defScope s_parse_integer) (by decide +kernel)) (tgn_name (i := 2) (by decide)) (fun _ _ _ _ _ => pg_name (i := 2) sc_parse_integer.nd rfl (by first | exact Or.inl rfl | exact Or.inr rfl)) (fun _ _ _ _ _ => dts_nil) (fun _ _ _ _ _ => (dv_in (dv_var 2) dv_str))) da_nil))))))) (ds_one (dp_ret dv_non)) ds_nil)
 (ds_one (dp_ret (dv_if (dt_eq hr.units (dv_callTy call_str_int ref_str (by rfl) g_str (by decide +kernel) (da_cons (dv_callTy (call_int1.or call_int_str) ref_int1 (by rfl) g_int (by decide +kernel) (da_cons (dv_var 0) da_nil)) da_nil)) (dv_var 0)) (dv_callTy (call_int1.or call_int_str) ref_int1 (by rfl) g_int (by decide +kernel) (da_cons (dv_var 0) da_nil)) dv_non)))))) ?_
  rintro ds M Q E hM hD ⟨z, rfl, hz, hQ⟩
  have zl : sizeLine = 16777216 := rfl
  have hlen : z.length = (cl z).length := Array.length_toList.symm
  with_reducible refine e_cut (fun rho M' => rho = [some (.str z), some (.str (SX.S (figs (cl z)))), none] ∧ M' = M) ?_ ?_
  rotate_left
  · intro N hN
    have c1 : cutS z none (some 1) = SX.S ((cl z).take 1) := by
      rw [C8.cutS_slice]; conv => lhs; rw [← SX.S_tl z]
      exact SX.slice_to (by decide)
    have c2 : cutS z (some 1) none = SX.S ((cl z).drop 1) := by
      rw [C8.cutS_slice]; conv => lhs; rw [← SX.S_tl z]
      exact SX.slice_from (by decide)
    have e45 : (Str.ofString "-") = SX.S [45] := by decide +kernel
    walk_at "dlrun"
    refine e_sls (by omega) ?_
    rw [c1, e45]
    walk_at "dlrun"
    unfold figs at hN
    refine ifd (fun h => ?_) (fun h => ?_)
    · have h := SX.S_inj h
      rw [if_pos h] at hN
      walk_at "dlrun"
      refine e_sls (by omega) ?_
      rw [c2]
      exact hN _ _ ⟨rfl, rfl⟩
    · rw [if_neg (fun e => h (by rw [e]))] at hN
      walk_at "dlrun"
      have := hN _ _ ⟨rfl, rfl⟩
      rw [SX.S_tl] at this
      exact this
  rintro rho M1 ⟨rfl, rfl⟩
  have hfl : (figs (cl z)).length ≤ 9000 := by
    unfold figs
    split
    · rw [List.length_drop]; omega
    · omega
  have sl : (SX.S (figs (cl z))).length = (figs (cl z)).length := SX.S_len _
  have fin : ∀ k, fgN z = k → Cut M1.length Q (oiD k) M1 := fun k e => Cut.same (by cases k <;> rfl) hM (e ▸ hQ)
  unfold fgN figB at fin
  walk_at "dlrun"
  refine e_lenS (by omega) ?_
  walk_at "dlrun"
  rw [sl]
  refine ifd (fun h1 => ?_) (fun h1 => ?_)
  rotate_left
  · walk_at "dlrun"
    exact fin none (by rw [decide_eq_false h1]; rfl)
  walk_at "dlrun"
  refine ifn (fun h2 => ?_) (fun h2 => ?_)
  · walk_at "dlrun"
    exact fin none (by rw [decide_eq_true h1, decide_eq_false h2]; rfl)
  walk_at "dlrun"
  refine lc_map (fun c => D.str ⟨#[c]⟩) (fun c => D.bl (decide (c ∈ cl dg9))) (figs (cl z)) (by omega) ?_ ?_
  · intro c _ N hN
    walk_at "dlrun"
    exact hN
  refine e_allM ?_
  rw [decide_eq_true h1, decide_eq_true h2] at fin
  cases ha : ((figs (cl z)).map fun c => decide (c ∈ cl dg9)).all _root_.id with
  | false =>
    walk_at "dlrun"
    exact fin none (by rw [ha]; rfl)
  | true =>
    have hb : figB (cl z) = true := by unfold figB; rw [decide_eq_true h1, decide_eq_true h2, ha]; rfl
    obtain ⟨n, n1, n2, n3, _⟩ := fig_num hb
    have hn := bz_12 n2
    rw [ha, n1] at fin
    walk_at "dlrun"
    refine e_itx n1 (by omega) ?_
    walk_at "dlrun"
    refine e_str (lg_of (by omega)) ?_
    walk_at "dlrun"
    refine ifd (fun h => ?_) (fun h => ?_)
    · walk_at "dlrun"
      refine e_itx n1 (by omega) ?_
      exact fin (some n) (by show (if itx n = z then some n else none) = some n; exact if_pos h)
    · walk_at "dlrun"
      exact fin none (by show (if itx n = z then some n else none) = none; exact if_neg h)


theorem ok_fraction_text {f : Addr} {fd : FuncData} (F : F_fraction_text K f fd) (g_str : mg "str" = none) : FnD P w K mg base Tb 1 f fd ["value"] sp_fraction_text := by
  refine fnD_of _ F sc_fraction_text (by rintro ds M Q E ⟨a, b, rfl, _⟩; rfl) (fun cdv A outer s H EV hr => (ds_one (dp_ret (dv_if (dt_ne hr.units (dv_ix (dv_var 0) dv_int) dv_int) (dv_js (dj_cons (dv_fmt (dv_ix (dv_var 0) dv_int)) (dj_cons dv_str (dj_cons (dv_fmt (dv_ix (dv_var 0) dv_int)) dj_nil)))) (dv_callTy call_str_int ref_str (by rfl) g_str (by decide +kernel) (da_cons (dv_ix (dv_var 0) dv_int) da_nil)))))) ?_
  rintro ds M Q E hM hD ⟨a, b, rfl, h1, h2, hQ⟩
  have l1 := itx_len h1
  have l2 := itx_len h2
  have e1 : (Str.ofString "/").length = 1 := by decide +kernel
  have z : sizeLine = 16777216 := rfl
  walk_at "dlrun"
  refine ifn (fun h => ?_) (fun h => ?_)
  · rw [if_neg (by omega)] at hQ
    walk_at "dlrun"
    refine ⟨lg_of h1, ?_⟩
    refine e_jsd (by rw [str_nil]; show (itx a).length ≤ _; omega) ?_
    walk_at "dlrun"
    refine e_jsd (by rw [str_nil, str_len]; show (itx a).length + _ ≤ _; omega) ?_
    walk_at "dlrun"
    refine ⟨lg_of h2, ?_⟩
    refine e_jsd (by rw [str_nil, str_len, str_len]; show (itx a).length + _ + (itx b).length ≤ _; omega) ?_
    walk_at "dlrun"
    refine Cut.same rfl hM ?_
    rw [str_nil, str_assoc]
    exact hQ
  · rw [if_pos (by omega)] at hQ
    walk_at "dlrun"
    refine e_str (lg_of h1) ?_
    exact Cut.same rfl hM hQ


theorem ok_is_integer {f : Addr} {fd : FuncData} (F : F_is_integer K f fd) (g_isinstance : mg "isinstance" = none) (g_bool : mg "bool" = none) (g_int : mg "int" = none) : FnD P w K mg base Tb 1 f fd ["thing"] sp_is_integer := by
  refine fnD_of _ F sc_is_integer (by rintro ds M Q E ⟨a, rfl, _⟩; rfl) (fun cdv A outer s H EV hr => (ds_one (dp_ret (dv_and (dv_callB (call_isi.or (call_isiT.or call_isiK)) ref_isi (by rfl) g_isinstance (by decide +kernel) (da_cons (dv_var 0) (da_cons (dv_bltn (by rfl) g_int (v := .ty "int") (d := .ty "int") DL.boot_int rfl fun _ _ _ => rfl) da_nil))) (dv_one (dv_not (dv_callB (call_isi.or (call_isiT.or call_isiK)) ref_isi (by rfl) g_isinstance (by decide +kernel) (da_cons (dv_var 0) (da_cons (dv_bltn (by rfl) g_bool (v := .ty "bool") (d := .ty "bool") DL.boot_bool rfl fun _ _ _ => rfl) da_nil))))))))) ?_
  rintro ds M Q E hM hD ⟨a, rfl, hQ⟩
  walk_at "dlrun"
  refine isi_i rfl ?_
  rw [show isInt (.int a) = true from rfl]
  walk_at "dlrun"
  refine isi_b rfl ?_
  rw [show isBl (.int a) = false from rfl]
  exact Cut.same rfl hM hQ


theorem ok_common_divisor {f : Addr} {fd : FuncData} (F : F_common_divisor K f fd) (g_abs : mg "abs" = none) : FnD P w K mg base Tb 1 f fd ["one", "other"] sp_common_divisor := by
  refine fnD_of _ F sc_common_divisor (by rintro ds M Q E ⟨a, b, rfl, _⟩; rfl) (fun cdv A outer s H EV hr => (ds_cons (dp_while PassesOwn.leaving (dt_ne hr.units (dv_var 1) dv_int) (ds_one (dp_par 0 1 rfl sc_common_divisor.nd (da_cons (dv_var 1) (da_cons (dv_mod (dv_var 0) (dv_var 1)) da_nil)) (by rfl))))
 (ds_one (dp_ret (dv_callB call_abs ref_abs (by rfl) g_abs (by decide +kernel) (da_cons (dv_var 0) da_nil)))))) ?_
  rintro ds M Q E hM hD ⟨a, b, rfl, hQ⟩
  refine wh_inv (fun rho M' => M' = M ∧ ∃ p q : Int, rho = [some (.int p), some (.int q)] ∧ Int.gcd p q = Int.gcd a b) (fun rho _ => match rho with
    | [_, some (.int q)] => q.natAbs
    | _ => 0) ?_ _ _ ⟨rfl, a, b, rfl, rfl⟩
  rintro rho M' N ⟨rfl, p, q, rfl, hg⟩ hN
  refine ifn (fun h => ?_) (fun h => ?_)
  · refine ⟨h, hN _ _ ⟨rfl, q, p.fmod q, rfl, ?_⟩ (fmod_abs h)⟩
    rw [fmod_gcd, hg]
  · subst h
    refine Cut.same rfl hM ?_
    rw [← hg, Int.gcd_zero_right] at hQ
    exact hQ


theorem ok_is_fraction {f : Addr} {fd : FuncData} (F : F_is_fraction K f fd) (C_is_integer : Cal_is_integer P w K mg base Tb) (C_common_divisor : Cal_common_divisor P w K mg base Tb) (g_all : mg "all" = none) (g_len : mg "len" = none) (g_isinstance : mg "isinstance" = none) (g_tuple : mg "tuple" = none) (g_abs : mg "abs" = none) (c_MAX_NUMBER : CC_MAX_NUMBER K mg) : FnD P w K mg base Tb 2 f fd ["thing"] sp_is_fraction := by
  refine fnD_of _ F sc_is_fraction (by rintro ds M Q E ⟨a, b, rfl, _⟩; rfl) (fun cdv A outer s H EV hr => (ds_cons (dp_if (dt_w (dw_or (dt_not (dt_tru (dv_callB (call_isi.or (call_isiT.or call_isiK)) ref_isi (by rfl) g_isinstance (by decide +kernel) (da_cons (dv_var 0) (da_cons (dv_bltn (by rfl) g_tuple (v := .ty "tuple") (d := .ty "tuple") DL.boot_tuple rfl fun _ _ _ => rfl) da_nil))))) (dw_or (dt_ne hr.units (dv_callB call_len ref_len (by rfl) g_len PySem.boot_len (da_cons (dv_var 0) da_nil)) dv_int) (dw_or1 (dt_not (dt_tru (dv_callB (cr_all rfl) ref_all (by rfl) g_all (by decide +kernel) (da_cons (dv_lc rfl sc_is_fraction.nd (di_seq (dv_var 0)) (blkOk_by (own := [("part", 1)]) (N := ["thing", "part"]) (sc := defScope s_is_fraction) (by decide +kernel)) (tgn_name (i := 1) (by decide)) (fun _ _ _ _ _ => pg_name (i := 1) sc_is_fraction.nd rfl (by first | exact Or.inl rfl | exact Or.inr rfl)) (fun _ _ _ _ _ => dts_nil) (fun _ _ _ _ _ => (dv_call C_is_integer.fn (hr.mono (by decide)) (by rfl) C_is_integer.mgx C_is_integer.F.kp (bd_is_integer C_is_integer.F) passL (da_cons (dv_var 1) da_nil)))) da_nil)))))))) (ds_one (dp_ret dv_bl)) ds_nil)
 (ds_cons (dp_if (dt_w (dw_or (dt_ge (dv_callB call_abs ref_abs (by rfl) g_abs (by decide +kernel) (da_cons (dv_ix (dv_var 0) dv_int) da_nil)) (dv_gl c_MAX_NUMBER (by rfl))) (dw_or1 (dt_not (dt_chain op_lt (ref_int0 (gD := fun i j => .bl (decide (i < j))) fun _ _ _ _ _ => rfl) op_lt (ref_int0 (gD := fun i j => .bl (decide (i < j))) fun _ _ _ _ _ => rfl) dv_int (dv_ix (dv_var 0) dv_int) (dv_gl c_MAX_NUMBER (by rfl))))))) (ds_one (dp_ret dv_bl)) ds_nil)
 (ds_one (dp_ret (dv_eq hr.units (dv_call C_common_divisor.fn (hr.mono (by decide)) (by rfl) C_common_divisor.mgx C_common_divisor.F.kp (bd_common_divisor C_common_divisor.F) hxF (da_cons (dv_ix (dv_var 0) dv_int) (da_cons (dv_ix (dv_var 0) dv_int) da_nil))) dv_int)))))) ?_
  rintro ds M Q E hM hD ⟨a, b, rfl, hQ⟩
  have fin : ∀ k, isfr a b = k → Cut M.length Q (.bl k) M := fun k e => Cut.same rfl hM (e ▸ hQ)
  unfold isfr at fin
  walk_at "dlrun"
  refine isi_t rfl ?_
  rw [show isTup (.tup [.int a, .int b]) = true from rfl]
  walk_at "dlrun"
  refine ifn (fun h => absurd rfl h) (fun _ => ?_)
  walk_at "dlrun"
  refine lc_map (α := Int) (fun i => D.int i) (fun _ => D.bl true) [a, b] (by show 2 ≤ sizeLine; decide) ?_ ?_
  · intro c _ N hN
    walk_at "dlrun"
    exact ⟨c, rfl, hN⟩
  refine e_allM ?_
  rw [show (([a, b].map fun _ : Int => true).all _root_.id) = true from rfl]
  walk_at "dlrun"
  walk_at "dlrun"
  refine ifd (fun h => ?_) (fun h => ?_)
  · walk_at "dlrun"
    exact fin false (by rw [Bool.eq_false_iff]; intro hh; simp at hh; omega)
  walk_at "dlrun"
  refine ifd (fun h1 => ?_) (fun h1 => ?_)
  rotate_left
  · walk_at "dlrun"
    exact fin false (by rw [Bool.eq_false_iff]; intro hh; simp at hh; omega)
  walk_at "dlrun"
  refine ifn (fun h2 => ?_) (fun h2 => ?_)
  · walk_at "dlrun"
    exact fin false (by rw [Bool.eq_false_iff]; intro hh; simp at hh; omega)
  walk_at "dlrun"
  refine ⟨a, b, rfl, ?_⟩
  walk_at "dlrun"
  refine fin _ ?_
  have q1 : a.natAbs < 10 ^ 12 := by omega
  have q2 : b < 10 ^ 12 := h2
  rw [decide_eq_true q1, decide_eq_true h1, decide_eq_true q2]
  show decide (Int.gcd a b = 1) = decide ((Int.gcd a b : Int) = 1)
  exact decide_eq_decide.mpr (by omega)


theorem ok_parse_fraction {f : Addr} {fd : FuncData} (F : F_parse_fraction K f fd) (C_parse_integer : Cal_parse_integer P w K mg base Tb) (C_fraction_text : Cal_fraction_text P w K mg base Tb) (C_is_fraction : Cal_is_fraction P w K mg base Tb) (X_InvalidText : XC_InvalidText P w K mg base) : FnD P w K mg base Tb 3 f fd ["text"] (sp_parse_fraction K) := by
  refine fnD_of _ F sc_parse_fraction (by rintro ds M Q E ⟨z, rfl, _⟩; rfl) (fun cdv A outer s H EV hr => (ds_cons (dp_asg (dv_bm PySem.F.plainAttrs_str PySem.F.slot_str_partition PySem.F.type_str_partition mt_partition ref_part (dv_var 0) (da_cons dv_str da_nil)) (dg_tup (n := 3) rfl (dgs_cons (dg_name 1 sc_parse_fraction.nd) (dgs_cons (dg_name 2 sc_parse_fraction.nd) (dgs_cons (dg_name 3 sc_parse_fraction.nd) dgs_nil)))))
 (ds_cons (dp_set 4 sc_parse_fraction.nd (dv_tup (da_cons (dv_call C_parse_integer.fn (hr.mono (by decide)) (by rfl) C_parse_integer.mgx C_parse_integer.F.kp (bd_parse_integer C_parse_integer.F) hxF (da_cons (dv_var 1) da_nil)) (da_cons (dv_if (dt_ne hr.units (dv_var 2) dv_str) (dv_call C_parse_integer.fn (hr.mono (by decide)) (by rfl) C_parse_integer.mgx C_parse_integer.F.kp (bd_parse_integer C_parse_integer.F) hxF (da_cons (dv_var 3) da_nil)) dv_int) da_nil))))
 (ds_cons (dp_if (dt_w (dw_or (dt_is (dv_ix (dv_var 4) dv_int) dv_non) (dw_or (dt_is (dv_ix (dv_var 4) dv_int) dv_non) (dw_or (dt_not (dt_tru (dv_call C_is_fraction.fn (hr.mono (by decide)) (by rfl) C_is_fraction.mgx C_is_fraction.F.kp (bd_is_fraction C_is_fraction.F) hxF (da_cons (dv_var 4) da_nil)))) (dw_or1 (dt_ne hr.units (dv_call C_fraction_text.fn (hr.mono (by decide)) (by rfl) C_fraction_text.mgx C_fraction_text.F.kp (bd_fraction_text C_fraction_text.F) hxF (da_cons (dv_var 4) da_nil)) (dv_var 0))))))) (ds_one (dp_raise0 X_InvalidText (hr.mono (by decide)) rfl tkF hxN (by rfl))) ds_nil)
 (ds_one (dp_ret (dv_var 4))))))) ?_
  rintro ds M Q E hM hD ⟨z, rfl, hz, hQ⟩
  have zl : sizeLine = 16777216 := rfl
  have e47 : (Str.ofString "/") = SX.S [47] := by decide +kernel
  have e0 : (Str.ofString "") = SX.S [] := by decide +kernel
  have finE : pfN z = none → CutX M.length E ⟨He.ga K "InvalidText", [("code", .str "InvalidText")]⟩ M := fun h => CutX.same rfl hM (by rw [h] at hQ; exact hQ)
  have finQ : ∀ x y, pfN z = some (x, y) → Cut M.length Q (.tup [.int x, .int y]) M := fun x y h => Cut.same rfl hM (by rw [h] at hQ; exact hQ)
  unfold pfN at finE finQ
  have hz2 : z = SX.S (cl z) := (SX.S_tl z).symm
  with_reducible refine e_cut (fun rho M' => M' = M ∧ ((TL.par [47] [] (cl z) = none ∧ rho = [some (.str z), some (.str z), some (.str (SX.S [])), some (.str (SX.S [])), none]) ∨ ∃ a b, TL.par [47] [] (cl z) = some (a, b) ∧ cl z = a ++ 47 :: b ∧ rho = [some (.str z), some (.str (SX.S a)), some (.str (SX.S [47])), some (.str (SX.S b)), none])) ?_ ?_
  rotate_left
  · intro N hN
    walk_at "dlrun"
    refine ⟨by decide +kernel, by omega, ?_⟩
    rw [e47]
    rcases cut_case (cl z) with ⟨hf, hp, _⟩ | ⟨a, b, e, ha, hp, _⟩
    · have hpz : Txt.partition z (SX.S [47]) = (z, SX.S [], SX.S []) := by
        have := SX.partition_none (b := [47]) (by decide) hp
        rw [SX.S_tl] at this
        exact this
      rw [hpz]
      walk_at "dlrun"
      exact hN _ _ ⟨rfl, .inl ⟨hp, rfl⟩⟩
    · have hpz : Txt.partition z (SX.S [47]) = (SX.S a, SX.S [47], SX.S b) := by
        have := SX.partition_some (b := [47]) (by decide) hp
        rw [SX.S_tl] at this
        exact this
      rw [hpz]
      walk_at "dlrun"
      exact hN _ _ ⟨rfl, .inr ⟨a, b, hp, e, rfl⟩⟩
  rintro rho M1 ⟨rfl, hc⟩
  rcases hc with ⟨hp, rfl⟩ | ⟨a, b, hp, e, rfl⟩
  · rw [hp] at finE finQ
    walk_at "dlrun"
    refine ⟨z, rfl, by omega, ?_⟩
    walk_at "dlrun"
    rw [e0]
    refine ifn (fun h => absurd rfl h) (fun _ => ?_)
    walk_at "dlrun"
    cases hn : fgN z with
    | none =>
      rw [hn] at finE
      rw [show DL.isNon (oiD none) = true from rfl]
      walk_at "dlrun"
      exact ⟨rfl, by decide, finE rfl⟩
    | some n =>
      rw [hn] at finQ
      obtain ⟨n1, n2, _, _⟩ := fgN_some hn
      have nb := bz_12 n1
      rw [show DL.isNon (oiD (some n)) = false from rfl]
      walk_at "dlrun"
      rw [show DL.isNon (.int 1) = false from rfl]
      walk_at "dlrun"
      refine ⟨n, 1, rfl, ?_⟩
      rw [show isfr n 1 = true by unfold isfr; rw [decide_eq_true n1, show Int.gcd n 1 = 1 from Int.gcd_one_right _]; rfl]
      walk_at "dlrun"
      refine ⟨n, 1, rfl, by omega, by decide, ?_⟩
      rw [if_pos rfl, n2]
      walk_at "dlrun"
      refine ifn (fun h => absurd rfl h) (fun _ => ?_)
      walk_at "dlrun"
      exact finQ n 1 rfl
  · rw [hp] at finE finQ
    have hl : z.length = a.length + (b.length + 1) := by
      rw [show z.length = (cl z).length from Array.length_toList.symm, e, List.length_append, List.length_cons]
    walk_at "dlrun"
    refine ⟨SX.S a, rfl, by rw [SX.S_len]; omega, ?_⟩
    walk_at "dlrun"
    rw [e0]
    refine ifn (fun _ => ?_) (fun h => absurd h (by decide +kernel))
    walk_at "dlrun"
    refine ⟨SX.S b, rfl, by rw [SX.S_len]; omega, ?_⟩
    walk_at "dlrun"
    cases hn : fgN (SX.S a) with
    | none =>
      rw [show DL.isNon (oiD none) = true from rfl]
      walk_at "dlrun"
      exact ⟨rfl, by decide, finE (by simp only [hn])⟩
    | some n =>
    obtain ⟨n1, n2, _, _⟩ := fgN_some hn
    have nb := bz_12 n1
    rw [show DL.isNon (oiD (some n)) = false from rfl]
    walk_at "dlrun"
    cases hd : fgN (SX.S b) with
    | none =>
      rw [show DL.isNon (oiD none) = true from rfl]
      walk_at "dlrun"
      exact ⟨rfl, by decide, finE (by simp only [hn, hd])⟩
    | some d =>
    obtain ⟨d1, d2, _, _⟩ := fgN_some hd
    have db := bz_12 d1
    rw [show DL.isNon (oiD (some d)) = false from rfl]
    simp only [hn, hd] at finE finQ
    walk_at "dlrun"
    refine ⟨n, d, rfl, ?_⟩
    walk_at "dlrun"
    cases hf : isfr n d with
    | false =>
      walk_at "dlrun"
      refine ⟨rfl, by decide, finE (if_neg fun h => Bool.false_ne_true (hf.symm.trans ?_))⟩
      unfold isfr
      rw [decide_eq_true n1, decide_eq_true (show 0 < d by omega), decide_eq_true (show d < 10 ^ 12 by omega), decide_eq_true h.2]
      rfl
    | true =>
    have hf' : 0 < d ∧ Int.gcd n d = 1 := by
      unfold isfr at hf
      simp at hf
      exact ⟨hf.1.1.2, hf.2⟩
    walk_at "dlrun"
    refine ⟨n, d, rfl, by omega, by omega, ?_⟩
    walk_at "dlrun"
    refine ifn (fun hne => ?_) (fun heq => ?_)
    · walk_at "dlrun"
      refine ⟨rfl, by decide, finE (if_neg fun h => hne ?_)⟩
      rw [if_neg (by omega), n2, d2, hz2, e, e47, SX.S_cat, SX.S_cat]
      rfl
    · walk_at "dlrun"
      have hd1 : d ≠ 1 := fun h1 => by
        subst h1
        rw [if_pos rfl, n2, hz2, e] at heq
        have := congrArg List.length (SX.S_inj heq)
        rw [List.length_append, List.length_cons] at this
        omega
      exact finQ n d (if_pos ⟨by omega, hf'.2⟩)


theorem ok__law_figures {f : Addr} {fd : FuncData} (F : F__law_figures K f fd) (g_all : mg "all" = none) (g_len : mg "len" = none) (g_str : mg "str" = none) (g_int : mg "int" = none) : FnD P w K mg base Tb 1 f fd ["_law_text_z"] sp__law_figures := by
  refine fnD_of _ F sc__law_figures (by rintro ds M Q E ⟨z, rfl, _⟩; rfl) (fun cdv A outer s H EV hr => (ds_cons (dp_set 1 sc__law_figures.nd (dv_if (dt_eq hr.units (dv_slice (dv_var 0) do_none (do_some dv_int)) dv_str) (dv_slice (dv_var 0) (do_some dv_int) do_none) (dv_var 0)))
 (ds_cons (dp_if (dt_w (dw_or (dt_not (dt_chain op_le (ref_int0 (gD := fun i j => .bl (decide (i ≤ j))) fun _ _ _ _ _ => rfl) op_le (ref_int0 (gD := fun i j => .bl (decide (i ≤ j))) fun _ _ _ _ _ => rfl) dv_int (dv_callB call_len ref_len (by rfl) g_len PySem.boot_len (da_cons (dv_var 1) da_nil)) dv_int)) (dw_or1 (dt_not (dt_tru (dv_callB (cr_all rfl) ref_all (by rfl) g_all (by decide +kernel) (da_cons (dv_lc rfl sc__law_figures.nd (di_seq (dv_var 1)) (blkOk_by (own := [("_law_sign", 2)]) (N := ["_law_text_z", "_law_figures_here", "_law_sign"]) (sc := defScope s__law_figures) (by decide +kernel)) (tgn_name (i := 2) (by decide)) (fun _ _ _ _ _ => pg_name (i := 2) sc__law_figures.nd rfl (by first | exact Or.inl rfl | exact Or.inr rfl)) (fun _ _ _ _ _ => dts_nil) (fun _ _ _ _ _ => (dv_in (dv_var 2) dv_str))) da_nil))))))) (ds_one (dp_ret dv_non)) ds_nil)
 (ds_one (dp_ret (dv_if (dt_eq hr.units (dv_callTy call_str_int ref_str (by rfl) g_str (by decide +kernel) (da_cons (dv_callTy (call_int1.or call_int_str) ref_int1 (by rfl) g_int (by decide +kernel) (da_cons (dv_var 0) da_nil)) da_nil)) (dv_var 0)) (dv_callTy (call_int1.or call_int_str) ref_int1 (by rfl) g_int (by decide +kernel) (da_cons (dv_var 0) da_nil)) dv_non)))))) ?_
  rintro ds M Q E hM hD ⟨z, rfl, hz, hQ⟩
  have zl : sizeLine = 16777216 := rfl
  have hlen : z.length = (cl z).length := Array.length_toList.symm
  with_reducible refine e_cut (fun rho M' => rho = [some (.str z), some (.str (SX.S (figs (cl z)))), none] ∧ M' = M) ?_ ?_
  rotate_left
  · intro N hN
    have c1 : cutS z none (some 1) = SX.S ((cl z).take 1) := by
      rw [C8.cutS_slice]; conv => lhs; rw [← SX.S_tl z]
      exact SX.slice_to (by decide)
    have c2 : cutS z (some 1) none = SX.S ((cl z).drop 1) := by
      rw [C8.cutS_slice]; conv => lhs; rw [← SX.S_tl z]
      exact SX.slice_from (by decide)
    have e45 : (Str.ofString "-") = SX.S [45] := by decide +kernel
    walk_at "dlrun"
    refine e_sls (by omega) ?_
    rw [c1, e45]
    walk_at "dlrun"
    unfold figs at hN
    refine ifd (fun h => ?_) (fun h => ?_)
    · have h := SX.S_inj h
      rw [if_pos h] at hN
      walk_at "dlrun"
      refine e_sls (by omega) ?_
      rw [c2]
      exact hN _ _ ⟨rfl, rfl⟩
    · rw [if_neg (fun e => h (by rw [e]))] at hN
      walk_at "dlrun"
      have := hN _ _ ⟨rfl, rfl⟩
      rw [SX.S_tl] at this
      exact this
  rintro rho M1 ⟨rfl, rfl⟩
  have hfl : (figs (cl z)).length ≤ 9000 := by
    unfold figs
    split
    · rw [List.length_drop]; omega
    · omega
  have sl : (SX.S (figs (cl z))).length = (figs (cl z)).length := SX.S_len _
  have fin : ∀ k, fgN z = k → Cut M1.length Q (oiD k) M1 := fun k e => Cut.same (by cases k <;> rfl) hM (e ▸ hQ)
  unfold fgN figB at fin
  walk_at "dlrun"
  refine e_lenS (by omega) ?_
  walk_at "dlrun"
  rw [sl]
  refine ifd (fun h1 => ?_) (fun h1 => ?_)
  rotate_left
  · walk_at "dlrun"
    exact fin none (by rw [decide_eq_false h1]; rfl)
  walk_at "dlrun"
  refine ifn (fun h2 => ?_) (fun h2 => ?_)
  · walk_at "dlrun"
    exact fin none (by rw [decide_eq_true h1, decide_eq_false h2]; rfl)
  walk_at "dlrun"
  refine lc_map (fun c => D.str ⟨#[c]⟩) (fun c => D.bl (decide (c ∈ cl dg9))) (figs (cl z)) (by omega) ?_ ?_
  · intro c _ N hN
    walk_at "dlrun"
    exact hN
  refine e_allM ?_
  rw [decide_eq_true h1, decide_eq_true h2] at fin
  cases ha : ((figs (cl z)).map fun c => decide (c ∈ cl dg9)).all _root_.id with
  | false =>
    walk_at "dlrun"
    exact fin none (by rw [ha]; rfl)
  | true =>
    have hb : figB (cl z) = true := by unfold figB; rw [decide_eq_true h1, decide_eq_true h2, ha]; rfl
    obtain ⟨n, n1, n2, n3, _⟩ := fig_num hb
    have hn := bz_12 n2
    rw [ha, n1] at fin
    walk_at "dlrun"
    refine e_itx n1 (by omega) ?_
    walk_at "dlrun"
    refine e_str (lg_of (by omega)) ?_
    walk_at "dlrun"
    refine ifd (fun h => ?_) (fun h => ?_)
    · walk_at "dlrun"
      refine e_itx n1 (by omega) ?_
      exact fin (some n) (by show (if itx n = z then some n else none) = some n; exact if_pos h)
    · walk_at "dlrun"
      exact fin none (by show (if itx n = z then some n else none) = none; exact if_neg h)


theorem ok__law_read {f : Addr} {fd : FuncData} (F : F__law_read K f fd) (C__law_figures : Cal__law_figures P w K mg base Tb) (C__law_lowest : Cal__law_lowest P w K mg base Tb) (g_len : mg "len" = none) : FnD P w K mg base Tb 2 f fd ["_law_text_z"] sp__law_read := by
  refine fnD_of _ F sc__law_read (by rintro ds M Q E ⟨z, rfl, _⟩; rfl) (fun cdv A outer s H EV hr => (ds_cons (dp_set 1 sc__law_read.nd (dv_bm PySem.F.plainAttrs_str PySem.F.slot_str_split PySem.F.type_str_split mt_split ref_split (dv_var 0) (da_cons dv_str da_nil)))
 (ds_cons (dp_setLc 2 rfl sc__law_read.nd (di_seq (dv_var 1)) (blkOk_by (own := [("_law_part", 3)]) (N := ["_law_text_z", "_law_parts", "_law_numbers", "_law_part"]) (sc := defScope s__law_read) (by decide +kernel)) (tgn_name (i := 3) (by decide)) (fun _ _ _ _ _ => pg_name (i := 3) sc__law_read.nd rfl (by first | exact Or.inl rfl | exact Or.inr rfl)) (fun _ _ _ _ _ => dts_nil) (fun _ _ _ _ _ => (dv_call C__law_figures.fn (hr.mono (by decide)) (by rfl) C__law_figures.mgx C__law_figures.F.kp (bd__law_figures C__law_figures.F) passL (da_cons (dv_var 3) da_nil))) (sw_true rfl rfl rfl (by decide +kernel)))
 (ds_cons (dp_if (dt_w (dw_or (dt_gt (dv_callB call_len ref_len (by rfl) g_len PySem.boot_len (da_cons (dv_var 1) da_nil)) dv_int) (dw_or1 (dt_in dv_non (dv_var 2))))) (ds_one (dp_ret dv_non)) ds_nil)
 (ds_cons (dp_if (dt_eq hr.units (dv_callB call_len ref_len (by rfl) g_len PySem.boot_len (da_cons (dv_var 1) da_nil)) dv_int) (ds_one (dp_ret (dv_tup (da_cons (dv_ix (dv_var 2) dv_int) (da_cons dv_int da_nil))))) ds_nil)
 (ds_one (dp_ret (dv_if (dt_w (dw_and (dt_gt (dv_ix (dv_var 2) dv_int) dv_int) (dw_and1 (dt_eq hr.units (dv_ix (dv_call C__law_lowest.fn (hr.mono (by decide)) (by rfl) C__law_lowest.mgx C__law_lowest.F.kp (bd__law_lowest C__law_lowest.F) hxF (da_cons (dv_ix (dv_var 2) dv_int) (da_cons (dv_ix (dv_var 2) dv_int) da_nil))) dv_int) (dv_ix (dv_var 2) dv_int))))) (dv_tup (da_cons (dv_ix (dv_var 2) dv_int) (da_cons (dv_ix (dv_var 2) dv_int) da_nil))) dv_non)))))))) ?_
  rintro ds M Q E hM hD ⟨z, rfl, hz, hQ⟩
  have zl : sizeLine = 16777216 := rfl
  have e47 : (Str.ofString "/") = SX.S [47] := by decide +kernel
  have fin : ∀ k, pfN z = k → Cut M.length Q (pfD k) M := fun k e => Cut.same (by cases k <;> rfl) hM (e ▸ hQ)
  unfold pfN at fin
  have hz2 : z = SX.S (cl z) := (SX.S_tl z).symm
  have hsp : Txt.split z (SX.S [47]) = (TL.spl [47] 0 [] (cl z)).map SX.S := by
    have := SX.split_S (a := cl z) (b := [47]) (by decide) (by decide)
    rw [SX.S_tl] at this
    exact this
  have hpl := split_le z (SX.S [47])
  rw [hsp, List.length_map] at hpl
  have hsub : ∀ p ∈ TL.spl [47] 0 [] (cl z), p.length ≤ z.length := fun p hp => Nat.le_trans (spl_sub _ _ (Nat.le_refl _) p hp) (Nat.le_of_eq Array.length_toList)
  with_reducible refine e_cut (fun rho M' => M' = M ∧ rho = [some (.str z), some (.lst ((TL.spl [47] 0 [] (cl z)).map fun p => D.str (SX.S p))), none, none]) ?_ ?_
  rotate_left
  · intro N hN
    walk_at "dlrun"
    refine ⟨by decide +kernel, by omega, ?_⟩
    rw [e47, hsp, List.map_map]
    walk_at "dlrun"
    exact hN _ _ ⟨rfl, rfl⟩
  rintro rho M1 ⟨rfl, rfl⟩
  with_reducible refine e_cut (fun rho M' => M' = M1 ∧ rho = [some (.str z), some (.lst ((TL.spl [47] 0 [] (cl z)).map fun p => D.str (SX.S p))), some (.lst ((TL.spl [47] 0 [] (cl z)).map fun p => oiD (fgN (SX.S p)))), none]) ?_ ?_
  rotate_left
  · intro N hN
    walk_at "dlrun"
    refine lc_map (fun p => D.str (SX.S p)) (fun p => oiD (fgN (SX.S p))) (TL.spl [47] 0 [] (cl z)) (by omega) ?_ ?_
    · intro p hp _ hN
      walk_at "dlrun"
      refine ⟨SX.S p, rfl, by rw [SX.S_len]; have := hsub p hp; omega, hN⟩
    · walk_at "dlrun"
      exact hN _ _ ⟨rfl, rfl⟩
  rintro rho M1 ⟨rfl, rfl⟩
  rcases spl_three (cl z) with ⟨hf, hp, hs⟩ | ⟨a, b, hp, hs⟩ | ⟨a, b, hp, hs, hb⟩
  · rw [hs]
    rw [hp] at fin
    simp only [List.map_cons, List.map_nil, SX.S_tl]
    walk_at "dlrun"
    refine ifd (fun h => absurd h (by show ¬ (2 : Int) < 1; decide)) (fun _ => ?_)
    walk_at "dlrun"
    cases hn : fgN z with
    | none =>
      rw [hn] at fin
      refine e_inn (vs := [.non]) rfl ?_
      rw [show L2.inV .non [.non] = true from rfl]
      walk_at "dlrun"
      exact fin none rfl
    | some n =>
      rw [hn] at fin
      refine e_inn (vs := [.int n]) rfl ?_
      rw [show L2.inV .non [.int n] = false from rfl]
      walk_at "dlrun"
      refine ifd (fun _ => ?_) (fun h => absurd rfl h)
      walk_at "dlrun"
      exact fin (some (n, 1)) rfl
  · rw [hs]
    rw [hp] at fin
    simp only [List.map_cons, List.map_nil]
    walk_at "dlrun"
    refine ifd (fun h => absurd h (by show ¬ (2 : Int) < 2; decide)) (fun _ => ?_)
    walk_at "dlrun"
    cases hn : fgN (SX.S a) with
    | none =>
      simp only [hn] at fin
      cases hd : fgN (SX.S b) with
      | none =>
        refine e_inn (vs := [.non, .non]) rfl ?_
        rw [show L2.inV .non [.non, .non] = true from rfl]
        walk_at "dlrun"
        exact fin none rfl
      | some d =>
        refine e_inn (vs := [.non, .int d]) rfl ?_
        rw [show L2.inV .non [.non, .int d] = true from rfl]
        walk_at "dlrun"
        exact fin none rfl
    | some n =>
    cases hd : fgN (SX.S b) with
    | none =>
      simp only [hn, hd] at fin
      refine e_inn (vs := [.int n, .non]) rfl ?_
      rw [show L2.inV .non [.int n, .non] = true from rfl]
      walk_at "dlrun"
      exact fin none rfl
    | some d =>
    simp only [hn, hd] at fin
    have db := bz_12 (fgN_some hd).1
    refine e_inn (vs := [.int n, .int d]) rfl ?_
    rw [show L2.inV .non [.int n, .int d] = false from rfl]
    walk_at "dlrun"
    refine ifd (fun h => absurd h (by show ¬ (2 : Int) = 1; decide)) (fun _ => ?_)
    walk_at "dlrun"
    refine ifd (fun h1 => ?_) (fun h1 => fin none (if_neg fun h => h1 h.1))
    walk_at "dlrun"
    refine ⟨n, d, rfl, by omega, by omega, ?_⟩
    walk_at "dlrun"
    refine ifd (fun h => ?_) (fun h => ?_)
    · walk_at "dlrun"
      exact fin (some (n, d)) (if_pos ⟨h1, (den_gcd h1).mp h⟩)
    · walk_at "dlrun"
      exact fin none (if_neg fun z => h ((den_gcd h1).mpr z.2))
  · rw [hp] at fin
    have hn : fgN (SX.S b) = none := by
      cases h : fgN (SX.S b) with
      | none => rfl
      | some n => exact absurd hb (fgN_some h).2.2.1
    generalize hps : TL.spl [47] 0 [] (cl z) = ps at hs
    walk_at "dlrun"
    refine ifd (fun _ => ?_) (fun h => absurd (by rw [List.length_map]; omega) h)
    walk_at "dlrun"
    refine fin none ?_
    cases hh : fgN (SX.S a) <;> simp only [hh, hn]


theorem ok_law {f : Addr} {fd : FuncData} (F : F_law K f fd) (C__law_begin : Cal__law_begin P w K mg base Tb) (C__law_amount : Cal__law_amount P w K mg base Tb) (C__law_same : Cal__law_same P w K mg base Tb) (C_parse_fraction : Cal_parse_fraction P w K mg base Tb) (C_fraction_text : Cal_fraction_text P w K mg base Tb) (C__law_draw : Cal__law_draw P w K mg base Tb) (C__law_pick : Cal__law_pick P w K mg base Tb) (C__law_read : Cal__law_read P w K mg base Tb) (g_range : mg "range" = none) (g_str : mg "str" = none) (g_len : mg "len" = none) (LD : LamD base mg Tb fd "law" (defScope s_law)) (B_told : ToldB P w K mg base Tb s__law_told 1 (sp__law_fields K)) (Z_InvalidText : XFa K "InvalidText" []) : FnD P w K mg base Tb 11 f fd ["_law_script"] sp_law := by
  refine fnD_ofL _ F sc_law (by rintro ds M Q E ⟨ns, _, rfl, _⟩; rfl) (fun cdv A outer s H EV hcv hr => (ds_cons (dp_set 1 sc_law.nd (dv_call C__law_begin.fn (hr.mono (by decide)) (by rfl) C__law_begin.mgx C__law_begin.F.kp (bd__law_begin C__law_begin.F) hxF (da_cons (dv_var 0) da_nil)))
 (ds_cons (dp_for PassesOwn.leaving rfl (di_range1 (by rfl) g_range (da_cons dv_int da_nil)) (dg_name 2 sc_law.nd) (ds_cons (dp_set 3 sc_law.nd (dv_call C__law_amount.fn (hr.mono (by decide)) (by rfl) C__law_amount.mgx C__law_amount.F.kp (bd__law_amount C__law_amount.F) hxF (da_cons (dv_var 1) da_nil)))
 (ds_cons (dp_set 4 sc_law.nd (dv_add (dv_callTy call_str_int ref_str (by rfl) g_str (by decide +kernel) (da_cons (dv_ix (dv_var 3) dv_int) da_nil)) (dv_if (dt_ne hr.units (dv_ix (dv_var 3) dv_int) dv_int) (dv_add dv_str (dv_callTy call_str_int ref_str (by rfl) g_str (by decide +kernel) (da_cons (dv_ix (dv_var 3) dv_int) da_nil))) dv_str)))
 (ds_cons (dp_if (dt_not (dt_tru (dv_call C__law_same.fn (hr.mono (by decide)) (by rfl) C__law_same.mgx C__law_same.F.kp (bd__law_same C__law_same.F) hxF (da_cons (dv_lst (da_cons (dv_call C_fraction_text.fn (hr.mono (by decide)) (by rfl) C_fraction_text.mgx C_fraction_text.F.kp (bd_fraction_text C_fraction_text.F) hxF (da_cons (dv_var 3) da_nil)) (da_cons (dv_callK0 C_parse_fraction.fn (hr.mono (by decide)) (by rfl) C_parse_fraction.mgx C_parse_fraction.F.kp (kb_parse_fraction_0_text C_parse_fraction.F) CsD.nil hxF (dk_cons (dv_var 4) dk_nil)) da_nil))) (da_cons (dv_lst (da_cons (dv_var 4) (da_cons (dv_var 3) da_nil))) da_nil))))) (ds_one (dp_ret dv_bl)) ds_nil)
 (ds_cons (dp_for PassesOwn.leaving rfl (di_range1 (by rfl) g_range (da_cons (dv_call C__law_draw.fn (hr.mono (by decide)) (by rfl) C__law_draw.mgx C__law_draw.F.kp (bd__law_draw C__law_draw.F) hxF (da_cons (dv_var 1) (da_cons dv_int da_nil))) da_nil)) (dg_name 5 sc_law.nd) (ds_cons (dp_set 6 sc_law.nd (dv_call C__law_draw.fn (hr.mono (by decide)) (by rfl) C__law_draw.mgx C__law_draw.F.kp (bd__law_draw C__law_draw.F) hxF (da_cons (dv_var 1) (da_cons (dv_add (dv_callB call_len ref_len (by rfl) g_len PySem.boot_len (da_cons (dv_var 4) da_nil)) dv_int) da_nil))))
 (ds_cons (dp_set 7 sc_law.nd (dv_call C__law_pick.fn (hr.mono (by decide)) (by rfl) C__law_pick.mgx C__law_pick.F.kp (bd__law_pick C__law_pick.F) hxF (da_cons (dv_var 1) (da_cons (dv_lst (da_cons dv_str (da_cons dv_str (da_cons dv_str (da_cons dv_str (da_cons dv_str (da_cons dv_str (da_cons dv_str (da_cons dv_str (da_cons dv_str (da_cons dv_str (da_cons dv_str da_nil)))))))))))) da_nil))))
 (ds_one (dp_set 4 sc_law.nd (dv_add (dv_add (dv_slice (dv_var 4) do_none (do_some (dv_var 6))) (dv_var 7)) (dv_slice (dv_var 4) (do_some (dv_add (dv_var 6) (dv_call C__law_draw.fn (hr.mono (by decide)) (by rfl) C__law_draw.mgx C__law_draw.F.kp (bd__law_draw C__law_draw.F) hxF (da_cons (dv_var 1) (da_cons dv_int da_nil))))) do_none)))))))
 (ds_cons (dp_set 4 sc_law.nd (dv_call C__law_pick.fn (hr.mono (by decide)) (by rfl) C__law_pick.mgx C__law_pick.F.kp (bd__law_pick C__law_pick.F) hxF (da_cons (dv_var 1) (da_cons (dv_lst (da_cons (dv_var 4) (da_cons (dv_var 4) (da_cons (dv_var 4) (da_cons dv_str (da_cons dv_str (da_cons dv_str (da_cons dv_str (da_cons dv_str (da_cons dv_str (da_cons dv_str (da_cons dv_str (da_cons dv_str (da_cons dv_str da_nil)))))))))))))) da_nil))))
 (ds_cons (dp_set 8 sc_law.nd (dv_if (dt_is (dv_call C__law_read.fn (hr.mono (by decide)) (by rfl) C__law_read.mgx C__law_read.F.kp (bd__law_read C__law_read.F) hxF (da_cons (dv_var 4) da_nil)) dv_non) (dv_tup (da_cons dv_str (da_cons dv_str da_nil))) (dv_tup (da_cons dv_str (da_cons (dv_call C__law_read.fn (hr.mono (by decide)) (by rfl) C__law_read.mgx C__law_read.F.kp (bd__law_read C__law_read.F) hxF (da_cons (dv_var 4) da_nil)) da_nil)))))
 (ds_one (dp_if (dt_not (dt_tru (dv_call C__law_same.fn (hr.mono (by decide)) (by rfl) C__law_same.mgx C__law_same.F.kp (bd__law_same C__law_same.F) hxF (da_cons (dv_lam (k := 3) B_told.F (by rfl) B_told.mgx (bd__law_told B_told.F) sc__law_told rfl (.inl rfl) (fun _ => DL.told_gives K rfl rfl (.inl rfl) rfl rfl rfl rfl B_told.m1 B_told.m2 B_told.m3 B_told.mF B_told.FF B_told.kpF B_told.bF (hr.mono (by decide))) LD.TB (hcv.symm.trans LD.hco) LD.hmT LD.hu (hr.mono (by decide)) (LamX.lamS_by (sc := defScope s_law) (by decide +kernel)) rfl (fun _ _ _ _ _ => rfl) (fun _ _ _ _ _ _ _ hr1 hx1 => (dv_call C_parse_fraction.fn (hr1.mono (by decide)) (by rfl) C_parse_fraction.mgx C_parse_fraction.F.kp (bd_parse_fraction C_parse_fraction.F) hx1 (da_cons (dv_var 4) da_nil)))) (da_cons (dv_var 8) da_nil))))) (ds_one (dp_ret dv_bl)) ds_nil)))))))))
 (ds_cons (dp_set 9 sc_law.nd (dv_repS dv_str dv_int))
 (ds_cons (dp_for PassesOwn.leaving rfl (di_seq (dv_tup (da_cons dv_str (da_cons dv_str (da_cons (dv_var 9) (da_cons (dv_add dv_str (dv_var 9)) (da_cons (dv_add dv_str (dv_var 9)) (da_cons (dv_add (dv_var 9) dv_str) (da_cons dv_str da_nil))))))))) (dg_name 4 sc_law.nd) (ds_one (dp_if (dt_ne hr.units (dv_lam (k := 3) B_told.F (by rfl) B_told.mgx (bd__law_told B_told.F) sc__law_told rfl (.inl rfl) (fun _ => DL.told_gives K rfl rfl (.inl rfl) rfl rfl rfl rfl B_told.m1 B_told.m2 B_told.m3 B_told.mF B_told.FF B_told.kpF B_told.bF (hr.mono (by decide))) LD.TB (hcv.symm.trans LD.hco) LD.hmT LD.hu (hr.mono (by decide)) (LamX.lamS_by (sc := defScope s_law) (by decide +kernel)) rfl (fun _ _ _ _ _ => rfl) (fun _ _ _ _ _ _ _ hr1 hx1 => (dv_call C_parse_fraction.fn (hr1.mono (by decide)) (by rfl) C_parse_fraction.mgx C_parse_fraction.F.kp (bd_parse_fraction C_parse_fraction.F) hx1 (da_cons (dv_var 4) da_nil)))) (dv_tup (da_cons dv_str (da_cons dv_str da_nil)))) (ds_one (dp_ret dv_bl)) ds_nil)))
 (ds_one (dp_ret (dv_eq hr.units (dv_call C_parse_fraction.fn (hr.mono (by decide)) (by rfl) C_parse_fraction.mgx C_parse_fraction.F.kp (bd_parse_fraction C_parse_fraction.F) hxF (da_cons dv_str da_nil)) (dv_tup (da_cons (dv_neg dv_int) (da_cons dv_int da_nil))))))))))) ?_
  rintro ds M Q E hM hD ⟨ns, hns, rfl, hQ⟩
  have zl : sizeLine = 16777216 := rfl
  refine e_cut (fun rho M' => rho = [some (.rol (ns.map D.int)), some (.mt M.length), none, none, none, none, none, none, none, none] ∧ Rg1 M M') ?_ ?_
  rotate_left
  · intro N hN
    walk_at "dlrun"
    exact ⟨ns, rfl, fun r ok => hN _ _ ⟨rfl, r, ok, rfl⟩⟩
  rintro rho M1 ⟨rfl, g1⟩
  with_reducible refine e_cut (fun rho M' => Rg1 M M' ∧ ∃ c2 c3 c4 c5 c6 c7 c8 c9, rho = [some (.rol (ns.map D.int)), some (.mt M.length), c2, c3, c4, c5, c6, c7, c8, c9]) ?_ ?_
  · rintro rho M2 ⟨g2, c2, c3, c4, c5, c6, c7, c8, c9, rfl⟩
    have hL : cl (Txt.mul (Str.ofString "9") 5000) = List.replicate 5000 57 := by
      rw [show (Str.ofString "9") = (⟨#[57]⟩ : Str) by decide +kernel]
      exact mul_one (by decide)
    have n9 : 47 ∉ List.replicate 5000 57 := by simp
    have l9 : (List.replicate 5000 57).length = 5000 := List.length_replicate
    with_reducible refine e_cut (fun rho M' => M' = M2 ∧ rho = [some (.rol (ns.map D.int)), some (.mt M.length), c2, c3, c4, c5, c6, c7, c8, some (.str (Txt.mul (Str.ofString "9") 5000))]) ?_ ?_
    rotate_left
    · intro N hN
      walk_at "dlrun"
      refine ⟨⟨by decide, by decide, by decide +kernel⟩, ?_⟩
      walk_at "dlrun"
      exact hN _ _ ⟨rfl, rfl⟩
    rintro rho M3 ⟨rfl, rfl⟩
    generalize Txt.mul (Str.ofString "9") 5000 = L at hL
    have lL : L.length = 5000 := by rw [show L.length = (cl L).length from Array.length_toList.symm, hL, l9]
    walk_at "dlrun"
    have a1 : (Str.ofString "-").length = 1 := by decide +kernel
    have a2 : (Str.ofString "1/").length = 2 := by decide +kernel
    have a3 : (Str.ofString "/2").length = 2 := by decide +kernel
    refine e_adds (by omega) ?_
    walk_at "dlrun"
    refine e_adds (by omega) ?_
    walk_at "dlrun"
    refine e_adds (by omega) ?_
    walk_at "dlrun"
    have nL : 47 ∉ cl L := by rw [hL]; exact n9
    have p1 : pfN L = none := pf_long nL (by omega)
    have p2 : pfN (Str.ofString "-" ++ L) = none := pf_long (by rw [show cl (Str.ofString "-" ++ L) = _ from TL.tl_append _ _]; simp only [List.mem_append]; exact fun h => h.elim (by decide +kernel) nL) (by rw [str_len]; omega)
    have p3 : pfN (Str.ofString "1/" ++ L) = none := pf_long2 (a := [49]) (b := cl L) (by rw [show cl (Str.ofString "1/" ++ L) = _ from TL.tl_append _ _]; rfl) (by decide) (.inr (by rw [hL, l9]; decide))
    have p4 : pfN (L ++ Str.ofString "/2") = none := pf_long2 (a := cl L) (b := [50]) (by rw [show cl (L ++ Str.ofString "/2") = _ from TL.tl_append _ _]; rfl) nL (.inl (by rw [hL, l9]; decide))
    have p5 : pfN (Str.ofString "7\n") = none := by decide +kernel
    have p6 : pfN (Str.ofString "1_0") = none := by decide +kernel
    have p7 : pfN (Str.ofString "1/2\n") = none := by decide +kernel
    have p8 : pfN (Str.ofString "-999999999999/2") = some (-999999999999, 2) := by decide +kernel
    refine for_list D.str [Str.ofString "7\n", Str.ofString "1_0", L, Str.ofString "-" ++ L, Str.ofString "1/" ++ L, L ++ Str.ofString "/2", Str.ofString "1/2\n"] (fun r rho M' => Rg1 M M' ∧ (∀ c ∈ r, c.length ≤ 9000 ∧ pfN c = none) ∧ ∃ c2 c3 c4 c5 c6 c7 c8 c9, rho = [some (.rol (ns.map D.int)), some (.mt M.length), c2, c3, c4, c5, c6, c7, c8, c9]) ⟨g2, ?_, _, _, _, _, _, _, _, _, rfl⟩ ?_ ?_
    · intro c hc
      simp only [List.mem_cons, List.not_mem_nil, or_false] at hc
      rcases hc with rfl | rfl | rfl | rfl | rfl | rfl | rfl
      · exact ⟨by decide +kernel, p5⟩
      · exact ⟨by decide +kernel, p6⟩
      · exact ⟨by omega, p1⟩
      · exact ⟨by rw [str_len]; omega, p2⟩
      · exact ⟨by rw [str_len]; omega, p3⟩
      · exact ⟨by rw [str_len]; omega, p4⟩
      · exact ⟨by decide +kernel, p7⟩
    · rintro c r rho M5 N ⟨g5, hc, c2, c3, c4, c5, c6, c7, c8, c9, rfl⟩ hN
      have h1 := hc c (List.mem_cons_self ..)
      walk_at "dlrun"
      refine ⟨c, rfl, h1.1, ?_⟩
      rw [h1.2]
      refine toldX_0 Z_InvalidText xf_it ?_
      walk_at "dlrun"
      refine e_neP (by decide +kernel) (by decide +kernel) (Nat.le_of_ble_eq_true rfl) (Nat.le_of_ble_eq_true rfl) ?_
      rw [pyEq_refl (by decide +kernel)]
      walk_at "dlrun"
      exact hN _ _ ⟨g5, fun d hd => hc d (List.mem_cons_of_mem _ hd), _, _, _, _, _, _, _, _, rfl⟩
    · rintro rho M5 ⟨g5, _, c2, c3, c4, c5, c6, c7, c8, c9, rfl⟩
      walk_at "dlrun"
      refine ⟨Str.ofString "-999999999999/2", rfl, by decide +kernel, ?_⟩
      rw [p8]
      walk_at "dlrun"
      refine e_eqP rfl rfl (Nat.le_of_ble_eq_true rfl) (Nat.le_of_ble_eq_true rfl) ?_
      rw [pyEq_refl rfl]
      obtain ⟨r5, ok5, rfl⟩ := g5
      exact Cut.app rfl hM hQ
  · intro N hN
    walk_at "dlrun"
    refine ⟨⟨by decide, by decide⟩, ?_⟩
    refine for_range (fun j rho M' => Rg1 M M' ∧ ∃ c2 c3 c4 c5 c6 c7 c8 c9, rho = [some (.rol (ns.map D.int)), some (.mt M.length), c2, c3, c4, c5, c6, c7, c8, c9]) ⟨g1, _, _, _, _, _, _, _, _, rfl⟩ ?_ ?_
    · rintro j rho M2 N2 hj ⟨g2, c2, c3, c4, c5, c6, c7, c8, c9, rfl⟩ hN2
      obtain ⟨r2, ok2, rfl⟩ := g2
      with_reducible refine e_name ?_
      with_reducible refine e_seq ?_
      walk_at "dlrun1"
      refine ⟨_, rfl, .last ok2, fun q M3 t3 hq q1 q2 => ?_⟩
      have g3 := t3.last
      walk_at "dlrun1"
      with_reducible refine e_cut (fun rho M' => M' = M3 ∧ rho = [some (.rol (ns.map D.int)), some (.mt M.length), some (.int j), some (qD q), some (.str (qtx q)), c5, c6, c7, c8, c9]) ?_ ?_
      rotate_left
      · intro N3 hN3
        have hh : N3 [some (.rol (ns.map D.int)), some (.mt M.length), some (.int j), some (qD q), some (.str (qtx q)), c5, c6, c7, c8, c9] M3 := hN3 _ _ ⟨rfl, rfl⟩
        have h1 : bz q.num ≤ 1900 := Nat.le_trans (qs_num q) (by omega)
        have h2 : bz (q.den : Int) ≤ 1900 := Nat.le_trans (qs_den' q) (by omega)
        have l1 := itx_len h1
        have l2 := itx_len h2
        have e1 : (Str.ofString "/").length = 1 := by decide +kernel
        walk_at "dlrun"
        refine e_str (lg_of h1) ?_
        walk_at "dlrun"
        unfold qtx at hh
        refine ifn (fun h => ?_) (fun h => ?_)
        · rw [if_neg (by omega)] at hh
          walk_at "dlrun"
          refine e_str (lg_of h2) ?_
          walk_at "dlrun"
          refine e_adds (by omega) ?_
          walk_at "dlrun"
          refine e_adds (by rw [str_len]; omega) ?_
          exact hh
        · rw [if_pos (by omega)] at hh
          walk_at "dlrun"
          refine e_adds (by rw [show (Str.ofString "").length = 0 from rfl]; omega) ?_
          rw [str_nil2]
          exact hh
      rintro rho M4 ⟨rfl, rfl⟩
      have lq : (qtx q).length ≤ 4000 := qtx_len (by omega)
      have pq := pf_qtx q1 q2
      with_reducible refine e_cut (fun rho M' => Rg1 M M' ∧ rho = [some (.rol (ns.map D.int)), some (.mt M.length), some (.int j), some (qD q), some (.str (qtx q)), c5, c6, c7, c8, c9]) ?_ ?_
      rotate_left
      · intro N3 hN3
        walk_at "dlrun"
        have h1 : bz q.num ≤ 1900 := Nat.le_trans (qs_num q) (by omega)
        have h2 : bz (q.den : Int) ≤ 1900 := Nat.le_trans (qs_den' q) (by omega)
        refine ⟨q.num, q.den, rfl, h1, h2, ?_⟩
        rw [show (if (q.den : Int) = 1 then itx q.num else itx q.num ++ (Str.ofString "/" ++ itx (q.den : Int))) = qtx q by
          unfold qtx
          by_cases hd : q.den = 1
          · rw [if_pos hd, if_pos (by omega)]
          · rw [if_neg hd, if_neg (by omega)]]
        walk_at "dlrun"
        refine ⟨rfl, rfl, qtx q, rfl, by omega, ?_⟩
        rw [pq]
        walk_at "dlrun"
        refine ⟨_, _, rfl, rfl, rfl, Nat.le_of_ble_eq_true rfl, ?_⟩
        rw [show smD (.lst [.str (qtx q), .tup [.int q.num, .int q.den]]) (.lst [.str (qtx q), qD q]) = true from smD_refl rfl]
        walk_at "dlrun"
        exact hN3 _ _ ⟨g3, rfl⟩
      clear pq
      rintro rho M5 ⟨g5, rfl⟩
      generalize qtx q = z at lq
      with_reducible refine e_cut (fun rho M' => Rg1 M M' ∧ ∃ c5 c6 c7, ∃ z : Str, z.length ≤ 4100 ∧ rho = [some (.rol (ns.map D.int)), some (.mt M.length), some (.int j), some (qD q), some (.str z), c5, c6, c7, c8, c9]) ?_ ?_
      rotate_left
      · intro N3 hN3
        walk_at "dlrun"
        refine draw_last g5 (by decide) (by decide) fun k M6 g6 k0 k1 => ?_
        walk_at "dlrun"
        refine ⟨⟨by omega, by omega⟩, ?_⟩
        refine for_range (fun i rho M' => Rg1 M M' ∧ i ≤ 3 ∧ ∃ c5 c6 c7, ∃ z : Str, z.length ≤ 4000 + 12 * i ∧ rho = [some (.rol (ns.map D.int)), some (.mt M.length), some (.int j), some (qD q), some (.str z), c5, c6, c7, c8, c9]) ⟨g6, by omega, _, _, _, z, by omega, rfl⟩ ?_ ?_
        · rintro i rho M7 N4 hi ⟨g7, hi3, c5, c6, c7, z, lz, rfl⟩ hN4
          walk_at "dlrun"
          refine e_lenS (by omega) ?_
          walk_at "dlrun"
          refine draw_last g7 (by omega) (by omega) fun a M8 g8 a0 a1 => ?_
          walk_at "dlrun"
          refine pick_last g8 (.inl fun _ => rfl) (by intro h; cases h) (by show 11 ≤ sizeLine; decide) fun d M9 g9 hd => ?_
          obtain ⟨s, rfl, hs⟩ : ∃ s : Str, d = .str s ∧ s.length ≤ 12 := by
            simp only [List.mem_cons, List.not_mem_nil, or_false] at hd
            rcases hd with rfl | rfl | rfl | rfl | rfl | rfl | rfl | rfl | rfl | rfl | rfl <;> exact ⟨_, rfl, by decide +kernel⟩
          have hzl : z.length = (cl z).length := Array.length_toList.symm
          have k1 : cutS z none (some a) = SX.S ((cl z).take a.toNat) := by
            rw [C8.cutS_slice]; conv => lhs; rw [← SX.S_tl z]
            exact SX.slice_to a0
          have m1 : (SX.S ((cl z).take a.toNat)).length ≤ a.toNat := by rw [SX.S_len, List.length_take]; omega
          walk_at "dlrun"
          refine e_sls (by omega) ?_
          rw [k1]
          walk_at "dlrun"
          refine e_adds (by omega) ?_
          walk_at "dlrun"
          refine draw_last g9 (by decide) (by decide) fun b M10 g10 b0 b1 => ?_
          have k2 : cutS z (some (a + b)) none = SX.S ((cl z).drop (a + b).toNat) := by
            rw [C8.cutS_slice]; conv => lhs; rw [← SX.S_tl z]
            exact SX.slice_from (by omega)
          have m2 : (SX.S ((cl z).drop (a + b).toNat)).length + (a + b).toNat ≤ z.length + 1 := by rw [SX.S_len, List.length_drop]; omega
          have m3 : (SX.S ((cl z).drop (a + b).toNat)).length + a.toNat ≤ z.length := by rw [SX.S_len, List.length_drop]; omega
          walk_at "dlrun"
          refine e_sls (by omega) ?_
          rw [k2]
          walk_at "dlrun"
          refine e_adds (by rw [str_len]; omega) ?_
          exact hN4 _ _ ⟨g10, by omega, _, _, _, _, by rw [str_len, str_len]; omega, rfl⟩
        · rintro rho M7 ⟨g7, hi3, c5, c6, c7, z, lz, rfl⟩
          exact hN3 _ _ ⟨g7, _, _, _, z, by omega, rfl⟩
      rintro rho M6 ⟨g6, c5, c6, c7, z, lz, rfl⟩
      clear lq
      with_reducible refine e_cut (fun rho M' => Rg1 M M' ∧ ∃ z : Str, z.length ≤ 4200 ∧ rho = [some (.rol (ns.map D.int)), some (.mt M.length), some (.int j), some (qD q), some (.str z), c5, c6, c7, c8, c9]) ?_ ?_
      rotate_left
      · intro N3 hN3
        walk_at "dlrun"
        refine pick_last g6 (.inl fun _ => rfl) (by intro h; cases h) (by show 13 ≤ sizeLine; decide) fun d M9 g9 hd => ?_
        obtain ⟨s, rfl, hs⟩ : ∃ s : Str, d = .str s ∧ s.length ≤ 4200 := by
          simp only [List.mem_cons, List.not_mem_nil, or_false] at hd
          rcases hd with rfl | rfl | rfl | rfl | rfl | rfl | rfl | rfl | rfl | rfl | rfl | rfl | rfl <;> first | exact ⟨_, rfl, by omega⟩ | exact ⟨_, rfl, by decide +kernel⟩
        exact hN3 _ _ ⟨g9, s, hs, rfl⟩
      rintro rho M7 ⟨g7, z, lz, rfl⟩
      with_reducible refine e_cut (fun rho M' => M' = M7 ∧ rho = [some (.rol (ns.map D.int)), some (.mt M.length), some (.int j), some (qD q), some (.str z), c5, c6, c7, some (dueT z), c9]) ?_ ?_
      rotate_left
      · intro N3 hN3
        have hh : N3 [some (.rol (ns.map D.int)), some (.mt M.length), some (.int j), some (qD q), some (.str z), c5, c6, c7, some (dueT z), c9] M7 := hN3 _ _ ⟨rfl, rfl⟩
        unfold dueT at hh
        walk_at "dlrun"
        refine ⟨z, rfl, by omega, ?_⟩
        cases hp : pfN z with
        | none =>
          rw [hp] at hh
          walk_at "dlrun"
          rw [show DL.isNon (pfD none) = true from rfl]
          walk_at "dlrun"
          exact hh
        | some p =>
          rw [hp] at hh
          walk_at "dlrun"
          rw [show DL.isNon (pfD (some p)) = false from rfl]
          walk_at "dlrun"
          refine ⟨z, rfl, by omega, ?_⟩
          rw [hp]
          walk_at "dlrun"
          exact hh
      rintro rho M8 ⟨rfl, rfl⟩
      walk_at "dlrun"
      refine ⟨z, rfl, by omega, ?_⟩
      cases hp : pfN z with
      | none =>
        have hd : dueT z = .tup [.str "no", .str "InvalidText"] := by unfold dueT; rw [hp]
        refine toldX_0 Z_InvalidText xf_it ?_
        rw [hd]
        walk_at "dlrun"
        refine ⟨_, _, rfl, rfl, rfl, Nat.le_of_ble_eq_true rfl, ?_⟩
        rw [smD_refl rfl]
        walk_at "dlrun"
        exact hN2 _ _ ⟨g7, _, _, _, _, _, _, _, _, rfl⟩
      | some p =>
        have hd : dueT z = .tup [.str "told", .tup [.int p.1, .int p.2]] := by unfold dueT; rw [hp]
        rw [hd]
        walk_at "dlrun"
        refine ⟨_, _, rfl, rfl, rfl, Nat.le_of_ble_eq_true rfl, ?_⟩
        rw [smD_refl rfl]
        walk_at "dlrun"
        exact hN2 _ _ ⟨g7, _, _, _, _, _, _, _, _, rfl⟩
    · rintro rho M2 h
      exact hN _ _ h


end
end LW
namespace LW
open PySem PySem.Spec PyProof.Rows L2 DL Mt
theorem facts {P : Program} {w : World} {K : PySem.W.Frag} {h : Heap} {mg : Str → Option Value} {f : Addr} (X : K.In h) (G : h.Ns mainGlobals mg) (hfa : mg ("law" : Str) = some (.ref f)) (c : He.SaysY fa fn tf exB h K) :
    ∃ fd : FuncData, (∀ (s : Shared) (v : Value), BindsTo s fd ⟨[v], []⟩ [("_law_script", v)]) ∧ ∀ base : Heap, K.In base → base.Ns mainGlobals mg → (∀ p ∈ csL K, LamX.TabB base mg p.1.1 p.1.2) → FnD P w K mg base ((csL K).map fun p => (p.1.2, p.2)) 11 f fd ["_law_script"] sp_law := by
  obtain ⟨fd__law_fields, F__law_fields⟩ := c.def_ 0 (d := dd__law_fields) rfl
  have m__law_fields := He.glo_ok X G (c.fact 0 (f := .glo "_law_fields") rfl)
  obtain ⟨fd__law_begin, F__law_begin⟩ := c.def_ 1 (d := dd__law_begin) rfl
  have m__law_begin := He.glo_ok X G (c.fact 1 (f := .glo "_law_begin") rfl)
  obtain ⟨fd__law_draw, F__law_draw⟩ := c.def_ 2 (d := dd__law_draw) rfl
  have m__law_draw := He.glo_ok X G (c.fact 2 (f := .glo "_law_draw") rfl)
  obtain ⟨fd__law_pick, F__law_pick⟩ := c.def_ 3 (d := dd__law_pick) rfl
  have m__law_pick := He.glo_ok X G (c.fact 3 (f := .glo "_law_pick") rfl)
  obtain ⟨fd__law_lowest, F__law_lowest⟩ := c.def_ 4 (d := dd__law_lowest) rfl
  have m__law_lowest := He.glo_ok X G (c.fact 4 (f := .glo "_law_lowest") rfl)
  obtain ⟨fd__law_amount, F__law_amount⟩ := c.def_ 5 (d := dd__law_amount) rfl
  have m__law_amount := He.glo_ok X G (c.fact 5 (f := .glo "_law_amount") rfl)
  obtain ⟨fd__law_same, F__law_same⟩ := c.def_ 6 (d := dd__law_same) rfl
  have m__law_same := He.glo_ok X G (c.fact 6 (f := .glo "_law_same") rfl)
  obtain ⟨fd_parse_integer, F_parse_integer⟩ := c.def_ 7 (d := dd_parse_integer) rfl
  have m_parse_integer := He.glo_ok X G (c.fact 7 (f := .glo "parse_integer") rfl)
  obtain ⟨fd_fraction_text, F_fraction_text⟩ := c.def_ 8 (d := dd_fraction_text) rfl
  have m_fraction_text := He.glo_ok X G (c.fact 8 (f := .glo "fraction_text") rfl)
  obtain ⟨fd_is_integer, F_is_integer⟩ := c.def_ 9 (d := dd_is_integer) rfl
  have m_is_integer := He.glo_ok X G (c.fact 9 (f := .glo "is_integer") rfl)
  obtain ⟨fd_common_divisor, F_common_divisor⟩ := c.def_ 10 (d := dd_common_divisor) rfl
  have m_common_divisor := He.glo_ok X G (c.fact 10 (f := .glo "common_divisor") rfl)
  obtain ⟨fd_is_fraction, F_is_fraction⟩ := c.def_ 11 (d := dd_is_fraction) rfl
  have m_is_fraction := He.glo_ok X G (c.fact 11 (f := .glo "is_fraction") rfl)
  obtain ⟨fd_parse_fraction, F_parse_fraction⟩ := c.def_ 12 (d := dd_parse_fraction) rfl
  have m_parse_fraction := He.glo_ok X G (c.fact 12 (f := .glo "parse_fraction") rfl)
  obtain ⟨fd__law_figures, F__law_figures⟩ := c.def_ 13 (d := dd__law_figures) rfl
  have m__law_figures := He.glo_ok X G (c.fact 13 (f := .glo "_law_figures") rfl)
  obtain ⟨fd__law_read, F__law_read⟩ := c.def_ 14 (d := dd__law_read) rfl
  have m__law_read := He.glo_ok X G (c.fact 14 (f := .glo "_law_read") rfl)
  obtain ⟨fd_law, F_law⟩ := c.def_ 15 (d := dd_law) rfl
  have m_law := He.glo_ok X G (c.fact 15 (f := .glo "law") rfl)
  obtain ⟨fd__law_told, F__law_told⟩ := c.def_ 16 (d := dd__law_told) rfl
  have m__law_told := He.glo_ok X G (c.fact 16 (f := .glo "_law_told") rfl)
  obtain ⟨fd_InvalidTextu_initu, F_InvalidTextu_initu⟩ := c.def_ 17 (d := dd_InvalidTextu_initu) rfl
  have e := hfa.symm.trans m_law
  cases e
  have b := FunD.bindsA (ps := ["_law_script"]) F_law fun _ _ _ _ _ _ us hl => match us, hl with | [_], _ => rfl
  refine ⟨fd_law, fun s v => b s [v] rfl, fun base _ _ hTB => ?_⟩
  have C__law_fields := ok__law_fields (P := P) (w := w) (mg := mg) (base := base) (Tb := ((csL K).map fun p => (p.1.2, p.2))) F__law_fields 
  have g_list := He.free_ok X G (c.fact 17 (f := .free "list") rfl)
  have C__law_begin : Cal__law_begin P w K mg base ((csL K).map fun p => (p.1.2, p.2)) := ⟨_, fd__law_begin, F__law_begin, ok__law_begin (P := P) (w := w) (mg := mg) (base := base) (Tb := ((csL K).map fun p => (p.1.2, p.2))) F__law_begin g_list, m__law_begin⟩
  have g_len := He.free_ok X G (c.fact 18 (f := .free "len") rfl)
  have C__law_draw : Cal__law_draw P w K mg base ((csL K).map fun p => (p.1.2, p.2)) := ⟨_, fd__law_draw, F__law_draw, ok__law_draw (P := P) (w := w) (mg := mg) (base := base) (Tb := ((csL K).map fun p => (p.1.2, p.2))) F__law_draw g_len, m__law_draw⟩
  have C__law_pick : Cal__law_pick P w K mg base ((csL K).map fun p => (p.1.2, p.2)) := ⟨_, fd__law_pick, F__law_pick, ok__law_pick (P := P) (w := w) (mg := mg) (base := base) (Tb := ((csL K).map fun p => (p.1.2, p.2))) F__law_pick C__law_draw g_len, m__law_pick⟩
  have g_abs := He.free_ok X G (c.fact 19 (f := .free "abs") rfl)
  have C__law_lowest : Cal__law_lowest P w K mg base ((csL K).map fun p => (p.1.2, p.2)) := ⟨_, fd__law_lowest, F__law_lowest, ok__law_lowest (P := P) (w := w) (mg := mg) (base := base) (Tb := ((csL K).map fun p => (p.1.2, p.2))) F__law_lowest g_abs, m__law_lowest⟩
  have C__law_amount : Cal__law_amount P w K mg base ((csL K).map fun p => (p.1.2, p.2)) := ⟨_, fd__law_amount, F__law_amount, ok__law_amount (P := P) (w := w) (mg := mg) (base := base) (Tb := ((csL K).map fun p => (p.1.2, p.2))) F__law_amount C__law_pick C__law_draw C__law_lowest, m__law_amount⟩
  have g_isinstance := He.free_ok X G (c.fact 20 (f := .free "isinstance") rfl)
  have g_tuple := He.free_ok X G (c.fact 21 (f := .free "tuple") rfl)
  have g_all := He.free_ok X G (c.fact 22 (f := .free "all") rfl)
  have g_range := He.free_ok X G (c.fact 23 (f := .free "range") rfl)
  have g_int := He.free_ok X G (c.fact 24 (f := .free "int") rfl)
  have g_bool := He.free_ok X G (c.fact 25 (f := .free "bool") rfl)
  have g_str := He.free_ok X G (c.fact 26 (f := .free "str") rfl)
  have C__law_same : Cal__law_same P w K mg base ((csL K).map fun p => (p.1.2, p.2)) := ⟨_, fd__law_same, F__law_same, ok__law_same (P := P) (w := w) (mg := mg) (base := base) (Tb := ((csL K).map fun p => (p.1.2, p.2))) F__law_same m__law_same g_isinstance g_tuple g_list g_all g_range g_len g_int g_bool g_str, m__law_same⟩
  have c_MAX_FIGURES := cc_int X G (c.fact 27 (f := .int "MAX_FIGURES" 12) rfl)
  have C_parse_integer : Cal_parse_integer P w K mg base ((csL K).map fun p => (p.1.2, p.2)) := ⟨_, fd_parse_integer, F_parse_integer, ok_parse_integer (P := P) (w := w) (mg := mg) (base := base) (Tb := ((csL K).map fun p => (p.1.2, p.2))) F_parse_integer g_all g_len g_str g_int c_MAX_FIGURES, m_parse_integer⟩
  have C_fraction_text : Cal_fraction_text P w K mg base ((csL K).map fun p => (p.1.2, p.2)) := ⟨_, fd_fraction_text, F_fraction_text, ok_fraction_text (P := P) (w := w) (mg := mg) (base := base) (Tb := ((csL K).map fun p => (p.1.2, p.2))) F_fraction_text g_str, m_fraction_text⟩
  have C_is_integer : Cal_is_integer P w K mg base ((csL K).map fun p => (p.1.2, p.2)) := ⟨_, fd_is_integer, F_is_integer, ok_is_integer (P := P) (w := w) (mg := mg) (base := base) (Tb := ((csL K).map fun p => (p.1.2, p.2))) F_is_integer g_isinstance g_bool g_int, m_is_integer⟩
  have C_common_divisor : Cal_common_divisor P w K mg base ((csL K).map fun p => (p.1.2, p.2)) := ⟨_, fd_common_divisor, F_common_divisor, ok_common_divisor (P := P) (w := w) (mg := mg) (base := base) (Tb := ((csL K).map fun p => (p.1.2, p.2))) F_common_divisor g_abs, m_common_divisor⟩
  have c_MAX_NUMBER := cc_int X G (c.fact 28 (f := .int "MAX_NUMBER" 1000000000000) rfl)
  have C_is_fraction : Cal_is_fraction P w K mg base ((csL K).map fun p => (p.1.2, p.2)) := ⟨_, fd_is_fraction, F_is_fraction, ok_is_fraction (P := P) (w := w) (mg := mg) (base := base) (Tb := ((csL K).map fun p => (p.1.2, p.2))) F_is_fraction C_is_integer C_common_divisor g_all g_len g_isinstance g_tuple g_abs c_MAX_NUMBER, m_is_fraction⟩
  obtain ⟨T_InvalidText, tI_InvalidText, iC_InvalidText, no_InvalidText⟩ := xcB_ok (bool_at c.more 0 (b := xcB K "InvalidText" ["code"]))
  have X_InvalidText : XC_InvalidText P w K mg base := ⟨T_InvalidText, _, fd_InvalidTextu_initu, _, iC_InvalidText, tI_InvalidText, ok_InvalidTextu_initu F_InvalidTextu_initu T_InvalidText (no_InvalidText _ (by simp)), bd_InvalidTextu_initu F_InvalidTextu_initu, He.glo_ok X G (c.fact 29 (f := .glo "InvalidText") rfl)⟩
  have C_parse_fraction : Cal_parse_fraction P w K mg base ((csL K).map fun p => (p.1.2, p.2)) := ⟨_, fd_parse_fraction, F_parse_fraction, ok_parse_fraction (P := P) (w := w) (mg := mg) (base := base) (Tb := ((csL K).map fun p => (p.1.2, p.2))) F_parse_fraction C_parse_integer C_fraction_text C_is_fraction X_InvalidText, m_parse_fraction⟩
  have C__law_figures : Cal__law_figures P w K mg base ((csL K).map fun p => (p.1.2, p.2)) := ⟨_, fd__law_figures, F__law_figures, ok__law_figures (P := P) (w := w) (mg := mg) (base := base) (Tb := ((csL K).map fun p => (p.1.2, p.2))) F__law_figures g_all g_len g_str g_int, m__law_figures⟩
  have C__law_read : Cal__law_read P w K mg base ((csL K).map fun p => (p.1.2, p.2)) := ⟨_, fd__law_read, F__law_read, ok__law_read (P := P) (w := w) (mg := mg) (base := base) (Tb := ((csL K).map fun p => (p.1.2, p.2))) F__law_read C__law_figures C__law_lowest g_len, m__law_read⟩
  have B_told : ToldB P w K mg base ((csL K).map fun p => (p.1.2, p.2)) s__law_told 1 (sp__law_fields K) := ⟨_, fd__law_told, F__law_told, m__law_told, He.glo_ok X G (c.fact 30 (f := .glo "RoundError") rfl), He.glo_ok X G (c.fact 31 (f := .glo "Missing") rfl), He.glo_ok X G (c.fact 32 (f := .glo "NothingLeft") rfl), _, fd__law_fields, _, C__law_fields, F__law_fields.kp, bd__law_fields F__law_fields, m__law_fields⟩
  have Z_InvalidText : XFa K "InvalidText" [] := xfaB_ok (bool_at c.more 1 (b := xfaB K "InvalidText" []))
  have LD_law : LamD base mg ((csL K).map fun p => (p.1.2, p.2)) fd_law "law" (defScope s_law) := ⟨(He.cT K ("law", none)).1, (He.cT K ("law", none)).2, lam_codeE rfl F_law, hTB _ (List.getElem_mem (l := csL K) (n := 0) (show 0 < 1 by decide)), List.mem_map.mpr ⟨_, (List.getElem_mem (l := csL K) (n := 0) (show 0 < 1 by decide)), rfl⟩, fun p hp _ => by rw [List.mem_singleton.mp hp]⟩
  exact ok_law (P := P) (w := w) (mg := mg) (base := base) (Tb := ((csL K).map fun p => (p.1.2, p.2))) F_law C__law_begin C__law_amount C__law_same C_parse_fraction C_fraction_text C__law_draw C__law_pick C__law_read g_range g_str g_len LD_law B_told Z_InvalidText
end LW
open PySem PySem.W PySem.Calls PyProof.Rows
theorem PySem.Challenge.cw_roundmaps_k04_texts_of_fractions_holds : PySem.Challenge.rw_roundmaps_k04_texts_of_fractions.Holds := by
  w_on; o_law
  refine HandSHeadRun.head_any (r := OpenLaw.row PySem.Challenge.rw_roundmaps_k04_texts_of_fractions) (q := view (OpenLaw.row PySem.Challenge.rw_roundmaps_k04_texts_of_fractions).prog [25]) (H := LW.hk) (ob := LW.ob) (M := 8000) (loose := ["common_divisor", "is_fraction", "is_integer", "fraction_text", "parse_integer", "parse_fraction", "_law_begin", "_law_draw", "_law_pick", "_law_same", "_law_fields", "_law_told", "_law_lowest", "_law_amount", "_law_figures", "_law_read", "MAX_FIGURES", "MAX_NUMBER", "RoundError", "InvalidText", "Missing", "NothingLeft"]) (d := HandSHeadRun.topDef (OpenLaw.row PySem.Challenge.rw_roundmaps_k04_texts_of_fractions).prog 25) (kwd := []) LW.ob_eq
    (by kernel_rfl) (fun s => by kernel_rfl) LW.run (by kernel_rfl) (by kernel_rfl) (by kernel_rfl) (by rfl) (by first | assumption | decide +kernel) (by decide +kernel) ⟨rfl, rfl, rfl, rfl, rfl, by decide +kernel⟩ ?hw ?hc
  case hw => w_witness2
  case hc =>
    refine DL.walk_wT (l := PySem.Challenge.rw_roundmaps_k04_texts_of_fractions) (n := 63) (k := 11) (x := "_law_script") (dsp := LW.sp_law) rfl (by decide) (by kernel_rfl) ⟨rfl, by decide, by decide⟩ (by first | exact fun _ _ _ h => h | exact fun _ _ _ h => ⟨rfl, h⟩) ?F
    intro w mg fa h Y G hmg0
    obtain ⟨K, KX, c⟩ := Y
    have hmg : mg ("law" : PySem.Str) = some (.ref fa) := by
      have e : (HandSHeadRun.topDef (OpenLaw.row PySem.Challenge.rw_roundmaps_k04_texts_of_fractions).prog 25).name = ("law" : PySem.Str) := by kernel_rfl
      rw [← e]
      exact hmg0
    obtain ⟨fd, hb, hF⟩ := LW.facts (P := (PySem.Challenge.rw_roundmaps_k04_texts_of_fractions).prog) (w := w) KX G hmg c
    refine ⟨K, fd, LW.csL K, KX, fun p hp => ?_, fun p hp => ?_, fun p hp => ?_, hb, hF⟩
    all_goals
      obtain ⟨q, hq, rfl⟩ := List.mem_map.mp hp
      have hq2 : q.1 ∈ LW.tf := List.mem_map.mpr ⟨q, hq, rfl⟩
    · exact c.empty _ hq2
    · exact c.out _ hq2
    · exact PySem.W.codeHd_of_K KX (c.hd _ hq2)
