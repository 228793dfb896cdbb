import PyProof.Rows.All
import Wide.All
import OpenK.AllK
import Wide.FinOn
import HandS.ForMost
import HandS.Exc
import HandS.ExcOwn
import HandS.ExcInit
import HandS.TryOnly
import HandS.TryMany
import HandS.WordsExc
import HandS.IsInst
import HandS.TupAny
import HandS.Conv
import HandS.Wide
import HandS.Property
import HandS.ClsMeth
import HandS.Star
import HandS.ExcCtx
import HandS.HotCalls
import HandS.Deep
import HandS.TupLe
import HandS.Style
import KE.GoesEnumKw
import HandS.Zip
import HandS.SortRule
import HandS.SortInts
import HandS.WordsDict
import HandS.TupLen
import HandS.RaiseMore
import HandS.More
import HandS.Nested
import KE.KSuper
import KE.KExcSuper
import HandS.ExcIs
import HandS.ExcField
import KE.DataMinMax
import HandS.NoneIn
import HandS.SortKw
import HandS.RevRange
import KE.KTryMore
import PyProof.Rows.CatchTuple
import HandS.FStr
import PyProof.Rows.RegStrFacts
import HandS.TupMul
import KE.KRevSl
import HandS.Rev
import KE.DataFind
import KE.KStateDown
import HandS.Head0
import HandS.Head1
import HandS.Head2
import HandS.HeadEnd
import HandS.HeadHook1
import HandS.HeadHook2
import PyProof.TupleOfSeq
import KE.KDictSum
import HandS.ExcValue
import PySem.Challenge.RW_withincall_k01_rings_and_kinds
set_option Elab.async false
set_option linter.all false
set_option maxRecDepth 100000
set_option maxHeartbeats 1000000
namespace L2
open PySem PySem.Spec PyProof.Rows
theorem passN {X : Cx} : Passes (L2N.CX X.prog X.w) X E0 := fun _ _ _ _ _ _ _ h => by
  obtain ⟨_, _, _, _, _, _, _, _, _, _, _, _, z⟩ := h
  exact z.elim
theorem takesN0 {X : Cx} : L2N.Takes X (fun _ _ _ _ => False) := fun _ _ x => by
  obtain ⟨_, _, _, _, _, _, _, _, _, _, _, _, _, _, _, _, z⟩ := x
  exact z.elim
theorem cxUpN {P : Program} {w : World} : StX.CXUp (L2N.CX P w) := by
  rintro outer s H s2 H2 E e s' un kp ho ⟨a, B, H', cls, d, ea, fl, hok, ub, na, os, ag, he⟩
  refine ⟨a, B, H', cls, d, ea, fl, hok, ⟨fun b o q n hb => ub.keep b o (kp b o q) (un.free b o q n (by simp)) hb, fun b o q hb => ub.slot b o (kp b o q) hb, fun b o q n => ub.free b o (kp b o q) (un.free b o q n (by simp)),
    fun b o q hb => ub.there b o (kp b o q) hb, fun b xs q => ub.tups b xs (un.tups b xs q), fun b o xs q => ub.frzs b o xs (un.frzs b o xs q), fun b ps q => ?_⟩, na, os.trans ho, ag, he⟩
  obtain ⟨m1, e1⟩ := un.tbls b ps q
  obtain ⟨m2, e2⟩ := ub.tbls b _ e1
  exact ⟨m1 ++ m2, by rw [e2, Array.append_assoc]⟩
end L2
namespace FI
open PySem L2
inductive D where
  | non
  | bl (b : Bool)
  | int (i : Int)
  | str (s : Str)
  | tup (xs : List D)
  | kt (xs : List D)
  | kl (xs : List D)
  | ref (n : Nat)
  | glb (x : Str)
  | ty (n : String)
  /-- an exception, kept: its class, its fields' numbers, their values -/
  | xo (c : Nat) (ks : List Nat) (ds : List D)
inductive O where
  | lst (xs : List D)
  | dK (kvs : List (Key × D))
  | dT (kvs : List (List Key × D))
  /-- the same, walked just now: not written -/
  | dF (kvs : List (List Key × D))
  | ins (c : Nat) (fs : List (Nat × D))
structure Exc where
  c : Nat
  fs : List (Nat × D)
abbrev Hh := List O
abbrev Sg := List (Option D)
structure Gm where
  P : Program
  w : World
  K : PySem.W.Frag
  mg : Str → Option Value
  base : Heap
  cls : Nat → Addr
  fld : Nat → Str
  nf : Nat
  inj : ∀ a b, a < nf → b < nf → fld a = fld b → a = b
  hx : Option (Nat × Addr × Value × Option Addr × Exc) := none
def SqF (K : PySem.W.Frag) (H : Hp) (a : Addr) (xs : List V) : Prop :=
  (∃ o, H a = some (.frz o (.lst xs))) ∨
    ∃ (o : Obj) (its : Array Value) (n : Nat), K.lookup a = some o ∧ o.cls = .type "list" ∧ o.dict = none ∧ o.data = .seq its n ∧ its.size ≤ sizeLine ∧ Vals xs its.toList
theorem SqF.sq {K : PySem.W.Frag} {H : Hp} {a : Addr} {xs : List V} (h : SqF K H a xs) : SqL K H a xs := by
  rcases h with ⟨o, h⟩ | h
  · exact .inl (.inr ⟨o, h⟩)
  · exact .inr h
def SqK (K : PySem.W.Frag) (a : Addr) (xs : List V) : Prop :=
  ∃ (o : Obj) (its : Array Value) (n : Nat), K.lookup a = some o ∧ o.cls = .type "tuple" ∧ o.dict = none ∧ o.data = .seq its n ∧ its.size ≤ sizeLine ∧ Vals xs its.toList
theorem SqK.sq {K : PySem.W.Frag} {H : Hp} {a : Addr} {xs : List V} (h : SqK K a xs) : SqT K H a xs := .inr (let ⟨o, its, n, h1, h2, _, h3⟩ := h; ⟨o, its, n, h1, h2, h3⟩)
def SqKF (K : PySem.W.Frag) (H : Hp) (a : Addr) (xs : List V) : Prop := (∃ o : Obj, o.cls = .type "tuple" ∧ o.dict = none ∧ H a = some (.frz o (.tup xs))) ∨ SqK K a xs
theorem SqKF.sq {K : PySem.W.Frag} {H : Hp} {a : Addr} {xs : List V} (h : SqKF K H a xs) : SqT K H a xs := by
  rcases h with ⟨o, _, _, h⟩ | h
  · exact .inl (.inr ⟨o, h⟩)
  · exact h.sq
mutual
inductive RelD (g : Gm) (ι : List Addr) (H : Hp) : D → V → Prop
  | non : RelD g ι H .non .non
  | bl (b : Bool) : RelD g ι H (.bl b) (.bl b)
  | int (i : Int) : RelD g ι H (.int i) (.int i)
  | str (s : Str) : RelD g ι H (.str s) (.str s)
  | tup {xs : List D} {a : Addr} {vs : List V} : H a = some (.tup vs) → RelDs g ι H xs vs → RelD g ι H (.tup xs) (.ref a)
  | kt {xs : List D} {a : Addr} {vs : List V} : SqKF g.K H a vs → RelDs g ι H xs vs → RelD g ι H (.kt xs) (.ref a)
  | kl {xs : List D} {a : Addr} {vs : List V} : SqF g.K H a vs → RelDs g ι H xs vs → RelD g ι H (.kl xs) (.ref a)
  | ref {n : Nat} {a : Addr} : ι[n]? = some a → RelD g ι H (.ref n) (.ref a)
  | glb {x : Str} {a : Addr} : g.mg x = some (.ref a) → RelD g ι H (.glb x) (.ref a)
  | ty (n : String) : RelD g ι H (.ty n) (.ty n)
  | xo {c : Nat} {ks : List Nat} {ds : List D} {a dd : Addr} {oe : Obj} {vs : List V} : H a = some (.frz oe (.own a)) → oe.cls = .ref (g.cls c) → (∃ us : Array Value, oe.data = .fields us) → oe.dict = some dd → H dd = some (.xd ((ks.map g.fld).zip vs)) → (∀ k ∈ ks, k < g.nf) → ks.length = ds.length → RelDs g ι H ds vs → RelD g ι H (.xo c ks ds) (.ref a)
inductive RelDs (g : Gm) (ι : List Addr) (H : Hp) : List D → List V → Prop
  | nil : RelDs g ι H [] []
  | cons {d : D} {ds : List D} {v : V} {vs : List V} : RelD g ι H d v → RelDs g ι H ds vs → RelDs g ι H (d :: ds) (v :: vs)
end
structure Stw (g : Gm) (ι : List Addr) (H : Hp) (ι' : List Addr) (H' : Hp) : Prop where
  pre : ∃ t, ι' = ι ++ t
  tup : ∀ a xs, H a = some (.tup xs) → H' a = some (.tup xs)
  frz : ∀ a o u, (∀ q, u ≠ HO.dT q) → H a = some (.frz o u) → H' a = some (.frz o u)
  xd : ∀ a fs, H a = some (.xd fs) → H' a = some (.xd fs)
structure Stp (g : Gm) (ι : List Addr) (H : Hp) (ι' : List Addr) (H' : Hp) : Prop where
  pre : ∃ t, ι' = ι ++ t
  tup : ∀ a xs, H a = some (.tup xs) → H' a = some (.tup xs)
  frz : ∀ a o u, H a = some (.frz o u) → H' a = some (.frz o u)
  xd : ∀ a fs, H a = some (.xd fs) → H' a = some (.xd fs)
theorem Stp.w {g : Gm} {ι ι' : List Addr} {H H' : Hp} (s : Stp g ι H ι' H') : Stw g ι H ι' H' := ⟨s.pre, s.tup, fun a o u _ h => s.frz a o u h, s.xd⟩
theorem Stp.refl (g : Gm) (ι : List Addr) (H : Hp) : Stp g ι H ι H := ⟨⟨[], by simp⟩, fun _ _ h => h, fun _ _ _ h => h, fun _ _ h => h⟩
theorem Stp.trans {g : Gm} {ι ι1 ι2 : List Addr} {H H1 H2 : Hp} (a : Stp g ι H ι1 H1) (b : Stp g ι1 H1 ι2 H2) : Stp g ι H ι2 H2 := by
  obtain ⟨t, e⟩ := a.pre
  obtain ⟨t2, e2⟩ := b.pre
  exact ⟨⟨t ++ t2, by rw [e2, e, List.append_assoc]⟩, fun x xs h => b.tup x xs (a.tup x xs h), fun x o u h => b.frz x o u (a.frz x o u h), fun x fs h => b.xd x fs (a.xd x fs h)⟩
theorem Stw.at {g : Gm} {ι ι' : List Addr} {H H' : Hp} (s : Stw g ι H ι' H') {n : Nat} {a : Addr} (h : ι[n]? = some a) : ι'[n]? = some a := by
  obtain ⟨t, e⟩ := s.pre
  rw [e, List.getElem?_append_left (List.getElem?_eq_some_iff.mp h).1]
  exact h
theorem Stw.sqf {g : Gm} {ι ι' : List Addr} {H H' : Hp} (s : Stw g ι H ι' H') {a : Addr} {xs : List V} (h : SqF g.K H a xs) : SqF g.K H' a xs := by
  rcases h with ⟨o, h⟩ | h
  · exact .inl ⟨o, s.frz _ _ _ (fun _ z => by cases z) h⟩
  · exact .inr h
theorem Stw.sqk {g : Gm} {ι ι' : List Addr} {H H' : Hp} (s : Stw g ι H ι' H') {a : Addr} {xs : List V} (h : SqKF g.K H a xs) : SqKF g.K H' a xs := by
  rcases h with ⟨o, c, d, h⟩ | h
  · exact .inl ⟨o, c, d, s.frz _ _ _ (fun _ z => by cases z) h⟩
  · exact .inr h
mutual
theorem RelD.monoW {g : Gm} {ι ι' : List Addr} {H H' : Hp} (s : Stw g ι H ι' H') : ∀ {d : D} {v : V}, RelD g ι H d v → RelD g ι' H' d v
  | _, _, .non => .non
  | _, _, .bl b => .bl b
  | _, _, .int i => .int i
  | _, _, .str x => .str x
  | _, _, .tup h r => .tup (s.tup _ _ h) (RelDs.monoW s r)
  | _, _, .kt h r => .kt (s.sqk h) (RelDs.monoW s r)
  | _, _, .kl h r => .kl (s.sqf h) (RelDs.monoW s r)
  | _, _, .ref h => .ref (s.at h)
  | _, _, .glb h => .glb h
  | _, _, .ty n => .ty n
  | _, _, .xo h1 h2 h0 h3 h4 h5 h6 r => .xo (s.frz _ _ _ (fun _ z => nomatch z) h1) h2 h0 h3 (s.xd _ _ h4) h5 h6 (RelDs.monoW s r)
theorem RelDs.monoW {g : Gm} {ι ι' : List Addr} {H H' : Hp} (s : Stw g ι H ι' H') : ∀ {ds : List D} {vs : List V}, RelDs g ι H ds vs → RelDs g ι' H' ds vs
  | _, _, .nil => .nil
  | _, _, .cons a b => .cons (RelD.monoW s a) (RelDs.monoW s b)
end
theorem Stp.at {g : Gm} {ι ι' : List Addr} {H H' : Hp} (s : Stp g ι H ι' H') {n : Nat} {a : Addr} (h : ι[n]? = some a) : ι'[n]? = some a := s.w.at h
theorem Stp.sqf {g : Gm} {ι ι' : List Addr} {H H' : Hp} (s : Stp g ι H ι' H') {a : Addr} {xs : List V} (h : SqF g.K H a xs) : SqF g.K H' a xs := s.w.sqf h
theorem Stp.sqk {g : Gm} {ι ι' : List Addr} {H H' : Hp} (s : Stp g ι H ι' H') {a : Addr} {xs : List V} (h : SqKF g.K H a xs) : SqKF g.K H' a xs := s.w.sqk h
theorem RelD.mono {g : Gm} {ι ι' : List Addr} {H H' : Hp} (s : Stp g ι H ι' H') {d : D} {v : V} (r : RelD g ι H d v) : RelD g ι' H' d v := r.monoW s.w
theorem RelDs.mono {g : Gm} {ι ι' : List Addr} {H H' : Hp} (s : Stp g ι H ι' H') {ds : List D} {vs : List V} (r : RelDs g ι H ds vs) : RelDs g ι' H' ds vs := r.monoW s.w
section
variable {g : Gm} {ι : List Addr} {H : Hp}
theorem RelDs.length : ∀ {ds : List D} {vs : List V}, RelDs g ι H ds vs → ds.length = vs.length
  | _, _, .nil => rfl
  | _, _, .cons _ t => by simp [RelDs.length t]
theorem RelDs.get : ∀ {ds : List D} {vs : List V} {i : Nat} {d : D}, RelDs g ι H ds vs → ds[i]? = some d → ∃ v, vs[i]? = some v ∧ RelD g ι H d v
  | _, _, _, _, .nil, e => by simp at e
  | _, _, 0, _, .cons r _, e => by simp at e; subst e; exact ⟨_, rfl, r⟩
  | _, _, i + 1, d, .cons _ t, e => by
    obtain ⟨v, h1, h2⟩ := RelDs.get (i := i) (d := d) t (by simpa using e)
    exact ⟨v, by simpa using h1, h2⟩
theorem RelDs.append : ∀ {ds es : List D} {vs ws : List V}, RelDs g ι H ds vs → RelDs g ι H es ws → RelDs g ι H (ds ++ es) (vs ++ ws)
  | _, _, _, _, .nil, s => s
  | _, _, _, _, .cons r t, s => .cons r (RelDs.append t s)
theorem RelDs.take : ∀ {ds : List D} {vs : List V} (n : Nat), RelDs g ι H ds vs → RelDs g ι H (ds.take n) (vs.take n)
  | _, _, 0, _ => by simp; exact .nil
  | _, _, n + 1, .nil => .nil
  | _, _, n + 1, .cons r t => .cons r (RelDs.take n t)
theorem RelDs.drop : ∀ {ds : List D} {vs : List V} (n : Nat), RelDs g ι H ds vs → RelDs g ι H (ds.drop n) (vs.drop n)
  | _, _, 0, r => by simpa using r
  | _, _, n + 1, .nil => .nil
  | _, _, n + 1, .cons r t => RelDs.drop n t
theorem RelDs.set {d : D} {v : V} (r : RelD g ι H d v) : ∀ {ds : List D} {vs : List V} (i : Nat), RelDs g ι H ds vs → RelDs g ι H (ds.set i d) (vs.set i v)
  | _, _, _, .nil => .nil
  | _, _, 0, .cons _ t => .cons r t
  | _, _, i + 1, .cons q t => .cons q (RelDs.set r i t)
theorem RelDs.rev : ∀ {ds : List D} {vs : List V}, RelDs g ι H ds vs → RelDs g ι H ds.reverse vs.reverse
  | _, _, .nil => .nil
  | _, _, .cons r t => by
    rw [List.reverse_cons, List.reverse_cons]
    exact (RelDs.rev t).append (.cons r .nil)
theorem RelDs.ints : ∀ (ns : List Int), RelDs g ι H (ns.map .int) (ns.map .int)
  | [] => .nil
  | n :: ns => .cons (.int n) (RelDs.ints ns)
theorem RelDs.one {d : D} {v : V} (h : RelD g ι H d v) : RelDs g ι H [d] [v] := .cons h .nil
end
inductive RelKv {κ : Type} (g : Gm) (ι : List Addr) (H : Hp) : List (κ × D) → List (κ × V) → Prop
  | nil : RelKv g ι H [] []
  | cons {k : κ} {d : D} {v : V} {r : List (κ × D)} {q : List (κ × V)} : RelD g ι H d v → RelKv g ι H r q → RelKv g ι H ((k, d) :: r) ((k, v) :: q)
inductive RelFs (g : Gm) (ι : List Addr) (H : Hp) : List (Nat × D) → List (Str × V) → Prop
  | nil : RelFs g ι H [] []
  | cons {k : Nat} {d : D} {v : V} {r : List (Nat × D)} {q : List (Str × V)} : k < g.nf → RelD g ι H d v → RelFs g ι H r q → RelFs g ι H ((k, d) :: r) ((g.fld k, v) :: q)
theorem RelKv.monoW {κ : Type} {g : Gm} {ι ι' : List Addr} {H H' : Hp} (s : Stw g ι H ι' H') {r : List (κ × D)} {q : List (κ × V)} (h : RelKv g ι H r q) : RelKv g ι' H' r q := by
  induction h with
  | nil => exact .nil
  | cons a _ ih => exact .cons (a.monoW s) ih
theorem RelKv.mono {κ : Type} {g : Gm} {ι ι' : List Addr} {H H' : Hp} (s : Stp g ι H ι' H') {r : List (κ × D)} {q : List (κ × V)} (h : RelKv g ι H r q) : RelKv g ι' H' r q := h.monoW s.w
theorem RelFs.monoW {g : Gm} {ι ι' : List Addr} {H H' : Hp} (s : Stw g ι H ι' H') {r : List (Nat × D)} {q : List (Str × V)} (h : RelFs g ι H r q) : RelFs g ι' H' r q := by
  induction h with
  | nil => exact .nil
  | cons hk a _ ih => exact .cons hk (a.monoW s) ih
theorem RelFs.mono {g : Gm} {ι ι' : List Addr} {H H' : Hp} (s : Stp g ι H ι' H') {r : List (Nat × D)} {q : List (Str × V)} (h : RelFs g ι H r q) : RelFs g ι' H' r q := h.monoW s.w
def RelX (g : Gm) (ι : List Addr) (H : Hp) (x : Exc) (c : Value) (d : Option Addr) : Prop :=
  c = .ref (g.cls x.c) ∧ ((x.fs = [] ∧ d = none) ∨ ∃ dd vfs, d = some dd ∧ H dd = some (.xd vfs) ∧ RelFs g ι H x.fs vfs)
theorem RelX.monoW {g : Gm} {ι ι' : List Addr} {H H' : Hp} (s : Stw g ι H ι' H') {x : Exc} {c : Value} {d : Option Addr} (h : RelX g ι H x c d) : RelX g ι' H' x c d := by
  obtain ⟨h1, h2⟩ := h
  refine ⟨h1, ?_⟩
  rcases h2 with h2 | ⟨dd, vfs, e, h3, h4⟩
  · exact .inl h2
  · exact .inr ⟨dd, vfs, e, s.xd _ _ h3, h4.monoW s⟩
theorem RelX.mono {g : Gm} {ι ι' : List Addr} {H H' : Hp} (s : Stp g ι H ι' H') {x : Exc} {c : Value} {d : Option Addr} (h : RelX g ι H x c d) : RelX g ι' H' x c d := h.monoW s.w
inductive RelO (g : Gm) (ι : List Addr) (H : Hp) : O → HO → Prop
  | lst {xs : List D} {vs : List V} : RelDs g ι H xs vs → RelO g ι H (.lst xs) (.lst vs)
  | dK {r : List (Key × D)} {q : List (Key × V)} : RelKv g ι H r q → RelO g ι H (.dK r) (.dK q)
  | dT {r : List (List Key × D)} {q : List (List Key × V)} : RelKv g ι H r q → RelO g ι H (.dT r) (.dT q)
  | dF {od : Obj} {r : List (List Key × D)} {q : List (List Key × V)} : RelKv g ι H r q → RelO g ι H (.dF r) (.frz od (.dT q))
  | ins {c : Nat} {dx : Addr} {r : List (Nat × D)} {q : List (Str × V)} : RelFs g ι H r q → RelO g ι H (.ins c r) (.ins (g.cls c) dx q)
theorem RelO.monoW {g : Gm} {ι ι' : List Addr} {H H' : Hp} (s : Stw g ι H ι' H') {o : O} {u : HO} (h : RelO g ι H o u) : RelO g ι' H' o u := by
  cases h with
  | lst a => exact .lst (a.monoW s)
  | dK a => exact .dK (a.monoW s)
  | dT a => exact .dT (a.monoW s)
  | dF a => exact .dF (a.monoW s)
  | ins a => exact .ins (a.monoW s)
theorem RelO.mono {g : Gm} {ι ι' : List Addr} {H H' : Hp} (s : Stp g ι H ι' H') {o : O} {u : HO} (h : RelO g ι H o u) : RelO g ι' H' o u := h.monoW s.w
theorem RelO.notTup {g : Gm} {ι : List Addr} {H : Hp} {o : O} {u : HO} (h : RelO g ι H o u) : (∀ xs, u ≠ HO.tup xs) ∧ (∀ ob x, u = HO.frz ob x → ∃ q, x = HO.dT q) ∧ (∀ fs, u ≠ HO.xd fs) := by
  cases h <;> exact ⟨(fun _ z => by cases z), (fun _ _ z => by first | (cases z; exact ⟨_, rfl⟩) | cases z), (fun _ z => by cases z)⟩
structure SimH (g : Gm) (ι : List Addr) (G : Hh) (H : Hp) : Prop where
  len : ι.length = G.length
  nd : ι.Nodup
  at_ : ∀ (n : Nat) (o : O) (a : Addr), G[n]? = some o → ι[n]? = some a → ∃ u, H a = some u ∧ RelO g ι H o u
section
variable {g : Gm} {ι : List Addr} {G : Hh} {H H' : Hp}
theorem SimH.get (s : SimH g ι G H) {n : Nat} {o : O} (h : G[n]? = some o) : ∃ a u, ι[n]? = some a ∧ H a = some u ∧ RelO g ι H o u := by
  have hn : n < ι.length := by rw [s.len]; exact (List.getElem?_eq_some_iff.mp h).1
  obtain ⟨u, h1, h2⟩ := s.at_ n o ι[n] h (List.getElem?_eq_getElem hn)
  exact ⟨ι[n], u, List.getElem?_eq_getElem hn, h1, h2⟩
theorem SimH.has (s : SimH g ι G H) {a : Addr} (h : a ∈ ι) : ∃ u, H a = some u ∧ (∀ xs, u ≠ HO.tup xs) ∧ (∀ ob x, u = HO.frz ob x → ∃ q, x = HO.dT q) ∧ (∀ fs, u ≠ HO.xd fs) := by
  obtain ⟨n, hn, e⟩ := List.mem_iff_getElem.mp h
  have hg : n < G.length := by rw [← s.len]; exact hn
  obtain ⟨u, h1, h2⟩ := s.at_ n G[n] a (List.getElem?_eq_getElem hg) (by rw [List.getElem?_eq_getElem hn, e])
  exact ⟨u, h1, h2.notTup⟩
theorem SimH.fresh (s : SimH g ι G H) {p : Addr} (h : H p = none) : p ∉ ι := fun hp => by
  obtain ⟨u, h1, _⟩ := s.has hp
  rw [h] at h1
  cases h1
theorem stp_upd_new {p : Addr} {o : HO} (h : H p = none) : Stp g ι H ι (upd H p o) :=
  ⟨⟨[], by simp⟩, fun a xs q => by rw [upd_ne (ne_of_none q h)]; exact q, fun a ob u q => by rw [upd_ne (ne_of_none q h)]; exact q, fun a fs q => by rw [upd_ne (ne_of_none q h)]; exact q⟩
theorem SimH.keep (s : SimH g ι G H) (t : Stp g ι H ι H') (k : ∀ a, a ∈ ι → H' a = H a) : SimH g ι G H' :=
  ⟨s.len, s.nd, fun n o a h1 h2 => by
    obtain ⟨u, e, r⟩ := s.at_ n o a h1 h2
    exact ⟨u, by rw [k a (List.mem_of_getElem? h2)]; exact e, r.mono t⟩⟩
theorem SimH.new (s : SimH g ι G H) {p : Addr} {o : HO} (h : H p = none) : SimH g ι G (upd H p o) :=
  s.keep (stp_upd_new h) fun a ha => upd_ne (fun e => s.fresh h (e ▸ ha))
theorem SimH.alloc (s : SimH g ι G H) {p : Addr} {o : O} {u : HO} (h : H p = none) (r : RelO g ι H o u) :
    SimH g (ι ++ [p]) (G ++ [o]) (upd H p u) ∧ Stp g ι H (ι ++ [p]) (upd H p u) := by
  have t0 : Stp g ι H ι (upd H p u) := stp_upd_new h
  have t : Stp g ι H (ι ++ [p]) (upd H p u) := ⟨⟨[p], rfl⟩, t0.tup, t0.frz, t0.xd⟩
  refine ⟨⟨by simp [s.len], ?_, fun n o' a h1 h2 => ?_⟩, t⟩
  · rw [List.nodup_append]
    refine ⟨s.nd, by simp, fun a ha b hb e => ?_⟩
    have : b = p := by simpa using hb
    subst this
    subst e
    exact s.fresh h ha
  · by_cases hn : n < ι.length
    · rw [List.getElem?_append_left (by rw [← s.len]; exact hn)] at h1
      rw [List.getElem?_append_left hn] at h2
      obtain ⟨u', e, r'⟩ := s.at_ n o' a h1 h2
      have na : a ≠ p := fun e' => s.fresh h (by rw [← e']; exact List.mem_of_getElem? h2)
      exact ⟨u', by rw [upd_ne na]; exact e, r'.mono t⟩
    · have hlen : n < (ι ++ [p]).length := (List.getElem?_eq_some_iff.mp h2).1
      have hn2 : n = ι.length := by simp at hlen; omega
      subst hn2
      rw [List.getElem?_append_right (Nat.le_refl _)] at h2
      rw [List.getElem?_append_right (by rw [s.len]; exact Nat.le_refl _)] at h1
      simp at h2
      simp [s.len] at h1
      subst h2 h1
      exact ⟨u, upd_same, r.mono t⟩
theorem SimH.write (s : SimH g ι G H) {n : Nat} {a : Addr} {o : O} {u u0 : HO} (ha : ι[n]? = some a) (h0 : H a = some u0) (hnt : (∀ xs, u0 ≠ HO.tup xs) ∧ (∀ ob x, u0 ≠ HO.frz ob x) ∧ (∀ fs, u0 ≠ HO.xd fs)) (r : RelO g ι H o u) :
    SimH g ι (G.set n o) (upd H a u) ∧ Stp g ι H ι (upd H a u) := by
  have t : Stp g ι H ι (upd H a u) := ⟨⟨[], by simp⟩, fun b xs q => by
        rw [upd_ne (fun e => ?_)]
        · exact q
        · subst e; rw [h0] at q; exact hnt.1 _ (Option.some.inj q), fun b ob x q => by
        rw [upd_ne (fun e => ?_)]
        · exact q
        · subst e; rw [h0] at q; exact hnt.2.1 _ _ (Option.some.inj q), fun b fs q => by
        rw [upd_ne (fun e => ?_)]
        · exact q
        · subst e; rw [h0] at q; exact hnt.2.2 _ (Option.some.inj q)⟩
  refine ⟨⟨by simp [s.len], s.nd, fun m o' b h1 h2 => ?_⟩, t⟩
  by_cases hm : n = m
  · subst hm
    rw [h2] at ha
    have e : b = a := Option.some.inj ha
    subst e
    have hlt : n < G.length := by rw [← s.len]; exact (List.getElem?_eq_some_iff.mp h2).1
    rw [List.getElem?_set_self hlt] at h1
    have e1 : o = o' := Option.some.inj h1
    subst e1
    exact ⟨u, upd_same, r.mono t⟩
  · rw [List.getElem?_set_ne hm] at h1
    obtain ⟨u', e, r'⟩ := s.at_ m o' b h1 h2
    refine ⟨u', ?_, r'.mono t⟩
    rw [upd_ne (fun e' => ?_)]
    · exact e
    · subst e'
      obtain ⟨l1, e1⟩ := List.getElem?_eq_some_iff.mp h2
      obtain ⟨l2, e2⟩ := List.getElem?_eq_some_iff.mp ha
      exact hm ((List.getElem_inj s.nd).mp (e2.trans e1.symm))
theorem stw_free {n : Nat} {a : Addr} {od : Obj} {vs : List (List Key × V)} (h0 : H a = some (.frz od (.dT vs))) : Stw g ι H ι (upd H a (.dT vs)) :=
  ⟨⟨[], by simp⟩, fun b xs q => by rw [upd_ne (fun e => by subst e; rw [h0] at q; cases q)]; exact q, fun b ob x hx q => by
    rw [upd_ne (fun e => ?_)]
    · exact q
    · subst e; rw [h0] at q; cases q; exact hx _ rfl, fun b fs q => by rw [upd_ne (fun e => by subst e; rw [h0] at q; cases q)]; exact q⟩
theorem SimH.free (s : SimH g ι G H) {n : Nat} {a : Addr} {od : Obj} {r : List (List Key × D)} {vs : List (List Key × V)} (ha : ι[n]? = some a) (h0 : H a = some (.frz od (.dT vs))) (rk : RelKv g ι H r vs) :
    SimH g ι (G.set n (.dT r)) (upd H a (.dT vs)) := by
  have t : Stw g ι H ι (upd H a (.dT vs)) := stw_free (n := n) h0
  refine ⟨by simp [s.len], s.nd, fun m o' b h1 h2 => ?_⟩
  by_cases hm : n = m
  · subst hm
    rw [h2] at ha
    have e : b = a := Option.some.inj ha
    subst e
    have hlt : n < G.length := by rw [← s.len]; exact (List.getElem?_eq_some_iff.mp h2).1
    rw [List.getElem?_set_self hlt] at h1
    have e1 : O.dT r = o' := Option.some.inj h1
    subst e1
    exact ⟨_, upd_same, .dT (rk.monoW t)⟩
  · rw [List.getElem?_set_ne hm] at h1
    obtain ⟨u', e, r'⟩ := s.at_ m o' b h1 h2
    refine ⟨u', ?_, r'.monoW t⟩
    rw [upd_ne (fun e' => ?_)]
    · exact e
    · subst e'
      obtain ⟨l1, e1⟩ := List.getElem?_eq_some_iff.mp h2
      obtain ⟨l2, e2⟩ := List.getElem?_eq_some_iff.mp ha
      exact hm ((List.getElem_inj s.nd).mp (e2.trans e1.symm))
end
structure SimS (g : Gm) (ι : List Addr) (H : Hp) (gs : Sg) (σ : L2.St) : Prop where
  len : gs.length = σ.length
  at_ : ∀ (i : Nat) (d : D), gs[i]? = some (some d) → ∃ v, σ[i]? = some (some v) ∧ RelD g ι H d v
  hx : ∀ q, g.hx = some q → gs[q.1]? = some none ∧ σ[q.1]? = some (some (.ref q.2.1)) ∧ RelX g ι H q.2.2.2.2 q.2.2.1 q.2.2.2.1
theorem SimS.monoW {g : Gm} {ι ι' : List Addr} {H H' : Hp} {gs : Sg} {σ : L2.St} (h : SimS g ι H gs σ) (s : Stw g ι H ι' H') : SimS g ι' H' gs σ :=
  ⟨h.len, fun i d e => let ⟨v, h1, h2⟩ := h.at_ i d e; ⟨v, h1, h2.monoW s⟩, fun q e => let ⟨h1, h2, h3⟩ := h.hx q e; ⟨h1, h2, h3.monoW s⟩⟩
def NoHx (g : Gm) (i : Nat) : Prop := ∀ q, g.hx = some q → q.1 ≠ i
theorem NoHx.none {g : Gm} {i : Nat} (h : g.hx = none) : NoHx g i := fun q e => by rw [h] at e; cases e
theorem NoHx.some {g : Gm} {i : Nat} {q : Nat × Addr × Value × Option Addr × Exc} (h : g.hx = some q) (hi : q.1 ≠ i) : NoHx g i := fun q' e => by rw [h] at e; cases e; exact hi
theorem SimS.mono {g : Gm} {ι ι' : List Addr} {H H' : Hp} {gs : Sg} {σ : L2.St} (h : SimS g ι H gs σ) (s : Stp g ι H ι' H') : SimS g ι' H' gs σ :=
  ⟨h.len, fun i d e => let ⟨v, h1, h2⟩ := h.at_ i d e; ⟨v, h1, h2.mono s⟩, fun q e => let ⟨h1, h2, h3⟩ := h.hx q e; ⟨h1, h2, h3.mono s⟩⟩
theorem SimS.set {g : Gm} {ι : List Addr} {H : Hp} {gs : Sg} {σ : L2.St} (h : SimS g ι H gs σ) {d : D} {v : V} (r : RelD g ι H d v) (i : Nat) (hi : NoHx g i) : SimS g ι H (gs.set i (some d)) (σ.set i (some v)) := by
  refine ⟨by simp [h.len], fun j e hj => ?_, fun q e => ?_⟩
  · by_cases hij : i = j
    · subst hij
      have hlt : i < gs.length := by
        have := (List.getElem?_eq_some_iff.mp hj).1
        simpa using this
      rw [List.getElem?_set_self hlt] at hj
      cases hj
      exact ⟨v, by rw [List.getElem?_set_self (by rw [← h.len]; exact hlt)], r⟩
    · rw [List.getElem?_set_ne hij] at hj
      obtain ⟨w, h1, h2⟩ := h.at_ j e hj
      exact ⟨w, by rw [List.getElem?_set_ne hij]; exact h1, h2⟩
  · obtain ⟨h1, h2, h3⟩ := h.hx q e
    have hne : i ≠ q.1 := fun z => hi q e z.symm
    exact ⟨by rw [List.getElem?_set_ne hne]; exact h1, by rw [List.getElem?_set_ne hne]; exact h2, h3⟩
end FI
set_option maxRecDepth 100000
set_option maxHeartbeats 1000000
namespace FI
open PySem L2
inductive Rs (α : Type) where
  | val (a : α)
  | exc (x : Exc)
abbrev Mm (α : Type) := Hh → Option (Rs α × Hh)
def ret {α : Type} (a : α) : Mm α := fun G => some (.val a, G)
def bnd {α β : Type} (m : Option (Rs α × Hh)) (k : α → Mm β) : Option (Rs β × Hh) :=
  match m with
  | some (.val a, G) => k a G
  | some (.exc x, G) => some (.exc x, G)
  | none => none
theorem bnd_val {α β : Type} (a : α) (G : Hh) (k : α → Mm β) : bnd (some (.val a, G)) k = k a G := rfl
abbrev SE := Sg → Mm D
abbrev SA := Sg → Mm (List D)
abbrev ST := Sg → Mm Bool
abbrev Fn := List D → Mm D
def Gv (g : Gm) (W : WX) (σ : L2.St) (ι : List Addr) (H : Hp) {α : Type} (m : Option (Rs α × Hh)) (K : α → List Addr → Hh → Hp → Prop) : Prop :=
  ∃ r G', m = some (r, G') ∧ ∀ ι' H', Stp g ι H ι' H' → SimH g ι' G' H' → (match r with
    | .val a => K a ι' G' H'
    | .exc x => ∀ c d, RelX g ι' H' x c d → W c d σ H')
section
variable {g : Gm} {W : WX} {σ : L2.St} {ι : List Addr} {H : Hp} {α β : Type}
theorem Gv.imp {m : Option (Rs α × Hh)} {K K' : α → List Addr → Hh → Hp → Prop} (h : Gv g W σ ι H m K) (k : ∀ a ι' G' H', Stp g ι H ι' H' → SimH g ι' G' H' → K a ι' G' H' → K' a ι' G' H') : Gv g W σ ι H m K' := by
  obtain ⟨r, G', e, q⟩ := h
  refine ⟨r, G', e, fun ι' H' s t => ?_⟩
  have z := q ι' H' s t
  cases r with
  | val a => exact k a ι' G' H' s t z
  | exc x => exact z
theorem Gv.bnd {m : Option (Rs α × Hh)} {f : α → Mm β} {K : β → List Addr → Hh → Hp → Prop} (h : Gv g W σ ι H (bnd m f) K) : Gv g W σ ι H m fun a ι1 G1 H1 => Gv g W σ ι1 H1 (f a G1) K := by
  obtain ⟨r, G', e, q⟩ := h
  cases m with
  | none => cases e
  | some p =>
    obtain ⟨r1, G1⟩ := p
    refine ⟨r1, G1, rfl, fun ι1 H1 s1 t1 => ?_⟩
    cases r1 with
    | val a => exact ⟨r, G', e, fun ι' H' s t => q ι' H' (s1.trans s) t⟩
    | exc x =>
      have e' : some ((Rs.exc x : Rs β), G1) = some (r, G') := e
      cases e'
      exact q ι1 H1 s1 t1
theorem Gv.mk {m : Option (Rs α × Hh)} {K : α → List Addr → Hh → Hp → Prop} {a : α} {G' : Hh} (e : m = some (.val a, G')) (k : ∀ ι' H', Stp g ι H ι' H' → SimH g ι' G' H' → K a ι' G' H') : Gv g W σ ι H m K := ⟨_, _, e, k⟩
theorem Gv.val {a : α} {G' : Hh} {K : α → List Addr → Hh → Hp → Prop} (h : Gv g W σ ι H (some (.val a, G')) K) {ι' : List Addr} {H' : Hp} (s : Stp g ι H ι' H') (t : SimH g ι' G' H') : K a ι' G' H' := by
  obtain ⟨r, G1, e, q⟩ := h
  cases e
  exact q ι' H' s t
theorem Gv.ret {a : α} {G : Hh} {K : α → List Addr → Hh → Hp → Prop} (h : Gv g W σ ι H (ret a G) K) (t : SimH g ι G H) : K a ι G H := Gv.val h (.refl g ι H) t
theorem Gv.no {K : α → List Addr → Hh → Hp → Prop} {C : Prop} (h : Gv g W σ ι H (none : Option (Rs α × Hh)) K) : C := by
  obtain ⟨_, _, e, _⟩ := h
  cases e
end
structure Sc where
  N : List Str
  sc : Scope
  k : Nat
  ow : Str → Bool := fun _ => true
  hot : Bool := false
  top : Bool := true
structure XIs (g : Gm) (c : Sc) (X : Cx) : Prop where
  P : X.prog = g.P
  w : X.w = g.w
  K : X.K = g.K
  mg : X.mg = g.mg
  base : X.base = g.base
  N : X.N = c.N
  sc : X.env.scope = c.sc
  nd : c.N.Nodup
  calm : c.hot = false → X.calm = true
  room : c.hot = false → Room c.k X.A
  un : X.A.units + 16 * c.k + 200 < cLine
  dp : X.A.depth + 3 * c.k + 5 < recursionLimit
  hx : ∀ q, g.hx = some q → ∃ (Y : Cx) (oe : Obj) (pn : List (Addr × Obj)), X = Y.suite q.2.1 ((q.2.1, oe) :: pn) ∧ L2N.Zn q.2.2.1 q.2.2.2.1 oe ∧ ∃ vs, oe.data = .fields vs
  po : PassesOwn (model X.prog X.w) X.A X.env X.xe
  fn : ∀ x, c.ow x = true → X.fn x = true ∨ X.env.scope.names.lookup x = some .local
  tp : c.top = true → X.stack = X.env :: X.outer ∧ X.env.frame = some X.env.locals
  hp : c.hot = true → c.top = true → g.hx = none → L2H.HotC X
def tE (g : Gm) (W : WX) (f : SE) : TE := fun σ H Q => ∃ ι gs G, SimS g ι H gs σ ∧ SimH g ι G H ∧ Gv g W σ ι H (f gs G) fun d ι' _ H' => ∀ v, RelD g ι' H' d v → Q v H'
def tA (g : Gm) (W : WX) (f : SA) : TA := fun σ H Q => ∃ ι gs G, SimS g ι H gs σ ∧ SimH g ι G H ∧ Gv g W σ ι H (f gs G) fun ds ι' _ H' => ∀ vs, RelDs g ι' H' ds vs → Q vs H'
def tT (g : Gm) (W : WX) (f : ST) : TT := fun σ H Q => ∃ ι gs G, SimS g ι H gs σ ∧ SimH g ι G H ∧ Gv g W σ ι H (f gs G) fun b _ _ H' => Q b H'
structure FE (g : Gm) (c : Sc) (e : Expr) (f : SE) : Prop where
  run : ∀ X, XIs g c X → ∀ W, L2N.Takes X W → PE X e (tE g W f)
structure FA (g : Gm) (c : Sc) (es : List Expr) (f : SA) : Prop where
  run : ∀ X, XIs g c X → ∀ W, L2N.Takes X W → PA X es (tA g W f)
structure FT (g : Gm) (c : Sc) (e : Expr) (f : ST) : Prop where
  run : ∀ X, XIs g c X → ∀ W, L2N.Takes X W → PT X e (tT g W f)
structure FW (g : Gm) (c : Sc) (e : Expr) (f : ST) : Prop where
  run : ∀ X, XIs g c X → ∀ W, L2N.Takes X W → PW X e (tT g W f)
theorem FW.ft {g : Gm} {c : Sc} {e : Expr} {f : ST} (h : FW g c e f) : FT g c e f := ⟨fun X x W t => (h.run X x W t).pt⟩
section
variable {X : Cx} {e : Expr}
theorem pe_imp {t t' : TE} (h : PE X e t) (k : ∀ σ H Q, t' σ H Q → t σ H Q) : PE X e t' := ⟨fun pins s σ H Q I q => h.run pins s σ H Q I (k σ H Q q)⟩
theorem pt_imp {t t' : TT} (h : PT X e t) (k : ∀ σ H Q, t' σ H Q → t σ H Q) : PT X e t' := ⟨fun pins s σ H Q I q => h.run pins s σ H Q I (k σ H Q q)⟩
theorem pw_imp {t t' : TT} (h : PW X e t) (k : ∀ σ H Q, t' σ H Q → t σ H Q) : PW X e t' := ⟨fun wh pins s σ H Q I q => h.run wh pins s σ H Q I (k σ H Q q)⟩
theorem pa_imp {es : List Expr} {t t' : TA} (h : PA X es t) (k : ∀ σ H Q, t' σ H Q → t σ H Q) : PA X es t' := ⟨fun pos pins s σ H Q I q => h.run pos pins s σ H Q I (k σ H Q q)⟩
theorem ps_imp {st : Stmt} {t t' : TS} (h : PS X st t) (k : ∀ D σ H, t' D σ H → t D σ H) : PS X st t' := ⟨fun pins s σ H D I q => h.run pins s σ H D I (k D σ H q)⟩
theorem pss_imp {st : List Stmt} {t t' : TS} (h : PSs X st t) (k : ∀ D σ H, t' D σ H → t D σ H) : PSs X st t' := ⟨fun pins s σ H D I q => h.run pins s σ H D I (k D σ H q)⟩
end
def eVar (i : Nat) : SE := fun gs G => match gs[i]? with
  | some (some d) => some (.val d, G)
  | _ => none
def eC (d : D) : SE := fun _ G => some (.val d, G)
section
variable {g : Gm} {c : Sc} {pos : Pos}
theorem fe_var (i : Nat) {x : Str} (hN : c.N[i]? = some x := by rfl) (hv : Vis c.sc x := by first | exact Or.inl rfl | exact Or.inr (Or.inl rfl) | exact Or.inr (Or.inr rfl))
    (hd : (x == ("__debug__" : Str)) = false := by decide) (hcd : (x == ("__classdict__" : Str)) = false := by decide) : FE g c (.Name x pos) (eVar i) := ⟨fun X x W t => by
  refine pe_imp (pe_var (i := i) (by rw [x.N]; exact hN) (by rw [x.sc]; exact hv) hd hcd) fun σ H Q ⟨ι, gs, G, ss, sh, h⟩ => ?_
  unfold eVar at h
  split at h
  · rename_i d e
    obtain ⟨v, h1, h2⟩ := ss.at_ i d e
    exact ⟨v, h1, h.val (.refl _ _ _) sh v h2⟩
  · exact h.no⟩
theorem fe_c {e : Expr} {d : D} {v : V} (h : ∀ X : Cx, PE X e (tC v)) (r : ∀ ι H, RelD g ι H d v) : FE g c e (eC d) := ⟨fun X x W t => by
  refine pe_imp (h X) fun σ H Q ⟨ι, gs, G, ss, sh, h⟩ => ?_
  exact h.val (.refl _ _ _) sh v (r ι H)⟩
theorem fe_int {i j} : FE g c (.Constant (.int i) j pos) (eC (.int i)) := fe_c (fun _ => pe_int) fun _ _ => .int i
theorem fe_bl {b j} : FE g c (.Constant (.bool b) j pos) (eC (.bl b)) := fe_c (fun _ => pe_bl) fun _ _ => .bl b
theorem fe_non {j} : FE g c (.Constant .none j pos) (eC .non) := fe_c (fun _ => pe_non) fun _ _ => .non
theorem fe_str {x j} : FE g c (.Constant (.str x) j pos) (eC (.str x)) := fe_c (fun _ => pe_str) fun _ _ => .str x
def GlS (c : Sc) (x : Str) : Prop := c.sc.names.lookup x = some .globalImplicit
theorem GlS.gl {g : Gm} {c : Sc} {X : Cx} {x : Str} (h : GlS c x) (i : XIs g c X) : Gl X x := by
  show X.env.scope.names.lookup x = _
  rw [i.sc]
  exact h
theorem fe_glob {x : Str} {a : Addr} (hg : GlS c x := by rfl) (hm : g.mg x = some (.ref a)) (hd : (x == ("__debug__" : Str)) = false := by decide) : FE g c (.Name x pos) (eC (.glb x)) := ⟨fun X i W t => by
  refine pe_imp (pe_glob (v := .ref a) (hg.gl i) (by rw [i.mg]; exact hm) rfl hd) fun σ H Q ⟨ι, gs, G, ss, sh, h⟩ => ?_
  exact h.val (.refl _ _ _) sh _ (.glb hm)⟩
theorem fe_ty {x : Str} {n : String} (hm : g.mg x = none) (hv : bootBuiltins x = some (.type n)) (hg : GlS c x := by rfl) (hn : x ≠ "__name__" := by decide) (hd : (x == ("__debug__" : Str)) = false := by decide) :
    FE g c (.Name x pos) (eC (.ty n)) := ⟨fun X i W t => by
  refine pe_imp (pe_bltn (v := .ty n) (hg.gl i) (by rw [i.mg]; exact hm) hv rfl hn hd) fun σ H Q ⟨ι, gs, G, ss, sh, h⟩ => ?_
  exact h.val (.refl _ _ _) sh _ (.ty n)⟩
end
def eOp (F : D → D → Mm D) (fa fb : SE) : SE := fun gs G => bnd (fa gs G) fun d G1 => bnd (fb gs G1) fun e => F d e
def eUn (F : D → Mm D) (fa : SE) : SE := fun gs G => bnd (fa gs G) F
def aNil : SA := fun _ G => some (.val [], G)
def aCons (fa : SE) (fr : SA) : SA := fun gs G => bnd (fa gs G) fun d G1 => bnd (fr gs G1) fun ds G2 => some (.val (d :: ds), G2)
def eArgs (F : List D → Mm D) (fa : SA) : SE := fun gs G => bnd (fa gs G) F
def Pr2 (g : Gm) (r : R2) (F : D → D → Mm D) : Prop := ∀ (W : WX) (σ : L2.St) (ι : List Addr) (G : Hh) (H : Hp) (d e : D) (x y : V) (Q : VK), SimH g ι G H → RelD g ι H d x → RelD g ι H e y →
  Gv g W σ ι H (F d e G) (fun z ι' _ H' => ∀ v, RelD g ι' H' z v → Q v H') → r x y H Q
def Pr1 (g : Gm) (r : V → Hp → VK → Prop) (F : D → Mm D) : Prop := ∀ (W : WX) (σ : L2.St) (ι : List Addr) (G : Hh) (H : Hp) (d : D) (x : V) (Q : VK), SimH g ι G H → RelD g ι H d x →
  Gv g W σ ι H (F d G) (fun z ι' _ H' => ∀ v, RelD g ι' H' z v → Q v H') → r x H Q
def PrA (g : Gm) (r : List V → Hp → VK → Prop) (F : List D → Mm D) : Prop := ∀ (W : WX) (σ : L2.St) (ι : List Addr) (G : Hh) (H : Hp) (ds : List D) (xs : List V) (Q : VK), SimH g ι G H → RelDs g ι H ds xs →
  Gv g W σ ι H (F ds G) (fun z ι' _ H' => ∀ v, RelD g ι' H' z v → Q v H') → r xs H Q
section
variable {g : Gm} {c : Sc} {a b : Expr} {fa fb : SE} {pos : Pos}
theorem two {X : Cx} {W : WX} {e : Expr} {r : R2} {F : D → D → Mm D} (h : PE X e (tOp r (tE g W fa) (tE g W fb))) (p : Pr2 g r F) : PE X e (tE g W (eOp F fa fb)) :=
  pe_imp h fun σ H Q ⟨ι, gs, G, ss, sh, h⟩ => ⟨ι, gs, G, ss, sh, h.bnd.imp fun d ι1 G1 H1 s1 t1 h1 v rv => ⟨ι1, gs, G1, ss.mono s1, t1, h1.bnd.imp fun e ι2 G2 H2 s2 t2 h2 w rw' => p W σ ι2 G2 H2 d e v w Q t2 (rv.mono s2) rw' h2⟩⟩
theorem fe_un {op : UnaryOp} {r : V → Hp → VK → Prop} {F : D → Mm D} (p : Pr1 g r F) (ho : ∀ X, XIs g c X → UnR X (unaryOp op) r) (ha : FE g c a fa) : FE g c (.UnaryOp op a pos) (eUn F fa) :=
  ⟨fun X i W t => pe_imp (pe_un (ho X i) (ha.run X i W t)) fun σ H Q ⟨ι, gs, G, ss, sh, h⟩ => ⟨ι, gs, G, ss, sh, h.bnd.imp fun d ι1 G1 H1 s1 t1 h1 v rv => p W σ ι1 G1 H1 d v Q t1 rv h1⟩⟩
theorem fa_nil : FA g c [] aNil := ⟨fun X i W t => pa_imp pa_nil fun σ H Q ⟨ι, gs, G, ss, sh, h⟩ => h.val (.refl _ _ _) sh [] .nil⟩
theorem fa_cons {es : List Expr} {fr : SA} (ha : FE g c a fa) (hr : FA g c es fr) (hs : ∀ env, starEach (a :: es) env = (false, eval a env) :: starEach es env := by intro _; rfl) : FA g c (a :: es) (aCons fa fr) :=
  ⟨fun X i W t => pa_imp (pa_cons (ha.run X i W t) (hr.run X i W t) (hs _)) fun σ H Q ⟨ι, gs, G, ss, sh, h⟩ => ⟨ι, gs, G, ss, sh, h.bnd.imp fun d ι1 G1 H1 s1 t1 h1 v rv =>
    ⟨ι1, gs, G1, ss.mono s1, t1, h1.bnd.imp fun ds ι2 G2 H2 s2 t2 h2 vs rs => h2.val (.refl _ _ _) t2 (v :: vs) (.cons (rv.mono s2) rs)⟩⟩⟩
def dTup : List D → Mm D := fun ds G => if ds.length ≤ 100000 then some (.val (.tup ds), G) else none
def dLst : List D → Mm D := fun ds G => if ds.length ≤ 100000 then some (.val (.ref G.length), G ++ [.lst ds]) else none
theorem line_of {n : Nat} (h : n ≤ 100000) : n ≤ sizeLine := Nat.le_trans h (by decide)
theorem line_lt {n : Nat} (h : n < 100000) : n < sizeLine := Nat.lt_of_lt_of_le h (by decide)
theorem simLast {ι : List Addr} {G : Hh} {H : Hp} (s : SimH g ι G H) (p : Addr) : (ι ++ [p])[G.length]? = some p := by
  rw [← s.len, List.getElem?_append_right (Nat.le_refl _)]
  simp
theorem new_tup {ι : List Addr} {H : Hp} {ds : List D} {vs : List V} {p : Addr} (hp : H p = none) (r : RelDs g ι H ds vs) : RelD g ι (upd H p (.tup vs)) (.tup ds) (.ref p) :=
    .tup upd_same (r.mono (stp_upd_new hp))
theorem new_lst {ι : List Addr} {G : Hh} {H : Hp} {ds : List D} {vs : List V} {p : Addr} (s : SimH g ι G H) (hp : H p = none) (r : RelDs g ι H ds vs) :
    Stp g ι H (ι ++ [p]) (upd H p (.lst vs)) ∧ SimH g (ι ++ [p]) (G ++ [.lst ds]) (upd H p (.lst vs)) ∧ RelD g (ι ++ [p]) (upd H p (.lst vs)) (.ref G.length) (.ref p) :=
  let ⟨s2, t⟩ := s.alloc hp (.lst r : RelO g ι H (.lst ds) (.lst vs))
  ⟨t, s2, .ref (simLast s p)⟩
theorem fe_tup {es : List Expr} {x1} {f : SA} (h : FA g c es f) : FE g c (.Tuple es x1 pos) (eArgs dTup f) :=
  ⟨fun X i W t => pe_imp (pe_tup (h.run X i W t)) fun σ H Q ⟨ι, gs, G, ss, sh, h⟩ => ⟨ι, gs, G, ss, sh, h.bnd.imp fun ds ι1 G1 H1 s1 t1 h1 vs rv => by
    unfold dTup at h1
    split at h1
    · rename_i hl
      refine ⟨by rw [← rv.length]; exact line_of hl, fun p hp => ?_⟩
      exact h1.val (stp_upd_new hp) (t1.new hp) _ (new_tup hp rv)
    · exact h1.no⟩⟩
theorem fe_lst {es : List Expr} {f : SA} (h : FA g c es f) : FE g c (.List es pos) (eArgs dLst f) :=
  ⟨fun X i W t => pe_imp (pe_lst (h.run X i W t)) fun σ H Q ⟨ι, gs, G, ss, sh, h⟩ => ⟨ι, gs, G, ss, sh, h.bnd.imp fun ds ι1 G1 H1 s1 t1 h1 vs rv => by
    unfold dLst at h1
    split at h1
    · rename_i hl
      refine ⟨by rw [← rv.length]; exact line_of hl, fun p hp => ?_⟩
      obtain ⟨st, sm, rd⟩ := new_lst t1 hp rv
      exact h1.val st sm _ rd
    · exact h1.no⟩⟩
end
def tB (fa : SE) : ST := fun gs G => bnd (fa gs G) fun d G1 => match d with
  | .bl b => some (.val b, G1)
  | _ => none
def tAnd' (fa fb : ST) : ST := fun gs G => bnd (fa gs G) fun b G1 => if b = true then fb gs G1 else some (.val false, G1)
def tOr' (fa fb : ST) : ST := fun gs G => bnd (fa gs G) fun b G1 => if b = true then some (.val true, G1) else fb gs G1
def tNot' (fa : ST) : ST := fun gs G => bnd (fa gs G) fun b G1 => some (.val (!b), G1)
def eB (fa : ST) : SE := fun gs G => bnd (fa gs G) fun b G1 => some (.val (.bl b), G1)
def eIf (fc : ST) (fa fb : SE) : SE := fun gs G => bnd (fc gs G) fun b G1 => if b = true then fa gs G1 else fb gs G1
section
variable {g : Gm} {c : Sc} {a b : Expr} {fa fb : SE} {ta tb : ST} {rest : List Expr} {pos : Pos}
theorem ft_val (ha : FE g c a fa) (he : ∀ env whole, isTrue a env whole = (do let v ← whole; standAt a.pos; holding [v] (truthy v)) := by intro _ _; rfl) : FT g c a (tB fa) :=
  ⟨fun X i W t => pt_imp (L2.pt_val (ha.run X i W t) (he _)) fun σ H Q ⟨ι, gs, G, ss, sh, h⟩ => ⟨ι, gs, G, ss, sh, h.bnd.imp fun d ι1 G1 H1 s1 t1 h1 v rv => by
    cases rv <;> first | exact h1.no | exact ⟨_, rfl, h1.val (.refl _ _ _) t1⟩⟩⟩
theorem fw_one {op : BoolOp} (ha : FT g c a ta) : FW g c (.BoolOp op [a] pos) ta := ⟨fun X i W t => by
  cases op with
  | And => exact pw_and1 (ha.run X i W t)
  | Or => exact pw_or1 (ha.run X i W t)⟩
theorem fw_and (ha : FT g c a ta) (hb : FW g c (.BoolOp .And (b :: rest) pos) tb) : FW g c (.BoolOp .And (a :: b :: rest) pos) (tAnd' ta tb) :=
  ⟨fun X i W t => pw_imp (L2.pw_and (ha.run X i W t) (hb.run X i W t)) fun σ H Q ⟨ι, gs, G, ss, sh, h⟩ => ⟨ι, gs, G, ss, sh, h.bnd.imp fun d ι1 G1 H1 s1 t1 h1 => by
    cases d with
    | true => exact ⟨ι1, gs, G1, ss.mono s1, t1, h1⟩
    | false => exact h1.val (.refl _ _ _) t1⟩⟩
theorem fw_or (ha : FT g c a ta) (hb : FW g c (.BoolOp .Or (b :: rest) pos) tb) : FW g c (.BoolOp .Or (a :: b :: rest) pos) (tOr' ta tb) :=
  ⟨fun X i W t => pw_imp (L2.pw_or (ha.run X i W t) (hb.run X i W t)) fun σ H Q ⟨ι, gs, G, ss, sh, h⟩ => ⟨ι, gs, G, ss, sh, h.bnd.imp fun d ι1 G1 H1 s1 t1 h1 => by
    cases d with
    | true => exact h1.val (.refl _ _ _) t1
    | false => exact ⟨ι1, gs, G1, ss.mono s1, t1, h1⟩⟩⟩
theorem ft_not (ha : FT g c a ta) : FT g c (.UnaryOp .Not a pos) (tNot' ta) :=
  ⟨fun X i W t => pt_imp (L2.pt_not (ha.run X i W t)) fun σ H Q ⟨ι, gs, G, ss, sh, h⟩ => ⟨ι, gs, G, ss, sh, h.bnd.imp fun d ι1 G1 H1 s1 t1 h1 => h1.val (.refl _ _ _) t1⟩⟩
end
end FI
set_option maxRecDepth 100000
set_option maxHeartbeats 1000000
namespace FI
open PySem L2
def eAnd (fa fb : SE) : SE := fun gs G => bnd (fa gs G) fun d G1 => match d with
  | .bl true => fb gs G1
  | .bl false => some (.val (.bl false), G1)
  | _ => none
def eOr (fa fb : SE) : SE := fun gs G => bnd (fa gs G) fun d G1 => match d with
  | .bl true => some (.val (.bl true), G1)
  | .bl false => fb gs G1
  | _ => none
def eNot (fa : SE) : SE := fun gs G => bnd (fa gs G) fun d G1 => match d with
  | .bl b => some (.val (.bl (!b)), G1)
  | _ => none
section
variable {g : Gm} {c : Sc} {a b : Expr} {fa fb : SE} {ta tb : ST} {rest : List Expr} {pos : Pos}
theorem fe_one {op : BoolOp} (ha : FE g c a fa) : FE g c (.BoolOp op [a] pos) fa := ⟨fun X i W t => pe_one (ha.run X i W t)⟩
theorem fe_and (ha : FE g c a fa) (hb : FE g c (.BoolOp .And (b :: rest) pos) fb) : FE g c (.BoolOp .And (a :: b :: rest) pos) (eAnd fa fb) :=
  ⟨fun X i W t => pe_imp (pe_and (ha.run X i W t) (hb.run X i W t)) fun σ H Q ⟨ι, gs, G, ss, sh, h⟩ => ⟨ι, gs, G, ss, sh, h.bnd.imp fun d ι1 G1 H1 s1 t1 h1 v rv => by
    cases rv with
    | bl b =>
      cases b with
      | true => exact ⟨true, rfl, ι1, gs, G1, ss.mono s1, t1, h1⟩
      | false => exact ⟨false, rfl, h1.val (.refl _ _ _) t1 _ (.bl false)⟩
    | _ => exact h1.no⟩⟩
theorem fe_not (ha : FE g c a fa) : FE g c (.UnaryOp .Not a pos) (eNot fa) :=
  ⟨fun X i W t => pe_imp (pe_not (ha.run X i W t)) fun σ H Q ⟨ι, gs, G, ss, sh, h⟩ => ⟨ι, gs, G, ss, sh, h.bnd.imp fun d ι1 G1 H1 s1 t1 h1 v rv => by
    cases rv with
    | bl b => exact ⟨b, rfl, h1.val (.refl _ _ _) t1 _ (.bl _)⟩
    | _ => exact h1.no⟩⟩
theorem fe_if {e : Expr} (hc : FT g c e ta) (ha : FE g c a fa) (hb : FE g c b fb) : FE g c (.IfExp e a b pos) (eIf ta fa fb) :=
  ⟨fun X i W t => pe_imp (pe_ifExp (hc.run X i W t) (ha.run X i W t) (hb.run X i W t)) fun σ H Q ⟨ι, gs, G, ss, sh, h⟩ => ⟨ι, gs, G, ss, sh, h.bnd.imp fun d ι1 G1 H1 s1 t1 h1 => by
    cases d with
    | true => exact ⟨ι1, gs, G1, ss.mono s1, t1, h1⟩
    | false => exact ⟨ι1, gs, G1, ss.mono s1, t1, h1⟩⟩⟩
end
def eChain (F F' : D → D → Mm D) (fa fb fc : SE) : SE := fun gs G => bnd (fa gs G) fun d G1 => bnd (fb gs G1) fun e G2 => bnd (F d e G2) fun k G3 => match k with
  | .bl true => bnd (fc gs G3) fun x => F' e x
  | .bl false => some (.val (.bl false), G3)
  | _ => none
inductive Fl where
  | nx | rt (d : D) | bk | ct | ex (x : Exc)
abbrev Sm := Option (Fl × Sg × Hh)
abbrev SS := Sg → Hh → Sm
def EndOk (g : Gm) (W : WX) (D0 : Ends) (fl : Fl) (ι : List Addr) (H : Hp) (σ : L2.St) : Prop := match fl with
  | .nx => D0.nx σ H
  | .rt d => ∀ v, RelD g ι H d v → D0.rt v H
  | .bk => D0.bk σ H
  | .ct => D0.ct σ H
  | .ex x => ∀ c d, RelX g ι H x c d → W c d σ H
def Gs (g : Gm) (W : WX) (ι : List Addr) (H : Hp) (m : Sm) (D0 : Ends) : Prop :=
  ∃ fl gs' G', m = some (fl, gs', G') ∧ ∀ ι' H' σ', Stp g ι H ι' H' → SimH g ι' G' H' → SimS g ι' H' gs' σ' → EndOk g W D0 fl ι' H' σ'
def tS (g : Gm) (W : WX) (f : SS) : TS := fun D0 σ H => ∃ ι gs G, SimS g ι H gs σ ∧ SimH g ι G H ∧ Gs g W ι H (f gs G) D0
structure FS (g : Gm) (c : Sc) (st : Stmt) (f : SS) : Prop where
  run : ∀ X, XIs g c X → ∀ W, L2N.Takes X W → PS X st (tS g W f)
structure FB (g : Gm) (c : Sc) (sts : List Stmt) (f : SS) : Prop where
  run : ∀ X, XIs g c X → ∀ W, L2N.Takes X W → PSs X sts (tS g W f)
def onE {α : Type} (m : Option (Rs α × Hh)) (gs : Sg) (k : α → Hh → Sm) : Sm := match m with
  | some (.val a, G) => k a G
  | some (.exc x, G) => some (.ex x, gs, G)
  | none => none
theorem onE_val {α : Type} (a : α) (G : Hh) (gs : Sg) (k : α → Hh → Sm) : onE (some (.val a, G)) gs k = k a G := rfl
section
variable {g : Gm} {W : WX} {σ : L2.St} {ι : List Addr} {H : Hp} {α : Type}
theorem Gs.no {D0 : Ends} {C : Prop} (h : Gs g W ι H none D0) : C := by
  obtain ⟨_, _, _, e, _⟩ := h
  cases e
theorem Gs.at {fl : Fl} {gs : Sg} {G : Hh} {D0 : Ends} (h : Gs g W ι H (some (fl, gs, G)) D0) {ι' : List Addr} {H' : Hp} {σ' : L2.St} (s : Stp g ι H ι' H') (t : SimH g ι' G H') (u : SimS g ι' H' gs σ') : EndOk g W D0 fl ι' H' σ' := by
  obtain ⟨fl', gs', G', e, q⟩ := h
  cases e
  exact q ι' H' σ' s t u
theorem Gs.onE {m : Option (Rs α × Hh)} {gs : Sg} {k : α → Hh → Sm} {D0 : Ends} (ss : SimS g ι H gs σ) (h : Gs g W ι H (onE m gs k) D0) : Gv g W σ ι H m fun a ι1 G1 H1 => Gs g W ι1 H1 (k a G1) D0 := by
  obtain ⟨fl, gs', G', e, q⟩ := h
  cases m with
  | none => cases e
  | some p =>
    obtain ⟨r, G1⟩ := p
    refine ⟨r, G1, rfl, fun ι1 H1 s1 t1 => ?_⟩
    cases r with
    | val a => exact ⟨fl, gs', G', e, fun ι' H' σ' s t u => q ι' H' σ' (s1.trans s) t u⟩
    | exc x =>
      have e' : some (Fl.ex x, gs, G1) = some (fl, gs', G') := e
      cases e'
      exact q ι1 H1 σ s1 t1 (ss.mono s1)
theorem Gs.imp {m : Sm} {D0 D1 : Ends} (h : Gs g W ι H m D0) (k1 : ∀ σ H, D0.nx σ H → D1.nx σ H) (k2 : ∀ v H, D0.rt v H → D1.rt v H) (k3 : ∀ σ H, D0.bk σ H → D1.bk σ H) (k4 : ∀ σ H, D0.ct σ H → D1.ct σ H) : Gs g W ι H m D1 := by
  obtain ⟨fl, gs', G', e, q⟩ := h
  refine ⟨fl, gs', G', e, fun ι' H' σ' s t u => ?_⟩
  have z := q ι' H' σ' s t u
  cases fl with
  | nx => exact k1 _ _ z
  | rt d => exact fun v r => k2 _ _ (z v r)
  | bk => exact k3 _ _ z
  | ct => exact k4 _ _ z
  | ex x => exact z
end
def bNil : SS := fun gs G => some (.nx, gs, G)
def bSeq (f h : SS) : SS := fun gs G => match f gs G with
  | some (.nx, gs1, G1) => h gs1 G1
  | o => o
theorem Gs.seq {g : Gm} {W : WX} {ι : List Addr} {H : Hp} {f h : SS} {gs : Sg} {G : Hh} {D0 : Ends} (q : Gs g W ι H (bSeq f h gs G) D0) : Gs g W ι H (f gs G) { D0 with nx := tS g W h D0 } := by
  obtain ⟨fl, gs', G', e, q⟩ := q
  unfold bSeq at e
  cases ef : f gs G with
  | none => rw [ef] at e; cases e
  | some p =>
    obtain ⟨fl1, gs1, G1⟩ := p
    rw [ef] at e
    refine ⟨fl1, gs1, G1, rfl, fun ι' H' σ' s t u => ?_⟩
    cases fl1 with
    | nx => exact ⟨ι', gs1, G1, u, t, fl, gs', G', e, fun ι2 H2 σ2 s2 t2 u2 => q ι2 H2 σ2 (s.trans s2) t2 u2⟩
    | rt d => cases e; exact q ι' H' σ' s t u
    | bk => cases e; exact q ι' H' σ' s t u
    | ct => cases e; exact q ι' H' σ' s t u
    | ex x => cases e; exact q ι' H' σ' s t u
def sPass : SS := bNil
def sBreak : SS := fun gs G => some (.bk, gs, G)
def sCont : SS := fun gs G => some (.ct, gs, G)
def sDrop (f : SE) : SS := fun gs G => onE (f gs G) gs fun _ G1 => some (.nx, gs, G1)
def sRet (f : SE) : SS := fun gs G => onE (f gs G) gs fun d G1 => some (.rt d, gs, G1)
def sRetN : SS := fun gs G => some (.rt .non, gs, G)
def sIf (fc : ST) (f h : SS) : SS := fun gs G => onE (fc gs G) gs fun b G1 => if b = true then f gs G1 else h gs G1
abbrev GT := D → Sg → Hh → Option (Sg × Hh)
def gNm (i : Nat) : GT := fun d gs G => some (gs.set i (some d), G)
def sAsg (f : SE) (t : GT) : SS := fun gs G => onE (f gs G) gs fun d G1 => match t d gs G1 with
  | some (gs', G') => some (.nx, gs', G')
  | none => none
def But (sl : List Nat) (σ σ' : L2.St) : Prop := σ'.length = σ.length ∧ ∀ j, j ∉ sl → σ'[j]? = σ[j]?
theorem But.refl {sl : List Nat} {σ : L2.St} : But sl σ σ := ⟨rfl, fun _ _ => rfl⟩
theorem But.trans {sl : List Nat} {σ σ1 σ2 : L2.St} (a : But sl σ σ1) (b : But sl σ1 σ2) : But sl σ σ2 := ⟨b.1.trans a.1, fun j h => (b.2 j h).trans (a.2 j h)⟩
theorem But.mono {sl sm : List Nat} {σ σ' : L2.St} (a : But sl σ σ') (h : ∀ j, j ∈ sl → j ∈ sm) : But sm σ σ' := ⟨a.1, fun j k => a.2 j fun z => k (h j z)⟩
structure FG (g : Gm) (c : Sc) (tg : Expr) (sl : List Nat) (f : GT) : Prop where
  run : ∀ X, XIs g c X → PG X tg fun v σ H Q => ∃ ι gs G d gs' G', SimS g ι H gs σ ∧ SimH g ι G H ∧ RelD g ι H d v ∧ f d gs G = some (gs', G') ∧ ∀ ι' H' σ', Stp g ι H ι' H' → SimH g ι' G' H' → SimS g ι' H' gs' σ' → But sl σ σ' → Q σ' H'
section
variable {g : Gm} {c : Sc} {e : Expr} {fe : SE} {f h : SS} {st : Stmt} {rest : List Stmt} {pos : Pos}
theorem pg_imp {X : Cx} {tg : Expr} {t t' : TG} (h : PG X tg t) (k : ∀ v σ H Q, t' v σ H Q → t v σ H Q) : PG X tg t' := ⟨fun pins s σ H v u Q I r q => h.run pins s σ H v u Q I r (k v σ H Q q)⟩
theorem fb_nil : FB g c [] bNil := ⟨fun X i W t => pss_imp pss_nil fun D0 σ H ⟨ι, gs, G, ss, sh, q⟩ => q.at (.refl _ _ _) sh ss⟩
theorem fb_cons (h1 : FS g c st f) (h2 : FB g c rest h) : FB g c (st :: rest) (bSeq f h) :=
  ⟨fun X i W t => pss_imp (pss_cons (h1.run X i W t) (h2.run X i W t)) fun D0 σ H ⟨ι, gs, G, ss, sh, q⟩ => ⟨ι, gs, G, ss, sh, q.seq⟩⟩
theorem fs_expr (he : FE g c e fe) (hs : ∀ env, swapsWith e none pos.line env = pure false := by intro _; rfl) : FS g c (.Expr e pos) (sDrop fe) :=
  ⟨fun X i W t => ps_imp (ps_expr (he.run X i W t) (hs _)) fun D0 σ H ⟨ι, gs, G, ss, sh, q⟩ => ⟨ι, gs, G, ss, sh, (q.onE ss).imp fun d ι1 G1 H1 s1 t1 h1 v rv => h1.at (.refl _ _ _) t1 (ss.mono s1)⟩⟩
theorem fs_ret (he : FE g c e fe) : FS g c (.Return (some e) pos) (sRet fe) :=
  ⟨fun X i W t => ps_imp (ps_ret (he.run X i W t)) fun D0 σ H ⟨ι, gs, G, ss, sh, q⟩ => ⟨ι, gs, G, ss, sh, (q.onE ss).imp fun d ι1 G1 H1 s1 t1 h1 v rv => h1.at (.refl _ _ _) t1 (ss.mono s1) v rv⟩⟩
theorem fs_if {ft : ST} {a b : List Stmt} (hc : FT g c e ft) (ha : FB g c a f) (hb : FB g c b h) : FS g c (.If e a b pos) (sIf ft f h) :=
  ⟨fun X i W t => ps_imp (ps_if (hc.run X i W t) (ha.run X i W t) (hb.run X i W t)) fun D0 σ H ⟨ι, gs, G, ss, sh, q⟩ => ⟨ι, gs, G, ss, sh, (q.onE ss).imp fun d ι1 G1 H1 s1 t1 h1 => by
    cases d with
    | true => exact ⟨ι1, gs, G1, ss.mono s1, t1, h1⟩
    | false => exact ⟨ι1, gs, G1, ss.mono s1, t1, h1⟩⟩⟩
theorem fg_name (i : Nat) {x : Str} (hi : c.N[i]? = some x := by rfl) (hx : Loc c.sc x := by first | exact Or.inl rfl | exact Or.inr rfl) (how : c.ow x = true := by rfl) (hnx : NoHx g i := by first | exact NoHx.none rfl | exact NoHx.some rfl (by decide)) : FG g c (.Name x pos) [i] (gNm i) :=
  ⟨fun X j => by
    have hl : X.env.scope = c.sc := j.sc
    have hf := j.fn x how
    refine pg_imp (pg_name (i := i) (by rw [j.N]; exact j.nd) (by rw [j.N]; exact hi) (by rw [hl]; exact hx) hf) fun v σ H Q ⟨ι, gs, G, d, gs', G', ss, sh, rv, e, q⟩ => ?_
    have e' : some (gs.set i (some d), G) = some (gs', G') := e
    cases e'
    exact q ι H _ (.refl _ _ _) sh (ss.set rv i hnx) ⟨by simp, fun k hk => List.getElem?_set_ne (fun z => hk (by simp [z]))⟩⟩
theorem fs_asg {tg : Expr} {sl : List Nat} {t : GT} (he : FE g c e fe) (hg : FG g c tg sl t) (hs : ∀ env, swapsWithSole [tg] e pos.line env = pure false := by intro _; rfl) (hw : ∀ env, swappedStores [tg] e env = pure none := by intro _; rfl)
    (h1 : ∀ env, (assignEach [tg] env).map (·.2) = [assign tg env] := by intro _; rfl) : FS g c (.Assign [tg] e pos) (sAsg fe t) :=
  ⟨fun X i W tk => ps_imp (ps_asg (he.run X i W tk) (hg.run X i) (hs _) (hw _) (h1 _)) fun D0 σ H ⟨ι, gs, G, ss, sh, q⟩ => ⟨ι, gs, G, ss, sh, (q.onE ss).imp fun d ι1 G1 H1 s1 t1 h1 v rv => by
    cases e : t d gs G1 with
    | none => rw [e] at h1; exact h1.no
    | some p =>
      obtain ⟨gs', G'⟩ := p
      rw [e] at h1
      exact ⟨ι1, gs, G1, d, gs', G', ss.mono s1, t1, rv, e, fun ι' H' σ' s t u _ => h1.at s t u⟩⟩⟩
end
end FI
set_option maxRecDepth 100000
set_option maxHeartbeats 1000000
namespace FI
open PySem L2
abbrev SW := Sg → Mm (List D × (Hh → Prop))
def WkOk (g : Gm) (J : It) (items : List D) (gd : Hh → Prop) (ι0 : List Addr) (H0 : Hp) : Prop :=
  ∀ ι H G i, Stp g ι0 H0 ι H → SimH g ι G H → gd G → i ≤ items.length →
    (∀ d, items[i]? = some d → J.go i H ∧ ∀ x H', J.yld i H x H' → Stp g ι H ι H' ∧ SimH g ι G H' ∧ RelD g ι H' d x) ∧ (i = items.length → J.stop i H)
theorem WkOk.mono {g : Gm} {J : It} {items : List D} {gd : Hh → Prop} {ι0 ι1 : List Addr} {H0 H1 : Hp} (w : WkOk g J items gd ι0 H0) (s : Stp g ι0 H0 ι1 H1) : WkOk g J items gd ι1 H1 := fun ι H G i st sm gg hi => w ι H G i (s.trans st) sm gg hi
def tW (g : Gm) (W : WX) (f : SW) : TI := fun σ H R => ∃ ι gs G, SimS g ι H gs σ ∧ SimH g ι G H ∧ Gv g W σ ι H (f gs G) fun p ι' G' H' => ∀ J, WkOk g J p.1 p.2 ι' H' → R J H'
structure FK (g : Gm) (c : Sc) (tg iter : Expr) (f : SW) : Prop where
  run : ∀ X, XIs g c X → ∀ W, L2N.Takes X W → PI X tg iter (tW g W f)
theorem pi_imp {X : Cx} {tg iter : Expr} {t t' : TI} (h : PI X tg iter t) (k : ∀ σ H Q, t' σ H Q → t σ H Q) : PI X tg iter t' := ⟨fun pins s σ H Q I q => h.run pins s σ H Q I (k σ H Q q)⟩
open Classical in
noncomputable def forL (t : GT) (b : SS) (gd : Hh → Prop) : List D → SS
  | [], gs, G => if gd G then some (.nx, gs, G) else none
  | d :: ds, gs, G => if gd G then (match t d gs G with
    | none => none
    | some (gs1, G1) => match b gs1 G1 with
      | some (.nx, gs2, G2) => forL t b gd ds gs2 G2
      | some (.ct, gs2, G2) => forL t b gd ds gs2 G2
      | some (.bk, gs2, G2) => some (.nx, gs2, G2)
      | o => o) else none
noncomputable def sFor (fw : SW) (t : GT) (b : SS) : SS := fun gs G => onE (fw gs G) gs fun p G1 => forL t b p.2 p.1 gs G1
section
variable {g : Gm} {c : Sc} {tg iter : Expr} {fw : SW} {t : GT} {body : List Stmt} {b : SS} {pos : Pos}
theorem fs_for {sl : List Nat} (hi : FK g c tg iter fw) (hg : FG g c tg sl t) (hb : FB g c body b) (hs : ∀ env x, foldedSetIterable iter env x = pure x := by intro _ _; rfl) (hh : c.hot = false := by rfl) : FS g c (.For tg iter body [] pos) (sFor fw t b) :=
  ⟨fun X i W tk => ps_imp (ps_for i.po (i.calm hh) (hi.run X i W tk) (hg.run X i) (hb.run X i W tk) (hs _)) fun D0 σ H ⟨ι, gs, G, ss, sh, q⟩ => by
    refine ⟨ι, gs, G, ss, sh, (q.onE ss).imp fun p ι1 G1 H1 s1 t1 h1 J wk => ?_⟩
    obtain ⟨items, gd⟩ := p
    refine ⟨fun n m σ' H' => ∃ ι' gs' G', n ≤ items.length ∧ m = items.length - n ∧ Stp g ι1 H1 ι' H' ∧ SimS g ι' H' gs' σ' ∧ SimH g ι' G' H' ∧ Gs g W ι' H' (forL t b gd (items.drop n) gs' G') D0,
      ⟨_, ι1, gs, G1, Nat.zero_le _, rfl, .refl _ _ _, ss.mono s1, t1, h1⟩, ?_⟩
    rintro n m σ' H' ⟨ι', gs', G', hn, rfl, st, ss', sh', q'⟩
    by_cases hlt : n < items.length
    · have hd : items.drop n = items[n] :: items.drop (n + 1) := List.drop_eq_getElem_cons hlt
      rw [hd] at q'
      unfold forL at q'
      by_cases hgd : gd G'
      · rw [if_pos hgd] at q'
        obtain ⟨go, yl⟩ := (wk ι' H' G' n st sh' hgd hn).1 items[n] (List.getElem?_eq_getElem hlt)
        refine .inr ⟨go, fun σ2 H2 => ∃ ι' gs' G', n + 1 ≤ items.length ∧ Stp g ι1 H1 ι' H2 ∧ SimS g ι' H2 gs' σ2 ∧ SimH g ι' G' H2 ∧ Gs g W ι' H2 (forL t b gd (items.drop (n + 1)) gs' G') D0, ?_, fun x H2 y => ?_⟩
        · rintro σ2 H2 ⟨ι2, gs2, G2, h1, h2, h3, h4, h5⟩
          exact ⟨items.length - (n + 1), by omega, ι2, gs2, G2, h1, rfl, h2, h3, h4, h5⟩
        · obtain ⟨s2, t2, rd⟩ := yl x H2 y
          cases e : t items[n] gs' G' with
          | none => rw [e] at q'; exact q'.no
          | some p =>
            obtain ⟨gs1, G2⟩ := p
            rw [e] at q'
            refine ⟨ι', gs', G', items[n], gs1, G2, ss'.mono s2, t2, rd, e, fun ι3 H3 σ3 s3 t3 u3 _ => ⟨ι3, gs1, G2, u3, t3, ?_⟩⟩
            obtain ⟨fl, gs4, G4, e4, q4⟩ := q'
            dsimp only at e4
            cases eb : b gs1 G2 with
            | none => rw [eb] at e4; cases e4
            | some p =>
              obtain ⟨fl1, gs5, G5⟩ := p
              rw [eb] at e4
              refine ⟨fl1, gs5, G5, rfl, fun ι6 H6 σ6 s6 t6 u6 => ?_⟩
              have sAll : Stp g ι' H' ι6 H6 := (s2.trans s3).trans s6
              cases fl1 with
              | nx => exact ⟨ι6, gs5, G5, hlt, st.trans sAll, u6, t6, fl, gs4, G4, e4, fun ι7 H7 σ7 s7 t7 u7 => q4 ι7 H7 σ7 (sAll.trans s7) t7 u7⟩
              | ct => exact ⟨ι6, gs5, G5, hlt, st.trans sAll, u6, t6, fl, gs4, G4, e4, fun ι7 H7 σ7 s7 t7 u7 => q4 ι7 H7 σ7 (sAll.trans s7) t7 u7⟩
              | bk => cases e4; exact q4 ι6 H6 σ6 sAll t6 u6
              | rt d => cases e4; exact q4 ι6 H6 σ6 sAll t6 u6
              | ex x => cases e4; exact q4 ι6 H6 σ6 sAll t6 u6
      · rw [if_neg hgd] at q'
        exact q'.no
    · have hn2 : n = items.length := by omega
      subst hn2
      rw [List.drop_length] at q'
      unfold forL at q'
      by_cases hgd : gd G'
      · rw [if_pos hgd] at q'
        exact .inl ⟨(wk ι' H' G' _ st sh' hgd hn).2 rfl, q'.at (.refl _ _ _) sh' ss'⟩
      · rw [if_neg hgd] at q'
        exact q'.no⟩
def whileN : Nat → ST → SS → SS
  | 0, _, _, _, _ => none
  | n + 1, fc, b, gs, G => onE (fc gs G) gs fun k G1 => if k = true then (match b gs G1 with
    | some (.nx, gs2, G2) => whileN n fc b gs2 G2
    | some (.ct, gs2, G2) => whileN n fc b gs2 G2
    | some (.bk, gs2, G2) => some (.nx, gs2, G2)
    | o => o) else some (.nx, gs, G1)
theorem whileN_succ {fc : ST} {b : SS} : ∀ {n : Nat} {gs : Sg} {G : Hh} {r}, whileN n fc b gs G = some r → whileN (n + 1) fc b gs G = some r
  | 0, gs, G, r, h => by cases h
  | n + 1, gs, G, r, h => by
    unfold whileN at h ⊢
    cases ec : fc gs G with
    | none => rw [ec] at h; cases h
    | some p =>
      obtain ⟨k, G1⟩ := p
      rw [ec] at h
      cases k with
      | exc x => exact h
      | val k =>
        cases k with
        | false => exact h
        | true =>
          rw [onE_val, if_pos rfl] at h ⊢
          cases eb : b gs G1 with
          | none => rw [eb] at h; cases h
          | some p =>
            obtain ⟨fl, gs2, G2⟩ := p
            rw [eb] at h
            cases fl with
            | nx => exact whileN_succ h
            | ct => exact whileN_succ h
            | bk => exact h
            | rt d => exact h
            | ex x => exact h
theorem whileN_le {fc : ST} {b : SS} {n m : Nat} (hnm : n ≤ m) {gs : Sg} {G : Hh} {r} (h : whileN n fc b gs G = some r) : whileN m fc b gs G = some r := by
  induction hnm with
  | refl => exact h
  | step _ ih => exact whileN_succ ih
open Classical in
noncomputable def sWhile (fc : ST) (b : SS) : SS := fun gs G => if h : ∃ r n, whileN n fc b gs G = some r then some h.choose else none
theorem sWhile_eq {fc : ST} {b : SS} {n : Nat} {gs : Sg} {G : Hh} {r} (h : whileN n fc b gs G = some r) : sWhile fc b gs G = some r := by
  have hx : ∃ r n, whileN n fc b gs G = some r := ⟨r, n, h⟩
  unfold sWhile
  rw [dif_pos hx]
  obtain ⟨m, e⟩ := hx.choose_spec
  have a := whileN_le (Nat.le_max_left n m) h
  have b' := whileN_le (Nat.le_max_right n m) e
  rw [a] at b'
  rw [Option.some.inj b']
theorem sWhile_some {fc : ST} {b : SS} {gs : Sg} {G : Hh} {r} (h : sWhile fc b gs G = some r) : ∃ n, whileN n fc b gs G = some r := by
  unfold sWhile at h
  split at h
  · rename_i hx
    obtain ⟨m, e⟩ := hx.choose_spec
    exact ⟨m, by rw [e]; exact h⟩
  · cases h
theorem fs_while {e : Expr} {fc : ST} (hc : FT g c e fc) (hb : FB g c body b) : FS g c (.While e body [] pos) (sWhile fc b) :=
  ⟨fun X i W tk => ps_imp (ps_while i.po (hc.run X i W tk) (hb.run X i W tk)) fun D0 σ H ⟨ι, gs, G, ss, sh, q⟩ => by
    obtain ⟨fl, gs', G', eq, q⟩ := q
    obtain ⟨n0, e0⟩ := sWhile_some eq
    refine ⟨fun m σ' H' => ∃ ι' gs' G', SimS g ι' H' gs' σ' ∧ SimH g ι' G' H' ∧ Gs g W ι' H' (whileN m fc b gs' G') D0, ⟨n0, ι, gs, G, ss, sh, fl, gs', G', e0, q⟩, ?_⟩
    rintro m σ' H' ⟨ι', gs', G', ss', sh', q'⟩
    cases m with
    | zero => exact q'.no
    | succ m =>
      unfold whileN at q'
      refine ⟨ι', gs', G', ss', sh', (q'.onE ss').imp fun k ι1 G1 H1 s1 t1 h1 => ?_⟩
      cases k with
      | false => exact h1.at (.refl _ _ _) t1 (ss'.mono s1)
      | true =>
        rw [if_pos rfl] at h1
        rw [if_pos rfl]
        refine ⟨fun σ2 H2 => ∃ ι' gs' G', SimS g ι' H2 gs' σ2 ∧ SimH g ι' G' H2 ∧ Gs g W ι' H2 (whileN m fc b gs' G') D0, fun σ2 H2 h => ⟨m, Nat.lt_succ_self _, h⟩, ι1, gs', G1, ss'.mono s1, t1, ?_⟩
        obtain ⟨fl, gs4, G4, e4, q4⟩ := h1
        cases eb : b gs' G1 with
        | none => rw [eb] at e4; cases e4
        | some p =>
          obtain ⟨fl1, gs5, G5⟩ := p
          rw [eb] at e4
          refine ⟨fl1, gs5, G5, rfl, fun ι6 H6 σ6 s6 t6 u6 => ?_⟩
          cases fl1 with
          | nx => exact ⟨ι6, gs5, G5, u6, t6, fl, gs4, G4, e4, fun ι7 H7 σ7 s7 t7 u7 => q4 ι7 H7 σ7 (s6.trans s7) t7 u7⟩
          | ct => exact ⟨ι6, gs5, G5, u6, t6, fl, gs4, G4, e4, fun ι7 H7 σ7 s7 t7 u7 => q4 ι7 H7 σ7 (s6.trans s7) t7 u7⟩
          | bk => cases e4; exact q4 ι6 H6 σ6 s6 t6 u6
          | rt d => cases e4; exact q4 ι6 H6 σ6 s6 t6 u6
          | ex x => cases e4; exact q4 ι6 H6 σ6 s6 t6 u6⟩
end
end FI
set_option maxRecDepth 100000
set_option maxHeartbeats 1000000
namespace FI
open PySem L2
def Sc.blk (c : Sc) (scope : Scope) : Sc := { N := c.N, sc := relS scope c.sc, k := c.k, ow := fun x => scope.names.lookup x == some .cell || scope.names.lookup x == some .local, hot := c.hot, top := false }
theorem XIs.blk {g : Gm} {c : Sc} {X : Cx} (i : XIs g c X) (h0 : g.hx = none) (s : Shared) (H : Hp) (scope : Scope) (C : Addr) (cl : List (Str × Addr)) (fp : List Addr) : XIs g (c.blk scope) (X.blk s H scope (compEnvC scope cl C X.env) fp) where
  P := i.P
  w := i.w
  K := i.K
  mg := i.mg
  base := i.base
  N := i.N
  sc := by
    show relS scope X.env.scope = relS scope c.sc
    rw [i.sc]
  nd := i.nd
  calm := i.calm
  room := i.room
  un := i.un
  dp := i.dp
  tp := fun z => nomatch z
  hx := fun q e => by rw [h0] at e; cases e
  hp := fun _ z => nomatch z
  po := PassesOwn.never
  fn := fun x h => by
    show (scope.names.lookup x == some .cell) = true ∨ (relS scope X.env.scope).names.lookup x = some .local
    have h' : (scope.names.lookup x == some .cell || scope.names.lookup x == some .local) = true := h
    rw [Bool.or_eq_true] at h'
    rcases h' with h' | h'
    · exact .inl h'
    · refine .inr (lookup_relS_keep (by decide) ?_)
      simpa using h'
def wipeG (gs : Sg) : List Nat → Sg
  | [] => gs
  | v :: vs => (wipeG gs vs).set v none
theorem SimS.wipe {g : Gm} {ι : List Addr} {H : Hp} {gs : Sg} {σ : L2.St} (h : SimS g ι H gs σ) (h0 : g.hx = none) : ∀ vs : List Nat, SimS g ι H (wipeG gs vs) (wipe σ vs)
  | [] => h
  | v :: vs => by
    have ih := h.wipe h0 vs
    refine ⟨by simp [wipeG, L2.wipe, ih.len], fun i d e => ?_, fun q e => by rw [h0] at e; cases e⟩
    have e' : ((wipeG gs vs).set v none)[i]? = some (some d) := e
    by_cases hv : v = i
    · subst hv
      rw [List.getElem?_set_self' ] at e'
      cases h1 : (wipeG gs vs)[v]? with
      | none => rw [h1] at e'; cases e'
      | some y => rw [h1] at e'; cases e'
    · rw [List.getElem?_set_ne hv] at e'
      obtain ⟨w, h1, h2⟩ := ih.at_ i d e'
      exact ⟨w, by show ((L2.wipe σ vs).set v none)[i]? = _; rw [List.getElem?_set_ne hv]; exact h1, h2⟩
theorem wipe_but {σ σ' : L2.St} : ∀ (vs : List Nat), (∀ j, j ∉ vs → σ'[j]? = σ[j]?) → σ'.length = σ.length → wipe σ' vs = wipe σ vs := fun vs h hl => by
  have key : ∀ (us : List Nat) (τ : L2.St) (j : Nat), (wipe τ us)[j]? = if j ∈ us ∧ j < τ.length then some none else τ[j]? := by
    intro us τ
    induction us with
    | nil => intro j; simp [L2.wipe]
    | cons u us ih =>
      intro j
      show ((wipe τ us).set u none)[j]? = _
      by_cases hu : u = j
      · subst hu
        rw [List.getElem?_set_self']
        rw [ih u]
        by_cases hlt : u < τ.length
        · by_cases hm : u ∈ us
          · simp [hm, hlt]
          · simp [hm, hlt]
        · have e : τ[u]? = none := List.getElem?_eq_none (by omega)
          simp [hlt, e]
      · rw [List.getElem?_set_ne hu, ih j]
        have : (j ∈ u :: us) ↔ j ∈ us := by simp [Ne.symm hu]
        simp only [this]
  apply List.ext_getElem?
  intro j
  rw [key, key, hl]
  by_cases hj : j ∈ vs
  · by_cases hlt : j < σ.length
    · simp [hj, hlt]
    · have e1 : σ[j]? = none := List.getElem?_eq_none (by omega)
      have e2 : σ'[j]? = none := List.getElem?_eq_none (by omega)
      simp [hlt, e1, e2]
  · simp [hj, h j hj]
theorem wipe_wipe {σ : L2.St} (vs : List Nat) : wipe (wipe σ vs) vs = wipe σ vs := by
  refine wipe_but vs (fun j hj => ?_) (wipe_length σ vs)
  exact wipe_out hj
structure FTs (g : Gm) (c : Sc) (ifs : List Expr) (f : ST) : Prop where
  run : ∀ X, XIs g c X → ∀ W, L2N.Takes X W → PTs X ifs (tT g W f)
def tTrue : ST := fun _ G => some (.val true, G)
theorem pts_imp {X : Cx} {es : List Expr} {t t' : TT} (h : PTs X es t) (k : ∀ σ H Q, t' σ H Q → t σ H Q) : PTs X es t' := ⟨fun pins s σ H Q I q => h.run pins s σ H Q I (k σ H Q q)⟩
theorem fts_nil {g : Gm} {c : Sc} : FTs g c [] tTrue := ⟨fun X i W t => pts_imp pts_nil fun σ H Q ⟨ι, gs, G, ss, sh, h⟩ => h.val (.refl _ _ _) sh⟩
theorem fts_one {g : Gm} {c : Sc} {e : Expr} {f : ST} (h : FT g c e f) : FTs g c [e] f := ⟨fun X i W t => pts_one (h.run X i W t)⟩
open Classical in
noncomputable def lcL (t : GT) (tt : ST) (fe : SE) (gd : Hh → Prop) (gs0 : Sg) (n : Nat) : List D → Hh → Option Hh
  | [], G => if gd G then some G else none
  | d :: ds, G => if gd G then (match t d gs0 G with
    | none => none
    | some (gs1, G1) => match tt gs1 G1 with
      | some (.val true, G2) => (match fe gs1 G2 with
        | some (.val y, G3) => (match G3[n]? with
          | some (.lst acc) => if acc.length < 100000 then lcL t tt fe gd gs0 n ds (G3.set n (.lst (acc ++ [y]))) else none
          | _ => none)
        | _ => none)
      | some (.val false, G2) => lcL t tt fe gd gs0 n ds G2
      | _ => none) else none
noncomputable def eLc (fw : SW) (t : GT) (tt : ST) (fe : SE) (own : List Nat) : SE := fun gs G => bnd (fw gs G) fun p G1 =>
  match lcL t tt fe p.2 (wipeG gs own) G1.length p.1 (G1 ++ [.lst []]) with
  | some G2 => some (.val (.ref G1.length), G2)
  | none => none
section
variable {g : Gm} {c : Sc} {tg iter elt : Expr} {ifs : List Expr} {fw : SW} {t : GT} {tt : ST} {fe : SE} {scope : Scope} {own : List (Str × Nat)} {pos : Pos} {sl : List Nat}
theorem lc_read {W : WX} (h0 : g.hx = none) (hsl : ∀ j, j ∈ sl → j ∈ own.map (·.2)) {σ : L2.St} {H : Hp} {Q : VK} (h : tE g W (eLc fw t tt fe (own.map (·.2))) σ H Q) :
    tLc (tW g W fw) (fun v σ H Q => ∃ ι gs G d gs' G', SimS g ι H gs σ ∧ SimH g ι G H ∧ RelD g ι H d v ∧ t d gs G = some (gs', G') ∧ ∀ ι' H' σ', Stp g ι H ι' H' → SimH g ι' G' H' → SimS g ι' H' gs' σ' → But sl σ σ' → Q σ' H')
      (tT g (fun _ _ _ _ => False) tt) (tE g (fun _ _ _ _ => False) fe) (own.map (·.2)) σ H Q := by
  obtain ⟨ι, gs, G, ss, sh, h⟩ := h
  refine ⟨ι, gs, G, ss, sh, h.bnd.imp fun p ι1 G1 H1 s1 t1 h1 J wk Dl hD => ?_⟩
  obtain ⟨items, gd⟩ := p
  dsimp only at h1 wk
  obtain ⟨sm0, st0⟩ := t1.alloc (o := .lst []) (u := .lst []) hD (.lst .nil)
  have ix0 : (ι1 ++ [Dl])[G1.length]? = some Dl := simLast t1 Dl
  refine ⟨fun n m H' => ∃ ι' G', n ≤ items.length ∧ m = items.length - n ∧ Stp g (ι1 ++ [Dl]) (upd H1 Dl (.lst [])) ι' H' ∧ SimH g ι' G' H' ∧
    ∃ G2, lcL t tt fe gd (wipeG gs (own.map (·.2))) G1.length (items.drop n) G' = some G2 ∧ ∀ ι3 H3, Stp g ι' H' ι3 H3 → SimH g ι3 G2 H3 → ∀ v, RelD g ι3 H3 (.ref G1.length) v → Q v H3,
    ⟨_, ι1 ++ [Dl], G1 ++ [.lst []], Nat.zero_le _, rfl, .refl _ _ _, sm0, ?_⟩, ?_⟩
  · rw [List.drop_zero]
    cases e : lcL t tt fe gd (wipeG gs (own.map (·.2))) G1.length items (G1 ++ [.lst []]) with
    | none => rw [e] at h1; exact h1.no
    | some G2 =>
      rw [e] at h1
      exact ⟨G2, rfl, fun ι3 H3 s3 t3 => h1.val (st0.trans s3) t3⟩
  · rintro n m H' ⟨ι', G', hn, rfl, st, sh', G2, eq, fin⟩
    have wk' := (wk.mono st0).mono st
    by_cases hlt : n < items.length
    · have hd : items.drop n = items[n] :: items.drop (n + 1) := List.drop_eq_getElem_cons hlt
      rw [hd] at eq
      unfold lcL at eq
      by_cases hgd : gd G'
      · rw [if_pos hgd] at eq
        obtain ⟨go, yl⟩ := (wk' ι' H' G' n (.refl _ _ _) sh' hgd hn).1 items[n] (List.getElem?_eq_getElem hlt)
        refine .inr ⟨go, fun H2 => ∃ ι' G', n + 1 ≤ items.length ∧ Stp g (ι1 ++ [Dl]) (upd H1 Dl (.lst [])) ι' H2 ∧ SimH g ι' G' H2 ∧
          ∃ G2, lcL t tt fe gd (wipeG gs (own.map (·.2))) G1.length (items.drop (n + 1)) G' = some G2 ∧ ∀ ι3 H3, Stp g ι' H2 ι3 H3 → SimH g ι3 G2 H3 → ∀ v, RelD g ι3 H3 (.ref G1.length) v → Q v H3, ?_, fun x H2 y => ?_⟩
        · rintro H2 ⟨ι2, G4, h1, h2, h3, h4⟩
          exact ⟨items.length - (n + 1), by omega, ι2, G4, h1, rfl, h2, h3, h4⟩
        · obtain ⟨s2, t2, rd⟩ := yl x H2 y
          cases e : t items[n] (wipeG gs (own.map (·.2))) G' with
          | none => rw [e] at eq; cases eq
          | some p =>
            obtain ⟨gs1, Ga⟩ := p
            rw [e] at eq
            dsimp only at eq
            have sAll : Stp g ι H ι' H' := (s1.trans st0).trans st
            refine ⟨ι', wipeG gs (own.map (·.2)), G', items[n], gs1, Ga, ((ss.mono sAll).wipe h0 _).mono s2, t2, rd, e, fun ι3 H3 σ3 s3 t3 u3 but => ⟨?_, ι3, gs1, Ga, u3, t3, ?_⟩⟩
            · rw [← wipe_wipe (σ := σ)]
              exact wipe_but _ (fun j hj => but.2 j (fun z => hj (hsl j z))) but.1
            · cases et : tt gs1 Ga with
              | none => rw [et] at eq; cases eq
              | some p =>
                obtain ⟨r, Gb⟩ := p
                rw [et] at eq
                cases r with
                | exc x => cases eq
                | val b =>
                  refine ⟨_, _, rfl, fun ι4 H4 s4 t4 => ?_⟩
                  cases b with
                  | false =>
                    dsimp only
                    rw [if_neg Bool.false_ne_true]
                    exact ⟨ι4, Gb, hlt, st.trans ((s2.trans s3).trans s4), t4, G2, eq, fun ι5 H5 s5 t5 => fin ι5 H5 (((s2.trans s3).trans s4).trans s5) t5⟩
                  | true =>
                    dsimp only
                    rw [if_pos rfl]
                    dsimp only at eq
                    refine ⟨ι4, gs1, Gb, u3.mono s4, t4, ?_⟩
                    cases ee : fe gs1 Gb with
                    | none => rw [ee] at eq; cases eq
                    | some p =>
                      obtain ⟨r, Gc⟩ := p
                      rw [ee] at eq
                      cases r with
                      | exc x => cases eq
                      | val y =>
                        refine ⟨_, _, rfl, fun ι5 H5 s5 t5 v rv => ?_⟩
                        dsimp only at eq
                        have sTo : Stp g ι' H' ι5 H5 := ((s2.trans s3).trans s4).trans s5
                        have ix5 : ι5[G1.length]? = some Dl := sTo.at (st.at ix0)
                        cases eg : Gc[G1.length]? with
                        | none => rw [eg] at eq; cases eq
                        | some o =>
                          rw [eg] at eq
                          cases o with
                          | lst acc =>
                            dsimp only at eq
                            by_cases hacc : acc.length < 100000
                            · rw [if_pos hacc] at eq
                              obtain ⟨u, hu, ro⟩ := t5.at_ _ _ _ eg ix5
                              cases ro with
                              | lst rs =>
                                obtain ⟨sm6, st6⟩ := t5.write (o := .lst (acc ++ [y])) ix5 hu ⟨(fun _ z => by cases z), (fun _ _ z => by cases z), (fun _ z => by cases z)⟩ (.lst (rs.append (.one rv)))
                                exact ⟨_, hu, by rw [← rs.length]; exact line_lt hacc, ι5, _, hlt, (st.trans sTo).trans st6, sm6, G2, eq, fun ι7 H7 s7 t7 => fin ι7 H7 ((sTo.trans st6).trans s7) t7⟩
                            · rw [if_neg hacc] at eq; cases eq
                          | dK _ => cases eq
                          | dT _ => cases eq
                          | dF _ => cases eq
                          | ins _ _ => cases eq
      · rw [if_neg hgd] at eq; cases eq
    · have hn2 : n = items.length := by omega
      subst hn2
      rw [List.drop_length] at eq
      unfold lcL at eq
      by_cases hgd : gd G'
      · rw [if_pos hgd] at eq
        cases eq
        exact .inl ⟨(wk' ι' H' G' _ (.refl _ _ _) sh' hgd hn).2 rfl, fin ι' H' (.refl _ _ _) sh' _ (.ref (st.at ix0))⟩
      · rw [if_neg hgd] at eq; cases eq
theorem fe_lc (hi : FK g c tg iter fw) (hg : FG g (c.blk scope) tg sl t) (ht : FTs g (c.blk scope) ifs tt) (he : FE g (c.blk scope) elt fe) (ok : blkC c.N c.sc scope own = true := by decide +kernel)
    (hsl : ∀ j, j ∈ sl → j ∈ own.map (·.2) := by decide) (hs : ∀ env x, foldedSetIterable iter env x = pure x := by intro _ _; rfl) (hh : c.hot = false := by rfl) (h0 : g.hx = none := by rfl) : FE g c (.ListComp elt [⟨tg, iter, ifs, 0⟩] scope pos) (eLc fw t tt fe (own.map (·.2))) :=
  ⟨fun X i W tk => pe_imp (pe_lc (i.calm hh) (by rw [i.N]; exact i.nd) (hi.run X i W tk) (by rw [i.N, i.sc]; exact blkOk_by ok)
    (fun s H C cl fp => hg.run _ (i.blk h0 s H scope C cl fp)) (fun s H C cl fp => ht.run _ (i.blk h0 s H scope C cl fp) _ takesN0) (fun s H C cl fp => he.run _ (i.blk h0 s H scope C cl fp) _ takesN0) (hs _)) fun σ H Q h => lc_read h0 hsl h⟩
theorem fs_setLc {k : Nat} {y : Str} {py spos : Pos} (hi : FK g c tg iter fw) (hg : FG g (c.blk scope) tg sl t) (ht : FTs g (c.blk scope) ifs tt) (he : FE g (c.blk scope) elt fe) (hy : c.N[k]? = some y := by rfl) (hyl : c.sc.names.lookup y = some .local := by rfl)
    (hl : (py.line == pos.line) = true := by rfl) (hkd : c.sc.kind = .function := by rfl) (ha : (scope.names.any fun (n, k) => n == y && (k == .local || k == .cell)) = false := by decide +kernel) (ok : blkC c.N c.sc scope own = true := by decide +kernel)
    (hsl : ∀ j, j ∈ sl → j ∈ own.map (·.2) := by decide) (hs : ∀ env x, foldedSetIterable iter env x = pure x := by intro _ _; rfl) (hh : c.hot = false := by rfl) (h0 : g.hx = none := by rfl) :
    FS g c (.Assign [.Name y py] (.ListComp elt [⟨tg, iter, ifs, 0⟩] scope pos) spos) (sAsg (eLc fw t tt fe (own.map (·.2))) (gNm k)) :=
  ⟨fun X i W tk => ps_imp (ps_setLc (i := k) (i.calm hh) (by rw [i.N]; exact i.nd) (by rw [i.N]; exact hy) (by rw [i.sc]; exact hyl) (sw_true (by rw [i.sc]; exact hkd) (by rw [i.sc]; exact hyl) hl ha) (hi.run X i W tk) (by rw [i.N, i.sc]; exact blkOk_by ok)
    (fun s H C cl fp => hg.run _ (i.blk h0 s H scope C cl fp)) (fun s H C cl fp => ht.run _ (i.blk h0 s H scope C cl fp) _ takesN0) (fun s H C cl fp => he.run _ (i.blk h0 s H scope C cl fp) _ takesN0) (hs _)) fun D0 σ H ⟨ι, gs, G, ss, sh, q⟩ =>
      lc_read h0 hsl ⟨ι, gs, G, ss, sh, (q.onE ss).imp fun d ι1 G1 H1 s1 t1 h1 v rv => h1.at (.refl _ _ _) t1 ((ss.mono s1).set rv k (NoHx.none h0))⟩⟩
end
end FI
set_option maxRecDepth 100000
set_option maxHeartbeats 1000000
namespace FI
open PySem L2
mutual
/-- all numbers in it are below n -/
def D.bw (n : Nat) : D → Bool
  | .ref m => decide (m < n)
  | .tup xs => D.bwL n xs
  | .kt xs => D.bwL n xs
  | .kl xs => D.bwL n xs
  | .non => true
  | .bl _ => true
  | .int _ => true
  | .str _ => true
  | .glb _ => true
  | .ty _ => true
  | .xo _ _ ds => D.bwL n ds
def D.bwL (n : Nat) : List D → Bool
  | [] => true
  | x :: xs => D.bw n x && D.bwL n xs
end
def O.bw (n : Nat) : O → Bool
  | .lst xs => D.bwL n xs
  | .dK kvs => D.bwL n (kvs.map (·.2))
  | .dT kvs => D.bwL n (kvs.map (·.2))
  | .dF kvs => D.bwL n (kvs.map (·.2))
  | .ins _ fs => D.bwL n (fs.map (·.2))
def Exc.bw (n : Nat) (x : Exc) : Bool := D.bwL n (x.fs.map (·.2))
section
variable {g : Gm} {ι : List Addr} {H : Hp}
mutual
theorem RelD.bw : ∀ {d : D} {v : V}, RelD g ι H d v → d.bw ι.length = true
  | _, _, .non => rfl
  | _, _, .bl b => rfl
  | _, _, .int i => rfl
  | _, _, .str s => rfl
  | _, _, .tup _ r => RelDs.bw r
  | _, _, .kt _ r => RelDs.bw r
  | _, _, .kl _ r => RelDs.bw r
  | _, _, .ref h => decide_eq_true (List.getElem?_eq_some_iff.mp h).1
  | _, _, .glb _ => rfl
  | _, _, .ty _ => rfl
  | _, _, .xo _ _ _ _ _ _ _ r => RelDs.bw r
theorem RelDs.bw : ∀ {ds : List D} {vs : List V}, RelDs g ι H ds vs → D.bwL ι.length ds = true
  | _, _, .nil => rfl
  | _, _, .cons a b => by
    unfold D.bwL
    rw [RelD.bw a, RelDs.bw b]
    rfl
end
mutual
theorem RelD.cut {n : Nat} : ∀ {d : D} {v : V}, RelD g ι H d v → d.bw n = true → RelD g (ι.take n) H d v
  | _, _, .non, _ => .non
  | _, _, .bl b, _ => .bl b
  | _, _, .int i, _ => .int i
  | _, _, .str s, _ => .str s
  | _, _, .tup h r, e => .tup h (RelDs.cut r e)
  | _, _, .kt h r, e => .kt h (RelDs.cut r e)
  | _, _, .kl h r, e => .kl h (RelDs.cut r e)
  | _, _, .ref (n := m) h, e => .ref (by rw [List.getElem?_take_of_lt (of_decide_eq_true e)]; exact h)
  | _, _, .glb h, _ => .glb h
  | _, _, .ty n, _ => .ty n
  | _, _, .xo h1 h2 h0 h3 h4 h5 h6 r, e => .xo h1 h2 h0 h3 h4 h5 h6 (RelDs.cut r e)
theorem RelDs.cut {n : Nat} : ∀ {ds : List D} {vs : List V}, RelDs g ι H ds vs → D.bwL n ds = true → RelDs g (ι.take n) H ds vs
  | _, _, .nil, _ => .nil
  | _, _, .cons a b, e => by
    have e' : (D.bw n _ && D.bwL n _) = true := e
    rw [Bool.and_eq_true] at e'
    exact .cons (RelD.cut a e'.1) (RelDs.cut b e'.2)
end
theorem RelKv.cut {κ : Type} {n : Nat} {r : List (κ × D)} {q : List (κ × V)} (h : RelKv g ι H r q) : D.bwL n (r.map (·.2)) = true → RelKv g (ι.take n) H r q := by
  induction h with
  | nil => exact fun _ => .nil
  | cons a _ ih =>
    intro e
    have e' : (D.bw n _ && D.bwL n _) = true := e
    rw [Bool.and_eq_true] at e'
    exact .cons (a.cut e'.1) (ih e'.2)
theorem RelFs.cut {n : Nat} {r : List (Nat × D)} {q : List (Str × V)} (h : RelFs g ι H r q) : D.bwL n (r.map (·.2)) = true → RelFs g (ι.take n) H r q := by
  induction h with
  | nil => exact fun _ => .nil
  | cons hk a _ ih =>
    intro e
    have e' : (D.bw n _ && D.bwL n _) = true := e
    rw [Bool.and_eq_true] at e'
    exact .cons hk (a.cut e'.1) (ih e'.2)
theorem RelO.cut {n : Nat} {o : O} {u : HO} (h : RelO g ι H o u) (e : o.bw n = true) : RelO g (ι.take n) H o u := by
  cases h with
  | lst a => exact .lst (a.cut e)
  | dK a => exact .dK (a.cut e)
  | dT a => exact .dT (a.cut e)
  | dF a => exact .dF (a.cut e)
  | ins a => exact .ins (a.cut e)
theorem RelKv.bw {κ : Type} {r : List (κ × D)} {q : List (κ × V)} (h : RelKv g ι H r q) : D.bwL ι.length (r.map (·.2)) = true := by
  induction h with
  | nil => rfl
  | cons a _ ih => show (D.bw _ _ && D.bwL _ _) = true; rw [a.bw, ih]; rfl
theorem RelFs.bw {r : List (Nat × D)} {q : List (Str × V)} (h : RelFs g ι H r q) : D.bwL ι.length (r.map (·.2)) = true := by
  induction h with
  | nil => rfl
  | cons hk a _ ih => show (D.bw _ _ && D.bwL _ _) = true; rw [a.bw, ih]; rfl
theorem RelO.bw {o : O} {u : HO} (h : RelO g ι H o u) : o.bw ι.length = true := by
  cases h with
  | lst a => exact a.bw
  | dK a => exact a.bw
  | dT a => exact a.bw
  | dF a => exact a.bw
  | ins a => exact a.bw
end
def Old (G0 G' : Hh) : Prop := G0.length ≤ G'.length ∧ ∀ i, i < G0.length → G'[i]? = G0[i]? ∨ ∃ o, G'[i]? = some o ∧ o.bw G0.length = true
theorem Old.app {G0 J : Hh} : Old G0 (G0 ++ J) := ⟨by simp, fun i hi => .inl (List.getElem?_append_left hi)⟩
theorem Old.refl {G0 : Hh} : Old G0 G0 := ⟨Nat.le_refl _, fun _ _ => .inl rfl⟩
theorem SimH.letGo {g : Gm} {ι ι' : List Addr} {G0 G' : Hh} {H H' : Hp} (s0 : SimH g ι G0 H) (st : Stp g ι H ι' H') (s : SimH g ι' G' H') (o : Old G0 G') : SimH g (ι'.take G0.length) (G'.take G0.length) H' ∧ ι'.take G0.length = ι := by
  have hι : ι'.take G0.length = ι := by
    obtain ⟨t, e⟩ := st.pre
    rw [e, ← s0.len, List.take_left']
    rfl
  refine ⟨⟨by rw [List.length_take, List.length_take, s.len], s.nd.sublist (List.take_sublist _ _), fun n ob a h1 h2 => ?_⟩, hι⟩
  have hn : n < G0.length := by
    have := (List.getElem?_eq_some_iff.mp h1).1
    rw [List.length_take] at this
    omega
  rw [List.getElem?_take_of_lt hn] at h1 h2
  obtain ⟨u, hu, r⟩ := s.at_ n ob a h1 h2
  refine ⟨u, hu, r.cut ?_⟩
  rcases o.2 n hn with q | ⟨ob', q, b⟩
  · rw [h1] at q
    obtain ⟨a0, u0, h3, h4, r0⟩ := s0.get q.symm
    rw [← s0.len]
    exact r0.bw
  · rw [h1] at q
    cases q
    exact b
open Classical in
noncomputable def slim (G0 : Hh) (m : Option (Rs D × Hh)) : Option (Rs D × Hh) :=
  match m with
  | some (.val (.ref m), G') => if Old G0 G' then (if m < G0.length then some (.val (.ref m), G'.take G0.length) else match G'[m]? with
      | some o => if o.bw G0.length = true then some (.val (.ref G0.length), G'.take G0.length ++ [o]) else some (.val (.ref m), G')
      | none => some (.val (.ref m), G')) else some (.val (.ref m), G')
  | some (.val d, G') => if Old G0 G' ∧ d.bw G0.length = true then some (.val d, G'.take G0.length) else some (.val d, G')
  | some (.exc x, G') => if Old G0 G' ∧ x.bw G0.length = true then some (.exc x, G'.take G0.length) else some (.exc x, G')
  | none => none
def VOk (g : Gm) (W : WX) (σ : L2.St) (Q : VK) (r : Rs D) (ι : List Addr) (H : Hp) : Prop := match r with
  | .val a => ∀ v, RelD g ι H a v → Q v H
  | .exc x => ∀ c d, RelX g ι H x c d → W c d σ H
open Classical in
theorem Gv.unslim {g : Gm} {W : WX} {σ : L2.St} {ι : List Addr} {G : Hh} {H : Hp} {m : Option (Rs D × Hh)} {Q : VK} (sh : SimH g ι G H) (h : Gv g W σ ι H (slim G m) fun d ι' _ H' => ∀ v, RelD g ι' H' d v → Q v H') :
    Gv g W σ ι H m fun d ι' _ H' => ∀ v, RelD g ι' H' d v → Q v H' := by
  obtain ⟨r, G', e, q⟩ := h
  cases m with
  | none => cases e
  | some p =>
    obtain ⟨r1, G1⟩ := p
    refine ⟨r1, G1, rfl, fun ι' H' st sm => ?_⟩
    suffices hh : VOk g W σ Q r1 ι' H' by cases r1 <;> exact hh
    have q : ∀ ι' H', Stp g ι H ι' H' → SimH g ι' G' H' → VOk g W σ Q r ι' H' := fun ι' H' a b => by
      have z := q ι' H' a b
      cases r <;> exact z
    have same : some (r1, G1) = some (r, G') → VOk g W σ Q r1 ι' H' := fun z => by
      cases z
      exact q ι' H' st sm
    have cutTo : Old G G1 → SimH g ι (G1.take G.length) H' ∧ Stp g ι H ι H' := fun o => by
      obtain ⟨a, b⟩ := sh.letGo st sm o
      rw [b] at a
      exact ⟨a, ⟨⟨[], by simp⟩, st.tup, st.frz, st.xd⟩⟩
    have plain : ∀ d, r1 = .val d → (∀ m, d ≠ .ref m) → VOk g W σ Q r1 ι' H' := fun d hd hr => by
      subst hd
      have e' : (if Old G G1 ∧ d.bw G.length = true then some ((.val d : Rs D), G1.take G.length) else some (.val d, G1)) = some (r, G') := by
        cases d with
        | ref m => exact absurd rfl (hr m)
        | _ => exact e
      by_cases hc : Old G G1 ∧ d.bw G.length = true
      · rw [if_pos hc] at e'
        cases e'
        obtain ⟨a, b⟩ := cutTo hc.1
        intro v rv
        have k := (sh.letGo st sm hc.1).2
        have rv' := rv.cut (n := G.length) hc.2
        rw [k] at rv'
        exact q ι H' b a v rv'
      · rw [if_neg hc] at e'
        exact same e'
    cases r1 with
    | exc x =>
      have e' : (if Old G G1 ∧ x.bw G.length = true then some ((.exc x : Rs D), G1.take G.length) else some (.exc x, G1)) = some (r, G') := e
      by_cases hc : Old G G1 ∧ x.bw G.length = true
      · rw [if_pos hc] at e'
        cases e'
        obtain ⟨a, b⟩ := cutTo hc.1
        have k := (sh.letGo st sm hc.1).2
        intro c d rx
        refine q ι H' b a c d ⟨rx.1, ?_⟩
        rcases rx.2 with z | ⟨dd, vfs, z1, z2, z3⟩
        · exact .inl z
        · have z4 := z3.cut (n := G.length) hc.2
          rw [k] at z4
          exact .inr ⟨dd, vfs, z1, z2, z4⟩
      · rw [if_neg hc] at e'
        exact same e'
    | val d =>
      cases d with
      | ref m =>
        have e' : (if Old G G1 then (if m < G.length then some ((.val (.ref m) : Rs D), G1.take G.length) else match G1[m]? with
          | some o => if o.bw G.length = true then some ((.val (.ref G.length) : Rs D), G1.take G.length ++ [o]) else some (.val (.ref m), G1)
          | none => some (.val (.ref m), G1)) else some (.val (.ref m), G1)) = some (r, G') := e
        by_cases ho : Old G G1
        · rw [if_pos ho] at e'
          obtain ⟨a, b⟩ := cutTo ho
          have k := (sh.letGo st sm ho).2
          by_cases hm : m < G.length
          · rw [if_pos hm] at e'
            cases e'
            intro v rv
            have rv' := rv.cut (n := G.length) (decide_eq_true hm)
            rw [k] at rv'
            exact q ι H' b a v rv'
          · rw [if_neg hm] at e'
            cases eo : G1[m]? with
            | none => rw [eo] at e'; exact same e'
            | some o =>
              rw [eo] at e'
              dsimp only at e'
              by_cases hb : o.bw G.length = true
              · rw [if_pos hb] at e'
                cases e'
                intro v rv
                cases rv with
                | @ref _ x hx =>
                  obtain ⟨u, hu, ro⟩ := sm.at_ m o x eo hx
                  have hxn : x ∉ ι := fun hi => by
                    obtain ⟨j, hj, ej⟩ := List.mem_iff_getElem.mp hi
                    have h1 : ι'[j]? = some x := st.at (by rw [List.getElem?_eq_getElem hj, ej])
                    obtain ⟨l1, e1⟩ := List.getElem?_eq_some_iff.mp h1
                    obtain ⟨l2, e2⟩ := List.getElem?_eq_some_iff.mp hx
                    have : j = m := (List.getElem_inj sm.nd).mp (e1.trans e2.symm)
                    rw [sh.len] at hj
                    omega
                  have ro' := ro.cut hb
                  rw [k] at ro'
                  have st2 : Stp g ι H' (ι ++ [x]) H' := ⟨⟨[x], rfl⟩, fun _ _ z => z, fun _ _ _ z => z, fun _ _ z => z⟩
                  have hlen : (G1.take G.length).length = G.length := by rw [List.length_take]; have := ho.1; omega
                  have sm2 : SimH g (ι ++ [x]) (G1.take G.length ++ [o]) H' := by
                    refine ⟨by simp [a.len], ?_, fun n o' y h1 h2 => ?_⟩
                    · rw [List.nodup_append]
                      refine ⟨a.nd, by simp, fun y hy z hz e => ?_⟩
                      have : z = x := by simpa using hz
                      subst this
                      subst e
                      exact hxn hy
                    · by_cases hn : n < ι.length
                      · rw [List.getElem?_append_left hn] at h2
                        rw [List.getElem?_append_left (by rw [← a.len]; exact hn)] at h1
                        obtain ⟨u', hu', r'⟩ := a.at_ n o' y h1 h2
                        exact ⟨u', hu', r'.mono st2⟩
                      · have hl := (List.getElem?_eq_some_iff.mp h2).1
                        have hn2 : n = ι.length := by simp at hl; omega
                        subst hn2
                        rw [List.getElem?_append_right (Nat.le_refl _)] at h2
                        rw [List.getElem?_append_right (by rw [a.len]; exact Nat.le_refl _)] at h1
                        simp at h2
                        rw [a.len] at h1
                        simp at h1
                        subst h2 h1
                        exact ⟨u, hu, ro'.mono st2⟩
                  refine q (ι ++ [x]) H' (b.trans st2) sm2 _ (.ref ?_)
                  rw [← sh.len, List.getElem?_append_right (Nat.le_refl _)]
                  simp
              · rw [if_neg hb] at e'
                exact same e'
        · rw [if_neg ho] at e'
          exact same e'
      | non => exact plain _ rfl (fun _ z => by cases z)
      | bl b => exact plain _ rfl (fun _ z => by cases z)
      | int i => exact plain _ rfl (fun _ z => by cases z)
      | str x => exact plain _ rfl (fun _ z => by cases z)
      | tup xs => exact plain _ rfl (fun _ z => by cases z)
      | kt xs => exact plain _ rfl (fun _ z => by cases z)
      | kl xs => exact plain _ rfl (fun _ z => by cases z)
      | glb x => exact plain _ rfl (fun _ z => by cases z)
      | ty n => exact plain _ rfl (fun _ z => by cases z)
      | xo c ks ds => exact plain _ rfl (fun _ z => by cases z)
end FI
set_option maxRecDepth 100000
set_option maxHeartbeats 1000000
namespace L2
open PySem PySem.Spec PyProof.Rows
theorem Fun.okN {P : Program} {w : World} {K : PySem.W.Frag} {mg : Str → Option Value} {base : Heap} {x qual : Str} {st : Stmt} {f : Addr} {fd : FuncData} {N ps : List Str} {k : Nat} {sp : Sp} (F : Fun K x qual st f fd) (S : FnScope N ps (defScope st)) (len : ∀ vs H Q E, sp vs H Q E → vs.length = ps.length)
    (hbody : ∀ (cdv : Value) (A : Around) (outer : List Env) (s : Shared) (H : Hp) (vs : List V) (Q : VK) (E : XK), Room k (A.deeper (envOfC qual (defScope st) s.heap.objs.size f cdv)) → sp vs H Q E →
      ∃ t, PSs (cxOf (L2N.CX P w) P w K mg base N qual (defScope st) f cdv A outer s H E) (defBody st) t ∧ t { nx := fun _ H' => Q .non H', rt := Q } (start N vs) H) : FnOk P w K mg base (L2N.CX P w) (k + 1) f fd ps sp := by
  obtain ⟨oc, od, kV, doc, pm, an, cdv, ct, osl, rfl, lk, hcd⟩ := F.ex
  exact fn_of lk hcd S len fun A outer s H vs Q E hr hsp => hbody cdv A outer s H vs Q E hr hsp
end L2
namespace FI
open PySem L2 PySem.Spec PyProof.Rows
def spD (g : Gm) (n : Nat) (F : Fn) : Sp := fun vs H Q E => vs.length = n ∧ ∃ ι ds G, RelDs g ι H ds vs ∧ SimH g ι G H ∧ Gv g (fun c d _ H' => E c d H') [] ι H (F ds G) fun d ι' _ H' => ∀ v, RelD g ι' H' d v → Q v H'
def FnD (g : Gm) (k : Nat) (f : Addr) (fd : FuncData) (ps : List Str) (F : Fn) : Prop := FnOk g.P g.w g.K g.mg g.base (L2N.CX g.P g.w) k f fd ps (spD g ps.length F)
def start0 (n : Nat) (ds : List D) : Sg := ds.map some ++ List.replicate (n - ds.length) none
def runB (b : SS) (n : Nat) : Fn := fun ds G => match b (start0 n ds) G with
  | some (.nx, _, G') => some (.val .non, G')
  | some (.rt d, _, G') => some (.val d, G')
  | some (.ex x, _, G') => some (.exc x, G')
  | _ => none
noncomputable def mkFn (np n : Nat) (b : SS) : Fn := fun ds G => if ds.length = np then slim G (runB b n ds G) else none
theorem mkFn_eq {np n : Nat} {b : SS} {ds : List D} {G : Hh} (h : ds.length = np) : mkFn np n b ds G = slim G (runB b n ds G) := if_pos h
theorem simStart {g : Gm} (h0 : g.hx = none) {ι : List Addr} {H : Hp} {ds : List D} {vs : List V} (r : RelDs g ι H ds vs) (N : List Str) : SimS g ι H (start0 N.length ds) (L2.start N vs) := by
  refine ⟨by simp [start0, L2.start, r.length], fun i d e => ?_, fun q e => by rw [h0] at e; cases e⟩
  unfold start0 at e
  by_cases hi : i < ds.length
  · rw [List.getElem?_append_left (by simpa using hi), List.getElem?_map] at e
    cases ed : ds[i]? with
    | none => rw [ed] at e; cases e
    | some y =>
      rw [ed] at e
      cases e
      obtain ⟨v, h1, h2⟩ := r.get ed
      refine ⟨v, ?_, h2⟩
      unfold L2.start
      rw [List.getElem?_append_left (by rw [List.length_map, ← r.length]; exact hi), List.getElem?_map, h1]
      rfl
  · rw [List.getElem?_append_right (by simpa using hi), List.getElem?_replicate] at e
    split at e <;> cases e
theorem xis_def {g : Gm} {N : List Str} {qual : Str} {scope : Scope} {f : Addr} {cdv : Value} {A : Around} {outer : List Env} {s : Shared} {H : Hp} {E : XK} {k : Nat} (h0 : g.hx = none) (nd : N.Nodup) (hr : Room k (A.deeper (envOfC qual scope s.heap.objs.size f cdv))) :
    XIs g { N := N, sc := scope, k := k } (cxOf (L2N.CX g.P g.w) g.P g.w g.K g.mg g.base N qual scope f cdv A outer s H E) where
  P := rfl
  w := rfl
  K := rfl
  mg := rfl
  base := rfl
  N := rfl
  sc := rfl
  nd := nd
  calm := fun _ => rfl
  room := fun _ => hr
  un := hr.un
  dp := hr.dp
  tp := fun _ => ⟨rfl, rfl⟩
  hx := fun q e => by rw [h0] at e; cases e
  hp := fun z => nomatch z
  po := passes_of rfl
  fn := fun x _ => .inl rfl
theorem fn_def {g : Gm} {x qual : Str} {st : Stmt} {f : Addr} {fd : FuncData} {N ps : List Str} {k : Nat} {b : SS} (F : Fun g.K x qual st f fd) (S : FnScope N ps (defScope st)) (hb : FB g { N := N, sc := defScope st, k := k } (defBody st) b) (h0 : g.hx = none := by rfl) : FnD g (k + 1) f fd ps (mkFn ps.length N.length b) := by
  refine F.okN S (fun vs H Q E h => h.1) (fun cdv A outer s H vs Q E hr h => ?_)
  obtain ⟨hl, ι, ds, G, rs, sh, h⟩ := h
  rw [mkFn_eq (by rw [rs.length]; exact hl)] at h
  refine ⟨_, hb.run _ (xis_def h0 S.nd hr) (fun c d _ H' => E c d H') (L2N.takes_of rfl rfl rfl rfl), ι, start0 N.length ds, G, simStart h0 rs N, sh, ?_⟩
  have h2 := Gv.unslim sh h
  obtain ⟨r, G', e, q⟩ := h2
  unfold runB at e
  cases eb : b (start0 N.length ds) G with
  | none => rw [eb] at e; cases e
  | some p =>
    obtain ⟨fl, gs', G1⟩ := p
    rw [eb] at e
    refine ⟨fl, gs', G1, rfl, fun ι' H' σ' st sm su => ?_⟩
    cases fl with
    | nx => cases e; exact q ι' H' st sm _ .non
    | rt d => cases e; exact q ι' H' st sm
    | ex x => cases e; exact q ι' H' st sm
    | bk => cases e
    | ct => cases e
end FI
set_option maxRecDepth 100000
set_option maxHeartbeats 1000000
namespace FI
open PySem L2 PySem.Spec PyProof.Rows
def RdF (g : Gm) (F : Fn) (E : XK) (vs : List V) (H : Hp) (Q : VK) : Prop := ∃ ι ds G, RelDs g ι H ds vs ∧ SimH g ι G H ∧ Gv g (fun c d _ H' => E c d H') [] ι H (F ds G) fun d ι' _ H' => ∀ v, RelD g ι' H' d v → Q v H'
def CalD (g : Gm) (k : Nat) (f : Addr) (ks : List Str) (F : Fn) : Prop :=
  ∀ (A : Around) (outer : List Env) (s : Shared) (H : Hp) (us ws : List Value) (vs : List V) (Q : VK) (E : XK), Room k A → Env0 g.P g.w g.K g.mg g.base A outer s H → ws.length = ks.length → Vals vs (us ++ ws) → RdF g F E vs H Q →
    codeAny (model g.P g.w) A (.call (.ref f) ⟨us, ks.zip ws⟩) (CR (L2N.CX g.P g.w) outer g.P g.w H s Q E) s
theorem CalD.mono {g : Gm} {j k : Nat} {f : Addr} {ks : List Str} {F : Fn} (c : CalD g j f ks F) (h : j ≤ k) : CalD g k f ks F := fun A outer s H us ws vs Q E hr => c A outer s H us ws vs Q E (hr.mono h)
theorem FnD.cal {g : Gm} {k : Nat} {f : Addr} {fd : FuncData} {ps : List Str} {F : Fn} (h : FnD g k f fd ps F) (hb : Binds g.K fd ps []) (hF : ∀ ds G, ds.length ≠ ps.length → F ds G = none) : CalD g k f [] F := by
  intro A outer s H us ws vs Q E hr e0 hl r q
  have hw : ws = [] := List.eq_nil_of_length_eq_zero hl
  subst hw
  rw [List.append_nil] at r
  obtain ⟨ι, ds, G, rs, sh, q⟩ := q
  by_cases hn : ds.length = ps.length
  · have hv : vs.length = ps.length := by rw [← rs.length]; exact hn
    have hu : us.length = ps.length := by rw [← r.length]; exact hv
    have b := hb s us (e0.mod.kin.keeps fun b o e => (e0.bs b o e).1) (by rw [List.append_nil]; exact hu)
    rw [List.append_nil] at b
    exact h.run A outer s H ⟨us, []⟩ us vs Q E hr e0 b r ⟨hv, ι, ds, G, rs, sh, q⟩
  · rw [hF ds G hn] at q
    exact q.no
theorem Gv.toE {g : Gm} {W : WX} {σ : L2.St} {ι : List Addr} {H : Hp} {α : Type} {m : Option (Rs α × Hh)} {K : α → List Addr → Hh → Hp → Prop} (h : Gv g W σ ι H m K) : Gv g (fun c d _ H' => WE W σ c d H') [] ι H m K := by
  obtain ⟨r, G', e, q⟩ := h
  refine ⟨r, G', e, fun ι' H' s t => ?_⟩
  have z := q ι' H' s t
  cases r <;> exact z
theorem XIs.env {g : Gm} {c : Sc} {X : Cx} (i : XIs g c X) {pins : List (Addr × Obj)} {σ : L2.St} {H : Hp} {s : Shared} (I : Inv X pins σ H s) : Env0 g.P g.w g.K g.mg g.base X.A X.stack s H := by
  have e := I.env0
  rw [i.P, i.w, i.K, i.mg, i.base] at e
  exact e
theorem runC {g : Gm} {c : Sc} {X : Cx} {W : WX} {k : Nat} {f : Addr} {ks : List Str} {F : Fn} {pins : List (Addr × Obj)} {σ : L2.St} {H : Hp} {s : Shared} {us ws : List Value} {vs : List V} {Q : VK} (C : CalD g k f ks F) (i : XIs g c X) (hk : k ≤ c.k ∧ c.hot = false) (tk : L2N.Takes X W)
    (I : Inv X pins σ H s) (hl : ws.length = ks.length) (r : Vals vs (us ++ ws)) (h : RdF g F (WE W σ) vs H Q) : wpAny (model X.prog X.w) X.A (call (.ref f) us (ks.zip ws)) (EP X pins σ Q) X.xe s := by
  have z := C X.A X.stack s H us ws vs Q (WE W σ) ((i.room hk.2).mono hk.1) (i.env I) hl r h
  rw [← i.P, ← i.w] at z
  refine wpAny_call (codeAny_mono z fun r s' hq => ?_)
  cases r with
  | error e => exact tk e s' (L2N.XE.of_call I (fun _ _ _ h => h) hq)
  | ok fl =>
    cases fl with
    | ret u => exact I.after hq
    | next => exact False.elim hq
    | brk => exact False.elim hq
    | cont => exact False.elim hq
structure Nam (g : Gm) (k : Nat) (x : Str) (ks : List Str) (F : Fn) : Prop where
  ex : ∃ f, g.mg x = some (.ref f) ∧ PySem.W.keepIn g.K (.ref f) = true ∧ CalD g k f ks F
def eCall (F : Fn) (fa : SA) : SE := eArgs (fun ds => F ds) fa
section
variable {g : Gm} {c : Sc} {k : Nat} {x : Str} {ks : List Str} {F : Fn} {e : Expr} {es : List Expr} {fa : SA} {p pos : Pos}
theorem fe_call (n : Nam g k x [] F) (hk : k ≤ c.k ∧ c.hot = false) (ha : FA g c (e :: es) fa) (hg : GlS c x := by rfl) (hdb : (x == ("__debug__" : Str)) = false := by decide) (he : ∀ env, starEach (e :: es) env = (false, eval e env) :: starEach es env := by intro _; rfl)
    (hpl : ∀ env, (backTo pos (starEach es env)).any (·.1) = false := by intro _; rfl) : FE g c (.Call (.Name x p) (e :: es) [] pos) (eCall F fa) := ⟨fun X i W t => by
  obtain ⟨f, hm, hkp, C⟩ := n.ex
  have hm' : X.mg x = some (.ref f) := by rw [i.mg]; exact hm
  have hkp' : PySem.W.keepIn X.K (.ref f) = true := by rw [i.K]; exact hkp
  refine pe_imp (t := fun σ H Q => tA g W fa σ H fun vs H1 => RdF g F (WE W σ) vs H1 Q) ⟨fun pins s σ H Q I h => ?_⟩ fun σ H Q ⟨ι, gs, G, ss, sh, h⟩ => ⟨ι, gs, G, ss, sh, h.bnd.imp fun ds ι1 G1 H1 s1 t1 h1 vs rv => ⟨ι1, ds, G1, rv, t1, h1.toE⟩⟩
  refine wpAny_Call_Name_kw (ld_glob I (hg.gl i) hm' ?_ hdb)
  refine PySem.W.callWith_K (h₀ := X.base) I.ok.mod.kin hkp' (thn ((ha.run X i W t).run pos pins s σ H _ I h) fun us s1 ⟨vs, H1, I1, r, q⟩ => ⟨I1.kIn, ?_⟩) (he _) (hpl _)
  exact runC (ks := []) (ws := []) C i hk t I1 rfl (by rw [List.append_nil]; exact r) q⟩
theorem fe_call0 (n : Nam g k x [] F) (hk : k ≤ c.k ∧ c.hot = false) (hg : GlS c x := by rfl) (hdb : (x == ("__debug__" : Str)) = false := by decide) : FE g c (.Call (.Name x p) [] [] pos) (eCall F aNil) := ⟨fun X i W t => by
  obtain ⟨f, hm, hkp, C⟩ := n.ex
  have hm' : X.mg x = some (.ref f) := by rw [i.mg]; exact hm
  have hkp' : PySem.W.keepIn X.K (.ref f) = true := by rw [i.K]; exact hkp
  refine pe_imp (t := fun σ H Q => RdF g F (WE W σ) [] H Q) ⟨fun pins s σ H Q I h => ?_⟩ fun σ H Q ⟨ι, gs, G, ss, sh, h⟩ => ⟨ι, [], G, .nil, sh, Gv.toE h⟩
  refine wpAny_Call_Name_kw (ld_glob I (hg.gl i) hm' ?_ hdb)
  exact PySem.W.callWith_K0 I.kIn hkp' (runC (us := []) (ks := []) (ws := []) C i hk t I rfl .nil h)⟩
end
end FI
set_option maxRecDepth 100000
set_option maxHeartbeats 1000000
namespace FI
open PySem L2 PySem.Spec PyProof.Rows
def putN (k : Nat) (d : D) : List (Nat × D) → List (Nat × D)
  | [] => [(k, d)]
  | (j, x) :: r => if j = k then (j, d) :: r else (j, x) :: putN k d r
theorem RelFs.put {g : Gm} {ι : List Addr} {H : Hp} {k : Nat} {d : D} {v : V} (hk : k < g.nf) (rv : RelD g ι H d v) : ∀ {r : List (Nat × D)} {q : List (Str × V)}, RelFs g ι H r q → RelFs g ι H (putN k d r) (putF (g.fld k) v q)
  | _, _, .nil => .cons hk rv .nil
  | _, _, .cons (k := j) (d := x) (v := w) (r := r) (q := q) hj a t => by
    show RelFs g ι H (if j = k then (j, d) :: r else (j, x) :: putN k d r) (if g.fld j = g.fld k then (g.fld j, v) :: q else (g.fld j, w) :: putF (g.fld k) v q)
    by_cases e : j = k
    · subst e
      rw [if_pos rfl, if_pos rfl]
      exact .cons hj rv t
    · rw [if_neg e, if_neg fun z => e (g.inj _ _ hj hk z)]
      exact .cons hj a (RelFs.put hk rv t)
theorem RelFs.look {g : Gm} {ι : List Addr} {H : Hp} {k : Nat} {d : D} (hk : k < g.nf) : ∀ {r : List (Nat × D)} {q : List (Str × V)}, RelFs g ι H r q → r.lookup k = some d → ∃ v, q.lookup (g.fld k) = some v ∧ RelD g ι H d v
  | _, _, .nil, h => by cases h
  | _, _, .cons (k := j) (d := x) (v := w) (r := r) (q := q) hj a t, h => by
    by_cases e : k = j
    · subst e
      simp at h
      subst h
      exact ⟨w, by simp, a⟩
    · have h1 : (k == j) = false := by simpa using e
      have h2 : (g.fld k == g.fld j) = false := by simpa using fun z => e (g.inj _ _ hk hj z)
      rw [List.lookup_cons, h1] at h
      obtain ⟨v, e1, e2⟩ := RelFs.look hk t h
      exact ⟨v, by rw [List.lookup_cons, h2]; exact e1, e2⟩
theorem RelFs.noName {g : Gm} {ι : List Addr} {H : Hp} {m : Str} (hm : ∀ k, k < g.nf → g.fld k ≠ m) : ∀ {r : List (Nat × D)} {q : List (Str × V)}, RelFs g ι H r q → q.lookup m = none
  | _, _, .nil => rfl
  | _, _, .cons (k := j) hj a t => by
    have h2 : (m == g.fld j) = false := by simpa using fun z => hm j hj z.symm
    rw [List.lookup_cons, h2]
    exact RelFs.noName hm t
theorem RelFs.length {g : Gm} {ι : List Addr} {H : Hp} : ∀ {r : List (Nat × D)} {q : List (Str × V)}, RelFs g ι H r q → r.length = q.length
  | _, _, .nil => rfl
  | _, _, .cons _ _ t => by simp [RelFs.length t]
structure FldOk (g : Gm) (cs : List Nat) (k : Nat) (f : Str) : Prop where
  lt : k < g.nf
  nm : g.fld k = f
  cl : ∀ c, c ∈ cs → Cls g.K (g.cls c) ∧ NoAttr g.K (g.cls c) f
def dFld (cs : List Nat) (k : Nat) : D → Mm D := fun d G => match d with
  | .ref n => match G[n]? with
    | some (.ins c fs) => if c ∈ cs then (match fs.lookup k with
      | some d => some (.val d, G)
      | none => none) else none
    | _ => none
  | _ => none
def sFld' (cs : List Nat) (k : Nat) (fo fv : SE) : SS := fun gs G => onE (fv gs G) gs fun d G1 => onE (fo gs G1) gs fun o G2 => match o with
  | .ref n => match G2[n]? with
    | some (.ins c fs) => if c ∈ cs ∧ fs.length < 900 then some (.nx, gs, G2.set n (.ins c (putN k d fs))) else none
    | _ => none
  | _ => none
section
variable {g : Gm} {c : Sc} {o e : Expr} {fo fe : SE} {cs : List Nat} {k : Nat} {f : Str} {pos pos' : Pos}
theorem fe_fld (F : FldOk g cs k f) (ho : FE g c o fo) (hb : ∀ env, attributeBase o f env (eval o env) = eval o env := by intro _; rfl) : FE g c (.Attribute o f pos) (eUn (dFld cs k) fo) := ⟨fun X i W t => by
  refine pe_imp (pe_fld (ho.run X i W t) (hb _)) fun σ H Q ⟨ι, gs, G, ss, sh, h⟩ => ⟨ι, gs, G, ss, sh, h.bnd.imp fun d ι1 G1 H1 s1 t1 h1 v rv => ?_⟩
  cases rv with
  | @ref n a ha =>
    unfold dFld at h1
    dsimp only at h1
    cases eg : G1[n]? with
    | none => rw [eg] at h1; exact h1.no
    | some ob =>
      rw [eg] at h1
      cases ob with
      | ins c0 fs =>
        dsimp only at h1
        by_cases hc : c0 ∈ cs
        · rw [if_pos hc] at h1
          obtain ⟨u, hu, ro⟩ := t1.at_ n _ a eg ha
          cases ro with
          | ins rf =>
            cases el : fs.lookup k with
            | none => rw [el] at h1; exact h1.no
            | some d =>
              rw [el] at h1
              obtain ⟨v, e1, e2⟩ := rf.look F.lt el
              obtain ⟨h3, h4⟩ := F.cl c0 hc
              rw [i.K]
              exact ⟨a, _, _, _, v, rfl, hu, h3, h4, by rw [← F.nm]; exact e1, h1.val (.refl _ _ _) t1 v e2⟩
        · rw [if_neg hc] at h1
          exact h1.no
      | _ => exact h1.no
  | _ => exact h1.no⟩
theorem fs_fld (F : FldOk g cs k f) (ho : FE g c o fo) (he : FE g c e fe) (hs : ∀ env, swapsWith e (some (.Attribute o f pos')) pos.line env = pure false := by intro _; rfl) : FS g c (.Assign [.Attribute o f pos'] e pos) (sFld' cs k fo fe) := ⟨fun X i W t => by
  refine ps_imp (ps_fld (ho.run X i W t) (he.run X i W t) (hs _)) fun D0 σ H ⟨ι, gs, G, ss, sh, q⟩ => ⟨ι, gs, G, ss, sh, (q.onE ss).imp fun d ι1 G1 H1 s1 t1 h1 v rv => ⟨ι1, gs, G1, ss.mono s1, t1, (h1.onE (ss.mono s1)).imp fun ob ι2 G2 H2 s2 t2 h2 w rw' => ?_⟩⟩
  cases rw' with
  | @ref n a ha =>
    dsimp only at h2
    cases eg : G2[n]? with
    | none => rw [eg] at h2; exact h2.no
    | some ob =>
      rw [eg] at h2
      cases ob with
      | ins c0 fs =>
        dsimp only at h2
        by_cases hc : c0 ∈ cs ∧ fs.length < 900
        · rw [if_pos hc] at h2
          obtain ⟨u, hu, ro⟩ := t2.at_ n _ a eg ha
          cases ro with
          | @ins _ dx _ vfs rf =>
            obtain ⟨h3, h4⟩ := F.cl c0 hc.1
            obtain ⟨sm, st⟩ := t2.write (o := .ins c0 (putN k d fs)) ha hu ⟨(fun _ z => by cases z), (fun _ _ z => by cases z), (fun _ z => by cases z)⟩ (.ins (dx := dx) (rf.put F.lt (rv.mono s2)))
            rw [i.K]
            refine ⟨a, _, _, _, rfl, hu, h3, h4, by rw [← rf.length]; omega, ?_⟩
            rw [← F.nm]
            exact h2.at st sm (((ss.mono s1).mono s2).mono st)
        · rw [if_neg hc] at h2
          exact h2.no
      | _ => exact h2.no
  | _ => exact h2.no⟩
end
structure MthOk (g : Gm) (k : Nat) (m : Str) (ks : List Str) (tab : List (Nat × Fn)) : Prop where
  nm : ∀ j, j < g.nf → g.fld j ≠ m
  cl : ∀ c F, tab.lookup c = some F → Cls g.K (g.cls c) ∧ ∃ f, Meth g.K (g.cls c) m f ∧ CalD g k f ks F
def eMeth (tab : List (Nat × Fn)) (fo : SE) (fa : SA) : SE := fun gs G => bnd (fo gs G) fun o G1 => match o with
  | .ref n => match G1[n]? with
    | some (.ins c _) => (match tab.lookup c with
      | some F => bnd (fa gs G1) fun ds => F (.ref n :: ds)
      | none => none)
    | _ => none
  | _ => none
section
variable {g : Gm} {c : Sc} {o e : Expr} {es : List Expr} {fo : SE} {fa : SA} {k : Nat} {m : Str} {tab : List (Nat × Fn)} {apos pos : Pos} {pl : Env → Sem Bool}
theorem meth_obj {ι1 : List Addr} {G1 : Hh} {H1 : Hp} (M : MthOk g k m [] tab) (t1 : SimH g ι1 G1 H1) {n : Nat} {a : Addr} (ha : ι1[n]? = some a) {c0 : Nat} {fs : List (Nat × D)} (eg : G1[n]? = some (.ins c0 fs)) {F : Fn} (ht : tab.lookup c0 = some F) :
    ∃ dx vfs f, H1 a = some (.ins (g.cls c0) dx vfs) ∧ Cls g.K (g.cls c0) ∧ Meth g.K (g.cls c0) m f ∧ CalD g k f [] F ∧ vfs.lookup m = none := by
  obtain ⟨u, hu, ro⟩ := t1.at_ n _ a eg ha
  cases ro with
  | ins rf =>
    obtain ⟨h1, f, h2, h3⟩ := M.cl c0 F ht
    exact ⟨_, _, f, hu, h1, h2, h3, rf.noName M.nm⟩
theorem fe_meth0 (M : MthOk g k m [] tab) (hk : k ≤ c.k ∧ c.hot = false) (ho : FE g c o fo)
    (ht : ∀ env, eval (.Call (.Attribute o m apos) [] [] pos) env = (do
      let ov ← eval o env
      standAt apos.atName
      let (f, first) ← holding [ov] (getMethod ov m (pl env))
      callWith pos f first (backTo pos (starEach [] env)) (backToKw pos (keywordEach [] env))) := by intro _; rfl) : FE g c (.Call (.Attribute o m apos) [] [] pos) (eMeth tab fo aNil) := ⟨fun X i W t => by
  refine ⟨fun pins s σ H Q I ⟨ι, gs, G, ss, sh, h⟩ => ?_⟩
  refine PySem.W.methodCall_KW (pl := pl X.env) (thn ((ho.run X i W t).run pins s σ H (fun v H1 => ∃ n a c0 fs F ι1 G1, v = .ref a ∧ Stp g ι H ι1 H1 ∧ SimH g ι1 G1 H1 ∧ ι1[n]? = some a ∧ G1[n]? = some (.ins c0 fs) ∧ tab.lookup c0 = some F ∧
      Gv g W σ ι1 H1 (bnd (aNil gs G1) fun ds => F (.ref n :: ds)) fun d ι' _ H' => ∀ v, RelD g ι' H' d v → Q v H') I ⟨ι, gs, G, ss, sh, h.bnd.imp fun d ι1 G1 H1 s1 t1 h1 v rv => ?_⟩)
    fun u s1 ⟨v, H1, I1, ru, n, a, c0, fs, F, ι1, G1, ev, s1', t1, ea, eg, et, h1⟩ => ?_) (ht X.env)
  · cases rv with
    | @ref n a ea =>
      dsimp only at h1
      cases eg : G1[n]? with
      | none => rw [eg] at h1; exact h1.no
      | some ob =>
        rw [eg] at h1
        cases ob with
        | ins c0 fs =>
          dsimp only at h1
          cases et : tab.lookup c0 with
          | none => rw [et] at h1; exact h1.no
          | some F =>
            rw [et] at h1
            exact ⟨n, a, c0, fs, F, ι1, G1, rfl, s1, t1, ea, eg, et, h1⟩
        | _ => exact h1.no
    | _ => exact h1.no
  · subst ev
    obtain rfl : u = Value.ref a := ru
    obtain ⟨dx, vfs, f, hu, hcl, hm, hC, hno⟩ := meth_obj M t1 ea eg et
    rw [← i.K] at hcl hm
    refine getmeth_ok I1 hu hcl hm hno ?_
    exact PySem.W.callWith_K0 (first := [.ref a]) I1.kIn hm.kp (runC (ks := []) (ws := []) (us := [.ref a]) (vs := [.ref a]) hC i hk t I1 rfl (.cons rfl .nil) ⟨ι1, [.ref n], G1, .cons (.ref ea) .nil, t1, Gv.toE h1⟩)⟩
end
def mkCls (c : Nat) (Fi : Fn) : Fn := fun ds G => bnd (Fi (.ref G.length :: ds) (G ++ [.ins c []])) fun r G' => match r with
  | .non => some (.val (.ref G.length), G')
  | _ => none
theorem cal_cls {g : Gm} {k c : Nat} {f : Addr} {ks : List Str} {Fi : Fn} (M : Mk g.K (g.cls c) f) (C : CalD g k f ks Fi) : CalD g (k + 1) (g.cls c) ks (mkCls c Fi) := by
  intro A outer s H us ws vs Q E hr e0 hl r ⟨ι, ds, G, rs, sh, q⟩
  have X : g.K.In s.heap := e0.mod.kin.keeps fun b o e => (e0.bs b o e).1
  have hn1 : H s.heap.objs.size = none := e0.hok.fresh (Nat.le_refl _)
  have hn2 : H (s.heap.objs.size + 1) = none := e0.hok.fresh (Nat.le_succ _)
  have ne : s.heap.objs.size ≠ s.heap.objs.size + 1 := Nat.ne_of_lt (Nat.lt_succ_self _)
  have e1 : (s.heap.push PySem.W.emptyDict).get? s.heap.objs.size = some PySem.W.emptyDict := Heap.get?_push_size s.heap rfl
  have e3 : (s.heap.push PySem.W.emptyDict).Ns s.heap.objs.size (fun _ => none) := ⟨PySem.W.emptyDict, #[], _, e1, rfl, (fun e he => absurd he (by simp)), fun _ => rfl⟩
  have E1 := StX.env0_laid (o := PySem.W.emptyDict) (u := .own (s.heap.objs.size + 1)) e0 ⟨_, e1⟩
  have un1 := StX.un_laid (fs := frs outer) (s := s) (o := PySem.W.emptyDict) (u := .own (s.heap.objs.size + 1)) hn1
  have hsz : (s.heap.push PySem.W.emptyDict).objs.size = s.heap.objs.size + 1 := Heap.size_push _ _
  have e2 : ((s.heap.push PySem.W.emptyDict).push (PySem.W.instObj (g.cls c) s.heap.objs.size)).get? (s.heap.push PySem.W.emptyDict).objs.size = some (PySem.W.instObj (g.cls c) s.heap.objs.size) :=
    Heap.get?_push_size (s.heap.push PySem.W.emptyDict) (o := PySem.W.instObj (g.cls c) s.heap.objs.size) rfl
  have E2 := StX.env0_laid (s := { s with heap := s.heap.push PySem.W.emptyDict }) (o := PySem.W.instObj (g.cls c) s.heap.objs.size) (u := .ins (g.cls c) s.heap.objs.size []) E1 (by
    show ObjOk _ _ (upd _ (s.heap.push PySem.W.emptyDict).objs.size _) _ (s.heap.push PySem.W.emptyDict).objs.size _
    rw [hsz] at e2 ⊢
    refine ⟨by rw [upd_ne ne, upd_same], Nat.zero_le _, ne, e2, fun _ => none, (Heap.Ns1.of_empty e3).at fun o q => Heap.get?_push_of_some _ q, fun _ => True.intro, fun y hy => absurd rfl hy⟩)
  have hnA : (upd H s.heap.objs.size (.own (s.heap.objs.size + 1))) (s.heap.objs.size + 1) = none := by rw [upd_ne (Ne.symm ne)]; exact hn2
  have un2 := StX.un_laid (fs := frs outer) (s := { s with heap := s.heap.push PySem.W.emptyDict }) (H := upd H s.heap.objs.size (.own (s.heap.objs.size + 1))) (o := PySem.W.instObj (g.cls c) s.heap.objs.size) (u := .ins (g.cls c) s.heap.objs.size []) (by
    show (upd H s.heap.objs.size (.own (s.heap.objs.size + 1))) (s.heap.push PySem.W.emptyDict).objs.size = none
    rw [hsz]; exact hnA)
  have un := un1.trans un2
  obtain ⟨sm2, st2⟩ := (sh.new (p := s.heap.objs.size) (o := .own (s.heap.objs.size + 1)) hn1).alloc (p := s.heap.objs.size + 1) (o := .ins c []) (u := .ins (g.cls c) s.heap.objs.size []) hnA (.ins .nil)
  have st : Stp g ι H (ι ++ [s.heap.objs.size + 1]) (upd (upd H s.heap.objs.size (.own (s.heap.objs.size + 1))) (s.heap.objs.size + 1) (.ins (g.cls c) s.heap.objs.size [])) := (stp_upd_new hn1).trans st2
  have ix : (ι ++ [s.heap.objs.size + 1])[G.length]? = some (s.heap.objs.size + 1) := simLast sh _
  rw [show (s.heap.push PySem.W.emptyDict).objs.size = s.heap.objs.size + 1 from hsz] at E2 un2 un
  refine make_map (f := f) X M.makes M.init (beq_iff_eq.mp M.fn) (codeAny_mono (C _ outer _ _ (.ref (s.heap.objs.size + 1) :: us) ws (.ref (s.heap.objs.size + 1) :: vs) (fun v H2 => v = .non ∧ Q (.ref (s.heap.objs.size + 1)) H2) E (hr.make (g.cls c) us (ks.zip ws)) (E2.make (g.cls c) us (ks.zip ws)) hl (.cons rfl r) ?_) fun r s' hq => ?_)
  · refine ⟨ι ++ [s.heap.objs.size + 1], .ref G.length :: ds, G ++ [.ins c []], .cons (.ref ix) (rs.mono st), sm2, ?_⟩
    have q2 := q.bnd
    obtain ⟨r1, G1, er, k1⟩ := q2
    refine ⟨r1, G1, er, fun ι' H' s3 t3 => ?_⟩
    have z := k1 ι' H' (st.trans s3) t3
    cases r1 with
    | exc x => exact z
    | val d =>
      intro v rv
      dsimp only at z
      cases rv with
      | non => exact ⟨rfl, z.val (.refl _ _ _) t3 _ (.ref (s3.at ix))⟩
      | _ => exact z.no
  · cases r with
    | error er => exact L2.cxUpN outer s H { s with heap := (s.heap.push PySem.W.emptyDict).push (PySem.W.instObj (g.cls c) s.heap.objs.size) } _ E er s' un (fun b o e => Heap.get?_push_of_some _ (Heap.get?_push_of_some _ e)) rfl hq
    | ok fl =>
      cases fl with
      | ret u =>
        obtain ⟨v, H', os, bare, un3, hok, rv, ev, q3⟩ := hq
        subst ev
        exact ⟨rv, ⟨V.ref (s.heap.objs.size + 1), H', os, bare, un.trans un3, hok, rfl, q3⟩⟩
      | next => exact False.elim hq
      | brk => exact False.elim hq
      | cont => exact False.elim hq
end FI
set_option maxRecDepth 100000
set_option maxHeartbeats 1000000
namespace FI
open PySem L2 PySem.Spec PyProof.Rows
def dII (f : Int → Int → D) : D → D → Mm D := fun d e G => match d, e with
  | .int i, .int j => some (.val (f i j), G)
  | _, _ => none
def dIIc (p : Int → Int → Bool) (f : Int → Int → D) : D → D → Mm D := fun d e G => match d, e with
  | .int i, .int j => if p i j = true then some (.val (f i j), G) else none
  | _, _ => none
section
variable {g : Gm}
theorem pr_II {f : Int → Int → D} {fv : Int → Int → V} (h : ∀ ι H i j, RelD g ι H (f i j) (fv i j)) : Pr2 g (rI0 fv) (dII f) := by
  intro W σ ι G H d e x y Q sh rx ry q
  cases rx <;> cases ry <;> first
    | exact q.no
    | exact ⟨_, _, rfl, rfl, q.val (.refl _ _ _) sh _ (h _ _ _ _)⟩
theorem pr_IIc {C : Int → Int → Prop} {p : Int → Int → Bool} {f : Int → Int → D} {fv : Int → Int → V} (hp : ∀ i j, p i j = true → C i j) (h : ∀ ι H i j, RelD g ι H (f i j) (fv i j)) : Pr2 g (rI C fv) (dIIc p f) := by
  intro W σ ι G H d e x y Q sh rx ry q
  cases rx <;> cases ry <;> first
    | exact q.no
    | skip
  rename_i i j
  unfold dIIc at q
  dsimp only at q
  by_cases hc : p i j = true
  · rw [if_pos hc] at q
    exact ⟨_, _, rfl, rfl, hp _ _ hc, q.val (.refl _ _ _) sh _ (h _ _ _ _)⟩
  · rw [if_neg hc] at q
    exact q.no
theorem Pr2.or {r r' : R2} {F F' : D → D → Mm D} (p : Pr2 g r F) (p' : Pr2 g r' F') : Pr2 g (fun x y H Q => r x y H Q ∨ r' x y H Q) (fun d e G => match F d e G with
    | some z => some z
    | none => F' d e G) := by
  intro W σ ι G H d e x y Q sh rx ry q
  cases hF : F d e G with
  | some z =>
    refine .inl (p W σ ι G H d e x y Q sh rx ry ?_)
    rw [hF]
    dsimp only at q
    rw [hF] at q
    exact q
  | none =>
    refine .inr (p' W σ ι G H d e x y Q sh rx ry ?_)
    dsimp only at q
    rw [hF] at q
    exact q
end
def dSub : D → D → Mm D := dII fun i j => .int (i - j)
def okMul (i j : Int) : Bool := decide (-(2 ^ 64) < i ∧ i < 2 ^ 64) || decide (-(2 ^ 64) < j ∧ j < 2 ^ 64)
def dMulI : D → D → Mm D := dIIc okMul fun i j => .int (i * j)
def okDiv (_ j : Int) : Bool := decide (0 < j) && decide (j.natAbs.log2 < 9000)
def dFdiv : D → D → Mm D := dIIc okDiv fun i j => .int (i / j)
def dMod : D → D → Mm D := dIIc (fun _ j => decide (0 < j)) fun i j => .int (i % j)
def okPow (i j : Int) : Bool := decide (0 ≤ j ∧ j ≤ 1000000) && decide (i.natAbs < 2 ^ 64)
def dPow : D → D → Mm D := dIIc okPow fun i j => .int (i ^ j.toNat)
def dLe : D → D → Mm D := dII fun i j => .bl (decide (i ≤ j))
def dGt : D → D → Mm D := dII fun i j => .bl (decide (j < i))
def dGe : D → D → Mm D := dII fun i j => .bl (decide (j ≤ i))
def dNeg : D → Mm D := fun d G => match d with
  | .int i => some (.val (.int (-i)), G)
  | _ => none
section
variable {g : Gm} {c : Sc} {a b : Expr} {fa fb : SE} {pos : Pos}
theorem okMul_c {i j : Int} (h : okMul i j = true) : CMul i j := by
  unfold okMul at h
  rw [Bool.or_eq_true] at h
  exact h.imp of_decide_eq_true of_decide_eq_true
theorem okDiv_c {i j : Int} (h : okDiv i j = true) : CDivW i j := by
  unfold okDiv at h
  rw [Bool.and_eq_true] at h
  exact ⟨of_decide_eq_true h.1, of_decide_eq_true h.2⟩
theorem okPow_c {i j : Int} (h : okPow i j = true) : CPow i j := by
  unfold okPow at h
  rw [Bool.and_eq_true] at h
  exact ⟨(of_decide_eq_true h.1).1, (of_decide_eq_true h.1).2, of_decide_eq_true h.2⟩
theorem fe_neg (ha : FE g c a fa) : FE g c (.UnaryOp .USub a pos) (eUn dNeg fa) := fe_un (r := rU fun i => .int (-i)) (fun W σ ι G H d x Q sh rx q => by
  cases rx <;> first | exact q.no | exact ⟨_, rfl, q.val (.refl _ _ _) sh _ (.int _)⟩) (fun _ _ => un_neg) ha
end
def dCatS : D → D → Mm D := fun d e G => match d, e with
  | .str x, .str y => if x.length + y.length ≤ 100000 then some (.val (.str (x ++ y)), G) else none
  | _, _ => none
def dCatT : D → D → Mm D := fun d e G => match d, e with
  | .tup xs, .tup ys => if xs.length + ys.length ≤ 100000 then some (.val (.tup (xs ++ ys)), G) else none
  | _, _ => none
def dCatL : D → D → Mm D := fun d e G => match d, e with
  | .ref n, .ref m => match G[n]?, G[m]? with
    | some (.lst xs), some (.lst ys) => if xs.length + ys.length ≤ 100000 then some (.val (.ref G.length), G ++ [.lst (xs ++ ys)]) else none
    | _, _ => none
  | _, _ => none
def dAdd : D → D → Mm D := fun d e G => match d, e with
  | .int i, .int j => some (.val (.int (i + j)), G)
  | .str _, .str _ => dCatS d e G
  | .tup _, .tup _ => dCatT d e G
  | .ref _, .ref _ => dCatL d e G
  | _, _ => none
section
variable {g : Gm} {c : Sc} {a b : Expr} {fa fb : SE} {pos : Pos}
theorem lst_at {ι : List Addr} {G : Hh} {H : Hp} (sh : SimH g ι G H) {n : Nat} {a : Addr} (ha : ι[n]? = some a) {xs : List D} (e : G[n]? = some (.lst xs)) : ∃ vs, H a = some (.lst vs) ∧ RelDs g ι H xs vs := by
  obtain ⟨u, hu, ro⟩ := sh.at_ n _ a e ha
  cases ro with
  | lst r => exact ⟨_, hu, r⟩
theorem pr_add (X : Cx) (hK : X.K = g.K) : Pr2 g (fun x y H Q => rI0 (fun i j => .int (i + j)) x y H Q ∨ (∃ i j, x = .str i ∧ y = .str j ∧ i.length + j.length ≤ sizeLine ∧ Q (.str (i ++ j)) H) ∨ rCatA X.K x y H Q ∨ rCat x y H Q) dAdd := by
  intro W σ ι G H d e x y Q sh rx ry q
  cases rx with
  | int i =>
    cases ry with
    | int j => exact .inl ⟨i, j, rfl, rfl, q.val (.refl _ _ _) sh _ (.int _)⟩
    | _ => exact q.no
  | str i =>
    cases ry with
    | str j =>
      refine .inr (.inl ⟨i, j, rfl, rfl, ?_⟩)
      unfold dAdd dCatS at q
      dsimp only at q
      by_cases hc : i.length + j.length ≤ 100000
      · rw [if_pos hc] at q
        exact ⟨line_of hc, q.val (.refl _ _ _) sh _ (.str _)⟩
      · rw [if_neg hc] at q; exact q.no
    | _ => exact q.no
  | @tup xs a vs ha ra =>
    cases ry with
    | @tup ys b ws hb rb =>
      refine .inr (.inr (.inl ⟨a, b, vs, ws, rfl, rfl, .inl (.inl ha), .inl (.inl hb), ?_⟩))
      unfold dAdd dCatT at q
      dsimp only at q
      by_cases hc : xs.length + ys.length ≤ 100000
      · rw [if_pos hc] at q
        refine ⟨by rw [← ra.length, ← rb.length]; exact line_of hc, fun e => ?_, fun _ e => ?_, fun _ _ p hp => ?_⟩
        · have ex : xs = [] := List.eq_nil_of_length_eq_zero (by rw [ra.length, e]; rfl)
          subst ex
          exact q.val (.refl _ _ _) sh _ (.tup hb rb)
        · have ex : ys = [] := List.eq_nil_of_length_eq_zero (by rw [rb.length, e]; rfl)
          subst ex
          rw [List.append_nil] at q
          exact q.val (.refl _ _ _) sh _ (.tup ha ra)
        · exact q.val (stp_upd_new hp) (sh.new hp) _ (new_tup hp (ra.append rb))
      · rw [if_neg hc] at q; exact q.no
    | _ => exact q.no
  | @ref n a ha =>
    cases ry with
    | @ref m b hb =>
      unfold dAdd dCatL at q
      dsimp only at q
      cases e1 : G[n]? with
      | none => rw [e1] at q; exact q.no
      | some o1 =>
        cases o1 with
        | lst xs =>
          cases e2 : G[m]? with
          | none => rw [e1, e2] at q; exact q.no
          | some o2 =>
            cases o2 with
            | lst ys =>
              rw [e1, e2] at q
              dsimp only at q
              by_cases hc : xs.length + ys.length ≤ 100000
              · rw [if_pos hc] at q
                obtain ⟨vs, h1, r1⟩ := lst_at sh ha e1
                obtain ⟨ws, h2, r2⟩ := lst_at sh hb e2
                refine .inr (.inr (.inr ⟨a, b, vs, ws, rfl, rfl, h1, h2, by rw [← r1.length, ← r2.length]; exact line_of hc, fun p hp => ?_⟩))
                obtain ⟨st, sm, rd⟩ := new_lst sh hp (r1.append r2)
                exact q.val st sm _ rd
              · rw [if_neg hc] at q; exact q.no
            | _ => rw [e1, e2] at q; exact q.no
        | _ => rw [e1] at q; exact q.no
    | _ => exact q.no
  | _ => exact q.no
end
def intsOf : List D → Option (List Int)
  | [] => some []
  | .int i :: r => (intsOf r).map (i :: ·)
  | _ :: _ => none
theorem rel_ints {g : Gm} {ι : List Addr} {H : Hp} : ∀ {xs : List D} {vs : List V} {ns : List Int}, RelDs g ι H xs vs → intsOf xs = some ns → vs = ns.map V.int
  | _, _, _, .nil, e => by cases e; rfl
  | _, _, ns, .cons (d := d) r t, e => by
    cases r with
    | int i =>
      have e' : (intsOf _).map (i :: ·) = some ns := e
      cases h : intsOf _ with
      | none => rw [h] at e'; cases e'
      | some ms =>
        rw [h] at e'
        cases e'
        rw [rel_ints t h]
        rfl
    | _ => cases e
def dLtA : D → D → Mm D := fun d e G => match d, e with
  | .int i, .int j => some (.val (.bl (decide (i < j))), G)
  | .tup xs, .tup ys => match intsOf xs, intsOf ys with
    | some ns, some ms => some (.val (.bl (HT.lexLt ns ms)), G)
    | _, _ => none
  | _, _ => none
section
variable {g : Gm} {c : Sc} {a b : Expr} {fa fb : SE} {pos : Pos}
theorem pr_lt (X : Cx) (hK : X.K = g.K) : Pr2 g (fun x y H Q => rI0 (fun i j => .bl (decide (i < j))) x y H Q ∨ rLtT X.K x y H Q) dLtA := by
  intro W σ ι G H d e x y Q sh rx ry q
  cases rx with
  | int i =>
    cases ry with
    | int j => exact .inl ⟨i, j, rfl, rfl, q.val (.refl _ _ _) sh _ (.bl _)⟩
    | _ => exact q.no
  | @tup xs a vs ha ra =>
    cases ry with
    | @tup ys b ws hb rb =>
      unfold dLtA at q
      dsimp only at q
      cases e1 : intsOf xs with
      | none => rw [e1] at q; exact q.no
      | some ns =>
        cases e2 : intsOf ys with
        | none => rw [e1, e2] at q; exact q.no
        | some ms =>
          rw [e1, e2] at q
          have h1 := rel_ints ra e1
          have h2 := rel_ints rb e2
          subst h1 h2
          exact .inr ⟨a, b, ns, ms, rfl, rfl, .inl (.inl ha), .inl (.inl hb), q.val (.refl _ _ _) sh _ (.bl _)⟩
    | _ => exact q.no
  | _ => exact q.no
theorem XIs.hu {X : Cx} (i : XIs g c X) : X.A.units + 64 < cLine := by have := i.un; omega
theorem XIs.hu0 {X : Cx} (i : XIs g c X) : X.A.units < cLine := by have := i.un; omega
theorem XIs.hu1 {X : Cx} (i : XIs g c X) : X.A.units + 1 < cLine := by have := i.un; omega
theorem op_lt_any {X : Cx} (i : XIs g c X) : OpR X (compareOp .Lt) (fun x y H Q => rI0 (fun i j => .bl (decide (i < j))) x y H Q ∨ rLtT X.K x y H Q) := op_lt.or (op_ltT i.hu0)
end
end FI
set_option maxRecDepth 100000
set_option maxHeartbeats 1000000
namespace FI
open PySem L2 PySem.Spec PyProof.Rows
def orF (F F' : D → D → Mm D) : D → D → Mm D := fun d e G => match F d e G with
  | some z => some z
  | none => F' d e G
structure CmpOk (g : Gm) (op : CmpOp) (F : D → D → Mm D) : Prop where
  run : ∀ c X, XIs g c X → ∃ r, OpR X (compareOp op) r ∧ Pr2 g r F
theorem CmpOk.or {g : Gm} {op : CmpOp} {F F' : D → D → Mm D} (h : CmpOk g op F) (h' : CmpOk g op F') : CmpOk g op (orF F F') := ⟨fun c X i => by
  obtain ⟨r, o, p⟩ := h.run c X i
  obtain ⟨r', o', p'⟩ := h'.run c X i
  exact ⟨_, o.or o', p.or p'⟩⟩
section
variable {g : Gm} {c : Sc} {a b x1 x2 x3 : Expr} {fa fb fc : SE} {pos : Pos} {op op' : CmpOp} {F F' : D → D → Mm D}
theorem fe_cmpO (h : CmpOk g op F) (ha : FE g c a fa) (hb : FE g c b fb) (hm : behindInMarks op b = false := by rfl) : FE g c (.Compare a [op] [b] pos) (eOp F fa fb) :=
  ⟨fun X i W t => let ⟨_, ho, p⟩ := h.run c X i; two (pe_cmpR ho (ha.run X i W t) (hb.run X i W t) hm) p⟩
theorem ft_cmpO (h : CmpOk g op F) (ha : FE g c a fa) (hb : FE g c b fb) (hm : behindInMarks op b = false := by rfl) : FT g c (.Compare a [op] [b] pos) (tB (eOp F fa fb)) :=
  ⟨fun X i W t => let ⟨_, ho, p⟩ := h.run c X i; pt_imp (L2.pt_cmpR ho (ha.run X i W t) (hb.run X i W t) hm) fun σ H Q ⟨ι, gs, G, ss, sh, h⟩ => ⟨ι, gs, G, ss, sh, (h.bnd.imp fun _ _ _ _ _ _ z => z).bnd.imp fun d ι1 G1 H1 s1 t1 h1 v rv =>
    ⟨ι1, gs, G1, ss.mono s1, t1, h1.bnd.imp fun e ι2 G2 H2 s2 t2 h2 w rw' => p W σ ι2 G2 H2 d e v w _ t2 (rv.mono s2) rw' (h2.imp fun z ι3 G3 H3 s3 t3 h3 u ru => by
      cases ru <;> first | exact h3.no | exact ⟨_, rfl, h3.val (.refl _ _ _) t3⟩)⟩⟩⟩
theorem fe_chainO (h : CmpOk g op F) (h' : CmpOk g op' F') (ha : FE g c x1 fa) (hb : FE g c x2 fb) (hc : FE g c x3 fc) (hm : lastMarks [op, op'] [x2, x3] = false := by rfl) : FE g c (.Compare x1 [op, op'] [x2, x3] pos) (eChain F F' fa fb fc) :=
  ⟨fun X i W t => by
    obtain ⟨_, ho, p⟩ := h.run c X i
    obtain ⟨_, ho', p'⟩ := h'.run c X i
    exact pe_imp (pe_chain ho ho' (ha.run X i W t) (hb.run X i W t) (hc.run X i W t) hm) fun σ H Q ⟨ι, gs, G, ss, sh, h⟩ => ⟨ι, gs, G, ss, sh, h.bnd.imp fun d ι1 G1 H1 s1 t1 h1 v rv =>
      ⟨ι1, gs, G1, ss.mono s1, t1, h1.bnd.imp fun e ι2 G2 H2 s2 t2 h2 w rw' => p W σ ι2 G2 H2 d e v w _ t2 (rv.mono s2) rw' (h2.bnd.imp fun k ι3 G3 H3 s3 t3 h3 z rz => by
        cases rz with
        | bl b =>
          cases b with
          | true => exact ⟨true, rfl, ι3, gs, G3, ((ss.mono s1).mono s2).mono s3, t3, h3.bnd.imp fun y ι4 G4 H4 s4 t4 h4 u ru => p' W σ ι4 G4 H4 e y w u Q t4 ((rw'.mono s3).mono s4) ru h4⟩
          | false => exact ⟨false, rfl, h3.val (.refl _ _ _) t3 _ (.bl false)⟩
        | _ => exact h3.no)⟩⟩⟩
end
def optAll {α : Type} : List (Option α) → Option (List α)
  | [] => some []
  | some a :: r => (optAll r).map (a :: ·)
  | none :: _ => none
def pd (G : Hh) : Nat → D → Option PyData
  | 0, _ => none
  | _ + 1, .non => some .none
  | _ + 1, .bl b => some (.bool b)
  | _ + 1, .int i => some (.int i)
  | _ + 1, .str x => some (.str x)
  | n + 1, .tup xs => (optAll (xs.map (pd G n))).map .tuple
  | n + 1, .kt xs => (optAll (xs.map (pd G n))).map .tuple
  | n + 1, .kl xs => (optAll (xs.map (pd G n))).map .list
  | n + 1, .ref m => match G[m]? with
    | some (.lst xs) => (optAll (xs.map (pd G n))).map .list
    | _ => none
  | _ + 1, _ => none
section
variable {g : Gm} {ι : List Addr} {G : Hh} {H : Hp}
theorem pd_all {n : Nat} (ih : ∀ d v p, RelD g ι H d v → pd G n d = some p → Dp g.K H v p) : ∀ {xs : List D} {vs : List V} {ps : List PyData}, RelDs g ι H xs vs → optAll (xs.map (pd G n)) = some ps → DpAll g.K H vs ps
  | _, _, _, .nil, e => by cases e; exact .nil
  | d :: xs, v :: vs, ps, .cons r t, e => by
    rw [List.map_cons] at e
    cases h : pd G n d with
    | none => rw [h] at e; cases e
    | some p =>
      rw [h] at e
      have e' : (optAll (xs.map (pd G n))).map (p :: ·) = some ps := e
      obtain ⟨qs, h1, h2⟩ := Option.map_eq_some_iff.mp e'
      subst h2
      exact .cons (ih _ _ _ r h) (pd_all ih t h1)
theorem pd_ok (sh : SimH g ι G H) : ∀ (n : Nat) (d : D) (v : V) (p : PyData), RelD g ι H d v → pd G n d = some p → Dp g.K H v p
  | 0, _, _, _, _, e => by cases e
  | n + 1, d, v, p, r, e => by
    have ih := pd_ok sh n
    cases r with
    | non => cases e; exact .non
    | bl b => cases e; exact .bl b
    | int i => cases e; exact .int i
    | str x => cases e; exact .str x
    | @tup xs a vs ha rs =>
      have e' : (optAll (xs.map (pd G n))).map PyData.tuple = some p := e
      obtain ⟨ps, h1, rfl⟩ := Option.map_eq_some_iff.mp e'
      exact .tup (.inl (.inl ha)) (pd_all ih rs h1)
    | @kt xs a vs ha rs =>
      have e' : (optAll (xs.map (pd G n))).map PyData.tuple = some p := e
      obtain ⟨ps, h1, rfl⟩ := Option.map_eq_some_iff.mp e'
      exact .tup ha.sq (pd_all ih rs h1)
    | @kl xs a vs ha rs =>
      have e' : (optAll (xs.map (pd G n))).map PyData.list = some p := e
      obtain ⟨ps, h1, rfl⟩ := Option.map_eq_some_iff.mp e'
      exact .lst ha.sq (pd_all ih rs h1)
    | @ref m a ha =>
      unfold pd at e
      cases hm : G[m]? with
      | none => rw [hm] at e; cases e
      | some o =>
        rw [hm] at e
        cases o with
        | lst xs =>
          dsimp only at e
          obtain ⟨ps, h1, rfl⟩ := Option.map_eq_some_iff.mp e
          obtain ⟨vs, hv, rv⟩ := lst_at sh ha hm
          exact .lst (.inl (.inl hv)) (pd_all ih rv h1)
        | _ => cases e
    | glb _ => cases e
    | ty _ => cases e
    | xo _ _ _ _ _ _ _ _ => cases e
end
def pdS (G : Hh) (d : D) : Option PyData := match pd G 8 d with
  | some p => if SeqAt.shaped p = true then some p else none
  | none => none
theorem pdS_ok {g : Gm} {ι : List Addr} {G : Hh} {H : Hp} (sh : SimH g ι G H) {d : D} {v : V} {p : PyData} (r : RelD g ι H d v) (e : pdS G d = some p) : Dp g.K H v p ∧ SeqAt.shaped p = true := by
  unfold pdS at e
  cases h : pd G 8 d with
  | none => rw [h] at e; cases e
  | some q =>
    rw [h] at e
    dsimp only at e
    by_cases hq : SeqAt.shaped q = true
    · rw [if_pos hq] at e
      cases e
      exact ⟨pd_ok sh 8 d v p r h, hq⟩
    · rw [if_neg hq] at e; cases e
def dEqv (neg : Bool) : D → D → Mm D := fun d e G => match pdS G d, pdS G e with
  | some p, some q => some (.val (.bl (neg ^^ PyData.eqv p q)), G)
  | _, _ => none
section
variable {g : Gm}
theorem pr_eqv (neg : Bool) {r : R2} (hr : ∀ x y H Q d e, Dp g.K H x d → Dp g.K H y e → SeqAt.shaped d = true → SeqAt.shaped e = true → Q (.bl (neg ^^ PyData.eqv d e)) H → r x y H Q) : Pr2 g r (dEqv neg) := by
  intro W σ ι G H d e x y Q sh rx ry q
  unfold dEqv at q
  cases h1 : pdS G d with
  | none => rw [h1] at q; exact q.no
  | some p1 =>
    cases h2 : pdS G e with
    | none => rw [h1, h2] at q; exact q.no
    | some p2 =>
      rw [h1, h2] at q
      obtain ⟨a1, b1⟩ := pdS_ok sh rx h1
      obtain ⟨a2, b2⟩ := pdS_ok sh ry h2
      exact hr x y H Q p1 p2 a1 a2 b1 b2 (q.val (.refl _ _ _) sh _ (.bl _))
theorem co_eq : CmpOk g .Eq (dEqv false) := ⟨fun c X i => ⟨_, op_eqD i.hu, by rw [i.K]; exact pr_eqv false fun x y H Q d e h1 h2 h3 h4 q => ⟨d, e, h1, h2, h3, h4, by simpa using q⟩⟩⟩
theorem co_ne : CmpOk g .NotEq (dEqv true) := ⟨fun c X i => ⟨_, op_neD i.hu, by rw [i.K]; exact pr_eqv true fun x y H Q d e h1 h2 h3 h4 q => ⟨d, e, h1, h2, h3, h4, by simpa using q⟩⟩⟩
end
def D.isN : D → Bool
  | .non => true
  | _ => false
def D.isB (b : Bool) : D → Bool
  | .bl c => c == b
  | _ => false
def dIs (neg : Bool) : D → D → Mm D := fun d e G => match e with
  | .non => some (.val (.bl (neg ^^ d.isN)), G)
  | .bl b => some (.val (.bl (neg ^^ d.isB b)), G)
  | _ => none
def plainV : V → Bool
  | .non => true
  | .bl _ => true
  | .int _ => true
  | .str _ => true
  | .ref _ => true
  | .ty _ => true
  | _ => false
def rIsAny (neg : Bool) : R2 := fun x y H Q => plainV x = true ∧ ((y = .non ∧ Q (.bl (neg ^^ decide (x = .non))) H) ∨ ∃ b, y = .bl b ∧ Q (.bl (neg ^^ decide (x = .bl b))) H)
theorem is_cases {x : V} {v : Value} (rx : RelV x v) (hp : plainV x = true) : (plainIs v .none = true ∧ (v == Value.none) = decide (x = .non)) ∧ ∀ b, plainIs v (.bool b) = true ∧ (v == Value.bool b) = decide (x = .bl b) := by
  cases x with
  | non => cases rx; exact ⟨⟨rfl, by simp⟩, fun b => ⟨rfl, by simp⟩⟩
  | bl c =>
    cases (show v = Value.bool c from rx)
    refine ⟨⟨rfl, by simp⟩, fun b => ⟨rfl, ?_⟩⟩
    cases b <;> cases c <;> simp
  | int i => obtain ⟨t, rfl⟩ := rx; exact ⟨⟨rfl, by simp⟩, fun b => ⟨rfl, by simp⟩⟩
  | str i => obtain ⟨t, rfl⟩ := rx; exact ⟨⟨rfl, by simp⟩, fun b => ⟨rfl, by simp⟩⟩
  | ref a => cases (show v = Value.ref a from rx); exact ⟨⟨rfl, by simp⟩, fun b => ⟨rfl, by simp⟩⟩
  | ty a => cases (show v = Value.type a from rx); exact ⟨⟨rfl, by simp⟩, fun b => ⟨rfl, by simp⟩⟩
  | _ => cases hp
theorem op_isAny {X : Cx} : OpR X (compareOp .Is) (rIsAny false) := by
  intro pins s σ H x y v u Q I rx ry ⟨hp, h⟩
  obtain ⟨⟨h1, h2⟩, h3⟩ := is_cases rx hp
  rcases h with ⟨rfl, q⟩ | ⟨b, rfl, q⟩
  · cases (show u = Value.none from ry)
    exact wpAny_is_plain h1 (fin_bl I q (by rw [h2]; simp))
  · cases (show u = Value.bool b from ry)
    exact wpAny_is_plain (h3 b).1 (fin_bl I q (by rw [(h3 b).2]; simp))
theorem op_isNotAny {X : Cx} : OpR X (compareOp .IsNot) (rIsAny true) := by
  intro pins s σ H x y v u Q I rx ry ⟨hp, h⟩
  obtain ⟨⟨h1, h2⟩, h3⟩ := is_cases rx hp
  rcases h with ⟨rfl, q⟩ | ⟨b, rfl, q⟩
  · cases (show u = Value.none from ry)
    exact wpAny_isNot_plain h1 (fin_bl I q (by rw [h2]; simp))
  · cases (show u = Value.bool b from ry)
    exact wpAny_isNot_plain (h3 b).1 (fin_bl I q (by rw [(h3 b).2]; simp))
section
variable {g : Gm}
theorem rel_plain {ι : List Addr} {H : Hp} {d : D} {v : V} (r : RelD g ι H d v) : plainV v = true ∧ decide (v = .non) = d.isN ∧ ∀ b, decide (v = .bl b) = d.isB b := by
  cases r <;> refine ⟨rfl, ?_, fun b => ?_⟩ <;> simp [D.isN, D.isB]
  rename_i c
  cases b <;> cases c <;> rfl
theorem pr_is (neg : Bool) : Pr2 g (rIsAny neg) (dIs neg) := by
  intro W σ ι G H d e x y Q sh rx ry q
  obtain ⟨h1, h2, h3⟩ := rel_plain rx
  cases ry with
  | non => exact ⟨h1, .inl ⟨rfl, by rw [h2]; exact q.val (.refl _ _ _) sh _ (.bl _)⟩⟩
  | bl b => exact ⟨h1, .inr ⟨b, rfl, by rw [h3]; exact q.val (.refl _ _ _) sh _ (.bl _)⟩⟩
  | _ => exact q.no
theorem co_is : CmpOk g .Is (dIs false) := ⟨fun c X i => ⟨_, op_isAny, pr_is false⟩⟩
theorem co_isnt : CmpOk g .IsNot (dIs true) := ⟨fun c X i => ⟨_, op_isNotAny, pr_is true⟩⟩
end
theorem co_lt {g : Gm} : CmpOk g .Lt dLtA := ⟨fun c X i => ⟨_, op_lt_any i, pr_lt X i.K⟩⟩
theorem co_le {g : Gm} : CmpOk g .LtE dLe := ⟨fun c X i => ⟨_, op_le, pr_II fun _ _ _ _ => .bl _⟩⟩
theorem co_gt {g : Gm} : CmpOk g .Gt dGt := ⟨fun c X i => ⟨_, op_gt, pr_II fun _ _ _ _ => .bl _⟩⟩
theorem co_ge {g : Gm} : CmpOk g .GtE dGe := ⟨fun c X i => ⟨_, op_ge, pr_II fun _ _ _ _ => .bl _⟩⟩
section
variable {κ : Type} [DecidableEq κ]
def getK (kvs : List (κ × D)) (k : κ) : Option D := (kvs.find? fun kv => decide (kv.1 = k)).map (·.2)
def setK (kvs : List (κ × D)) (k : κ) (d : D) : List (κ × D) :=
  if (kvs.any fun kv => decide (kv.1 = k)) = true then kvs.map (fun kv => if kv.1 = k then (kv.1, d) else kv) else kvs ++ [(k, d)]
variable {g : Gm} {ι : List Addr} {H : Hp}
theorem RelKv.get {r : List (κ × D)} {q : List (κ × V)} (h : RelKv g ι H r q) (k : κ) : (getK r k = none ∧ valV q k = none) ∨ ∃ d v, getK r k = some d ∧ valV q k = some v ∧ RelD g ι H d v := by
  induction h with
  | nil => exact .inl ⟨rfl, rfl⟩
  | @cons k' d v r q a _ ih =>
    by_cases e : k' = k
    · exact .inr ⟨d, v, by simp [getK, List.find?_cons, e], by simp [valV, List.find?_cons, e], a⟩
    · have e1 : getK ((k', d) :: r) k = getK r k := by simp [getK, List.find?_cons, e]
      have e2 : valV ((k', v) :: q) k = valV q k := by simp [valV, List.find?_cons, e]
      rw [e1, e2]
      exact ih
theorem RelKv.length {r : List (κ × D)} {q : List (κ × V)} (h : RelKv g ι H r q) : r.length = q.length := by
  induction h with
  | nil => rfl
  | cons _ _ ih => simp [ih]
theorem RelKv.anyK {r : List (κ × D)} {q : List (κ × V)} (h : RelKv g ι H r q) (k : κ) : (r.any fun kv => decide (kv.1 = k)) = (q.any fun kv => decide (kv.1 = k)) := by
  induction h with
  | nil => rfl
  | cons _ _ ih => simp [List.any_cons, ih]
theorem RelKv.snoc {r : List (κ × D)} {q : List (κ × V)} (h : RelKv g ι H r q) (k : κ) {d : D} {v : V} (a : RelD g ι H d v) : RelKv g ι H (r ++ [(k, d)]) (q ++ [(k, v)]) := by
  induction h with
  | nil => exact .cons a .nil
  | cons b _ ih => exact .cons b ih
theorem RelKv.setM {r : List (κ × D)} {q : List (κ × V)} (h : RelKv g ι H r q) (k : κ) {d : D} {v : V} (a : RelD g ι H d v) : RelKv g ι H (r.map (fun kv => if kv.1 = k then (kv.1, d) else kv)) (q.map (fun kv => if kv.1 = k then (kv.1, v) else kv)) := by
  induction h with
  | nil => exact .nil
  | @cons k' d' v' r q b _ ih =>
    rw [List.map_cons, List.map_cons]
    dsimp only
    by_cases e : k' = k
    · rw [if_pos e, if_pos e]; exact .cons a ih
    · rw [if_neg e, if_neg e]; exact .cons b ih
theorem RelKv.set {r : List (κ × D)} {q : List (κ × V)} (h : RelKv g ι H r q) (k : κ) {d : D} {v : V} (a : RelD g ι H d v) : RelKv g ι H (setK r k d) (putK q k v) := by
  unfold setK putK
  rw [h.anyK k]
  split
  · exact h.setM k a
  · exact h.snoc k a
end
def keyD : D → Option Key
  | .int i => some (.inl i)
  | .str x => some (.inr x)
  | _ => none
def keysD : List D → Option (List Key)
  | [] => some []
  | .int i :: r => (keysD r).map (.inl i :: ·)
  | .str x :: r => (keysD r).map (.inr x :: ·)
  | _ :: _ => none
section
variable {g : Gm} {ι : List Addr} {G : Hh} {H : Hp}
theorem rel_keys : ∀ {xs : List D} {vs : List V} {ks : List Key}, RelDs g ι H xs vs → keysD xs = some ks → vs = ks.map kV
  | _, _, _, .nil, e => by cases e; rfl
  | _, _, ns, .cons (d := d) r t, e => by
    cases r with
    | int i =>
      have e' : (keysD _).map (Sum.inl i :: ·) = some ns := e
      obtain ⟨ms, h1, rfl⟩ := Option.map_eq_some_iff.mp e'
      rw [rel_keys t h1]
      rfl
    | str i =>
      have e' : (keysD _).map (Sum.inr i :: ·) = some ns := e
      obtain ⟨ms, h1, rfl⟩ := Option.map_eq_some_iff.mp e'
      rw [rel_keys t h1]
      rfl
    | _ => cases e
theorem dk_at (sh : SimH g ι G H) {n : Nat} {a : Addr} (ha : ι[n]? = some a) {xs : List (Key × D)} (e : G[n]? = some (.dK xs)) : ∃ vs, H a = some (.dK vs) ∧ RelKv g ι H xs vs := by
  obtain ⟨u, hu, ro⟩ := sh.at_ n _ a e ha
  cases ro with
  | dK r => exact ⟨_, hu, r⟩
theorem dt_at (sh : SimH g ι G H) {n : Nat} {a : Addr} (ha : ι[n]? = some a) {xs : List (List Key × D)} (e : G[n]? = some (.dT xs)) : ∃ vs, H a = some (.dT vs) ∧ RelKv g ι H xs vs := by
  obtain ⟨u, hu, ro⟩ := sh.at_ n _ a e ha
  cases ro with
  | dT r => exact ⟨_, hu, r⟩
end
def lookO (o : O) (d : D) : Option (Option D) := match o with
  | .dK kvs => (keyD d).map fun k => getK kvs k
  | .dT kvs => match d with
    | .tup xs => (keysD xs).map fun k => getK kvs k
    | _ => none
  | .dF kvs => match d with
    | .tup xs => (keysD xs).map fun k => getK kvs k
    | _ => none
  | _ => none
theorem df_at {g : Gm} {ι : List Addr} {G : Hh} {H : Hp} (sh : SimH g ι G H) {n : Nat} {a : Addr} (ha : ι[n]? = some a) {xs : List (List Key × D)} (e : G[n]? = some (.dF xs)) : ∃ od vs, H a = some (.frz od (.dT vs)) ∧ RelKv g ι H xs vs := by
  obtain ⟨u, hu, ro⟩ := sh.at_ n _ a e ha
  cases ro with
  | dF r => exact ⟨_, _, hu, r⟩
theorem look_get {g : Gm} {ι : List Addr} {G : Hh} {H : Hp} (sh : SimH g ι G H) {n : Nat} {a : Addr} (ha : ι[n]? = some a) {o : O} (e : G[n]? = some o) {d : D} {v : V} (r : RelD g ι H d v) {z : Option D} (hz : lookO o d = some z) :
    ∃ w, DGet H a v w ∧ ((z = none ∧ w = none) ∨ ∃ x y, z = some x ∧ w = some y ∧ RelD g ι H x y) := by
  cases o with
  | dK kvs =>
    obtain ⟨vs, h1, h2⟩ := dk_at sh ha e
    have key : ∀ k, keyD d = some k → v = kV k := by
      intro k hk
      cases r <;> cases hk <;> rfl
    obtain ⟨k, hk, rfl⟩ := Option.map_eq_some_iff.mp (show (keyD d).map (fun k => getK kvs k) = some z from hz)
    have e := key k hk
    subst e
    refine ⟨_, DGet.k h1, ?_⟩
    rcases h2.get k with ⟨a1, a2⟩ | ⟨x, y, a1, a2, a3⟩
    · exact .inl ⟨a1, a2⟩
    · exact .inr ⟨x, y, a1, a2, a3⟩
  | dT kvs =>
    obtain ⟨vs, h1, h2⟩ := dt_at sh ha e
    cases r with
    | @tup xs b ws hb rs =>
      obtain ⟨k, hk, rfl⟩ := Option.map_eq_some_iff.mp (show (keysD xs).map (fun k => getK kvs k) = some z from hz)
      have e := rel_keys rs hk
      subst e
      refine ⟨_, DGet.t h1 hb, ?_⟩
      rcases h2.get k with ⟨a1, a2⟩ | ⟨x, y, a1, a2, a3⟩
      · exact .inl ⟨a1, a2⟩
      · exact .inr ⟨x, y, a1, a2, a3⟩
    | _ => cases hz
  | dF kvs =>
    obtain ⟨od, vs, h1, h2⟩ := df_at sh ha e
    cases r with
    | @tup xs b ws hb rs =>
      obtain ⟨k, hk, rfl⟩ := Option.map_eq_some_iff.mp (show (keysD xs).map (fun k => getK kvs k) = some z from hz)
      have e := rel_keys rs hk
      subst e
      refine ⟨_, .inr ⟨vs, k, b, .inr ⟨od, h1⟩, rfl, hb, rfl⟩, ?_⟩
      rcases h2.get k with ⟨a1, a2⟩ | ⟨x, y, a1, a2, a3⟩
      · exact .inl ⟨a1, a2⟩
      · exact .inr ⟨x, y, a1, a2, a3⟩
    | _ => cases hz
  | _ => cases hz
def dInD (neg : Bool) : D → D → Mm D := fun d e G => match e with
  | .ref n => match G[n]? with
    | some o => match lookO o d with
      | some z => some (.val (.bl (neg ^^ z.isSome)), G)
      | none => none
    | none => none
  | _ => none
def dInS (neg : Bool) : D → D → Mm D := fun d e G => match pdS G d, pdS G e with
  | some p, some (.list ds) => some (.val (.bl (neg ^^ ds.any fun z => PyData.eqv z p)), G)
  | some p, some (.tuple ds) => some (.val (.bl (neg ^^ ds.any fun z => PyData.eqv z p)), G)
  | _, _ => none
def dIn (neg : Bool) : D → D → Mm D := orF (dInS neg) (dInD neg)
def rInDk (neg : Bool) : R2 := fun x y H Q => ∃ a o, y = .ref a ∧ DGet H a x o ∧ Q (.bl (neg ^^ o.isSome)) H
theorem op_inDk {X : Cx} (hu : X.A.units + 1 < cLine) : OpR X (compareOp .In) (rInDk false) := by
  intro pins s σ H x y v u Q I rx ry ⟨a, o, e, g, q⟩
  subst e
  cases (show u = Value.ref a from ry)
  exact d_in hu I g rx fun s3 I3 => ⟨.bl o.isSome, H, I3, rfl, by simpa using q⟩
theorem op_notInDk {X : Cx} (hu : X.A.units + 1 < cLine) : OpR X (compareOp .NotIn) (rInDk true) := by
  intro pins s σ H x y v u Q I rx ry ⟨a, o, e, g, q⟩
  subst e
  cases (show u = Value.ref a from ry)
  exact d_notIn hu I g rx fun s3 I3 => ⟨.bl (!o.isSome), H, I3, rfl, by simpa using q⟩
def rInSq (neg : Bool) (K : PySem.W.Frag) : R2 := fun x y H Q => ∃ d ds, Dp K H x d ∧ (Dp K H y (.list ds) ∧ SeqAt.shaped (.list ds) = true ∨ Dp K H y (.tuple ds) ∧ SeqAt.shaped (.tuple ds) = true) ∧ SeqAt.shaped d = true ∧ Q (.bl (neg ^^ ds.any fun z => PyData.eqv z d)) H
theorem op_inSq {X : Cx} (hu : X.A.units + 65 < cLine) : OpR X (compareOp .In) (rInSq false X.K) := by
  intro pins s σ H x y v u Q I rx ry h
  obtain ⟨d, ds, hd, he, sd, q⟩ := h
  obtain ⟨as, r1⟩ := Dp.reads I d x v hd rx
  rcases he with ⟨he, se⟩ | ⟨he, se⟩
  · obtain ⟨bs, r2⟩ := Dp.reads I (.list ds) y u he ry
    exact SeqAt.in_list_reads r2 r1 (SeqAt.canLay_of_shaped se) (SeqAt.canLay_of_shaped sd) (room_in_shaped sd hu) ⟨.bl _, H, I, rfl, by simpa using q⟩
  · obtain ⟨bs, r2⟩ := Dp.reads I (.tuple ds) y u he ry
    exact SeqAt.in_tuple_reads r2 r1 (SeqAt.canLay_of_shaped se) (SeqAt.canLay_of_shaped sd) (room_in_shaped sd hu) ⟨.bl _, H, I, rfl, by simpa using q⟩
theorem op_notInSq {X : Cx} (hu : X.A.units + 65 < cLine) : OpR X (compareOp .NotIn) (rInSq true X.K) := by
  intro pins s σ H x y v u Q I rx ry h
  obtain ⟨d, ds, hd, he, sd, q⟩ := h
  obtain ⟨as, r1⟩ := Dp.reads I d x v hd rx
  rcases he with ⟨he, se⟩ | ⟨he, se⟩
  · obtain ⟨bs, r2⟩ := Dp.reads I (.list ds) y u he ry
    exact SeqAt.notIn_list_reads r2 r1 (SeqAt.canLay_of_shaped se) (SeqAt.canLay_of_shaped sd) (room_in_shaped sd hu) ⟨.bl _, H, I, rfl, by simpa using q⟩
  · obtain ⟨bs, r2⟩ := Dp.reads I (.tuple ds) y u he ry
    exact SeqAt.notIn_tuple_reads r2 r1 (SeqAt.canLay_of_shaped se) (SeqAt.canLay_of_shaped sd) (room_in_shaped sd hu) ⟨.bl _, H, I, rfl, by simpa using q⟩
section
variable {g : Gm}
theorem pr_inDk (neg : Bool) : Pr2 g (rInDk neg) (dInD neg) := by
  intro W σ ι G H d e x y Q sh rx ry q
  cases ry with
  | @ref n a ha =>
    unfold dInD at q
    dsimp only at q
    cases h1 : G[n]? with
    | none => rw [h1] at q; exact q.no
    | some o =>
      rw [h1] at q
      dsimp only at q
      cases h2 : lookO o d with
      | none => rw [h2] at q; exact q.no
      | some z =>
        rw [h2] at q
        dsimp only at q
        obtain ⟨w, hg, hw⟩ := look_get sh ha h1 rx h2
        refine ⟨a, w, rfl, hg, ?_⟩
        have e : w.isSome = z.isSome := by rcases hw with ⟨rfl, rfl⟩ | ⟨_, _, rfl, rfl, _⟩ <;> rfl
        rw [e]
        exact q.val (.refl _ _ _) sh _ (.bl _)
  | _ => exact q.no
theorem pr_inSq (neg : Bool) : Pr2 g (rInSq neg g.K) (dInS neg) := by
  intro W σ ι G H d e x y Q sh rx ry q
  unfold dInS at q
  cases h1 : pdS G d with
  | none => rw [h1] at q; exact q.no
  | some p1 =>
    cases h2 : pdS G e with
    | none => rw [h1, h2] at q; exact q.no
    | some p2 =>
      rw [h1, h2] at q
      obtain ⟨a1, b1⟩ := pdS_ok sh rx h1
      obtain ⟨a2, b2⟩ := pdS_ok sh ry h2
      cases p2 with
      | list ds => exact ⟨p1, ds, a1, .inl ⟨a2, b2⟩, b1, q.val (.refl _ _ _) sh _ (.bl _)⟩
      | tuple ds => exact ⟨p1, ds, a1, .inr ⟨a2, b2⟩, b1, q.val (.refl _ _ _) sh _ (.bl _)⟩
      | _ => exact q.no
end
theorem hu65 {u : Nat} (h : u + 65 < cLine) : u + 1 < cLine := by omega
theorem XIs.hu65 {g : Gm} {c : Sc} {X : Cx} (i : XIs g c X) : X.A.units + 65 < cLine := by
  have := i.un
  omega
theorem co_in {g : Gm} : CmpOk g .In (dIn false) := ⟨fun c X i => ⟨_, (op_inSq i.hu65).or (op_inDk i.hu1), by rw [i.K]; exact (pr_inSq false).or (pr_inDk false)⟩⟩
theorem co_notin {g : Gm} : CmpOk g .NotIn (dIn true) := ⟨fun c X i => ⟨_, (op_notInSq i.hu65).or (op_notInDk i.hu1), by rw [i.K]; exact (pr_inSq true).or (pr_inDk true)⟩⟩
end FI
set_option maxRecDepth 100000
set_option maxHeartbeats 1000000
namespace FI
open PySem L2 PySem.Spec PyProof.Rows
structure BinOk (g : Gm) (op : Operator) (F : D → D → Mm D) : Prop where
  run : ∀ c X, XIs g c X → ∃ r, OpR X (binaryOp op) r ∧ Pr2 g r F
theorem fe_binO {g : Gm} {c : Sc} {a b : Expr} {fa fb : SE} {pos : Pos} {op : Operator} {F : D → D → Mm D} (h : BinOk g op F) (ha : FE g c a fa) (hb : FE g c b fb) : FE g c (.BinOp a op b pos) (eOp F fa fb) :=
  ⟨fun X i W t => let ⟨_, ho, p⟩ := h.run c X i; two (pe_op ho (ha.run X i W t) (hb.run X i W t)) p⟩
def dMulL : D → D → Mm D := fun d e G => match d, e with
  | .ref n, .int k => match G[n]? with
    | some (.lst xs) => if 0 ≤ k ∧ k ≤ 100000 ∧ xs.length * k.toNat ≤ 100000 then some (.val (.ref G.length), G ++ [.lst (List.replicate k.toNat xs).flatten]) else none
    | _ => none
  | _, _ => none
def dMul : D → D → Mm D := fun d e => match d, e with
  | .int _, .int _ => dMulI d e
  | _, _ => dMulL d e
theorem pr_mulL {g : Gm} : Pr2 g rRep dMulL := by
  intro W σ ι G H d e x y Q sh rx ry q
  cases rx with
  | @ref n a ha =>
    cases ry with
    | int k =>
      unfold dMulL at q
      dsimp only at q
      cases e1 : G[n]? with
      | none => rw [e1] at q; exact q.no
      | some o1 =>
        cases o1 with
        | lst xs =>
          rw [e1] at q
          dsimp only at q
          by_cases hc : 0 ≤ k ∧ k ≤ 100000 ∧ xs.length * k.toNat ≤ 100000
          · rw [if_pos hc] at q
            obtain ⟨vs, h1, r1⟩ := lst_at sh ha e1
            refine ⟨a, k, vs, rfl, rfl, h1, by omega, by omega, by rw [← r1.length]; exact line_of hc.2.2, fun p hp => ?_⟩
            have hr : RelDs g ι H (List.replicate k.toNat xs).flatten (List.replicate k.toNat vs).flatten := by
              generalize k.toNat = m
              induction m with
              | zero => exact .nil
              | succ m ih => rw [List.replicate_succ, List.replicate_succ, List.flatten_cons, List.flatten_cons]; exact r1.append ih
            obtain ⟨st, sm, rd⟩ := new_lst sh hp hr
            exact q.val st sm _ rd
          · rw [if_neg hc] at q; exact q.no
        | _ => rw [e1] at q; exact q.no
    | _ => exact q.no
  | _ => exact q.no
theorem bo_mul {g : Gm} : BinOk g .Mult dMul := ⟨fun c X i => ⟨_, op_mul.or op_rep, by
  intro W σ ι G H d e x y Q sh rx ry q
  by_cases hd : ∃ i j, d = .int i ∧ e = .int j
  · obtain ⟨i, j, rfl, rfl⟩ := hd
    exact .inl (pr_IIc (p := okMul) (fun _ _ => okMul_c) (fun _ _ _ _ => .int _) W σ ι G H _ _ x y Q sh rx ry q)
  · refine .inr (pr_mulL W σ ι G H d e x y Q sh rx ry ?_)
    have e' : dMul d e = dMulL d e := by
      unfold dMul
      split
      · exact absurd ⟨_, _, rfl, rfl⟩ hd
      · rfl
    rw [e'] at q
    exact q⟩⟩
theorem bo_add {g : Gm} : BinOk g .Add dAdd := ⟨fun c X i => ⟨_, op_add.or (op_add_str.or (op_catA.or op_cat)), pr_add X i.K⟩⟩
theorem bo_sub {g : Gm} : BinOk g .Sub dSub := ⟨fun c X i => ⟨_, op_sub, pr_II fun _ _ _ _ => .int _⟩⟩
theorem bo_fdiv {g : Gm} : BinOk g .FloorDiv dFdiv := ⟨fun c X i => ⟨_, op_fdivW, pr_IIc (fun _ _ => okDiv_c) fun _ _ _ _ => .int _⟩⟩
theorem bo_mod {g : Gm} : BinOk g .Mod dMod := ⟨fun c X i => ⟨_, op_mod, pr_IIc (fun _ _ => of_decide_eq_true) fun _ _ _ _ => .int _⟩⟩
theorem bo_pow {g : Gm} : BinOk g .Pow dPow := ⟨fun c X i => ⟨_, op_pow, pr_IIc (fun _ _ => okPow_c) fun _ _ _ _ => .int _⟩⟩
def itemsD (G : Hh) : D → Option (List D)
  | .tup xs => some xs
  | .kt xs => some xs
  | .kl xs => some xs
  | .ref n => match G[n]? with
    | some (.lst xs) => some xs
    | _ => none
  | _ => none
def dIxS : D → D → Mm D := fun d e G => match itemsD G d, e with
  | some xs, .int i => match atI xs i with
    | some z => some (.val z, G)
    | none => none
  | _, _ => none
def dIxD : D → D → Mm D := fun d e G => match d with
  | .ref n => match G[n]? with
    | some o => match lookO o e with
      | some (some z) => some (.val z, G)
      | _ => none
    | none => none
  | _ => none
def dIxT : D → D → Mm D := fun d e G => match d, e with
  | .str z, .int i => if z.length ≤ 100000 then (match atI z.cps.toList i with
    | some c => some (.val (.str ⟨#[c]⟩), G)
    | none => none) else none
  | _, _ => none
def dIx : D → D → Mm D := orF dIxS (orF dIxD dIxT)
def rIxDk : R2 := fun x y H Q => ∃ a v, x = .ref a ∧ DGet H a y (some v) ∧ Q v H
theorem ix_dict {X : Cx} (hu : X.A.units + 1 < cLine) : IxR X rIxDk := by
  intro value slice pins s σ H x y v u Q I rx ry h hs
  obtain ⟨a, z, rfl, g, q⟩ := h
  obtain rfl : v = Value.ref a := rx
  have hT := dict_typeIs I g
  unfold subscriptTail
  refine wpAny_bind ?_
  rw [getitemInPython_of_ne hT.not_modules]
  refine wpAny_bind (wpAny_specialOf hT PySem.F.slot_dict_getitem.lookup ?_)
  have fin : wpAny (model X.prog X.w) X.A (subscripted slice false (.ref a) u) (fun r s₃ => wpAny (model X.prog X.w) X.A (letTemporaryGo value (.ref a) r >>= fun _ => pure r) (EP X pins σ Q) X.xe s₃) X.xe s := by
    rw [hs]
    exact wpAny_operating (d_getItem hu I g ry fun w' s3 I3 rw' => wpAny_bind (wpAny_letTemporaryGo (wpAny_pure ⟨z, H, I3, rw', q⟩)))
  first
    | exact wpAny_pure (wpAny_bind fin)
    | exact wpAny_bind (wpAny_pure (wpAny_bind fin))
    | exact wpAny_bind fin
section
variable {g : Gm} {ι : List Addr} {G : Hh} {H : Hp}
theorem items_at (sh : SimH g ι G H) {d : D} {v : V} {xs : List D} (r : RelD g ι H d v) (e : itemsD G d = some xs) : ∃ a vs, v = .ref a ∧ (SqL g.K H a vs ∨ SqT g.K H a vs) ∧ RelDs g ι H xs vs := by
  cases r with
  | @tup ys a vs ha rs => cases e; exact ⟨a, vs, rfl, .inr (.inl (.inl ha)), rs⟩
  | @kt ys a vs ha rs => cases e; exact ⟨a, vs, rfl, .inr ha.sq, rs⟩
  | @kl ys a vs ha rs => cases e; exact ⟨a, vs, rfl, .inl ha.sq, rs⟩
  | @ref n a ha =>
    unfold itemsD at e
    dsimp only at e
    cases hm : G[n]? with
    | none => rw [hm] at e; cases e
    | some o =>
      rw [hm] at e
      cases o with
      | lst ys =>
        cases e
        obtain ⟨vs, hv, rv⟩ := lst_at sh ha hm
        exact ⟨a, vs, rfl, .inl (.inl (.inl hv)), rv⟩
      | _ => cases e
  | _ => cases e
theorem RelDs.atI {xs : List D} {vs : List V} {i : Int} {d : D} (r : RelDs g ι H xs vs) (e : L2.atI xs i = some d) : ∃ v, L2.atI vs i = some v ∧ RelD g ι H d v := by
  unfold L2.atI at e ⊢
  rw [← r.length]
  cases h : ixN xs.length i with
  | none => rw [h] at e; cases e
  | some j =>
    rw [h] at e
    exact r.get e
end
theorem pr_ixS {g : Gm} {X : Cx} (hK : X.K = g.K) : Pr2 g (fun x y H Q => rIxL X.K x y H Q ∨ rIxT X.K x y H Q) dIxS := by
  intro W σ ι G H d e x y Q sh rx ry q
  unfold dIxS at q
  cases h1 : itemsD G d with
  | none => rw [h1] at q; exact q.no
  | some xs =>
    cases ry with
    | int i =>
      rw [h1] at q
      dsimp only at q
      cases h2 : atI xs i with
      | none => rw [h2] at q; exact q.no
      | some z =>
        rw [h2] at q
        obtain ⟨a, vs, rfl, hs, rs⟩ := items_at sh rx h1
        obtain ⟨v, hv, rv⟩ := rs.atI h2
        rw [hK]
        rcases hs with hs | hs
        · exact .inl ⟨a, vs, i, v, rfl, rfl, hs, hv, q.val (.refl _ _ _) sh v rv⟩
        · exact .inr ⟨a, vs, i, v, rfl, rfl, hs, hv, q.val (.refl _ _ _) sh v rv⟩
    | _ => rw [h1] at q; exact q.no
theorem pr_ixD {g : Gm} : Pr2 g rIxDk dIxD := by
  intro W σ ι G H d e x y Q sh rx ry q
  cases rx with
  | @ref n a ha =>
    unfold dIxD at q
    dsimp only at q
    cases h1 : G[n]? with
    | none => rw [h1] at q; exact q.no
    | some o =>
      rw [h1] at q
      dsimp only at q
      cases h2 : lookO o e with
      | none => rw [h2] at q; exact q.no
      | some z =>
        rw [h2] at q
        cases z with
        | none => exact q.no
        | some z =>
          dsimp only at q
          obtain ⟨w, hg, hw⟩ := look_get sh ha h1 ry h2
          rcases hw with ⟨h, _⟩ | ⟨x, y, e1, rfl, r⟩
          · cases h
          · cases e1
            exact ⟨a, y, rfl, hg, q.val (.refl _ _ _) sh y r⟩
  | _ => exact q.no
theorem pr_ixT {g : Gm} : Pr2 g rIxS dIxT := by
  intro W σ ι G H d e x y Q sh rx ry q
  cases rx with
  | str z =>
    cases ry with
    | int i =>
      unfold dIxT at q
      dsimp only at q
      by_cases hl : z.length ≤ 100000
      · rw [if_pos hl] at q
        cases h2 : atI z.cps.toList i with
        | none => rw [h2] at q; exact q.no
        | some c =>
          rw [h2] at q
          exact ⟨z, i, c, rfl, rfl, line_of hl, h2, q.val (.refl _ _ _) sh _ (.str _)⟩
      · rw [if_neg hl] at q; exact q.no
    | _ => exact q.no
  | _ => exact q.no
theorem fe_ixO {g : Gm} {c : Sc} {a b : Expr} {fa fb : SE} {pos : Pos} (ha : FE g c a fa) (hb : FE g c b fb) (hs : PlainIx b := by exact (fun _ _ => rfl)) : FE g c (.Subscript a b pos) (eOp dIx fa fb) :=
  ⟨fun X i W t => two (pe_ix ((ix_list.or ix_tup).or ((ix_dict i.hu1).or ix_str)) (ha.run X i W t) (hb.run X i W t) hs) ((pr_ixS i.K).or (pr_ixD.or pr_ixT))⟩
def cutL {α : Type} (xs : List α) (lo hi : Option Int) : List α := (xs.drop (HT.sIx xs.length 0 lo)).take (HT.sIx xs.length xs.length hi - HT.sIx xs.length 0 lo)
def dSl (d : D) (lo hi : Option Int) : Mm D := fun G => match d with
  | .tup xs => some (.val (.tup (cutL xs lo hi)), G)
  | .str z => if z.length ≤ 100000 then some (.val (.str (cutS z lo hi)), G) else none
  | .kl xs => some (.val (.ref G.length), G ++ [.lst (cutL xs lo hi)])
  | .ref n => match G[n]? with
    | some (.lst xs) => some (.val (.ref G.length), G ++ [.lst (cutL xs lo hi)])
    | _ => none
  | _ => none
abbrev SO := Sg → Mm (Option Int)
def oNone : SO := fun _ G => some (.val none, G)
def oSome (f : SE) : SO := fun gs G => bnd (f gs G) fun d G1 => match d with
  | .int i => some (.val (some i), G1)
  | _ => none
def eSl (fa : SE) (fl fh : SO) : SE := fun gs G => bnd (fa gs G) fun d G1 => bnd (fl gs G1) fun l G2 => bnd (fh gs G2) fun h => dSl d l h
def tO (g : Gm) (W : WX) (f : SO) : TO := fun σ H Q => ∃ ι gs G, SimS g ι H gs σ ∧ SimH g ι G H ∧ Gv g W σ ι H (f gs G) fun o _ _ H' => Q o H'
structure FO (g : Gm) (c : Sc) (e : Option Expr) (f : SO) : Prop where
  run : ∀ X, XIs g c X → ∀ W, L2N.Takes X W → PO X e (tO g W f)
section
variable {g : Gm} {c : Sc} {e : Expr} {lo hi : Option Expr} {fa : SE} {fl fh : SO} {pos p2 : Pos}
theorem po_imp {X : Cx} {e : Option Expr} {t t' : TO} (h : PO X e t) (k : ∀ σ H Q, t' σ H Q → t σ H Q) : PO X e t' := ⟨fun pins s σ H Q I q => h.run pins s σ H Q I (k σ H Q q)⟩
theorem fo_none : FO g c none oNone := ⟨fun X i W t => po_imp po_none fun σ H Q ⟨ι, gs, G, ss, sh, h⟩ => h.val (.refl _ _ _) sh⟩
theorem fo_some (h : FE g c e fa) : FO g c (some e) (oSome fa) := ⟨fun X i W t => po_imp (po_some (h.run X i W t)) fun σ H Q ⟨ι, gs, G, ss, sh, h⟩ => ⟨ι, gs, G, ss, sh, h.bnd.imp fun d ι1 G1 H1 s1 t1 h1 v rv => by
  cases rv with
  | int i => exact ⟨i, rfl, h1.val (.refl _ _ _) t1⟩
  | _ => exact h1.no⟩⟩
theorem RelDs.cutL {ι : List Addr} {H : Hp} {xs : List D} {vs : List V} (r : RelDs g ι H xs vs) (lo hi : Option Int) : RelDs g ι H (FI.cutL xs lo hi) (cutV vs lo hi) := by
  unfold FI.cutL cutV
  rw [← r.length]
  exact (r.drop _).take _
theorem cutL_whole {α : Type} {xs : List α} {lo hi : Option Int} (h : HT.sIx xs.length 0 lo = 0 ∧ HT.sIx xs.length xs.length hi = xs.length) : cutL xs lo hi = xs := by
  unfold cutL
  rw [h.1, h.2]
  simp
theorem fe_slice (ha : FE g c e fa) (hl : FO g c lo fl) (hh : FO g c hi fh) : FE g c (.Subscript e (.Slice lo hi none p2) pos) (eSl fa fl fh) :=
  ⟨fun X i W t => pe_imp (pe_slice (sl_tupA.or (sl_list.or sl_str)) (ha.run X i W t) (hl.run X i W t) (hh.run X i W t)) fun σ H Q ⟨ι, gs, G, ss, sh, h⟩ => ⟨ι, gs, G, ss, sh, h.bnd.imp fun d ι1 G1 H1 s1 t1 h1 v rv =>
    ⟨ι1, gs, G1, ss.mono s1, t1, h1.bnd.imp fun l ι2 G2 H2 s2 t2 h2 => ⟨ι2, gs, G2, (ss.mono s1).mono s2, t2, h2.bnd.imp fun u ι3 G3 H3 s3 t3 h3 => by
      have rv' := (rv.mono s2).mono s3
      rw [i.K]
      cases rv' with
      | @tup xs a vs ha rs =>
        refine .inl ⟨a, vs, rfl, .inl (.inl ha), fun hw => ?_, fun _ p hp => ?_⟩
        · have : cutL xs l u = xs := cutL_whole (by rw [rs.length]; exact hw)
          unfold dSl at h3
          dsimp only at h3
          rw [this] at h3
          exact h3.val (.refl _ _ _) t3 _ (.tup ha rs)
        · exact h3.val (stp_upd_new hp) (t3.new hp) _ (new_tup hp (rs.cutL l u))
      | str z =>
        refine .inr (.inr ⟨z, rfl, ?_⟩)
        unfold dSl at h3
        dsimp only at h3
        by_cases hz : z.length ≤ 100000
        · rw [if_pos hz] at h3; exact ⟨line_of hz, h3.val (.refl _ _ _) t3 _ (.str _)⟩
        · rw [if_neg hz] at h3; exact h3.no
      | @kl xs a vs ha rs =>
        refine .inr (.inl ⟨a, vs, rfl, ha.sq, fun p hp => ?_⟩)
        obtain ⟨st, sm, rd⟩ := new_lst t3 hp (rs.cutL l u)
        exact h3.val st sm _ rd
      | @ref n a ha =>
        unfold dSl at h3
        dsimp only at h3
        cases hm : G3[n]? with
        | none => rw [hm] at h3; exact h3.no
        | some o =>
          rw [hm] at h3
          cases o with
          | lst xs =>
            obtain ⟨vs, hv, rs⟩ := lst_at t3 ha hm
            refine .inr (.inl ⟨a, vs, rfl, .inl (.inl hv), fun p hp => ?_⟩)
            obtain ⟨st, sm, rd⟩ := new_lst t3 hp (rs.cutL l u)
            exact h3.val st sm _ rd
          | _ => exact h3.no
      | _ => exact h3.no⟩⟩⟩⟩
end
def putO (o : O) (e v : D) : Option O := match o with
  | .lst xs => match e with
    | .int i => match ixN xs.length i with
      | some j => some (.lst (xs.set j v))
      | none => none
    | _ => none
  | .dK kvs => match keyD e with
    | some k => if kvs.length < 100000 then some (.dK (setK kvs k v)) else none
    | none => none
  | .dT kvs => match e with
    | .tup xs => match keysD xs with
      | some k => if kvs.length < 100000 then some (.dT (setK kvs k v)) else none
      | none => none
    | _ => none
  | _ => none
def dPut (d e v : D) (G : Hh) : Option Hh := match d with
  | .ref n => match G[n]? with
    | some o => match putO o e v with
      | some o' => some (G.set n o')
      | none => none
    | none => none
  | _ => none
def rPutAny : TSet := fun o i v H Q => rSetL o i v H Q ∨ ∃ a H', o = .ref a ∧ DPut H a i v H' ∧ Q H'
theorem set_any {X : Cx} (hu : X.A.units + 1 < cLine) : PSet X rPutAny := by
  intro pins s σ H o i v ov iv u Q I ro ri rv h
  rcases h with h | ⟨a, H', rfl, g, q⟩
  · exact set_list pins s σ H o i v ov iv u Q I ro ri rv h
  · obtain rfl : ov = Value.ref a := ro
    exact d_setItem hu I g ri rv fun s' I' => ⟨H', I', q⟩
section
variable {g : Gm} {ι : List Addr} {G G' : Hh} {H : Hp}
theorem put_any (sh : SimH g ι G H) {d e w : D} {x y z : V} (rx : RelD g ι H d x) (ry : RelD g ι H e y) (rz : RelD g ι H w z) (q : dPut d e w G = some G') {Q : Hp → Prop} (k : ∀ H', Stp g ι H ι H' → SimH g ι G' H' → Q H') : rPutAny x y z H Q := by
  cases rx with
  | @ref n a ha =>
    unfold dPut at q
    dsimp only at q
    cases hm : G[n]? with
    | none => rw [hm] at q; cases q
    | some o =>
      rw [hm] at q
      dsimp only at q
      cases hp : putO o e w with
      | none => rw [hp] at q; cases q
      | some o' =>
        rw [hp] at q
        cases q
        cases o with
        | lst xs =>
          obtain ⟨vs, hv, rs⟩ := lst_at sh ha hm
          cases ry with
          | int i =>
            unfold putO at hp
            dsimp only at hp
            cases hj : ixN xs.length i with
            | none => rw [hj] at hp; cases hp
            | some j =>
              rw [hj] at hp
              cases hp
              obtain ⟨sm, st⟩ := sh.write (o := .lst (xs.set j w)) ha hv ⟨(fun _ z => by cases z), (fun _ _ z => by cases z), (fun _ z => by cases z)⟩ (.lst (rs.set rz j))
              exact .inl ⟨a, vs, i, j, rfl, rfl, hv, by rw [← rs.length]; exact hj, k _ st sm⟩
          | _ => cases hp
        | dK kvs =>
          obtain ⟨vs, hv, rs⟩ := dk_at sh ha hm
          have key : ∀ k, keyD e = some k → y = kV k := by
            intro k hk
            cases ry <;> cases hk <;> rfl
          unfold putO at hp
          dsimp only at hp
          cases hk : keyD e with
          | none => rw [hk] at hp; cases hp
          | some kk =>
            rw [hk] at hp
            dsimp only at hp
            by_cases hl : kvs.length < 100000
            · rw [if_pos hl] at hp
              cases hp
              have ey := key kk hk
              subst ey
              obtain ⟨sm, st⟩ := sh.write (o := .dK (setK kvs kk w)) ha hv ⟨(fun _ z => by cases z), (fun _ _ z => by cases z), (fun _ z => by cases z)⟩ (.dK (rs.set kk rz))
              exact .inr ⟨a, _, rfl, DPut.k hv (by rw [← rs.length]; exact line_lt hl), k _ st sm⟩
            · rw [if_neg hl] at hp; cases hp
        | dT kvs =>
          obtain ⟨vs, hv, rs⟩ := dt_at sh ha hm
          cases ry with
          | @tup xs b ws hb rws =>
            unfold putO at hp
            dsimp only at hp
            cases hk : keysD xs with
            | none => rw [hk] at hp; cases hp
            | some kk =>
              rw [hk] at hp
              dsimp only at hp
              by_cases hl : kvs.length < 100000
              · rw [if_pos hl] at hp
                cases hp
                have ey := rel_keys rws hk
                subst ey
                obtain ⟨sm, st⟩ := sh.write (o := .dT (setK kvs kk w)) ha hv ⟨(fun _ z => by cases z), (fun _ _ z => by cases z), (fun _ z => by cases z)⟩ (.dT (rs.set kk rz))
                exact .inr ⟨a, _, rfl, DPut.t hv hb (by rw [← rs.length]; exact line_lt hl), k _ st sm⟩
              · rw [if_neg hl] at hp; cases hp
          | _ => cases hp
        | _ => cases hp
  | _ => cases q
end
def gSb (fo fi : SE) : GT := fun d gs G => match fo gs G with
  | some (.val x, G1) => match fi gs G1 with
    | some (.val y, G2) => match dPut x y d G2 with
      | some G3 => some (gs, G3)
      | none => none
    | _ => none
  | _ => none
section
variable {g : Gm} {c : Sc} {o i e : Expr} {fo fi fe : SE} {pos tpos : Pos}
theorem fg_sub (ho : FE g c o fo) (hi : FE g c i fi)
    (ha : ∀ env v, assign (.Subscript o i pos) env v = (do
      let ov ← holding [v] (eval o env)
      let iv ← holding [v, ov] (eval i env)
      standAt pos
      holding [v, ov, iv] (setItem ov iv v)
      release [v, ov, iv] []) := by intro _ _; rfl) : FG g c (.Subscript o i pos) [] (gSb fo fi) :=
  ⟨fun X j => pg_imp (pg_sub (ho.run X j _ takesN0) (hi.run X j _ takesN0) (set_any j.hu1) (ha _)) fun v σ H Q ⟨ι, gs, G, d, gs', G', ss, sh, rv, q, k⟩ => by
    unfold gSb at q
    cases e1 : fo gs G with
    | none => rw [e1] at q; cases q
    | some p1 =>
      obtain ⟨r1, G1⟩ := p1
      rw [e1] at q
      cases r1 with
      | exc _ => cases q
      | val x =>
        dsimp only at q
        refine ⟨ι, gs, G, ss, sh, _, _, e1, fun ι1 H1 s1 t1 ov rov => ?_⟩
        cases e2 : fi gs G1 with
        | none => rw [e2] at q; cases q
        | some p2 =>
          obtain ⟨r2, G2⟩ := p2
          rw [e2] at q
          cases r2 with
          | exc _ => cases q
          | val y =>
            dsimp only at q
            refine ⟨ι1, gs, G1, ss.mono s1, t1, _, _, e2, fun ι2 H2 s2 t2 iv riv => ?_⟩
            cases e3 : dPut x y d G2 with
            | none => rw [e3] at q; cases q
            | some G3 =>
              rw [e3] at q
              cases q
              refine put_any t2 (rov.mono s2) riv ((rv.mono s1).mono s2) e3 fun H3 st sm => ?_
              exact k ι2 H3 σ ((s1.trans s2).trans st) sm (((ss.mono s1).mono s2).mono st) .refl⟩
def dGetR (d e : D) (G : Hh) : Option D := match d with
  | .ref n => match G[n]? with
    | some (.lst xs) => match e with
      | .int i => atI xs i
      | _ => none
    | some o => match lookO o e with
      | some z => z
      | none => none
    | none => none
  | _ => none
def sAugS (F : Int → Int → Int) (fo fi fe : SE) : SS := fun gs G => onE (fo gs G) gs fun x G1 => onE (fi gs G1) gs fun y G2 => match dGetR x y G2 with
  | some z => onE (fe gs G2) gs fun w G4 => match z, w with
    | .int a, .int b => match dPut x y (.int (F a b)) G4 with
      | some G5 => some (.nx, gs, G5)
      | none => none
    | _, _ => none
  | none => none
def rGetAny (K : PySem.W.Frag) : R2 := fun x y H Q => rIxL K x y H Q ∨ rIxDk x y H Q
theorem get_any {X : Cx} (hu : X.A.units + 1 < cLine) : PGet X (rGetAny X.K) := by
  intro pins s σ H o i ov iv Q I ro ri h
  rcases h with ⟨p, xs, k, v, rfl, rfl, hq, he, q⟩ | ⟨a, z, rfl, g, q⟩
  · cases ro
    obtain ⟨t, rfl⟩ := ri
    obtain ⟨its, r, pl, hz⟩ := I.list hq
    obtain ⟨j, h1, h2, h3, h4, h5⟩ := atI_get he
    obtain ⟨w, ew, rw'⟩ := r.get h2
    have hl := r.length
    have hn := line63
    have fin : EP X pins σ Q w s := ⟨v, H, I, rw', q⟩
    by_cases h0 : 0 ≤ k
    · have hj : k.toNat = j := by
        rw [seqIndex_of h0 h5] at h1
        exact Option.some.inj h1
      exact wpAny_getItem_list pl.isList h0 (by omega) (by rw [hj]; simpa using ew) fin
    · have hj : (k + (its.toArray.size : Int)).toNat = j := by
        rw [seqIndex_neg (by omega) h4] at h1
        rw [List.size_toArray, ← hl]
        exact Option.some.inj h1
      exact wpAny_getItem_list_neg pl.isList (by omega) (by rw [List.size_toArray] <;> omega) (by omega) (by rw [hj]; simpa using ew) fin
  · obtain rfl : ov = Value.ref a := ro
    exact d_getItem hu I g ri fun w' s3 I3 rw' => ⟨z, H, I3, rw', q⟩
theorem gt_any {g : Gm} {ι : List Addr} {G : Hh} {H : Hp} (sh : SimH g ι G H) {d e z : D} {x y : V} (rx : RelD g ι H d x) (ry : RelD g ι H e y) (q : dGetR d e G = some z) {Q : VK} (k : ∀ v, RelD g ι H z v → Q v H) : rGetAny g.K x y H Q := by
  cases rx with
  | @ref n a ha =>
    unfold dGetR at q
    dsimp only at q
    cases hm : G[n]? with
    | none => rw [hm] at q; cases q
    | some o =>
      rw [hm] at q
      have key : ∀ z', lookO o e = some (some z') → z' = z → rGetAny g.K (.ref a) y H Q := fun z' h2 ez => by
        subst ez
        obtain ⟨w, hg, hw⟩ := look_get sh ha hm ry h2
        rcases hw with ⟨h, _⟩ | ⟨x, y', e1, rfl, r⟩
        · cases h
        · cases e1
          exact .inr ⟨a, y', rfl, hg, k y' r⟩
      cases o with
      | lst xs =>
        cases ry with
        | int i =>
          obtain ⟨vs, hv, rs⟩ := lst_at sh ha hm
          obtain ⟨v, hv2, rv⟩ := rs.atI q
          exact .inl ⟨a, vs, i, v, rfl, rfl, .inl (.inl hv), hv2, k v rv⟩
        | _ => cases q
      | dK kvs =>
        dsimp only at q
        cases h2 : lookO (.dK kvs) e with
        | none => rw [h2] at q; cases q
        | some z' => rw [h2] at q; dsimp only at q; subst q; exact key _ h2 rfl
      | dT kvs =>
        dsimp only at q
        cases h2 : lookO (.dT kvs) e with
        | none => rw [h2] at q; cases q
        | some z' => rw [h2] at q; dsimp only at q; subst q; exact key _ h2 rfl
      | dF kvs =>
        first
          | (dsimp only at q
             cases h2 : lookO (.dF kvs) e with
             | none => rw [h2] at q; cases q
             | some z' => rw [h2] at q; dsimp only at q; subst q; exact key _ h2 rfl)
          | (dsimp only at q
             cases q)
      | ins c fs =>
        dsimp only at q
        cases q
  | _ => cases q
theorem fs_augS {op : Operator} {F : Int → Int → Int} (hp : ∀ X, PIp X op (ipI F)) (ho : FE g c o fo) (hi : FE g c i fi) (he : FE g c e fe)
    (ha : ∀ ov iv new, augStore i ov iv new = (do holding [new, ov, iv] (setItem ov iv new); release [new, ov, iv] []; pure .next) := by intros; rfl) : FS g c (.AugAssign (.Subscript o i tpos) op e pos) (sAugS F fo fi fe) :=
  ⟨fun X j W tk => ps_imp (ps_augS (ho.run X j W tk) (hi.run X j W tk) (get_any j.hu1) (he.run X j W tk) (hp X) (set_any j.hu1) ha) fun D0 σ H ⟨ι, gs, G, ss, sh, q⟩ => ⟨ι, gs, G, ss, sh, (q.onE ss).imp fun x ι1 G1 H1 s1 t1 h1 ov rov =>
    ⟨ι1, gs, G1, ss.mono s1, t1, (h1.onE (ss.mono s1)).imp fun y ι2 G2 H2 s2 t2 h2 iv riv => by
      have ss2 := (ss.mono s1).mono s2
      cases e3 : dGetR x y G2 with
      | none => rw [e3] at h2; exact h2.no
      | some z =>
        rw [e3] at h2
        dsimp only at h2
        rw [j.K]
        refine gt_any t2 (rov.mono s2) riv e3 fun v rz => ⟨ι2, gs, G2, ss2, t2, (h2.onE ss2).imp fun w ι4 G4 H4 s4 t4 h5 wv rw' => ?_⟩
        have rz' := rz.mono s4
        cases rz with
        | int a =>
          cases rw' with
          | int b =>
            dsimp only at h5
            cases e5 : dPut x y (.int (F a b)) G4 with
            | none => rw [e5] at h5; exact h5.no
            | some G5 =>
              rw [e5] at h5
              exact ⟨a, b, rfl, rfl, put_any t4 ((rov.mono s2).mono s4) (riv.mono s4) (.int _) e5 fun H6 st sm => h5.at st sm ((ss2.mono s4).mono st)⟩
          | _ => exact h5.no
        | _ => exact h5.no⟩⟩⟩
def sAugN (k : Nat) (F : Int → Int → Int) (fe : SE) : SS := fun gs G => match gs[k]? with
  | some (some (.int a)) => onE (fe gs G) gs fun w G1 => match w with
    | .int b => some (.nx, gs.set k (some (.int (F a b))), G1)
    | _ => none
  | _ => none
theorem fs_augN (k : Nat) {x : Str} {op : Operator} {F : Int → Int → Int} (hp : ∀ X, PIp X op (ipI F)) (he : FE g c e fe) (hi : c.N[k]? = some x := by rfl) (hx : Loc c.sc x := by first | exact Or.inl rfl | exact Or.inr rfl) (how : c.ow x = true := by rfl) (hnx : NoHx g k := by first | exact NoHx.none rfl | exact NoHx.some rfl (by decide)) : FS g c (.AugAssign (.Name x tpos) op e pos) (sAugN k F fe) :=
  ⟨fun X j W tk => by
    have hl : X.env.scope = c.sc := j.sc
    refine ps_imp (ps_aug (i := k) (by rw [j.N]; exact j.nd) (by rw [j.N]; exact hi) (by rw [hl]; exact hx) (he.run X j W tk) (hp X) (j.fn x how)) fun D0 σ H ⟨ι, gs, G, ss, sh, q⟩ => ?_
    unfold sAugN at q
    split at q
    · rename_i a e
      obtain ⟨v, h1, h2⟩ := ss.at_ k _ e
      cases h2
      refine ⟨_, h1, ι, gs, G, ss, sh, (q.onE ss).imp fun w ι1 G1 H1 s1 t1 h1 wv rw' => ?_⟩
      cases rw' with
      | int b => exact ⟨a, b, rfl, rfl, h1.at (.refl _ _ _) t1 ((ss.mono s1).set (.int _) k hnx)⟩
      | _ => exact h1.no
    · exact q.no⟩
end
end FI
set_option maxRecDepth 100000
set_option maxHeartbeats 1000000
namespace L2
open PySem PySem.Spec PyProof.Rows
theorem meets_enumerate_new1 {v : Value} {o : Obj} {H : Heap → Prop} (B : Begins v o H) :
    Meets (Builtin.«enumerate.__new__» ⟨[.type "enumerate", v], []⟩) (fun _ R s => H s.heap ∧
      R (.ok (.ret (.ref (s.heap.push o).objs.size))) { s with heap := (s.heap.push o).push { cls := .type "enumerate", data := .fields #[.none, .bool false, .ref s.heap.objs.size, rawInt 0, .none, .none] } }) :=
  .of_wp fun prog w A R s h => by
    obtain ⟨hp, g, d, tk, os⟩ := s; obtain ⟨h1, h⟩ := h
    have hsub := sub_enumerate
    have q1 : ∀ {A' : Around} {E : Value → Shared → Prop} {Q : Value → Shared → Prop}, Q (.ref hp.objs.size) ⟨hp.push o, g, d, tk, os⟩ → wpAny (model prog w) A' (pyIter v) Q E ⟨hp, g, d, tk, os⟩ :=
      fun q => B.iter prog w _ _ ⟨hp, g, d, tk, os⟩ _ h1 q
    wp_walk using q1
    refine wpAny_stack_any fun st => wpAny_pure ?_
    split
    · rename_i c _ _ _ _ _
      cases (c == Value.type "enumerate")
      · wp_walk using q1
        exact ⟨_, rfl, h⟩
      · wp_walk using q1
        exact ⟨_, rfl, h⟩
    · wp_walk using q1
      exact ⟨_, rfl, h⟩
theorem call_enumerate_tup {prog : Program} {w : World} {A : Around} {E : Value → Shared → Prop} {s : Shared} {t : Addr} {items : Array Value} {Q : Value → Shared → Prop} (ht : s.heap.IsTuple t items)
    (h : ∀ h', IsEnum h' (s.heap.objs.size + 1) s.heap.objs.size 0 .none → h'.IsTupleIter s.heap.objs.size t 0 → h'.objs.size = s.heap.objs.size + 2 →
      (∀ b o, s.heap.get? b = some o → h'.get? b = some o) → Q (.ref (s.heap.objs.size + 1)) { s with heap := h' }) :
    wpAny (model prog w) A (call (.type "enumerate") [.ref t]) Q E s := by
  refine callType_new F.called_enumerate (by decide) (F.typeCall_enumerate_1 _) (F.newCall_enumerate_1 _) (fun obj => F.args_object_init_2 obj _) F.entry_enumerate_new
    (meets_enumerate_new1 (begins_tuple t items)) ⟨ht, ?_⟩
  have hz : (s.heap.push { cls := .type "tuple_iterator", data := .fields #[.ref t, .int 0 0] }).objs.size = s.heap.objs.size + 1 := Heap.size_push ..
  show _ ∧ _
  rw [hz]
  have he : IsEnum ((s.heap.push { cls := .type "tuple_iterator", data := .fields #[.ref t, .int 0 0] }).push
      { cls := .type "enumerate", data := .fields #[.none, .bool false, .ref s.heap.objs.size, rawInt 0, .none, .none] }) (s.heap.objs.size + 1) s.heap.objs.size 0 .none := by
    have := Heap.get?_push_size (s.heap.push { cls := .type "tuple_iterator", data := .fields #[.ref t, .int 0 0] })
      (o := { cls := .type "enumerate", data := .fields #[.none, .bool false, .ref s.heap.objs.size, rawInt 0, .none, .none] }) rfl
    rw [hz] at this; exact this
  exact ⟨⟨_, he, rfl⟩, h _ he ⟨_, Heap.get?_push_of_some _ (Heap.get?_push_size _ rfl), rfl, rfl⟩ (by rw [Heap.size_push, hz]) fun b o x => Heap.get?_push_of_some _ (Heap.get?_push_of_some _ x)⟩
def IteT (K : PySem.W.Frag) (a : Addr) (k : Int) : It :=
  ⟨fun i H => ∃ (xs : List V) (x : V), SqT K H a xs ∧ xs[i]? = some x, fun i H v H' => ∃ T x, v = .ref T ∧ H T = none ∧ H' = upd H T (.tup [.int (k + (i : Nat)), x]) ∧ ∀ xs, SqT K H a xs → xs[i]? = some x, fun i H => ∃ xs : List V, SqT K H a xs ∧ xs.length = i⟩
theorem turn_enumT {P : Program} {w : World} {K : PySem.W.Frag} {elts : List Expr} {kk : Nat} {tpos : Pos} (a e it : Addr) (k : Int) :
    Turn P w K (.Tuple elts kk tpos) (IteT K a k) [e, it] e (fun i h => (∃ old, IsEnum h e it (k + ((i : Nat) : Int)) old) ∧ h.IsTupleIter it a i ∧ e ≠ it ∧ a ≠ it ∧ a ≠ e) where
  mem := by simp
  obj := fun i h st b hb => by
    obtain ⟨⟨old, he⟩, ⟨o, ho, hc, hd⟩, _⟩ := st
    have e' : b = e ∨ b = it := by simpa using hb
    rcases e' with z | z
    · rw [z]; exact ⟨_, he, fun v q => nomatch q⟩
    · rw [z]; exact ⟨o, ho, fun v q => by rw [hd] at q; cases q⟩
  keep := fun i h h' st k => let ⟨⟨old, he⟩, hi, hne⟩ := st; ⟨⟨old, k e (by simp) _ he⟩, hi.at fun o q => k it (by simp) o q, hne⟩
  item := by
    intro X hP hw hK hc i pins s σ H E I hf st hg
    subst hP hw hK
    obtain ⟨⟨old, he⟩, hit, hne, ha1, ha2⟩ := st
    obtain ⟨xs, x, hq, hx⟩ := hg
    obtain ⟨its, rv, p, hz⟩ := I.tuple hq
    obtain ⟨u, hu, ru⟩ := rv.get hx
    have hel : e < s.heap.objs.size := Heap.lt_size he
    have hil : it < s.heap.objs.size := by obtain ⟨_, q, _⟩ := hit; exact Heap.lt_size q
    have pt : s.heap.IsTuple a its.toArray := p
    have hlt : i < its.toArray.size := by
      have := (List.getElem?_eq_some_iff.mp hu).1
      simpa using this
    refine wpAny_pyNext_enum_itemC (Draws.tuple (A := X.A.in1) (show X.A.in1.handled = none from I.ok.hd hc) it a ha1 its.toArray) he ⟨hit, pt⟩ hlt hne (by simp [hne, Ne.symm ha2]) fun y h' tk hy ho hst hT hsz hk => ?_
    have ey : y = u := by
      have h1 : its.toArray[i]? = some u := by simpa using hu
      rw [h1] at hy
      exact (Option.some.inj hy).symm
    subst ey
    refine ⟨_, rfl, wpAny_letOwnedTupleGo_enum (s := { s with heap := h', toks := tk + 1 }) ho fun h'' he' sb => ?_⟩
    have hT2 : h''.get? s.heap.objs.size = some { cls := .type "tuple", data := .seq #[.int (k + (i : Int)) tk, y] } := (sb.2 _ (Nat.ne_of_gt hel)).trans hT
    have new : ObjOk X.prog X.w (upd H s.heap.objs.size (.tup [.int (k + (i : Nat)), x])) h'' s.heap.objs.size (.tup [.int (k + (i : Nat)), x]) :=
      ⟨by show 2 ≤ sizeLine; decide, [.int (k + (i : Int)) tk, y], .cons ⟨_, rfl⟩ (.cons ru .nil), ⟨_, hT2, rfl, _, rfl⟩⟩
    have I1 : Inv X pins σ (upd H s.heap.objs.size (.tup [.int (k + (i : Nat)), x])) { s with heap := h'', toks := tk + 1 } :=
      I.turnedNew (ch := [e, it]) (fun b ob hb q => (sb.2 b (fun z => hb (by simp [z]))).trans (hk b ob (fun z => hb (by simp [z])) (fun z => hb (by simp [z])) q)) hf (Nat.le_refl _) new
    refine ⟨.ref s.heap.objs.size, _, I1, rfl, ⟨_, x, rfl, I.hok.fresh (Nat.le_refl _), rfl, fun ys hy => by rw [I.tuple_inj hy hq]; exact hx⟩, ⟨⟨y, ?_⟩, hst.1.at fun o q => (sb.2 it (Ne.symm hne)).trans q, hne, ha1, ha2⟩, fun b hb => ?_⟩
    · have e1 : k + ((i + 1 : Nat) : Int) = k + (i : Int) + 1 := by omega
      rw [e1]; exact he'
    · have hb' : b < s.heap.objs.size := by
        have e' : b = e ∨ b = it := by simpa using hb
        rcases e' with z | z
        · rw [z]; exact hel
        · rw [z]; exact hil
      rw [upd_ne (Nat.ne_of_lt hb')]
      exact (hf b hb).1
  done := by
    intro X hP hw hK hc i pins s σ H E I hf st hg
    subst hP hw hK
    obtain ⟨⟨old, he⟩, hit, hne, ha1, ha2⟩ := st
    obtain ⟨xs, hq, hx⟩ := hg
    obtain ⟨its, rv, p, hz⟩ := I.tuple hq
    obtain ⟨f0, f1, f2, f3, f4, f5⟩ := hf it (by simp)
    have hl := rv.length
    have pt : s.heap.IsTuple a its.toArray := p
    have hi : i = its.toArray.size := by simp; omega
    subst hi
    exact wpAny_pyNext_enum_endD (Draws.tuple (A := X.A.in1) (show X.A.in1.handled = none from I.ok.hd hc) it a ha1 its.toArray) he ⟨hit, pt⟩ fun h' eb => ⟨rfl, I.turned (t' := s.toks) (fun b o hb q => eb b o hb q) f0 f1 f3 f4 f5⟩
  self := fun A i s Q E st h => let ⟨⟨_, he⟩, _⟩ := st; wpAny_pyIter_enum he h
def iEnumT (K : PySem.W.Frag) (ta : TA) : TI := fun σ H R => ta σ H fun vs H1 => ∃ a, vs = [.ref a] ∧ ((∃ xs, SqL K H1 a xs ∧ R (Ite K a) H1) ∨ ∃ xs, SqT K H1 a xs ∧ R (IteT K a 0) H1)
theorem pi_enumT {X : Cx} {e : Expr} {ta : TA} {p pos tpos : Pos} {elts : List Expr} {kk : Nat} (hg : Gl X "enumerate") (hm : X.mg "enumerate" = none) (ha : PA X [e] ta) (hs : starEach [e] X.env = [(false, eval e X.env)] := by rfl) :
    PI X (.Tuple elts kk tpos) (.Call (.Name "enumerate" p) [e] [] pos) (iEnumT X.K ta) := by
  refine ⟨fun pins s σ H R I h => ?_⟩
  refine Call_ (ld_blt I hg hm boot_enumerate (PyProof.Rows.callWith_type1 (thn (ha.run pos pins s σ H _ I h) fun us s1 ⟨vs, H1, I1, r1, q1⟩ => ?_) hs rfl))
  obtain ⟨a, ex, q1⟩ := q1
  subst ex
  cases r1 with
  | cons r rr =>
    cases rr
    cases r
    have fresh : ∀ b, b ∈ [s1.heap.objs.size + 1, s1.heap.objs.size] → FpOk X pins H1 b := fun b hb => by
      have e' : b = s1.heap.objs.size + 1 ∨ b = s1.heap.objs.size := by simpa using hb
      have hle : s1.heap.objs.size ≤ b := by
        rcases e' with z | z
        · rw [z]; exact Nat.le_add_right _ _
        · rw [z]; exact Nat.le_refl _
      exact I1.fpOk hle (I1.hok.fresh hle)
    rcases q1 with ⟨xs, hq, q⟩ | ⟨xs, hq, q⟩
    · obtain ⟨its, rv, p', hz⟩ := I1.list hq
      refine call_enumerate_list p'.isList fun h' he hit hsz hk => wpAny_pyIter_enum he ?_
      have I2 : Inv X pins σ H1 { s1 with heap := h' } := I1.kept (t' := s1.toks) hk
      exact ⟨s1.heap.objs.size + 1, [s1.heap.objs.size + 1, s1.heap.objs.size], _, _, H1, rfl, I2, turn_enum a (s1.heap.objs.size + 1) s1.heap.objs.size, ⟨⟨.none, he⟩, hit, Nat.succ_ne_self _⟩, fresh, q⟩
    · obtain ⟨its, rv, p', hz⟩ := I1.tuple hq
      obtain ⟨oa, hoa, _⟩ := id p'
      have hlt : a < s1.heap.objs.size := Heap.lt_size hoa
      refine call_enumerate_tup (show s1.heap.IsTuple a its.toArray from p') fun h' he hit hsz hk => wpAny_pyIter_enum he ?_
      have I2 : Inv X pins σ H1 { s1 with heap := h' } := I1.kept (t' := s1.toks) hk
      exact ⟨s1.heap.objs.size + 1, [s1.heap.objs.size + 1, s1.heap.objs.size], _, _, H1, rfl, I2, turn_enumT a (s1.heap.objs.size + 1) s1.heap.objs.size 0, ⟨⟨.none, by simpa using he⟩, hit, Nat.succ_ne_self _, Nat.ne_of_lt hlt, Nat.ne_of_lt (Nat.lt_succ_of_lt hlt)⟩, fresh, q⟩
end L2
set_option maxRecDepth 100000
set_option maxHeartbeats 1000000
namespace L2
open PySem PySem.Spec PyProof.Rows
def iSeq (K : PySem.W.Frag) (tl : TE) : TI := fun σ H R => tl σ H fun x H1 => ∃ a, x = .ref a ∧ (((∃ xs, SqL K H1 a xs) ∧ R (Itl K a) H1) ∨ ((∃ xs, SqT K H1 a xs) ∧ R (Itt K a) H1))
theorem pi_seq {X : Cx} {tg l : Expr} {tl : TE} (hl : PE X l tl) : PI X tg l (iSeq X.K tl) := by
  refine ⟨fun pins s σ H R I h => ?_⟩
  refine thn (hl.run pins s σ H _ I h) fun v s1 ⟨x, H1, I1, r1, q1⟩ => ?_
  obtain ⟨a, e, q⟩ := q1
  subst e
  cases r1
  rcases q with ⟨⟨xs, hq⟩, q⟩ | ⟨⟨xs, hq⟩, q⟩
  · obtain ⟨its, rv, p, hz⟩ := I1.list hq
    refine wpAny_pyIter_list p.isList ?_
    refine ⟨s1.heap.objs.size, [s1.heap.objs.size], _, _, H1, rfl, I1.kept (t' := s1.toks) fun b o e => Heap.get?_push_of_some _ e, turn_list a _, ⟨_, Heap.get?_push_size _ rfl, rfl, rfl⟩, fun b hb => ?_, q⟩
    have e : b = s1.heap.objs.size := by simpa using hb
    subst e
    exact I1.fpOk (Nat.le_refl _) (I1.hok.fresh (Nat.le_refl _))
  · obtain ⟨its, rv, p, hz⟩ := I1.tuple hq
    refine wpAny_pyIter_tuple (show s1.heap.IsTuple a its.toArray from p) ?_
    refine ⟨s1.heap.objs.size, [s1.heap.objs.size], _, _, H1, rfl, I1.kept (t' := s1.toks) fun b o e => Heap.get?_push_of_some _ e, turn_tuple a _, ⟨_, Heap.get?_push_size _ rfl, rfl, rfl⟩, fun b hb => ?_, q⟩
    have e : b = s1.heap.objs.size := by simpa using hb
    subst e
    exact I1.fpOk (Nat.le_refl _) (I1.hok.fresh (Nat.le_refl _))
end L2
namespace FI
open PySem L2 PySem.Spec PyProof.Rows
def stays (n : Nat) (xs : List D) : Hh → Prop := fun G => G[n]? = some (.lst xs)
def anyH : Hh → Prop := fun _ => True
def seqOf (G : Hh) (d : D) : Option (List D × (Hh → Prop)) := match d with
  | .tup xs => some (xs, anyH)
  | .kt xs => some (xs, anyH)
  | .kl xs => some (xs, anyH)
  | .ref n => match G[n]? with
    | some (.lst xs) => some (xs, stays n xs)
    | _ => none
  | _ => none
def wSeq (fe : SE) : SW := fun gs G => bnd (fe gs G) fun d G1 => match seqOf G1 d with
  | some p => some (.val p, G1)
  | none => none
section
variable {g : Gm} {ι : List Addr} {G : Hh} {H : Hp}
theorem wk_l {a : Addr} {xs : List D} {gd : Hh → Prop} (h : ∀ ι' H' G', Stp g ι H ι' H' → SimH g ι' G' H' → gd G' → ∃ vs, SqL g.K H' a vs ∧ RelDs g ι' H' xs vs) : WkOk g (Itl g.K a) xs gd ι H := fun ι' H' G' i st sm gg hi => by
  obtain ⟨vs, hs, rs⟩ := h ι' H' G' st sm gg
  refine ⟨fun d hd => ?_, fun e => ⟨vs, hs, by rw [← rs.length]; omega⟩⟩
  obtain ⟨v, hv, rv⟩ := rs.get hd
  refine ⟨⟨vs, v, hs, hv⟩, fun x H2 y => ?_⟩
  obtain ⟨rfl, y⟩ := y
  have e := y vs hs
  rw [hv] at e
  cases e
  exact ⟨.refl _ _ _, sm, rv⟩
theorem wk_t {a : Addr} {xs : List D} {gd : Hh → Prop} (h : ∀ ι' H' G', Stp g ι H ι' H' → SimH g ι' G' H' → gd G' → ∃ vs, SqT g.K H' a vs ∧ RelDs g ι' H' xs vs) : WkOk g (Itt g.K a) xs gd ι H := fun ι' H' G' i st sm gg hi => by
  obtain ⟨vs, hs, rs⟩ := h ι' H' G' st sm gg
  refine ⟨fun d hd => ?_, fun e => ⟨vs, hs, by rw [← rs.length]; omega⟩⟩
  obtain ⟨v, hv, rv⟩ := rs.get hd
  refine ⟨⟨vs, v, hs, hv⟩, fun x H2 y => ?_⟩
  obtain ⟨rfl, y⟩ := y
  have e := y vs hs
  rw [hv] at e
  cases e
  exact ⟨.refl _ _ _, sm, rv⟩
theorem seq_at (sh : SimH g ι G H) {d : D} {v : V} {xs : List D} {gd : Hh → Prop} (r : RelD g ι H d v) (e : seqOf G d = some (xs, gd)) : ∃ a, v = .ref a ∧
    ((∀ ι' H' G', Stp g ι H ι' H' → SimH g ι' G' H' → gd G' → ∃ vs, SqL g.K H' a vs ∧ RelDs g ι' H' xs vs) ∧ (∃ vs, SqL g.K H a vs ∧ RelDs g ι H xs vs) ∨
     (∀ ι' H' G', Stp g ι H ι' H' → SimH g ι' G' H' → gd G' → ∃ vs, SqT g.K H' a vs ∧ RelDs g ι' H' xs vs) ∧ (∃ vs, SqT g.K H a vs ∧ RelDs g ι H xs vs)) := by
  cases r with
  | @tup ys a vs ha rs => cases e; exact ⟨a, rfl, .inr ⟨fun ι' H' G' st _ _ => ⟨vs, .inl (.inl (st.tup _ _ ha)), rs.mono st⟩, vs, .inl (.inl ha), rs⟩⟩
  | @kt ys a vs ha rs => cases e; exact ⟨a, rfl, .inr ⟨fun ι' H' G' st _ _ => ⟨vs, (st.sqk ha).sq, rs.mono st⟩, vs, ha.sq, rs⟩⟩
  | @kl ys a vs ha rs => cases e; exact ⟨a, rfl, .inl ⟨fun ι' H' G' st _ _ => ⟨vs, (st.sqf ha).sq, rs.mono st⟩, vs, ha.sq, rs⟩⟩
  | @ref n a ha =>
    unfold seqOf at e
    dsimp only at e
    cases hm : G[n]? with
    | none => rw [hm] at e; cases e
    | some o =>
      rw [hm] at e
      cases o with
      | lst ys =>
        cases e
        obtain ⟨vs, hv, rv⟩ := lst_at sh ha hm
        exact ⟨a, rfl, .inl ⟨fun ι' H' G' st sm gg => by
          obtain ⟨vs, hv, rv⟩ := lst_at sm (st.at ha) gg
          exact ⟨vs, .inl (.inl hv), rv⟩, vs, .inl (.inl hv), rv⟩⟩
      | _ => cases e
  | _ => cases e
end
section
variable {g : Gm} {c : Sc} {tg e e2 : Expr} {fe : SE} {fa : SA} {pos p tpos : Pos}
theorem fk_seq (he : FE g c e fe) : FK g c tg e (wSeq fe) := ⟨fun X i W t => pi_imp (pi_seq (he.run X i W t)) fun σ H R ⟨ι, gs, G, ss, sh, h⟩ => ⟨ι, gs, G, ss, sh, h.bnd.imp fun d ι1 G1 H1 s1 t1 h1 v rv => by
  cases e : seqOf G1 d with
  | none => rw [e] at h1; exact h1.no
  | some q =>
    obtain ⟨xs, gd⟩ := q
    rw [e] at h1
    obtain ⟨a, rfl, hh⟩ := seq_at t1 rv e
    have k := h1.val (.refl _ _ _) t1
    rw [i.K]
    rcases hh with ⟨h2, vs, h3, h4⟩ | ⟨h2, vs, h3, h4⟩
    · exact ⟨a, rfl, .inl ⟨⟨vs, h3⟩, k _ (wk_l h2)⟩⟩
    · exact ⟨a, rfl, .inr ⟨⟨vs, h3⟩, k _ (wk_t h2)⟩⟩⟩⟩
def rngD (lo : Int) (n : Nat) : List D := (List.range n).map fun i : Nat => D.int (lo + (i : Int))
theorem rngD_length (lo : Int) (n : Nat) : (rngD lo n).length = n := by simp [rngD]
theorem wk_r {ι : List Addr} {H : Hp} (lo : Int) (n : Nat) : WkOk g (Itr lo n) (rngD lo n) anyH ι H := fun ι' H' G' i st sm gg hi => by
  refine ⟨fun d hd => ?_, fun e => ?_⟩
  · have hlt : i < n := by
      have := (List.getElem?_eq_some_iff.mp hd).1
      rwa [rngD_length] at this
    refine ⟨hlt, fun x H2 y => ?_⟩
    obtain ⟨rfl, rfl⟩ := y
    have e : d = .int (lo + (i : Int)) := by
      unfold rngD at hd
      rw [List.getElem?_map, List.getElem?_range hlt] at hd
      exact (Option.some.inj hd).symm
    subst e
    exact ⟨.refl _ _ _, sm, .int _⟩
  · rw [rngD_length] at e
    show n ≤ i
    omega
def okR (i : Int) : Bool := decide (-(2 ^ 62) ≤ i ∧ i < 2 ^ 62)
def wRng1 (fa : SA) : SW := fun gs G => bnd (fa gs G) fun ds G1 => match ds with
  | [.int j] => if okR j = true then some (.val (rngD 0 j.toNat, anyH), G1) else none
  | _ => none
def GlB (g : Gm) (c : Sc) (x : Str) : Prop := GlS c x ∧ g.mg x = none
theorem fk_rng1 (hg : GlB g c "range") (ha : FA g c [e] fa) (hs : ∀ env, starEach [e] env = [(false, eval e env)] := by intro _; rfl) : FK g c tg (.Call (.Name "range" p) [e] [] pos) (wRng1 fa) :=
  ⟨fun X i W t => pi_imp (pi_range1 (hg.1.gl i) (by rw [i.mg]; exact hg.2) (ha.run X i W t) (hs _)) fun σ H R ⟨ι, gs, G, ss, sh, h⟩ => ⟨ι, gs, G, ss, sh, h.bnd.imp fun ds ι1 G1 H1 s1 t1 h1 vs rv => by
    split at h1
    · rename_i j
      cases rv with
      | cons r rr =>
        cases r with
        | int j =>
          cases rr
          by_cases hj : okR j = true
          · rw [if_pos hj] at h1
            have := of_decide_eq_true hj
            exact ⟨j, rfl, this.1, this.2, h1.val (.refl _ _ _) t1 _ (wk_r 0 j.toNat)⟩
          · rw [if_neg hj] at h1; exact h1.no
    · exact h1.no⟩⟩
def enumD (xs : List D) : List D := (xs.zipIdx).map fun p => .tup [.int (p.2 : Int), p.1]
theorem enumD_get {xs : List D} {i : Nat} {d : D} (h : (enumD xs)[i]? = some d) : ∃ x, xs[i]? = some x ∧ d = .tup [.int (i : Int), x] := by
  unfold enumD at h
  rw [List.getElem?_map, List.getElem?_zipIdx] at h
  cases e : xs[i]? with
  | none => rw [e] at h; cases h
  | some x =>
    rw [e] at h
    simp at h
    exact ⟨x, rfl, h.symm⟩
theorem enumD_length (xs : List D) : (enumD xs).length = xs.length := by simp [enumD]
def wEnum (fa : SA) : SW := fun gs G => bnd (fa gs G) fun ds G1 => match ds with
  | [d] => match seqOf G1 d with
    | some (xs, gd) => some (.val (enumD xs, gd), G1)
    | none => none
  | _ => none
theorem wk_e {ι : List Addr} {H : Hp} {a : Addr} {xs : List D} {gd : Hh → Prop} (h : ∀ ι' H' G', Stp g ι H ι' H' → SimH g ι' G' H' → gd G' → ∃ vs, SqL g.K H' a vs ∧ RelDs g ι' H' xs vs) : WkOk g (Ite g.K a) (enumD xs) gd ι H := fun ι' H' G' i st sm gg hi => by
  obtain ⟨vs, hs, rs⟩ := h ι' H' G' st sm gg
  refine ⟨fun d hd => ?_, fun e => ⟨vs, hs, by rw [enumD_length, rs.length] at e; omega⟩⟩
  obtain ⟨x0, hx, rfl⟩ := enumD_get hd
  obtain ⟨v, hv, rv⟩ := rs.get hx
  refine ⟨⟨vs, v, hs, hv⟩, fun x H2 y => ?_⟩
  obtain ⟨T, x', rfl, hT, rfl, y⟩ := y
  have e := y vs hs
  rw [hv] at e
  cases e
  exact ⟨stp_upd_new hT, sm.new hT, new_tup hT (.cons (.int _) (.cons rv .nil))⟩
theorem wk_eT {ι : List Addr} {H : Hp} {a : Addr} {xs : List D} {gd : Hh → Prop} (h : ∀ ι' H' G', Stp g ι H ι' H' → SimH g ι' G' H' → gd G' → ∃ vs, SqT g.K H' a vs ∧ RelDs g ι' H' xs vs) : WkOk g (IteT g.K a 0) (enumD xs) gd ι H := fun ι' H' G' i st sm gg hi => by
  obtain ⟨vs, hs, rs⟩ := h ι' H' G' st sm gg
  refine ⟨fun d hd => ?_, fun e => ⟨vs, hs, by rw [enumD_length, rs.length] at e; omega⟩⟩
  obtain ⟨x0, hx, rfl⟩ := enumD_get hd
  obtain ⟨v, hv, rv⟩ := rs.get hx
  refine ⟨⟨vs, v, hs, hv⟩, fun x H2 y => ?_⟩
  obtain ⟨T, x', rfl, hT, rfl, y⟩ := y
  have e := y vs hs
  rw [hv] at e
  cases e
  rw [Int.zero_add]
  exact ⟨stp_upd_new hT, sm.new hT, new_tup hT (.cons (.int _) (.cons rv .nil))⟩
theorem fk_enum {elts : List Expr} {kk : Nat} (hg : GlB g c "enumerate") (ha : FA g c [e] fa) (hs : ∀ env, starEach [e] env = [(false, eval e env)] := by intro _; rfl) : FK g c (.Tuple elts kk tpos) (.Call (.Name "enumerate" p) [e] [] pos) (wEnum fa) :=
  ⟨fun X i W t => pi_imp (pi_enumT (hg.1.gl i) (by rw [i.mg]; exact hg.2) (ha.run X i W t) (hs _)) fun σ H R ⟨ι, gs, G, ss, sh, h⟩ => ⟨ι, gs, G, ss, sh, h.bnd.imp fun ds ι1 G1 H1 s1 t1 h1 vs rv => by
    split at h1
    · rename_i d
      cases rv with
      | cons r rr =>
        cases rr
        cases e : seqOf G1 d with
        | none => rw [e] at h1; exact h1.no
        | some q =>
          obtain ⟨xs, gd⟩ := q
          rw [e] at h1
          obtain ⟨a, rfl, hh⟩ := seq_at t1 r e
          have k := h1.val (.refl _ _ _) t1
          rw [i.K]
          rcases hh with ⟨h2, vs, h3, h4⟩ | ⟨h2, vs, h3, h4⟩
          · exact ⟨a, rfl, .inl ⟨vs, h3, k _ (wk_e h2)⟩⟩
          · exact ⟨a, rfl, .inr ⟨vs, h3, k _ (wk_eT h2)⟩⟩
    · exact h1.no⟩⟩
end
structure FGs (g : Gm) (c : Sc) (tgs : List Expr) (sl : List Nat) (f : List D → Sg → Hh → Option (Sg × Hh)) : Prop where
  run : ∀ X, XIs g c X → PGs X tgs fun vs σ H Q => ∃ ι gs G ds gs' G', SimS g ι H gs σ ∧ SimH g ι G H ∧ RelDs g ι H ds vs ∧ f ds gs G = some (gs', G') ∧ ∀ ι' H' σ', Stp g ι H ι' H' → SimH g ι' G' H' → SimS g ι' H' gs' σ' → But sl σ σ' → Q σ' H'
def gsNil : List D → Sg → Hh → Option (Sg × Hh) := fun ds gs G => match ds with
  | [] => some (gs, G)
  | _ => none
def gsCons (t : GT) (u : List D → Sg → Hh → Option (Sg × Hh)) : List D → Sg → Hh → Option (Sg × Hh) := fun ds gs G => match ds with
  | d :: r => match t d gs G with
    | some (gs1, G1) => u r gs1 G1
    | none => none
  | [] => none
def gTp (n : Nat) (u : List D → Sg → Hh → Option (Sg × Hh)) : GT := fun d gs G => match d with
  | .tup xs => if xs.length = n then u xs gs G else none
  | .kt xs => if xs.length = n then u xs gs G else none
  | _ => none
section
variable {g : Gm} {c : Sc} {e : Expr} {es : List Expr} {t : GT} {u : List D → Sg → Hh → Option (Sg × Hh)} {sl sm : List Nat} {pos : Pos}
theorem pgs_imp {X : Cx} {tg : List Expr} {t t' : TGs} (h : PGs X tg t) (k : ∀ v σ H Q, t' v σ H Q → t v σ H Q) : PGs X tg t' := ⟨fun pins s σ H v u Q I r q => h.run pins s σ H v u Q I r (k v σ H Q q)⟩
theorem fgs_nil : FGs g c [] [] gsNil := ⟨fun X i => pgs_imp pgs_nil fun vs σ H Q ⟨ι, gs, G, ds, gs', G', ss, sh, rv, e, q⟩ => by
  cases rv with
  | nil =>
    cases e
    exact ⟨rfl, q ι H σ (.refl _ _ _) sh ss .refl⟩
  | cons _ _ => cases e⟩
theorem fgs_cons (h1 : FG g c e sl t) (h2 : FGs g c es sm u) (hs : ∀ env, (assignEach (e :: es) env).map (·.2) = assign e env :: (assignEach es env).map (·.2) := by intro _; rfl) : FGs g c (e :: es) (sl ++ sm) (gsCons t u) := ⟨fun X i => pgs_imp (pgs_cons (h1.run X i) (h2.run X i) (hs _)) fun vs σ H Q ⟨ι, gs, G, ds, gs', G', ss, sh, rv, e, q⟩ => by
  cases rv with
  | nil => cases e
  | @cons d ds v vs r rr =>
    unfold gsCons at e
    dsimp only at e
    cases e1 : t d gs G with
    | none => rw [e1] at e; cases e
    | some p =>
      obtain ⟨gs1, G1⟩ := p
      rw [e1] at e
      exact ⟨v, vs, rfl, ι, gs, G, d, gs1, G1, ss, sh, r, e1, fun ι1 H1 σ1 s1 t1 u1 b1 => ⟨ι1, gs1, G1, ds, gs', G', u1, t1, rr.mono s1, e, fun ι2 H2 σ2 s2 t2 u2 b2 => q ι2 H2 σ2 (s1.trans s2) t2 u2
        ((b1.mono fun j hj => List.mem_append_left _ hj).trans (b2.mono fun j hj => List.mem_append_right _ hj))⟩⟩⟩
theorem fg_tup {k n : Nat} (h : FGs g c es sl u) (hn : ∀ env, (assignEach es env).length = n := by intro _; rfl) (hst : ∀ env, (assignEach es env).findIdx? (·.1) = none := by intro _; rfl) (hh : c.hot = false := by rfl) : FG g c (.Tuple es k pos) sl (gTp n u) :=
  ⟨fun X i => pg_imp (pg_tup (i.calm hh) (h.run X i) (hn _) (hst _)) fun v σ H Q ⟨ι, gs, G, d, gs', G', ss, sh, rv, e, q⟩ => by
    rw [i.K]
    cases rv with
    | @tup xs a vs ha rs =>
      unfold gTp at e
      dsimp only at e
      by_cases hl : xs.length = n
      · rw [if_pos hl] at e
        exact ⟨a, vs, rfl, .inl (.inl ha), by rw [← rs.length]; exact hl, ι, gs, G, xs, gs', G', ss, sh, rs, e, q⟩
      · rw [if_neg hl] at e; cases e
    | @kt xs a vs ha rs =>
      unfold gTp at e
      dsimp only at e
      by_cases hl : xs.length = n
      · rw [if_pos hl] at e
        exact ⟨a, vs, rfl, ha.sq, by rw [← rs.length]; exact hl, ι, gs, G, xs, gs', G', ss, sh, rs, e, q⟩
      · rw [if_neg hl] at e; cases e
    | _ => cases e⟩
end
end FI
set_option maxRecDepth 100000
set_option maxHeartbeats 1000000
namespace SrtO
open PySem PySem.Spec PyProof.Rows
def lexI : List Int → List Int → Bool
  | _, [] => false
  | [], _ :: _ => true
  | x :: xs, y :: ys => if x = y then lexI xs ys else decide (x < y)
theorem lexI_asym : ∀ xs ys, lexI xs ys = true → lexI ys xs = false
  | _, [], h => by simp [lexI] at h
  | [], _ :: _, _ => rfl
  | x :: xs, y :: ys, h => by
    unfold lexI at h ⊢
    by_cases e : x = y
    · rw [if_pos e] at h
      rw [if_pos e.symm]
      exact lexI_asym xs ys h
    · rw [if_neg e] at h
      rw [if_neg (fun z => e z.symm)]
      have := of_decide_eq_true h
      exact decide_eq_false (by omega)
theorem lexI_tr : ∀ xs ys zs, lexI ys xs = false → lexI zs ys = false → lexI zs xs = false
  | [], _, zs, _, _ => by cases zs <;> rfl
  | _ :: _, [], _, h, _ => by simp [lexI] at h
  | _ :: _, _ :: _, [], _, h => by simp [lexI] at h
  | x :: xs, y :: ys, z :: zs, h1, h2 => by
    unfold lexI at h1 h2 ⊢
    by_cases e1 : y = x
    · rw [if_pos e1] at h1
      by_cases e2 : z = y
      · rw [if_pos e2] at h2
        rw [if_pos (e2.trans e1)]
        exact lexI_tr xs ys zs h1 h2
      · rw [if_neg e2] at h2
        have := of_decide_eq_false h2
        rw [if_neg (by omega)]
        exact decide_eq_false (by omega)
    · rw [if_neg e1] at h1
      have a1 := of_decide_eq_false h1
      by_cases e2 : z = y
      · rw [if_neg (by omega)]
        exact decide_eq_false (by omega)
      · rw [if_neg e2] at h2
        have a2 := of_decide_eq_false h2
        rw [if_neg (by omega)]
        exact decide_eq_false (by omega)
theorem swo_lexI {α : Type} (k : α → List Int) : Swo fun v u => lexI (k v) (k u) := ⟨fun x y => lexI_asym _ _, fun x y z => lexI_tr _ _ _⟩
def IsTupI (h : Heap) (v : Value) (ns : List Int) : Prop := ns ≠ [] ∧ ∃ a o its n, v = .ref a ∧ h.get? a = some o ∧ o.cls = .type "tuple" ∧ o.data = .seq its n ∧ IntsAre its.toList ns
theorem IsTupI.keeps {h h' : Heap} {v : Value} {ns : List Int} (p : IsTupI h v ns) (k : ∀ b o, h.get? b = some o → o.cls = .type "tuple" → h'.get? b = some o) : IsTupI h' v ns := by
  obtain ⟨h0, a, o, its, n, e, ho, hc, hd⟩ := p
  exact ⟨h0, a, o, its, n, e, k _ _ ho hc, hc, hd⟩
section
variable {prog : Program} {w : World} {A : Around} {E : Value → Shared → Prop} {s : Shared}
theorem kat_ints {fin : Bool} {Q : Bool → Shared → Prop} : ∀ {vs us : List Value} {ns ms : List Int} {i : Nat}, IntsAre vs ns → IntsAre us ms → fin = decide (ns.length < ms.length) → Q (lexI ns ms) s → PySem.W.KatLex prog w A true fin Q (vs.zip us) i s
  | [], us, [], ms, i, h, h', ef, q => by
    rw [List.zip_nil_left]
    refine PySem.W.kat_nil ?_
    cases ms with
    | nil => subst ef; exact q
    | cons m ms => subst ef; simpa [lexI] using q
  | v :: vs, [], n :: ns, [], i, h, h', ef, q => by
    rw [List.zip_nil_right]
    refine PySem.W.kat_nil ?_
    subst ef
    exact q
  | v :: vs, u :: us, n :: ns, m :: ms, i, h, h', ef, q => by
    rw [List.zip_cons_cons]
    cases h with
    | cons t =>
      cases h' with
      | cons t' =>
        refine PySem.W.kat_cons (SeqAt.EqAt.int_int n _ m _ prog w _ _ ?_)
        refine PySem.W.kat_go (fun e1 => ?_) (fun e1 => ?_)
        · have ex : n = m := by simpa using e1
          unfold lexI at q
          rw [if_pos ex] at q
          exact PySem.W.kat_yes (kat_ints (by assumption) (by assumption) (by rw [ef]; simp) q)
        · have ex : ¬ n = m := by simpa using e1
          unfold lexI at q
          rw [if_neg ex] at q
          cases i with
          | zero => exact PySem.W.kat_no (oneLt_int q)
          | succ i => exact PySem.W.kat_no (PySem.W.kat_one _ _ (PyProof.Rows.lt_int q))
end
end SrtO
namespace SrtO
open PySem PySem.Spec PyProof.Rows
section
variable {prog : Program} {w : World} {A : Around} {E : Value → Shared → Prop} {s : Shared}
theorem tupI_cmp {vs : List Value} {k : Value → List Int} (hp : ∀ v ∈ vs, IsTupI s.heap v (k v)) : Cmp prog w A s (tuples' true) (fun p => p.1 ∈ vs) (lt2 fun v u => lexI (k v) (k u)) := by
  intro p q hm hm'
  obtain ⟨_, a, o, its, n, e, ho, hc, hd, hi⟩ := hp _ hm
  obtain ⟨_, a', o', its', n', e', ho', hc', hd', hi'⟩ := hp _ hm'
  show wpAny (model prog w) A (keyLt' (tuples' true) p.1 q.1) (fun r s' => s' = s ∧ r = lexI (k p.1) (k q.1)) (fun _ _ => False) s
  rw [e, e'] at *
  refine PySem.W.kat_lt ho hd ho' hd' ?_
  have l1 := hi.length
  have l2 := hi'.length
  exact kat_ints hi hi' (by rw [← Array.length_toList, ← Array.length_toList, l1, l2]) ⟨rfl, rfl⟩
theorem firsts_I {h : Heap} {k : Value → List Int} : ∀ {vs : List Value}, (∀ v ∈ vs, IsTupI h v (k v)) → ∃ fs : List Value, PySem.W.KatTups h vs fs ∧ fs.length = vs.length ∧ ∀ f ∈ fs, ∃ x t, f = Value.int x t
  | [], _ => ⟨[], PySem.W.KatTups.nil, rfl, fun _ hm => by simp at hm⟩
  | v :: vs, hp => by
    obtain ⟨fs, h1, h2, h3⟩ := firsts_I (vs := vs) fun v' hm => hp v' (List.mem_cons_of_mem _ hm)
    obtain ⟨hne, a, o, its, n, e, ho, hc, hd, hi⟩ := hp v (List.mem_cons_self ..)
    generalize hkv : k v = kv at hi hne
    obtain ⟨its⟩ := its
    cases hi with
    | nil => exact absurd rfl hne
    | @cons x t vs' ns hr =>
      subst e
      refine ⟨.int x t :: fs, PySem.W.KatTups.cons ho hc hd rfl h1, by rw [List.length_cons, List.length_cons, h2], fun f hm => ?_⟩
      rcases List.mem_cons.mp hm with rfl | hm
      · exact ⟨x, t, rfl⟩
      · exact h3 f hm
theorem tupI_sortableO {a : Addr} {vs : List Value} {k : Value → List Int} (h0 : 0 < vs.length) (hp : ∀ v ∈ vs, IsTupI s.heap v (k v)) (ha : ∀ o, s.heap.get? a = some o → o.cls ≠ .type "tuple") : SortableO prog w A s a vs fun v u => lexI (k v) (k u) := by
  intro h' keep
  have hp' : ∀ v ∈ vs, IsTupI h' v (k v) := fun v hm => (hp v hm).keeps fun b o e c => keep b o (fun z => by subst z; exact ha o e c) e
  obtain ⟨fs, h1, h2, h3⟩ := firsts_I hp'
  refine ⟨tuples' true, fun Q E hq => ?_, tupI_cmp hp'⟩
  refine PySem.W.kat_kind (T := .type "int") h1 (by omega) (fun f hm => ?_) (by rfl) ?_
  · obtain ⟨x, t, rfl⟩ := h3 f hm
    exact PySem.W.Looks.now
  · have e : (Value.type "int" != Value.type "tuple") = true := by first | decide +kernel | rfl | decide
    rw [e]
    exact hq
theorem sorted_tupI {l : Addr} {vs : List Value} {k : Value → List Int} {Q : Value → Shared → Prop} (hl : s.heap.IsList l vs.toArray) (hz : vs.length ≤ sizeLine) (hp : ∀ v ∈ vs, IsTupI s.heap v (k v))
    (h : ∀ (h' : Heap) (d : Addr) (out : List Value), Srtd (fun v u => lexI (k v) (k u)) out → Stb (fun v u => lexI (k v) (k u)) out vs → (∀ b o, s.heap.get? b = some o → h'.get? b = some o) → s.heap.objs.size ≤ d → (∃ n, h'.get? d = some (seqObj "list" out.toArray n)) → Q (.ref d) { s with heap := h' }) :
    wpAny (model prog w) A (call (.builtin "sorted") [.ref l]) Q E s := by
  refine sorted_ord (swo_lexI k) hl hz (fun h2 h₁ a ha kk => ?_) fun out hs hb => ?_
  · refine tupI_sortableO (s := { s with heap := h₁ }) (by omega) (fun v hm => (hp v hm).keeps fun b o e _ => (kk b o e).2) fun o e => ?_
    have e' : some o = some (seqObj "list" vs.toArray 0) := e.symm.trans ha
    cases e'
    intro c
    exact absurd (Value.type.inj c) (by decide)
  · exact h _ _ out hs hb (fun b o e => sortedAll_old e) (Nat.le_succ _) (sortedAll_at s.heap vs out.toArray)
end
theorem lexI_eq : ∀ xs ys, lexI xs ys = false → lexI ys xs = false → xs = ys
  | [], [], _, _ => rfl
  | [], _ :: _, h, _ => by simp [lexI] at h
  | _ :: _, [], _, h => by simp [lexI] at h
  | x :: xs, y :: ys, h1, h2 => by
    unfold lexI at h1 h2
    by_cases e : x = y
    · rw [if_pos e] at h1
      rw [if_pos e.symm] at h2
      rw [e, lexI_eq xs ys h1 h2]
    · rw [if_neg e] at h1
      rw [if_neg (fun z => e z.symm)] at h2
      have a := of_decide_eq_false h1
      have b := of_decide_eq_false h2
      omega
theorem srt_uniq {α : Type} {le : α → α → Prop} (ha : ∀ x y, le x y → le y x → x = y) : ∀ {l m : List α}, l.Perm m → l.Pairwise le → m.Pairwise le → l = m
  | [], m, p, _, _ => (List.Perm.nil_eq p)
  | x :: l, [], p, _, _ => absurd p.length_eq (by simp)
  | x :: l, y :: m, p, h1, h2 => by
    have hx := List.pairwise_cons.mp h1
    have hy := List.pairwise_cons.mp h2
    have e : x = y := by
      have m1 : x ∈ y :: m := p.mem_iff.mp (List.mem_cons_self ..)
      have m2 : y ∈ x :: l := p.mem_iff.mpr (List.mem_cons_self ..)
      rcases List.mem_cons.mp m1 with e | m1
      · exact e
      · rcases List.mem_cons.mp m2 with e | m2
        · exact e.symm
        · exact ha x y (hx.1 y m2) (hy.1 x m1)
    subst e
    rw [srt_uniq ha p.cons_inv hx.2 hy.2]
end SrtO
namespace L2
open PySem PySem.Spec PyProof.Rows
def rSortedTI (K : PySem.W.Frag) : List V → Hp → VK → Prop := fun vs H Q => ∃ (a : Addr) (xs : List V) (k : V → List Int), vs = [V.ref a] ∧ SqL K H a xs ∧ (∀ x ∈ xs, k x ≠ [] ∧ ∃ t, x = V.ref t ∧ H t = some (.tup ((k x).map V.int))) ∧
  ∀ ys p, SrtO.Srtd (fun x y => SrtO.lexI (k x) (k y)) ys → ys.Perm xs → H p = none → Q (.ref p) (upd H p (.lst ys))
theorem cr_sortedTI {X : Cx} : CallR X (.builtin "sorted") (rSortedTI X.K) := by
  intro pins s σ H vs us Q I r h
  obtain ⟨a, xs, k, rfl, hs, hx, q⟩ := h
  obtain ⟨its, rv, hl, hz⟩ := I.list hs
  obtain ⟨u, rfl, ru⟩ := vals1 r
  obtain rfl : u = Value.ref a := ru
  obtain ⟨e1, e2⟩ := refs_back rv fun x m => by
    obtain ⟨_, t, e, _⟩ := hx x m
    exact ⟨t, e⟩
  refine SrtO.sorted_tupI (k := fun u => k (backV u)) hl.isList (by rw [← rv.length]; exact hz) (fun v hv => ?_) fun h' d out h1 h2 kp hd hn => ?_
  · obtain ⟨t, rfl⟩ := e2 v hv
    have hm : V.ref t ∈ xs := by rw [e1]; exact List.mem_map.mpr ⟨_, hv, rfl⟩
    obtain ⟨hne, t', e, ht⟩ := hx _ hm
    cases e
    obtain ⟨_, its2, r2, o, ho, hc, n, hd⟩ := I.hok _ _ ht
    exact ⟨hne, t, o, its2.toArray, n, rfl, ho, hc, hd, r2.ints⟩
  · have h3 : ∀ u ∈ out, ∃ a, u = Value.ref a := fun u hu => e2 u (h2.perm.mem_iff.mp hu)
    obtain ⟨n, hn⟩ := hn
    have hb : (out.map backV).Perm xs := by
      rw [e1]
      exact h2.perm.map backV
    refine ⟨.ref d, upd H d (.lst (out.map backV)), I.laid (t' := s.toks) kp hd ⟨?_, out, n, vals_back h3, hn⟩, rfl, q _ d (SrtO.srtd_map h1) hb (I.hok.fresh hd)⟩
    rw [hb.length_eq]
    exact hz
end L2
set_option maxRecDepth 100000
set_option maxHeartbeats 1000000
namespace FI
open PySem L2 PySem.Spec PyProof.Rows
structure BltOk (g : Gm) (f : Value) (F : List D → Mm D) (h : Bool := false) : Prop where
  run : ∀ c X, XIs g c X → (h = true → c.hot = false) → ∃ r, CallR X f r ∧ PrA g r F
section
variable {g : Gm} {c : Sc} {e : Expr} {es : List Expr} {fa : SA} {p pos : Pos} {F F' : List D → Mm D} {x : Str} {id T : String} {f : Value}
theorem BltOk.or {q q' : Bool} (h : BltOk g f F q) (h' : BltOk g f F' q') : BltOk g f (h := q || q') (fun ds G => match F ds G with
  | some z => some z
  | none => F' ds G) := ⟨fun c X i hh => by
  obtain ⟨r, o, p⟩ := h.run c X i (fun z => hh (by rw [z]; rfl))
  obtain ⟨r', o', p'⟩ := h'.run c X i (fun z => hh (by rw [z, Bool.or_true]))
  refine ⟨_, o.or o', fun W σ ι G H ds xs Q sh rs q => ?_⟩
  cases hF : F ds G with
  | some z => exact .inl (p W σ ι G H ds xs Q sh rs (by rw [hF]; simpa only [hF] using q))
  | none => exact .inr (p' W σ ι G H ds xs Q sh rs (by simpa only [hF] using q))⟩
theorem fe_blt {q : Bool} (hf : BltOk g (.builtin id) F q) (hg : GlB g c x) (ha : FA g c (e :: es) fa) (hv : bootBuiltins x = some (.builtin id) := by rfl) (hn : x ≠ "__name__" := by decide) (hdb : (x == ("__debug__" : Str)) = false := by decide)
    (he : ∀ env, starEach (e :: es) env = (false, eval e env) :: starEach es env := by intro _; rfl) (hpl : ∀ env, (backTo pos (starEach es env)).any (·.1) = false := by intro _; rfl) (hh : q = true → c.hot = false := by first | exact (fun _ => rfl) | exact (fun z => nomatch z)) : FE g c (.Call (.Name x p) (e :: es) [] pos) (eArgs F fa) :=
  ⟨fun X i W t => by
    obtain ⟨r, hr, pr⟩ := hf.run c X i hh
    exact pe_imp (pe_callB hr (hg.1.gl i) (by rw [i.mg]; exact hg.2) hv (ha.run X i W t) hn hdb (he _) (hpl _)) fun σ H Q ⟨ι, gs, G, ss, sh, h⟩ => ⟨ι, gs, G, ss, sh, h.bnd.imp fun ds ι1 G1 H1 s1 t1 h1 vs rv => pr W σ ι1 G1 H1 ds vs Q t1 rv h1⟩⟩
theorem fe_bty {q : Bool} (hf : BltOk g (.type T) F q) (hg : GlB g c x) (ha : FA g c (e :: es) fa) (hv : bootBuiltins x = some (.type T) := by rfl) (hn : x ≠ "__name__" := by decide) (hdb : (x == ("__debug__" : Str)) = false := by decide)
    (he : ∀ env, starEach (e :: es) env = (false, eval e env) :: starEach es env := by intro _; rfl) (hpl : ∀ env, (backTo pos (starEach es env)).any (·.1) = false := by intro _; rfl) (hh : q = true → c.hot = false := by first | exact (fun _ => rfl) | exact (fun z => nomatch z)) : FE g c (.Call (.Name x p) (e :: es) [] pos) (eArgs F fa) :=
  ⟨fun X i W t => by
    obtain ⟨r, hr, pr⟩ := hf.run c X i hh
    exact pe_imp (pe_callTy hr (hg.1.gl i) (by rw [i.mg]; exact hg.2) hv (ha.run X i W t) hn hdb (he _) (hpl _)) fun σ H Q ⟨ι, gs, G, ss, sh, h⟩ => ⟨ι, gs, G, ss, sh, h.bnd.imp fun ds ι1 G1 H1 s1 t1 h1 vs rv => pr W σ ι1 G1 H1 ds vs Q t1 rv h1⟩⟩
end
def d1 (F : D → Mm D) : List D → Mm D := fun ds G => match ds with
  | [d] => F d G
  | _ => none
def d2 (F : D → D → Mm D) : List D → Mm D := fun ds G => match ds with
  | [d, e] => F d e G
  | _ => none
def lenD (G : Hh) : D → Option Nat
  | .str x => if x.length ≤ 100000 then some x.length else none
  | .tup xs => some xs.length
  | .kt xs => some xs.length
  | .kl xs => some xs.length
  | .ref n => match G[n]? with
    | some (.lst xs) => some xs.length
    | some (.dK kvs) => some kvs.length
    | some (.dT kvs) => some kvs.length
    | _ => none
  | _ => none
def bLen : D → Mm D := fun d G => match lenD G d with
  | some n => some (.val (.int n), G)
  | none => none
def bAbs : D → Mm D := fun d G => match d with
  | .int i => some (.val (.int (if i < 0 then -i else i)), G)
  | _ => none
def bInt : D → Mm D := fun d G => match d with
  | .int i => some (.val (.int i), G)
  | .bl k => some (.val (.int (if k then 1 else 0)), G)
  | _ => none
def bMax2 : D → D → Mm D := fun d e G => match d, e with
  | .int i, .int j => some (.val (.int (if j > i then j else i)), G)
  | _, _ => none
def bMin2 : D → D → Mm D := fun d e G => match d, e with
  | .int i, .int j => some (.val (.int (if j < i then j else i)), G)
  | _, _ => none
def bStr : D → Mm D := fun d G => match d with
  | .int i => if i.natAbs.log2 < 1900 then some (.val (.str (toString i)), G) else none
  | .str x => some (.val (.str x), G)
  | _ => none
def bList : D → Mm D := fun d G => match itemsD G d with
  | some xs => some (.val (.ref G.length), G ++ [.lst xs])
  | none => none
def bTuple : D → Mm D := fun d G => match d with
  | .tup xs => some (.val (.tup xs), G)
  | .kt xs => some (.val (.kt xs), G)
  | _ => match itemsD G d with
    | some xs => some (.val (.tup xs), G)
    | none => none
def bSum : D → Mm D := fun d G => match d with
  | .tup _ => none
  | .kt _ => none
  | _ => match itemsD G d with
    | some xs => match intsOf xs with
      | some ns => some (.val (.int ns.sum), G)
      | none => none
    | none => none
section
variable {g : Gm}
theorem rels1 {ι : List Addr} {H : Hp} {ds : List D} {vs : List V} (r : RelDs g ι H ds vs) {d : D} (e : ds = [d]) : ∃ v, vs = [v] ∧ RelD g ι H d v := by
  subst e
  cases r with
  | cons r rr => cases rr; exact ⟨_, rfl, r⟩
theorem rels2 {ι : List Addr} {H : Hp} {ds : List D} {vs : List V} (r : RelDs g ι H ds vs) {d e : D} (h : ds = [d, e]) : ∃ v w, vs = [v, w] ∧ RelD g ι H d v ∧ RelD g ι H e w := by
  subst h
  cases r with
  | cons r rr =>
    cases rr with
    | cons r' rr => cases rr; exact ⟨_, _, rfl, r, r'⟩
theorem pra1 {r : List V → Hp → VK → Prop} {F : D → Mm D} (h : ∀ (W : WX) (σ : L2.St) (ι : List Addr) (G : Hh) (H : Hp) (d : D) (x : V) (Q : VK), SimH g ι G H → RelD g ι H d x → Gv g W σ ι H (F d G) (fun z ι' _ H' => ∀ v, RelD g ι' H' z v → Q v H') → r [x] H Q) : PrA g r (d1 F) := by
  intro W σ ι G H ds xs Q sh rs q
  unfold d1 at q
  split at q
  · obtain ⟨v, rfl, rv⟩ := rels1 rs rfl
    exact h W σ ι G H _ v Q sh rv q
  · exact q.no
theorem pra2 {r : List V → Hp → VK → Prop} {F : D → D → Mm D} (h : ∀ (W : WX) (σ : L2.St) (ι : List Addr) (G : Hh) (H : Hp) (d e : D) (x y : V) (Q : VK), SimH g ι G H → RelD g ι H d x → RelD g ι H e y → Gv g W σ ι H (F d e G) (fun z ι' _ H' => ∀ v, RelD g ι' H' z v → Q v H') → r [x, y] H Q) : PrA g r (d2 F) := by
  intro W σ ι G H ds xs Q sh rs q
  unfold d2 at q
  split at q
  · obtain ⟨v, w, rfl, rv, rw'⟩ := rels2 rs rfl
    exact h W σ ι G H _ _ v w Q sh rv rw' q
  · exact q.no
theorem b_len : BltOk g (.builtin "len") (d1 bLen) := ⟨fun c X i hh => ⟨_, (call_len.or call_lenD).or call_len_dT, pra1 fun W σ ι G H d x Q sh rx q => by
  unfold bLen at q
  cases h1 : lenD G d with
  | none => rw [h1] at q; exact q.no
  | some n =>
    rw [h1] at q
    have k := q.val (.refl _ _ _) sh _ (.int (n : Int))
    rw [i.K]
    cases rx with
    | str z =>
      unfold lenD at h1
      dsimp only at h1
      by_cases hz : z.length ≤ 100000
      · rw [if_pos hz] at h1; cases h1; exact .inl (.inl ⟨_, _, rfl, ⟨line_of hz, rfl⟩, k⟩)
      · rw [if_neg hz] at h1; cases h1
    | @tup xs a vs ha rs => cases h1; rw [rs.length] at k; exact .inl (.inl ⟨_, _, rfl, .inr ⟨vs, .inl (.inl ha), rfl⟩, k⟩)
    | @kt xs a vs ha rs => cases h1; rw [rs.length] at k; exact .inl (.inl ⟨_, _, rfl, .inr ⟨vs, ha.sq, rfl⟩, k⟩)
    | @kl xs a vs ha rs => cases h1; rw [rs.length] at k; exact .inl (.inl ⟨_, _, rfl, .inl ⟨vs, ha.sq, rfl⟩, k⟩)
    | @ref m a ha =>
      unfold lenD at h1
      dsimp only at h1
      cases hm : G[m]? with
      | none => rw [hm] at h1; cases h1
      | some o =>
        rw [hm] at h1
        cases o with
        | lst xs =>
          cases h1
          obtain ⟨vs, hv, rs⟩ := lst_at sh ha hm
          rw [rs.length] at k
          exact .inl (.inl ⟨_, _, rfl, .inl ⟨vs, .inl (.inl hv), rfl⟩, k⟩)
        | dK xs =>
          cases h1
          obtain ⟨vs, hv, rs⟩ := dk_at sh ha hm
          rw [rs.length] at k
          exact .inl (.inr ⟨a, vs, rfl, hv, k⟩)
        | dT xs =>
          cases h1
          obtain ⟨vs, hv, rs⟩ := dt_at sh ha hm
          rw [rs.length] at k
          exact .inr ⟨a, vs, rfl, hv, k⟩
        | dF _ => cases h1
        | ins _ _ => cases h1
    | _ => cases h1⟩⟩
theorem b_int : BltOk g (.type "int") (d1 bInt) := ⟨fun c X i hh => ⟨_, call_int1, pra1 fun W σ ι G H d x Q sh rx q => by
  cases rx with
  | int j => exact .inl ⟨j, rfl, q.val (.refl _ _ _) sh _ (.int _)⟩
  | bl k => exact .inr ⟨k, rfl, q.val (.refl _ _ _) sh _ (.int _)⟩
  | _ => exact q.no⟩⟩
theorem b_max2 : BltOk g (.builtin "max") (d2 bMax2) true := ⟨fun c X i hh => ⟨_, call_max2 (i.calm (hh rfl)), pra2 fun W σ ι G H d e x y Q sh rx ry q => by
  cases rx <;> cases ry <;> first | exact q.no | exact ⟨_, _, rfl, q.val (.refl _ _ _) sh _ (.int _)⟩⟩⟩
theorem b_min2 : BltOk g (.builtin "min") (d2 bMin2) true := ⟨fun c X i hh => ⟨_, call_min2 (i.calm (hh rfl)), pra2 fun W σ ι G H d e x y Q sh rx ry q => by
  cases rx <;> cases ry <;> first | exact q.no | exact ⟨_, _, rfl, q.val (.refl _ _ _) sh _ (.int _)⟩⟩⟩
theorem b_str : BltOk g (.type "str") (d1 bStr) := ⟨fun c X i hh => ⟨_, call_str_int.or SkE.call_str_str, pra1 fun W σ ι G H d x Q sh rx q => by
  cases rx with
  | int j =>
    unfold bStr at q
    dsimp only at q
    by_cases hj : j.natAbs.log2 < 1900
    · rw [if_pos hj] at q; exact .inl ⟨j, rfl, by omega, q.val (.refl _ _ _) sh _ (.str _)⟩
    · rw [if_neg hj] at q; exact q.no
  | str z => exact .inr ⟨z, rfl, q.val (.refl _ _ _) sh _ (.str _)⟩
  | _ => exact q.no⟩⟩
theorem b_list : BltOk g (.type "list") (d1 bList) := ⟨fun c X i hh => ⟨_, call_list_of, pra1 fun W σ ι G H d x Q sh rx q => by
  unfold bList at q
  cases h1 : itemsD G d with
  | none => rw [h1] at q; exact q.no
  | some xs =>
    rw [h1] at q
    obtain ⟨a, vs, rfl, hs, rs⟩ := items_at sh rx h1
    rw [i.K]
    refine ⟨a, vs, rfl, hs, fun l hl => ?_⟩
    obtain ⟨st, sm, rd⟩ := new_lst sh hl rs
    exact q.val st sm _ rd⟩⟩
theorem b_tuple : BltOk g (.type "tuple") (d1 bTuple) := ⟨fun c X i hh => ⟨_, call_tuple_of, pra1 fun W σ ι G H d x Q sh rx q => by
  rw [i.K]
  cases rx with
  | @tup xs a vs ha rs => exact ⟨a, vs, rfl, .inr ⟨.inl (.inl ha), q.val (.refl _ _ _) sh _ (.tup ha rs)⟩⟩
  | @kt xs a vs ha rs => exact ⟨a, vs, rfl, .inr ⟨ha.sq, q.val (.refl _ _ _) sh _ (.kt ha rs)⟩⟩
  | @kl xs a vs ha rs => exact ⟨a, vs, rfl, .inl ⟨ha.sq, fun l hl => q.val (stp_upd_new hl) (sh.new hl) _ (new_tup hl rs)⟩⟩
  | @ref n a ha =>
    unfold bTuple itemsD at q
    dsimp only at q
    cases hm : G[n]? with
    | none => rw [hm] at q; exact q.no
    | some o =>
      rw [hm] at q
      cases o with
      | lst xs =>
        obtain ⟨vs, hv, rs⟩ := lst_at sh ha hm
        exact ⟨a, vs, rfl, .inl ⟨.inl (.inl hv), fun l hl => q.val (stp_upd_new hl) (sh.new hl) _ (new_tup hl rs)⟩⟩
      | _ => exact q.no
  | _ => exact q.no⟩⟩
theorem b_sum : BltOk g (.builtin "sum") (d1 bSum) true := ⟨fun c X i hh => ⟨_, cr_sum (i.calm (hh rfl)), pra1 fun W σ ι G H d x Q sh rx q => by
  rw [i.K]
  cases rx with
  | @kl xs a vs ha rs =>
    unfold bSum itemsD at q
    dsimp only at q
    cases h2 : intsOf xs with
    | none => rw [h2] at q; exact q.no
    | some ns => rw [h2] at q; exact ⟨a, ns, rfl, by rw [← rel_ints rs h2]; exact ha.sq, q.val (.refl _ _ _) sh _ (.int _)⟩
  | @ref n a ha =>
    unfold bSum itemsD at q
    dsimp only at q
    cases hm : G[n]? with
    | none => rw [hm] at q; exact q.no
    | some o =>
      rw [hm] at q
      cases o with
      | lst xs =>
        obtain ⟨vs, hv, rs⟩ := lst_at sh ha hm
        dsimp only at q
        cases h2 : intsOf xs with
        | none => rw [h2] at q; exact q.no
        | some ns => rw [h2] at q; exact ⟨a, ns, rfl, by rw [← rel_ints rs h2]; exact .inl (.inl hv), q.val (.refl _ _ _) sh _ (.int _)⟩
      | _ => exact q.no
  | _ => exact q.no⟩⟩
inductive TC where
  | b (n : String)
  | o (c : Nat)
  deriving DecidableEq
inductive CC where
  | ty (n : String)
  | gl (x : Str)
  deriving DecidableEq
def tcD (G : Hh) : D → Option TC
  | .non => some (.b "NoneType")
  | .bl _ => some (.b "bool")
  | .int _ => some (.b "int")
  | .str _ => some (.b "str")
  | .tup _ => some (.b "tuple")
  | .kt _ => some (.b "tuple")
  | .kl _ => some (.b "list")
  | .ref n => match G[n]? with
    | some (.lst _) => some (.b "list")
    | some (.dK _) => some (.b "dict")
    | some (.dT _) => some (.b "dict")
    | some (.dF _) => none
    | some (.ins c _) => some (.o c)
    | none => none
  | _ => none
def ccD : D → Option CC
  | .ty n => some (.ty n)
  | .glb x => some (.gl x)
  | _ => none
def tcV (g : Gm) : TC → Value
  | .b n => .type n
  | .o c => .ref (g.cls c)
def ccV (g : Gm) : CC → Option Value
  | .ty n => some (.type n)
  | .gl x => g.mg x
abbrev Kit := List ((TC × CC) × Bool)
structure InsOk (K : PySem.W.Frag) (C : Addr) : Prop where
  cl : Cls K C
  ha : PySem.W.findIn K (.ref C) "__class__" = some (some (.builtin "object.__class__"))
  hn : PySem.W.specialIn K (.builtin "object.__class__") "__get__" = some (some (.builtin "getset_descriptor.__get__"))
  htk : PySem.W.takesIn K (.builtin "object.__class__") = some true
  hm : PySem.W.mroIn K C (.type "object") = some true
structure KitOk (g : Gm) (kt : Kit) : Prop where
  one : ∀ e, e ∈ kt → ∃ u, ccV g e.1.2 = some u ∧ PySem.W.kitOne g.K (tcV g e.1.1) u = some e.2
  ins : ∀ e, e ∈ kt → ∀ c, e.1.1 = .o c → InsOk g.K (g.cls c)
def kitAnyD (kt : Kit) (t : TC) : List D → Option Bool
  | [] => some false
  | d :: r => match ccD d with
    | some cc => match kt.lookup (t, cc) with
      | some b => match kitAnyD kt t r with
        | some b' => some (b || b')
        | none => none
      | none => none
    | none => none
def bIsi (kt : Kit) : D → D → Mm D := fun d e G => match tcD G d with
  | some t => match e with
    | .tup [] => none
    | .tup cs => match kitAnyD kt t cs with
      | some b => some (.val (.bl b), G)
      | none => none
    | _ => match ccD e with
      | some cc => match kt.lookup (t, cc) with
        | some b => some (.val (.bl b), G)
        | none => none
      | none => none
  | none => none
theorem lookup_mem {α β : Type} [BEq α] [LawfulBEq α] {l : List (α × β)} {k : α} {b : β} (h : l.lookup k = some b) : (k, b) ∈ l := by
  induction l with
  | nil => cases h
  | cons p l ih =>
    obtain ⟨k', b'⟩ := p
    rw [List.lookup_cons] at h
    split at h
    · rename_i e
      cases h
      rw [eq_of_beq e]
      exact List.mem_cons_self ..
    · exact List.mem_cons_of_mem _ (ih h)
theorem tyx_of {ι : List Addr} {G : Hh} {H : Hp} (sh : SimH g ι G H) {kt : Kit} (ok : KitOk g kt) {d : D} {v : V} (r : RelD g ι H d v) {t : TC} (e : tcD G d = some t) (hu : ∃ cc b, kt.lookup (t, cc) = some b) : TyX g.K H v (tcV g t) := by
  cases r with
  | non => cases e; exact .base .non
  | bl b => cases e; exact .base (.bl b)
  | int i => cases e; exact .base (.int i)
  | str x => cases e; exact .base (.str x)
  | @tup xs a vs ha rs => cases e; exact .base (.tup ha)
  | @kt xs a vs ha rs =>
    cases e
    rcases ha with ⟨o, _, _, h1⟩ | ⟨o, its, n, h1, h2, _⟩
    · exact .fTuple h1
    · exact .kTuple h1 h2
  | @kl xs a vs ha rs =>
    cases e
    rcases ha with ⟨o, h1⟩ | ⟨o, its, n, h1, h2, _⟩
    · exact .base (.frz h1)
    · exact .kList h1 h2
  | @ref m a ha =>
    unfold tcD at e
    dsimp only at e
    cases hm : G[m]? with
    | none => rw [hm] at e; cases e
    | some o =>
      rw [hm] at e
      cases o with
      | lst xs => cases e; obtain ⟨vs, hv, _⟩ := lst_at sh ha hm; exact .base (.lst hv)
      | dK xs => cases e; obtain ⟨vs, hv, _⟩ := dk_at sh ha hm; exact .base (.dK hv)
      | dT xs => cases e; obtain ⟨vs, hv, _⟩ := dt_at sh ha hm; exact .base (.dT hv)
      | dF xs => cases e
      | ins c fs =>
        cases e
        obtain ⟨u, hu', ro⟩ := sh.at_ m _ a hm ha
        cases ro with
        | ins rf =>
          obtain ⟨cc, b, hl⟩ := hu
          have I := ok.ins _ (lookup_mem hl) c rfl
          exact .base (.ins hu' I.cl I.ha I.hn I.htk I.hm)
  | _ => cases e
theorem cls_of {ι : List Addr} {H : Hp} {d : D} {v : V} (r : RelD g ι H d v) {cc : CC} (e : ccD d = some cc) {u : Value} (hu : ccV g cc = some u) : ClsV v u := by
  cases r with
  | ty n => cases e; cases hu; exact .ty n
  | @glb x a h =>
    cases e
    have hu' : g.mg x = some u := hu
    rw [h] at hu'
    cases hu'
    exact .own a
  | _ => cases e
theorem b_isi {kt : Kit} (ok : KitOk g kt) : BltOk g (.builtin "isinstance") (d2 (bIsi kt)) := ⟨fun c X i hh => ⟨_, call_isi.or call_isiT, pra2 fun W σ ι G H d e x y Q sh rx ry q => by
  rw [i.K]
  unfold bIsi at q
  cases h1 : tcD G d with
  | none => rw [h1] at q; exact q.no
  | some t =>
    rw [h1] at q
    dsimp only at q
    have one : (match ccD e with
      | some cc => match kt.lookup (t, cc) with
        | some b => some ((.val (.bl b) : Rs D), G)
        | none => none
      | none => none) = (match ccD e with
      | some cc => match kt.lookup (t, cc) with
        | some b => some ((.val (.bl b) : Rs D), G)
        | none => none
      | none => none) → Gv g W σ ι H (match ccD e with
      | some cc => match kt.lookup (t, cc) with
        | some b => some (.val (.bl b), G)
        | none => none
      | none => none) (fun z ι' _ H' => ∀ v, RelD g ι' H' z v → Q v H') → rIsi g.K [x, y] H Q := fun _ q => by
      cases h2 : ccD e with
      | none => rw [h2] at q; exact q.no
      | some cc =>
        rw [h2] at q
        dsimp only at q
        cases h3 : kt.lookup (t, cc) with
        | none => rw [h3] at q; exact q.no
        | some b =>
          rw [h3] at q
          obtain ⟨u, hu, hk⟩ := ok.one _ (lookup_mem h3)
          exact ⟨x, y, _, u, b, rfl, cls_of ry h2 hu, tyx_of sh ok rx h1 ⟨cc, b, h3⟩, hk, q.val (.refl _ _ _) sh _ (.bl b)⟩
    cases e with
    | tup cs =>
      cases ry with
      | @tup _ a vs ha rs =>
        cases cs with
        | nil => exact q.no
        | cons c0 cs =>
        dsimp only at q
        cases h2 : kitAnyD kt t (c0 :: cs) with
        | none => rw [h2] at q; exact q.no
        | some b =>
          rw [h2] at q
          have key : ∀ {cs : List D} {vs : List V} {b : Bool}, RelDs g ι H cs vs → kitAnyD kt t cs = some b → ∃ us, Paired ClsV vs us ∧ PySem.W.kitAny g.K (tcV g t) us = some b := by
            intro cs
            induction cs with
            | nil => intro vs b r e; cases r; cases e; exact ⟨[], .nil, rfl⟩
            | cons c0 cs ih =>
              intro vs b r e
              cases r with
              | @cons _ _ w ws r1 rr =>
                unfold kitAnyD at e
                cases h2 : ccD c0 with
                | none => rw [h2] at e; cases e
                | some cc =>
                  rw [h2] at e
                  dsimp only at e
                  cases h3 : kt.lookup (t, cc) with
                  | none => rw [h3] at e; cases e
                  | some b1 =>
                    rw [h3] at e
                    obtain ⟨u, hu, hk⟩ := ok.one _ (lookup_mem h3)
                    have hk' : PySem.W.kitOne g.K (tcV g t) u = some b1 := hk
                    have c1 := cls_of r1 h2 hu
                    dsimp only at e
                    cases h6 : kitAnyD kt t cs with
                    | none => rw [h6] at e; cases e
                    | some b2 =>
                      rw [h6] at e
                      cases e
                      obtain ⟨us, h4, h5⟩ := ih rr h6
                      refine ⟨u :: us, .cons c1 h4, ?_⟩
                      unfold PySem.W.kitAny
                      rw [hk']
                      cases b1 with
                      | true => rfl
                      | false => exact h5
          obtain ⟨us, h4, h5⟩ := key rs h2
          · refine .inr ⟨x, a, vs, _, us, b, rfl, ha, h4, tyx_of sh ok rx h1 ?_, h5, q.val (.refl _ _ _) sh _ (.bl b)⟩
            unfold kitAnyD at h2
            cases h6 : ccD c0 with
            | none => rw [h6] at h2; cases h2
            | some cc =>
              rw [h6] at h2
              dsimp only at h2
              cases h3 : kt.lookup (t, cc) with
              | none => rw [h3] at h2; cases h2
              | some b1 => exact ⟨cc, b1, h3⟩
    | _ => exact .inl (one rfl q)⟩⟩
end
end FI
set_option maxRecDepth 100000
set_option maxHeartbeats 1000000
namespace FI
open PySem L2 PySem.Spec PyProof.Rows
def leI (x y : Int) : Bool := decide (x ≤ y)
def leT (x y : List Int) : Bool := !SrtO.lexI y x
def sortI (ns : List Int) : List Int := ns.mergeSort leI
def sortT (ns : List (List Int)) : List (List Int) := ns.mergeSort leT
theorem sortI_perm (ns : List Int) : (sortI ns).Perm ns := List.mergeSort_perm _ _
theorem sortT_perm (ns : List (List Int)) : (sortT ns).Perm ns := List.mergeSort_perm _ _
theorem sortI_srt (ns : List Int) : (sortI ns).Pairwise (· ≤ ·) := by
  have h := List.pairwise_mergeSort (le := leI) (fun a b c h1 h2 => by
    have a1 := of_decide_eq_true h1
    have a2 := of_decide_eq_true h2
    exact decide_eq_true (by omega)) (fun a b => by
    unfold leI
    rw [Bool.or_eq_true]
    by_cases e : a ≤ b
    · exact .inl (decide_eq_true e)
    · exact .inr (decide_eq_true (by omega))) ns
  exact h.imp fun h => of_decide_eq_true h
theorem leT_tr (a b c : List Int) (h1 : leT a b = true) (h2 : leT b c = true) : leT a c = true := by
  unfold leT at *
  rw [Bool.not_eq_true'] at *
  exact SrtO.lexI_tr _ _ _ h1 h2
theorem leT_tot (a b : List Int) : (leT a b || leT b a) = true := by
  unfold leT
  rw [Bool.or_eq_true]
  cases h : SrtO.lexI b a with
  | false => exact .inl rfl
  | true => exact .inr (by rw [SrtO.lexI_asym _ _ h]; rfl)
theorem sortT_srt (ns : List (List Int)) : (sortT ns).Pairwise (fun x y => leT x y = true) := List.pairwise_mergeSort (le := leT) leT_tr leT_tot ns
theorem leT_eq (x y : List Int) (h1 : leT x y = true) (h2 : leT y x = true) : x = y := by
  unfold leT at *
  rw [Bool.not_eq_true'] at *
  exact SrtO.lexI_eq _ _ h2 h1
theorem sortI_uniq {ns ms : List Int} (p : ms.Perm ns) (s : ms.Pairwise (· ≤ ·)) : ms = sortI ns :=
  SrtO.srt_uniq (le := (· ≤ ·)) (fun x y h1 h2 => by omega) (p.trans (sortI_perm ns).symm) s (sortI_srt ns)
theorem sortT_uniq {ns ms : List (List Int)} (p : ms.Perm ns) (s : ms.Pairwise (fun x y => leT x y = true)) : ms = sortT ns :=
  SrtO.srt_uniq (le := fun x y => leT x y = true) leT_eq (p.trans (sortT_perm ns).symm) s (sortT_srt ns)
def tupsOf : List D → Option (List (List Int))
  | [] => some []
  | .tup (x :: xs) :: r => match intsOf (x :: xs) with
    | some ns => (tupsOf r).map (ns :: ·)
    | none => none
  | _ :: _ => none
def tupI' (ns : List Int) : D := .tup (ns.map .int)
theorem intsOf_eq : ∀ {xs : List D} {ns : List Int}, intsOf xs = some ns → xs = ns.map .int
  | [], _, e => by cases e; rfl
  | .int i :: xs, ns, e => by
    have e' : (intsOf xs).map (i :: ·) = some ns := e
    obtain ⟨ms, h1, rfl⟩ := Option.map_eq_some_iff.mp e'
    rw [intsOf_eq h1]
    rfl
  | .non :: _, _, e => by cases e
  | .bl _ :: _, _, e => by cases e
  | .str _ :: _, _, e => by cases e
  | .tup _ :: _, _, e => by cases e
  | .kt _ :: _, _, e => by cases e
  | .kl _ :: _, _, e => by cases e
  | .ref _ :: _, _, e => by cases e
  | .glb _ :: _, _, e => by cases e
  | .ty _ :: _, _, e => by cases e
theorem intsOf_map (ns : List Int) : intsOf (ns.map .int) = some ns := by
  induction ns with
  | nil => rfl
  | cons n ns ih => show (intsOf (ns.map .int)).map (n :: ·) = _; rw [ih]; rfl
def lstD (G : Hh) : D → Option (List D)
  | .kl xs => some xs
  | .ref n => match G[n]? with
    | some (.lst xs) => some xs
    | _ => none
  | _ => none
def bSortL : D → Mm D := fun d G => match lstD G d with
  | some xs => match intsOf xs with
    | some ns => some (.val (.ref G.length), G ++ [.lst ((sortI ns).map .int)])
    | none => match tupsOf xs with
      | some nss => some (.val (.ref G.length), G ++ [.lst ((sortT nss).map tupI')])
      | none => none
  | none => none
def intKeys (kvs : List (Key × D)) : Option (List Int) := match kvs with
  | [] => some []
  | (.inl i, _) :: r => (intKeys r).map (i :: ·)
  | _ => none
def bSortD : D → Mm D := fun d G => match d with
  | .ref n => match G[n]? with
    | some (.dK kvs) => match intKeys kvs with
      | some ks => if ks.length < 64 then some (.val (.ref G.length), G ++ [.lst ((sortI ks).map .int)]) else none
      | none => none
    | _ => none
  | _ => none
section
variable {g : Gm} {ι : List Addr} {G : Hh} {H : Hp}
theorem lstD_at (sh : SimH g ι G H) {d : D} {v : V} {xs : List D} (r : RelD g ι H d v) (e : lstD G d = some xs) : ∃ a vs, v = .ref a ∧ SqL g.K H a vs ∧ RelDs g ι H xs vs := by
  cases r with
  | @kl ys a vs ha rs => cases e; exact ⟨a, vs, rfl, ha.sq, rs⟩
  | @ref n a ha =>
    unfold lstD at e
    dsimp only at e
    cases hm : G[n]? with
    | none => rw [hm] at e; cases e
    | some o =>
      rw [hm] at e
      cases o with
      | lst ys =>
        cases e
        obtain ⟨vs, hv, rv⟩ := lst_at sh ha hm
        exact ⟨a, vs, rfl, .inl (.inl hv), rv⟩
      | _ => cases e
  | _ => cases e
def vInts : V → List Int
  | .int i => [i]
  | _ => []
def keyV (H : Hp) : V → List Int
  | .ref a => match H a with
    | some (.tup vs) => vs.flatMap vInts
    | _ => []
  | _ => []
theorem flat_ints (ns : List Int) : (ns.map V.int).flatMap vInts = ns := by
  induction ns with
  | nil => rfl
  | cons n ns ih => rw [List.map_cons, List.flatMap_cons, ih]; rfl
theorem tups_at : ∀ {xs : List D} {vs : List V} {nss : List (List Int)}, RelDs g ι H xs vs → tupsOf xs = some nss → vs.map (keyV H) = nss ∧ ∀ v, v ∈ vs → keyV H v ≠ [] ∧ (∃ t, v = V.ref t ∧ H t = some (.tup ((keyV H v).map V.int)))
  | _, _, _, .nil, e => by cases e; exact ⟨rfl, fun v hv => nomatch hv⟩
  | _, _, nss, .cons (d := d) r t, e => by
    cases r with
    | @tup ys a ws ha rs =>
      cases ys with
      | nil => cases e
      | cons y ys =>
        unfold tupsOf at e
        cases h1 : intsOf (y :: ys) with
        | none => rw [h1] at e; cases e
        | some ns =>
          rw [h1] at e
          obtain ⟨mss, h2, rfl⟩ := Option.map_eq_some_iff.mp e
          obtain ⟨h3, h4⟩ := tups_at t h2
          have hw := rel_ints rs h1
          have hk : keyV H (.ref a) = ns := by
            show (match H a with
              | some (.tup vs) => vs.flatMap vInts
              | _ => []) = ns
            rw [ha, hw]
            exact flat_ints ns
          have hne : ns ≠ [] := fun z => by
            subst z
            have := intsOf_eq h1
            cases this
          refine ⟨by rw [List.map_cons, hk, h3], fun v hv => ?_⟩
          rcases List.mem_cons.mp hv with rfl | hv
          · rw [hk]; exact ⟨hne, a, rfl, by rw [ha, hw]⟩
          · exact h4 v hv
    | _ => cases e
theorem rel_of_keys : ∀ {vs : List V}, (∀ v, v ∈ vs → keyV H v ≠ [] ∧ (∃ t, v = V.ref t ∧ H t = some (.tup ((keyV H v).map V.int)))) → RelDs g ι H ((vs.map (keyV H)).map tupI') vs
  | [], _ => .nil
  | v :: vs, h => by
    obtain ⟨h1, t, e, ht⟩ := h v (List.mem_cons_self ..)
    refine .cons ?_ (rel_of_keys fun w hw => h w (List.mem_cons_of_mem _ hw))
    generalize hk : keyV H v = ns at ht
    subst e
    exact .tup ht (RelDs.ints ns)
end
section
variable {g : Gm}
theorem pr_sortL {X : Cx} (hK : X.K = g.K) : PrA g (fun xs H Q => rSortedI X.K xs H Q ∨ rSortedTI X.K xs H Q) (d1 bSortL) := pra1 fun W σ ι G H d x Q sh rx q => by
  rw [hK]
  unfold bSortL at q
  cases h1 : lstD G d with
  | none => rw [h1] at q; exact q.no
  | some xs =>
    rw [h1] at q
    dsimp only at q
    obtain ⟨a, vs, rfl, hs, rs⟩ := lstD_at sh rx h1
    cases h2 : intsOf xs with
    | some ns =>
      rw [h2] at q
      refine .inl ⟨a, ns, rfl, by rw [← rel_ints rs h2]; exact hs, fun ns' p hp hs' hn => ?_⟩
      rw [sortI_uniq hp hs']
      obtain ⟨st, sm, rd⟩ := new_lst sh hn (RelDs.ints (g := g) (ι := ι) (H := H) (sortI ns))
      exact q.val st sm _ rd
    | none =>
      rw [h2] at q
      dsimp only at q
      cases h3 : tupsOf xs with
      | none => rw [h3] at q; exact q.no
      | some nss =>
        rw [h3] at q
        obtain ⟨k1, k2⟩ := tups_at rs h3
        refine .inr ⟨a, vs, keyV H, rfl, hs, k2, fun ys p hsr hp hn => ?_⟩
        have e : ys.map (keyV H) = sortT nss := by
          refine sortT_uniq ?_ ?_
          · rw [← k1]; exact hp.map _
          · rw [List.pairwise_map]
            refine hsr.imp fun {x y} h => ?_
            unfold leT
            rw [show SrtO.lexI (keyV H y) (keyV H x) = false from h]
            rfl
        have hr : RelDs g ι H ((sortT nss).map tupI') ys := by
          rw [← e]
          exact rel_of_keys fun v hv => k2 v (hp.mem_iff.mp hv)
        obtain ⟨st, sm, rd⟩ := new_lst sh hn hr
        exact q.val st sm _ rd
theorem intKeys_at {ι : List Addr} {H : Hp} {kvs : List (Key × D)} {vs : List (Key × V)} (r : RelKv g ι H kvs vs) : ∀ {ks : List Int}, intKeys kvs = some ks → vs.map (·.1) = ks.map Sum.inl := by
  induction r with
  | nil => intro ks e; cases e; rfl
  | @cons k d v r q a _ ih =>
    intro ks e
    cases k with
    | inl i =>
      have e' : (intKeys r).map (i :: ·) = some ks := e
      obtain ⟨ms, h1, rfl⟩ := Option.map_eq_some_iff.mp e'
      rw [List.map_cons, List.map_cons, ih h1]
    | inr s => cases e
theorem b_sorted : BltOk g (.builtin "sorted") (h := true) (fun ds G => match d1 bSortL ds G with
  | some z => some z
  | none => d1 bSortD ds G) := BltOk.or (q := false) (q' := true) ⟨fun c X i hh => ⟨_, cr_sortedI.or cr_sortedTI, pr_sortL i.K⟩⟩ ⟨fun c X i hh => ⟨_, call_sortedDI (i.calm (hh rfl)), pra1 fun W σ ι G H d x Q sh rx q => by
  cases rx with
  | @ref n a ha =>
    unfold bSortD at q
    dsimp only at q
    cases hm : G[n]? with
    | none => rw [hm] at q; exact q.no
    | some o =>
      rw [hm] at q
      cases o with
      | dK kvs =>
        obtain ⟨vs, hv, rs⟩ := dk_at sh ha hm
        dsimp only at q
        cases h2 : intKeys kvs with
        | none => rw [h2] at q; exact q.no
        | some ks =>
          rw [h2] at q
          dsimp only at q
          by_cases hl : ks.length < 64
          · rw [if_pos hl] at q
            refine ⟨a, vs, ks, rfl, .inl hv, intKeys_at rs h2, hl, fun ys p hp hs' hn => ?_⟩
            rw [sortI_uniq hp hs']
            obtain ⟨st, sm, rd⟩ := new_lst sh hn (RelDs.ints (g := g) (ι := ι) (H := H) (sortI ks))
            exact q.val st sm _ rd
          · rw [if_neg hl] at q; exact q.no
      | _ => exact q.no
  | _ => exact q.no⟩⟩
end
def isLst (G : Hh) : D → Bool
  | .ref n => match G[n]? with
    | some (.lst _) => true
    | _ => false
  | _ => false
structure MtdOk (g : Gm) (id : String) (F : D → List D → Mm D) : Prop where
  run : ∀ c X, XIs g c X → ∃ r, MtR X id r ∧ ∀ (W : WX) (σ : L2.St) (ι : List Addr) (G : Hh) (H : Hp) (d : D) (x : V) (ds : List D) (xs : List V) (Q : VK), SimH g ι G H → RelD g ι H d x → RelDs g ι H ds xs →
    Gv g W σ ι H (F d ds G) (fun z ι' _ H' => ∀ v, RelD g ι' H' z v → Q v H') → r x xs H Q
def eMtL (F : D → List D → Mm D) (fo : SE) (fa : SA) : SE := fun gs G => bnd (fo gs G) fun d G1 => if isLst G1 d = true then bnd (fa gs G1) fun ds => F d ds else none
section
variable {g : Gm} {c : Sc} {o e : Expr} {es : List Expr} {fo : SE} {fa : SA} {apos cpos : Pos} {name : Str} {id : String} {F : D → List D → Mm D}
theorem isLst_ty {ι : List Addr} {G : Hh} {H : Hp} (sh : SimH g ι G H) {d : D} {v : V} (r : RelD g ι H d v) (e : isLst G d = true) : tyV g.K "list" v H := by
  cases r with
  | @ref n a ha =>
    unfold isLst at e
    dsimp only at e
    cases hm : G[n]? with
    | none => rw [hm] at e; cases e
    | some o =>
      rw [hm] at e
      cases o with
      | lst xs => obtain ⟨vs, hv, _⟩ := lst_at sh ha hm; exact .inl ⟨rfl, vs, .inl (.inl hv)⟩
      | _ => cases e
  | _ => cases e
theorem fe_mtL (hm : MtdOk g id F) (ho : FE g c o fo) (ha : FA g c (e :: es) fa) (slot : PySem.Slot "list" name id) (hty : typeOf (.builtin id) = pure (.type "method_descriptor")) (hb : ∀ env, attributeBase o name env (eval o env) = eval o env := by intro _; rfl)
    (hfew : ∀ env, ((backTo cpos (starEach (e :: es) env)).all (fun x => !x.1) && (backToKw cpos (keywordEach [] env)).all (fun x => x.1.isSome)
      && decide ((e :: es).length + ([] : List Keyword).length + (if ([] : List Keyword).isEmpty then 0 else 1) < 30)) = true := by intro _; rfl)
    (hline : (apos.endLine == cpos.line) = true := by rfl) (hs : ∀ env, starEach (e :: es) env = (false, eval e env) :: starEach es env := by intro _; rfl) (hpl : ∀ env, (backTo cpos (starEach es env)).any (·.1) = false := by intro _; rfl) :
    FE g c (.Call (.Attribute o name apos) (e :: es) [] cpos) (eMtL F fo fa) := ⟨fun X i W t => by
  obtain ⟨r, hr, pr⟩ := hm.run c X i
  refine pe_imp (pe_bm PySem.F.plainAttrs_list slot hty hr (ho.run X i W t) (ha.run X i W t) (hb _) (hfew _) hline (hs _) (hpl _)) fun σ H Q ⟨ι, gs, G, ss, sh, h⟩ => ⟨ι, gs, G, ss, sh, h.bnd.imp fun d ι1 G1 H1 s1 t1 h1 v rv => ?_⟩
  by_cases hl : isLst G1 d = true
  · rw [if_pos hl] at h1
    rw [i.K]
    exact ⟨isLst_ty t1 rv hl, ι1, gs, G1, ss.mono s1, t1, h1.bnd.imp fun ds ι2 G2 H2 s2 t2 h2 vs rs => pr W σ ι2 G2 H2 d v ds vs Q t2 (rv.mono s2) rs h2⟩
  · rw [if_neg hl] at h1; exact h1.no⟩
theorem fe_mtL0 (hm : MtdOk g id F) (ho : FE g c o fo) (slot : PySem.Slot "list" name id) (hty : typeOf (.builtin id) = pure (.type "method_descriptor")) (hb : ∀ env, attributeBase o name env (eval o env) = eval o env := by intro _; rfl)
    (hline : (apos.endLine == cpos.line) = true := by rfl) : FE g c (.Call (.Attribute o name apos) [] [] cpos) (eMtL F fo aNil) := ⟨fun X i W t => by
  obtain ⟨r, hr, pr⟩ := hm.run c X i
  refine pe_imp (pe_bm0 PySem.F.plainAttrs_list slot hty hr (ho.run X i W t) (hb _) hline) fun σ H Q ⟨ι, gs, G, ss, sh, h⟩ => ⟨ι, gs, G, ss, sh, h.bnd.imp fun d ι1 G1 H1 s1 t1 h1 v rv => ?_⟩
  by_cases hl : isLst G1 d = true
  · rw [if_pos hl] at h1
    rw [i.K]
    refine ⟨isLst_ty t1 rv hl, pr W σ ι1 G1 H1 d v [] [] Q t1 rv .nil ?_⟩
    exact h1
  · rw [if_neg hl] at h1; exact h1.no⟩
def mLst (f : List D → List D → Option (List D × D)) : D → List D → Mm D := fun d ds G => match d with
  | .ref n => match G[n]? with
    | some (.lst xs) => match f xs ds with
      | some (ys, z) => some (.val z, G.set n (.lst ys))
      | none => none
    | _ => none
  | _ => none
def fAppend : List D → List D → Option (List D × D) := fun xs ds => match ds with
  | [d] => if xs.length < 100000 then some (xs ++ [d], .non) else none
  | _ => none
def fPop : List D → List D → Option (List D × D) := fun xs ds => match ds with
  | [] => match xs[xs.length - 1]? with
    | some y => some (xs.dropLast, y)
    | none => none
  | [.int i] => if okR i = true then (match ixN xs.length i with
    | some k => match xs[k]? with
      | some y => some (xs.eraseIdx k, y)
      | none => none
    | none => none) else none
  | _ => none
theorem RelDs.dropLast {ι : List Addr} {H : Hp} {xs : List D} {vs : List V} (r : RelDs g ι H xs vs) : RelDs g ι H xs.dropLast vs.dropLast := by
  rw [List.dropLast_eq_take, List.dropLast_eq_take, r.length]
  exact r.take _
theorem RelDs.erase {ι : List Addr} {H : Hp} : ∀ {xs : List D} {vs : List V} (k : Nat), RelDs g ι H xs vs → RelDs g ι H (xs.eraseIdx k) (vs.eraseIdx k)
  | _, _, _, .nil => .nil
  | _, _, 0, .cons _ t => t
  | _, _, k + 1, .cons r t => .cons r (RelDs.erase k t)
theorem m_append : MtdOk g "list.append" (mLst fAppend) := ⟨fun c X i => ⟨_, mt_append, fun W σ ι G H d x ds xs Q sh rx rs q => by
  cases rx with
  | @ref n a ha =>
    unfold mLst at q
    dsimp only at q
    cases hm : G[n]? with
    | none => rw [hm] at q; exact q.no
    | some o =>
      rw [hm] at q
      cases o with
      | lst ys =>
        obtain ⟨vs, hv, rv⟩ := lst_at sh ha hm
        dsimp only at q
        unfold fAppend at q
        split at q
        · rename_i zs z e
          split at e
          · rename_i d0
            by_cases hl : ys.length < 100000
            · rw [if_pos hl] at e
              cases e
              obtain ⟨w, rfl, rw'⟩ := rels1 rs rfl
              obtain ⟨sm, st⟩ := sh.write (o := .lst (ys ++ [d0])) ha hv ⟨(fun _ z => by cases z), (fun _ _ z => by cases z), (fun _ z => by cases z)⟩ (.lst (rv.append (.one rw')))
              exact ⟨a, vs, w, rfl, rfl, hv, by rw [← rv.length]; exact line_lt hl, q.val st sm _ .non⟩
            · rw [if_neg hl] at e; cases e
          · cases e
        · exact q.no
      | _ => exact q.no
  | _ => exact q.no⟩⟩
theorem m_pop : MtdOk g "list.pop" (mLst fPop) := ⟨fun c X i => ⟨_, (show MtR X "list.pop" rPop from mt_pop).or (show MtR X "list.pop" rPopAt from mt_popAt), fun W σ ι G H d x ds xs Q sh rx rs q => by
  cases rx with
  | @ref n a ha =>
    unfold mLst at q
    dsimp only at q
    cases hm : G[n]? with
    | none => rw [hm] at q; exact q.no
    | some o =>
      rw [hm] at q
      cases o with
      | lst ys =>
        obtain ⟨vs, hv, rv⟩ := lst_at sh ha hm
        dsimp only at q
        cases hf : fPop ys ds with
        | none => rw [hf] at q; exact q.no
        | some p =>
          obtain ⟨zs, z⟩ := p
          rw [hf] at q
          dsimp only at q
          unfold fPop at hf
          split at hf
          · cases rs
            cases hy : ys[ys.length - 1]? with
            | none => rw [hy] at hf; cases hf
            | some y =>
              rw [hy] at hf
              cases hf
              obtain ⟨v, hv2, rv2⟩ := rv.get hy
              obtain ⟨sm, st⟩ := sh.write (o := .lst ys.dropLast) ha hv ⟨(fun _ z => by cases z), (fun _ _ z => by cases z), (fun _ z => by cases z)⟩ (.lst rv.dropLast)
              exact .inl ⟨a, vs, v, rfl, rfl, hv, by rw [← rv.length]; exact hv2, q.val st sm _ (rv2.mono st)⟩
          · rename_i k
            obtain ⟨w, rfl, rw'⟩ := rels1 rs rfl
            cases rw'
            by_cases hk : okR k = true
            · rw [if_pos hk] at hf
              have hk2 := of_decide_eq_true hk
              cases hj : ixN ys.length k with
              | none => rw [hj] at hf; cases hf
              | some j =>
                rw [hj] at hf
                dsimp only at hf
                cases hy : ys[j]? with
                | none => rw [hy] at hf; cases hf
                | some y =>
                  rw [hy] at hf
                  cases hf
                  obtain ⟨v, hv2, rv2⟩ := rv.get hy
                  obtain ⟨sm, st⟩ := sh.write (o := .lst (ys.eraseIdx j)) ha hv ⟨(fun _ z => by cases z), (fun _ _ z => by cases z), (fun _ z => by cases z)⟩ (.lst (rv.erase j))
                  have h1 := (ixN_seq hj).1
                  exact .inr ⟨a, vs, k, j, v, rfl, rfl, hv, by omega, by omega, by rw [← rv.length]; exact h1, hv2, q.val st sm _ (rv2.mono st)⟩
            · rw [if_neg hk] at hf; cases hf
          · cases hf
      | _ => exact q.no
  | _ => exact q.no⟩⟩
end
def dNewT : SE := fun _ G => some (.val (.ref G.length), G ++ [.dT []])
section
variable {g : Gm} {c : Sc} {pos : Pos}
theorem fe_newT : FE g c (.Dict [] [] pos) dNewT := ⟨fun X i W t => pe_imp pe_dnewT fun σ H Q ⟨ι, gs, G, ss, sh, h⟩ p hp => by
  obtain ⟨sm, st⟩ := sh.alloc hp (.dT .nil : RelO g ι H (.dT []) (.dT []))
  exact h.val st sm _ (.ref (simLast sh p))⟩
end
end FI
set_option maxRecDepth 100000
set_option maxHeartbeats 2000000
namespace L2
open PySem PySem.Spec PyProof.Rows
abbrev clsN : Str := "__class__"
structure InCF (kindOf : Str → Option NameKind) (s₀ : Shared) (L : Addr) (m : Str → Option Value) (cs : List (Str × Addr)) (cm : Str → Option Value) (s : Shared) : Prop where
  toInCall : InCall s₀ L m s
  cell : ∀ n c, cs.lookup n = some c → s.heap.IsCell c (cm n)
  inj : ∀ x y c, cs.lookup x = some c → cs.lookup y = some c → x = y
  ne : ∀ n c, cs.lookup n = some c → L ≠ c
  new : ∀ n c, cs.lookup n = some c → kindOf n = some .cell → L < c
section
variable {M : Model} {A : Around} {E : Value → Shared → Prop} {s₀ s : Shared} {m cm : Str → Option Value} {env : Env}
theorem InCF.stL {n : Str} {v : Value} {Q : Unit → Shared → Prop} (x : InCF env.kindOf s₀ env.locals m env.cells cm s) (hk : env.scope.kind = .function) (hl : env.kindOf n = some .local)
    (h : ∀ s', InCF env.kindOf s₀ env.locals (fun y => if y = n then some v else m y) env.cells cm s' → Q () s') : wpAny M A (storeName env n v) Q E s := by
  refine wpAny_storeName_local hl x.toInCall.ns (fun h' hn' hs' => h _ ⟨⟨?_, hn', fun b o e => ?_, x.toInCall.fresh⟩, fun k c hc => ?_, x.inj, x.ne, x.new⟩) (by rw [hk]; rfl)
  · obtain ⟨h₁, tk, rfl⟩ := x.toInCall.same
    exact ⟨h', _, rfl⟩
  · exact hs'.extBut b o (Nat.ne_of_lt (Nat.lt_of_lt_of_le (Heap.lt_size e) x.toInCall.fresh)) (x.toInCall.keep b o e)
  · exact (x.cell k c hc).sameBut hs' (fun z => x.ne k c hc z.symm)
theorem InCF.stC {n : Str} {c : Addr} {v : Value} {Q : Unit → Shared → Prop} (x : InCF env.kindOf s₀ env.locals m env.cells cm s) (hk : env.scope.kind = .function) (hl : env.kindOf n = some .cell)
    (hc : env.cells.lookup n = some c)
    (h : ∀ s', InCF env.kindOf s₀ env.locals m env.cells (fun y => if y = n then some v else cm y) s' → Q () s') : wpAny M A (storeName env n v) Q E s := by
  have hLc := x.new n c hc hl
  refine wpAny_storeName_cell hk hl hc (x.cell n c hc) fun h' hc' hs' => h _ ⟨⟨?_, x.toInCall.ns.sameBut hs' (Nat.ne_of_lt hLc), fun b o e => ?_, x.toInCall.fresh⟩, fun k c' hk' => ?_, x.inj, x.ne, x.new⟩
  · obtain ⟨h₁, tk, rfl⟩ := x.toInCall.same
    exact ⟨h', _, rfl⟩
  · exact hs'.extBut b o (Nat.ne_of_lt (Nat.lt_trans (Nat.lt_of_lt_of_le (Heap.lt_size e) x.toInCall.fresh) hLc)) (x.toInCall.keep b o e)
  · by_cases hkn : k = n
    · subst hkn
      rw [hc] at hk'; cases hk'
      simpa using hc'
    · rw [if_neg hkn]
      exact (x.cell k c' hk').sameBut hs' fun e => hkn (x.inj k n c' hk' (e ▸ hc))
theorem InCF.params (f : Str × Value → PUnit → Sem (ForInStep PUnit)) (hf : ∀ n v u, f (n, v) u = (do storeName env n v; pure (.yield ⟨⟩))) (hk : env.scope.kind = .function) :
    ∀ (binds : List (Str × Value)) (m cm : Str → Option Value) (s : Shared) (Q : PUnit → Shared → Prop), InCF env.kindOf s₀ env.locals m env.cells cm s →
      (∀ x ∈ binds, env.kindOf x.1 = some .local ∨ (env.kindOf x.1 = some .cell ∧ (env.cells.lookup x.1).isSome = true)) →
      (∀ s', InCF env.kindOf s₀ env.locals (bindL env.kindOf binds m) env.cells (bindC env.kindOf binds cm) s' → Q ⟨⟩ s') → wpAny M A (forIn binds ⟨⟩ f) Q E s
  | [], m, cm, s, Q, x, _, h => by rw [List.forIn_nil]; exact wpAny_pure (h s x)
  | (n, v) :: r, m, cm, s, Q, x, hkind, h => by
    rw [List.forIn_cons, hf]
    have hr : ∀ y ∈ r, env.kindOf y.1 = some .local ∨ (env.kindOf y.1 = some .cell ∧ (env.cells.lookup y.1).isSome = true) := fun y hy => hkind y (List.mem_cons_of_mem _ hy)
    rcases hkind (n, v) List.mem_cons_self with hl | ⟨hl, hc⟩
    · refine wpAny_bind (wpAny_bind (x.stL hk hl fun s' x' => wpAny_pure (InCF.params f hf hk r _ _ s' Q x' hr fun s'' x'' => h s'' ?_)))
      unfold bindL bindC; rw [if_pos hl, if_pos hl]; exact x''
    · obtain ⟨c, hc⟩ := Option.isSome_iff_exists.mp hc
      have hnl : ¬ env.kindOf n = some .local := by rw [hl]; decide
      refine wpAny_bind (wpAny_bind (x.stC hk hl hc fun s' x' => wpAny_pure (InCF.params f hf hk r _ _ s' Q x' hr fun s'' x'' => h s'' ?_)))
      unfold bindL bindC; rw [if_neg hnl, if_neg hnl]; exact x''
end
abbrev clC (cc : Addr) : List (Str × Addr) := [(clsN, cc)]
def cellsX (scope : Scope) (cc L : Addr) : List (Str × Addr) := cellsFrom (L + 1) scope.names (clC cc)
theorem cellsFrom_app : ∀ (names : List (Str × NameKind)) (n : Nat) (acc tl : List (Str × Addr)), cellsFrom n names (acc ++ tl) = cellsFrom n names acc ++ tl
  | [], _, _, _ => rfl
  | (x, k) :: r, n, acc, tl => by
    unfold cellsFrom
    split
    · exact cellsFrom_app r (n + 1) ((x, n) :: acc) tl
    · exact cellsFrom_app r n acc tl
theorem cellsX_eq (scope : Scope) (cc L : Addr) : cellsX scope cc L = cellsFrom (L + 1) scope.names [] ++ clC cc := cellsFrom_app scope.names (L + 1) [] (clC cc)
theorem cellsFrom_dom : ∀ (names : List (Str × NameKind)) (n : Nat) (acc : List (Str × Addr)) (x : Str) (c : Addr), (x, c) ∈ cellsFrom n names acc → (x, c) ∈ acc ∨ (x, NameKind.cell) ∈ names
  | [], _, _, _, _, h => .inl h
  | (y, k) :: r, n, acc, x, c, h => by
    unfold cellsFrom at h
    split at h
    · rename_i hk
      rcases cellsFrom_dom r (n + 1) ((y, n) :: acc) x c h with q | q
      · rcases List.mem_cons.mp q with e | q
        · cases e
          have : k = NameKind.cell := by simpa using hk
          subst this
          exact .inr (List.mem_cons_self ..)
        · exact .inl q
      · exact .inr (List.mem_cons_of_mem _ q)
    · rcases cellsFrom_dom r n acc x c h with q | q
      · exact .inl q
      · exact .inr (List.mem_cons_of_mem _ q)
theorem look_app {α : Type} : ∀ {l m : List (Str × α)} {x : Str} {c : α}, (l ++ m).lookup x = some c → l.lookup x = some c ∨ (l.lookup x = none ∧ m.lookup x = some c) := fun {l m x c} h => by
  rw [List.lookup_append] at h
  cases e : l.lookup x with
  | none => rw [e] at h; exact .inr ⟨rfl, h⟩
  | some a => rw [e] at h; exact .inl h
structure SupScope (N P : List Str) (sc : Scope) : Prop where
  kind : sc.kind = .function
  co : sc.isCoroutine = false
  gen : sc.isGenerator = false
  nd : N.Nodup
  pre : N.take P.length = P
  par : ∀ x ∈ P, sc.names.lookup x = some .local ∨ sc.names.lookup x = some .cell
  free : ∀ y ∈ sc.names, y.2 = .free → y.1 = clsN
  cls : sc.names.lookup clsN = some .free
  ncl : (clsN, NameKind.cell) ∉ sc.names
abbrev envS (qual : Str) (scope : Scope) (L f : Addr) (cd : Value) (cc : Addr) : Env := PySem.W.envX qual scope L f cd (cellsX scope cc L)
theorem InCF.env {M : Model} {A : Around} {E : Value → Shared → Prop} {s : Shared} {N P : List Str} {scope : Scope} {cc : Addr} {binds : List (Str × Value)} {qual : Str} {f : Addr} {code : Value} {Q : Env → Shared → Prop} (S : SupScope N P scope)
    (hcc : ∃ v, s.heap.IsCell cc v)
    (hkind : ∀ x ∈ binds, scope.names.lookup x.1 = some .local ∨ scope.names.lookup x.1 = some .cell)
    (hQ : ∀ s' cm, InCF (envS qual scope s.heap.objs.size f code cc).kindOf s s.heap.objs.size (bindL (envS qual scope s.heap.objs.size f code cc).kindOf binds fun _ => none) (cellsX scope cc s.heap.objs.size) (bindC (envS qual scope s.heap.objs.size f code cc).kindOf binds cm) s' → Q (envS qual scope s.heap.objs.size f code cc) s') :
    wpAny M A (newFunctionEnv scope mainGlobals (clC cc) binds (qual ++ ".<locals>.") (some f) code none builtinsNs) Q E s := by
  simp only [newFunctionEnv, Option.isSome_none, Bool.false_eq_true, if_false]
  refine wpAny_bind (wpAny_alloc ?_)
  refine wpAny_bind (wpAny_layCells _ (fun name kind cells => by cases hkc : kind == NameKind.cell <;> simp [hkc]) _ _ _ _ ?_)
  have ok := cellsFrom_ok scope.names (s.heap.push { cls := .type "frame", data := .dict #[] }) (s.heap.objs.size + 1) [] ⟨fun _ _ hm => (nomatch hm), List.Pairwise.nil⟩ (by rw [Heap.size_push]; exact Nat.le_refl _)
  rw [Heap.size_push] at ok
  rw [show ({ s with heap := s.heap.push { cls := .type "frame", data := .dict #[] } } : Shared).heap.objs.size = s.heap.objs.size + 1 from Heap.size_push ..]
  obtain ⟨v, hv⟩ := hcc
  have lt := hv.lt
  have kp : ∀ b o, s.heap.get? b = some o → (pushCells (s.heap.push { cls := .type "frame", data := .dict #[] }) scope.names).get? b = some o := fun b o e => pushCells_keeps _ _ b o (Heap.get?_push_of_some _ e)
  have noC : (cellsFrom (s.heap.objs.size + 1) scope.names []).lookup clsN = none := by
    cases e : (cellsFrom (s.heap.objs.size + 1) scope.names []).lookup clsN with
    | none => rfl
    | some c =>
      rcases cellsFrom_dom _ _ _ _ _ (mem_of_lookup e) with q | q
      · cases q
      · exact absurd q S.ncl
  have two : ∀ {n : Str} {c : Addr}, (cellsX scope cc s.heap.objs.size).lookup n = some c → ((cellsFrom (s.heap.objs.size + 1) scope.names []).lookup n = some c ∧ s.heap.objs.size < c ∧ n ≠ clsN) ∨ (n = clsN ∧ c = cc) := fun {n c} h => by
    rw [cellsX_eq] at h
    rcases look_app h with q | ⟨_, q⟩
    · exact .inl ⟨q, (ok.empty n c (mem_of_lookup q)).2, fun e => by rw [e, noC] at q; cases q⟩
    · have m := mem_of_lookup q
      rcases List.mem_cons.mp m with e | m
      · cases e; exact .inr ⟨rfl, rfl⟩
      · cases m
  refine wpAny_bind (InCF.params (s₀ := s) (env := envS qual scope s.heap.objs.size f code cc)
    _ (fun _ _ _ => rfl) S.kind binds (fun _ => none) (fun n => if n = clsN then v else none) _ _
    ⟨⟨⟨_, _, rfl⟩, (Heap.Ns.new s.heap (.type "frame")).keeps (pushCells_keeps _ _), kp, Nat.le_refl _⟩,
      fun n c hc => ?_, fun x y c h1 h2 => ?_, fun n c h => ?_, fun n c h hk => ?_⟩
    (fun x hx => ?_) fun s' x => wpAny_pure (hQ s' _ x))
  · rcases two hc with ⟨q, _, ne⟩ | ⟨rfl, rfl⟩
    · rw [if_neg ne]
      exact (ok.empty n c (mem_of_lookup q)).1
    · rw [if_pos rfl]
      obtain ⟨o, ho, hd⟩ := hv
      exact ⟨o, kp _ _ ho, hd⟩
  · rcases two h1 with ⟨q1, l1, n1⟩ | ⟨e1, e1'⟩
    · rcases two h2 with ⟨q2, l2, n2⟩ | ⟨e2, e2'⟩
      · exact name_of_addr ok.apart (mem_of_lookup q1) (mem_of_lookup q2)
      · subst e2'; exact absurd (Nat.lt_trans lt l1) (Nat.lt_irrefl _)
    · rcases two h2 with ⟨q2, l2, n2⟩ | ⟨e2, e2'⟩
      · subst e1'; exact absurd (Nat.lt_trans lt l2) (Nat.lt_irrefl _)
      · exact e1.trans e2.symm
  · rcases two h with ⟨_, l, _⟩ | ⟨_, rfl⟩
    · exact Nat.ne_of_lt l
    · exact Nat.ne_of_gt lt
  · rcases two h with ⟨_, l, _⟩ | ⟨e, _⟩
    · exact l
    · subst e
      have hk' : scope.names.lookup clsN = some .cell := hk
      rw [S.cls] at hk'
      cases hk'
  · rcases hkind x hx with q | q
    · exact .inl q
    · refine .inr ⟨q, ?_⟩
      show ((cellsX scope cc s.heap.objs.size).lookup x.1).isSome = true
      rw [cellsX_eq, List.lookup_append]
      obtain ⟨c, hc⟩ := cell_has (n := s.heap.objs.size + 1) q
      rw [hc]
      rfl
def scx (CX : CXT) (P : Program) (w : World) (K : PySem.W.Frag) (mg : Str → Option Value) (base : Heap) (N : List Str) (qual : Str) (scope : Scope) (f : Addr) (cd : Value) (cc : Addr) (A : Around) (outer : List Env) (s : Shared) (H : Hp) (E : XK) : Cx where
  prog := P
  w := w
  K := K
  mg := mg
  base := base
  A := A.deeper (envS qual scope s.heap.objs.size f cd cc)
  N := N
  s_0 := s
  H_0 := H
  env := envS qual scope s.heap.objs.size f cd cc
  outer := outer
  stack := envS qual scope s.heap.objs.size f cd cc :: outer
  ex := []
  calm := true
  fn := fun x => x != clsN
  pn := []
  xe := fun e s' => wpAny (model P w) (A.deeper (envS qual scope s.heap.objs.size f cd cc)) (leaving (envS qual scope s.heap.objs.size f cd cc) e) (fun _ s'' => CX outer H s E e s'') (fun e' s'' => CX outer H s E e' s'') s'
theorem inv_startS {CX : CXT} {P : Program} {w : World} {K : PySem.W.Frag} {mg : Str → Option Value} {base : Heap} {N ps : List Str} {qual : Str} {scope : Scope} {f cc : Addr} {cd : Value} {A : Around} {outer : List Env} {s s1 : Shared} {H : Hp} {E : XK} {us : List Value} {vs : List V} {cm : Str → Option Value}
    (S : SupScope N ps scope) (hd : A.handled = none) (e0 : Env0 P w K mg base A outer s H) (hl : vs.length = ps.length) (r : Vals vs us) (hcc : H cc = none) (hlt : cc < s.heap.objs.size)
    (x : InCF (envS qual scope s.heap.objs.size f cd cc).kindOf s s.heap.objs.size (bindL (envS qual scope s.heap.objs.size f cd cc).kindOf (ps.zip us) fun _ => none) (cellsX scope cc s.heap.objs.size) (bindC (envS qual scope s.heap.objs.size f cd cc).kindOf (ps.zip us) cm) s1) :
    Inv (scx CX P w K mg base N qual scope f cd cc A outer s H E) [] (start N vs) H s1 := by
  have hpl : ps.length ≤ N.length := by have := congrArg List.length S.pre; rw [List.length_take] at this; omega
  obtain ⟨h1, tk, rfl, hk⟩ := x.toInCall.done
  have noA : ∀ b : Addr, b ∉ (scx CX P w K mg base N qual scope f cd cc A outer s H E).ex := fun b z => absurd (show b ∈ ([] : List Addr) from z) (by simp)
  have hnone : ∀ y c, (cellsX scope cc s.heap.objs.size).lookup y = some c → H c = none := fun y c h => by
    rw [cellsX_eq] at h
    rcases look_app h with q | ⟨_, q⟩
    · have ok := cellsFrom_ok scope.names (s.heap.push { cls := .type "frame", data := .dict #[] }) (s.heap.objs.size + 1) [] ⟨fun _ _ hm => (nomatch hm), List.Pairwise.nil⟩ (by rw [Heap.size_push]; exact Nat.le_refl _)
      rw [Heap.size_push] at ok
      exact e0.hok.fresh (Nat.le_of_succ_le (ok.empty y c (mem_of_lookup q)).2)
    · rcases List.mem_cons.mp (mem_of_lookup q) with e | m
      · cases e; exact hcc
      · cases m
  refine ⟨⟨e0.mod, S.kind, rfl, rfl, Nat.le_refl _, fun y z c h1 h2 => x.inj y z c h1 h2, fun y hy => ?_, fun y c h2 h1 => ?_, fun _ => hd, Around.frames_deeper e0.frames, .inr ⟨rfl, rfl⟩, fun b z => absurd z (noA b), e0.bs, e0.bsz, fun b _ _ => noA b, fun b z => absurd z (noA b), e0.funs, e0.frf⟩,
    rfl, e0.bare, Un.kept hk, ⟨_, x.toInCall.ns, fun i y v h1 h2 h3 => ?_⟩, fun y c h => ⟨_, x.cell y c h⟩, e0.hok.fresh (Nat.le_refl _), fun y c h => hnone y c h, fun p hp => absurd (show p ∈ ([] : List (Addr × Obj)) from hp) (by simp), e0.hok.kept hk, ?_⟩
  · have hy : scope.names.lookup y = some .cell ∨ scope.names.lookup y = some .free := hy
    show ∃ c, (cellsX scope cc s.heap.objs.size).lookup y = some c
    rw [cellsX_eq, List.lookup_append]
    rcases hy with hy | hy
    · obtain ⟨c, hc⟩ := cell_has (n := s.heap.objs.size + 1) hy
      exact ⟨c, by rw [hc]; rfl⟩
    · have e := S.free _ (PySem.mem_of_lookup hy) rfl
      have e' : y = clsN := e
      subst e'
      cases e : (cellsFrom (s.heap.objs.size + 1) scope.names []).lookup clsN with
      | none => exact ⟨cc, rfl⟩
      | some c => exact ⟨c, rfl⟩
  · have h1' : (cellsX scope cc s.heap.objs.size).lookup y = some c := h1
    rw [cellsX_eq] at h1'
    rcases look_app h1' with q | ⟨_, q⟩
    · have ok := cellsFrom_ok scope.names (s.heap.push { cls := .type "frame", data := .dict #[] }) (s.heap.objs.size + 1) [] ⟨fun _ _ hm => (nomatch hm), List.Pairwise.nil⟩ (by rw [Heap.size_push]; exact Nat.le_refl _)
      rw [Heap.size_push] at ok
      exact Nat.le_of_succ_le (ok.empty y c (mem_of_lookup q)).2
    · rcases List.mem_cons.mp (mem_of_lookup q) with e | m
      · cases e
        have z : (clsN != clsN) = true := h2
        rw [bne_self_eq_false] at z
        cases z
      · cases m
  · have hi : i < vs.length := by
      unfold start at h2
      by_cases hi : i < vs.length
      · exact hi
      · rw [List.getElem?_append_right (by simpa using hi)] at h2
        rw [List.getElem?_replicate] at h2
        split at h2 <;> cases h2
    have ha : vs[i]? = some v := by
      unfold start at h2
      rw [List.getElem?_append_left (by simpa using hi), List.getElem?_map] at h2
      cases e : vs[i]? with
      | none => rw [e] at h2; cases h2
      | some a => rw [e] at h2; cases h2; rfl
    obtain ⟨u, hu, rv⟩ := r.get ha
    have hp : ps[i]? = some y := by
      rw [← S.pre, List.getElem?_take_of_lt (by omega)]; exact h1
    have ndP : ps.Nodup := by rw [← S.pre]; exact S.nd.sublist (List.take_sublist _ _)
    refine ⟨u, rv, ?_⟩
    rcases S.par y (List.mem_of_getElem? hp) with k | k
    · exact .inl ⟨k, bindL_get ndP hp hu k⟩
    · obtain ⟨c, e⟩ := cell_has (n := s.heap.objs.size + 1) k
      have e' : (cellsX scope cc s.heap.objs.size).lookup y = some c := by rw [cellsX_eq, List.lookup_append, e]; rfl
      refine .inr ⟨.inl k, c, e', ?_⟩
      have q := x.cell y c e'
      rw [bindC_get ndP hp hu (by show scope.names.lookup y ≠ _; rw [k]; decide)] at q
      exact q
  · unfold start
    show _ = N.length
    rw [List.length_append, List.length_map, List.length_replicate]
    omega
structure PSsAt (X : Cx) (bd body : List Stmt) (t : TS) : Prop where
  run : ∀ (pins : List (Addr × Obj)) (s : Shared) (σ : St) (H : Hp) (D : Ends), Inv X pins σ H s → t D σ H → PySem.wpAt (model X.prog X.w) X.A (.func bd X.env) (execs body X.env) (SP X pins D) X.xe s
structure PSAt (X : Cx) (bd : List Stmt) (st : Stmt) (t : TS) : Prop where
  run : ∀ (pins : List (Addr × Obj)) (s : Shared) (σ : St) (H : Hp) (D : Ends), Inv X pins σ H s → t D σ H → PySem.wpAt (model X.prog X.w) X.A (.func bd X.env) (exec st X.env) (SP X pins D) X.xe s
section
variable {X : Cx} {bd body : List Stmt} {st : Stmt} {rest : List Stmt} {t u : TS}
theorem PSs.at (h : PSs X body t) : PSsAt X bd body t := ⟨fun pins s σ H D I q => wpAt_of_wpAny (h.run pins s σ H D I q)⟩
theorem PS.at (h : PS X st t) : PSAt X bd st t := ⟨fun pins s σ H D I q => wpAt_of_wpAny (h.run pins s σ H D I q)⟩
theorem pssAt_cons (h1 : PSAt X bd st t) (h2 : PSsAt X bd rest u) : PSsAt X bd (st :: rest) (fun D σ H => t { D with nx := u D } σ H) :=
  ⟨fun pins s σ H D I q => PySem.ks_wpAt_execs_cons (PySem.ks_wpAt_mono (h1.run pins s σ H { D with nx := u D } I q) (fun f s' hs => by
    cases f with
    | next => obtain ⟨σ', H', I', q'⟩ := hs; exact h2.run pins s' σ' H' D I' q'
    | ret v => exact hs
    | brk => exact hs
    | cont => exact hs) fun _ _ z => z)⟩
end
end L2
set_option maxRecDepth 100000
set_option maxHeartbeats 2000000
namespace L2
open PySem PySem.Spec PyProof.Rows
def CellK (K : PySem.W.Frag) (cc D : Addr) : Prop := ∃ (cl : Value) (cld : Option Addr) (csl : Array (Option Value)), K.lookup cc = some ⟨cl, cld, .cell (some (.ref D)), csl⟩
structure SupX (X : Cx) (f cda cc : Addr) : Prop where
  ex : ∃ (name qual : Str) (params : Arguments) (body : List Stmt) (scope : Scope) (dV kV doc pm : Value) (an : Option Addr) (ct oc : Value) (od : Option Addr) (osl : Array (Option Value)) (L : Addr),
    X.K.lookup f = some ⟨oc, od, .func (PySem.W.ksFn name qual params body scope dV kV doc pm an (.ref cda) ct cc), osl⟩ ∧ X.env = envS qual scope L f (.ref cda) cc
structure SupF (P : Program) (K : PySem.W.Frag) (mg : Str → Option Value) (f cda cc D : Addr) (slf : Str) : Prop where
  par : ∀ {name qual : Str} {params : Arguments} {body : List Stmt} {scope : Scope} {dV kV doc pm ct oc : Value} {an od : Option Addr} {osl : Array (Option Value)},
    K.lookup f = some ⟨oc, od, .func (PySem.W.ksFn name qual params body scope dV kV doc pm an (.ref cda) ct cc), osl⟩ → ∃ ar, (params.posonlyargs ++ params.args).head? = some ar ∧ ar.arg = slf
  code : ∃ (ccl : Value) (cdd : Option Addr) (vs : Array Value) (ccs : Array (Option Value)) (file : Str) (tf : Tok), K.lookup cda = some ⟨ccl, cdd, .fields vs, ccs⟩ ∧ vs[2]? = some (.str file tf) ∧ ((P.main.file : Str) == file) = true
  cell : CellK K cc D
  isc : ∃ cd, PySem.W.clsIn K D = some cd
  htop : (P.main.scope.names.lookup ("super" : Str)).isSome = false
  hsuper : mg "super" = none
  ho : PySem.W.nsIn K cStatics "thirdparty.any" = some none
section
variable {X : Cx} {pins : List (Addr × Obj)} {σ : St} {H : Hp} {s : Shared}
theorem loc_of (I : Inv X pins σ H s) {i : Nat} {x : Str} {v : V} (hN : X.N[i]? = some x) (e : σ[i]? = some (some v)) (hv : X.env.scope.names.lookup x = some .local) (hcd : (x == ("__classdict__" : Str)) = false) {A : Around} {E : Value → Shared → Prop} {Q : Value → Shared → Prop}
    (h : ∀ u, RelV v u → Q u s) : wpAny (model X.prog X.w) A (loadName X.env x) Q E s := by
  obtain ⟨m, hn, hl⟩ := I.loc
  obtain ⟨u, r, l⟩ := hl i x v hN e (.inl hv)
  rcases l with ⟨hk, hm⟩ | ⟨hk, c, hc, hcell⟩
  · exact wpAny_loadName_local I.ok.kind hk hn hm (h u r)
  · rcases hk with hk | hk
    · exact wpAny_loadName_cell I.ok.kind hk hc hcell (h u r)
    · exact wpAny_loadName_free I.ok.kind hk hc hcell (h u r) hcd
theorem super_at {bd : List Stmt} {f cda cc D x C : Addr} {self attr : Str} {i : Nat} {p0 p1 : Pos} {whole : Sem Value} {ox : Obj} {Q : Value → Shared → Prop} {E : Value → Shared → Prop} (SX : SupX X f cda cc) (SF : SupF X.prog X.K X.mg f cda cc D self) (I : Inv X pins σ H s)
    (hks : X.env.scope.names.lookup ("super" : Str) = some .globalImplicit) (hkc : X.env.scope.names.lookup clsN = some .free) (hcl : ∃ L, X.env.cells = cellsX X.env.scope cc L) (hncl : (clsN, NameKind.cell) ∉ X.env.scope.names) (hat : (attr == clsN) = false) (hN : X.N[i]? = some self) (hself : X.env.scope.names.lookup self = some .local) (hcd : (self == ("__classdict__" : Str)) = false) (hσ : σ[i]? = some (some (.ref x)))
    (hx : s.heap.get? x = some ox) (hxc : ox.cls = .ref C) (hnc : ∀ c, ox.data ≠ .cls c) (hsub : PySem.W.mroIn X.K C (.ref D) = some true)
    (h : ∀ so s', Inv X ((so, PySem.W.ks_superObj D x C) :: pins) σ H s' → (∀ y o, s.heap.get? y = some o → s'.heap.get? y = some o) → X.base.get? so = none → Q (.ref so) s') :
    PySem.wpAt (model X.prog X.w) X.A (.func bd X.env) (attributeBase (.Call (.Name "super" p0) [] [] p1) attr X.env whole) Q E s := by
  obtain ⟨name, qual, params, body, scope, dV, kV, doc, pm, an, ct, oc, od, osl, L, lk, eenv⟩ := SX.ex
  obtain ⟨ar, har, eself⟩ := SF.par lk
  obtain ⟨ccl, cdd, vs, ccs, file, tf, lc, hvs, hfile⟩ := SF.code
  obtain ⟨cl, cld, csl, lcell⟩ := SF.cell
  obtain ⟨cdD, hD⟩ := SF.isc
  have KI := I.kIn
  obtain ⟨oD, hD1, hD2⟩ : ∃ oD, s.heap.get? D = some oD ∧ oD.data = .cls cdD := by
    unfold PySem.W.clsIn at hD
    split at hD
    · rename_i c d cd' sl ho
      cases hD
      exact ⟨_, KI _ _ ho, rfl⟩
    · cases hD
  have hfu : X.env.func = some f := by rw [eenv]
  have hco : X.env.code = .ref cda := by rw [eenv]
  refine PySem.ks_wpAt_super_base (env := X.env) (f := f) (of := ⟨oc, od, .func (PySem.W.ksFn name qual params body scope dV kV doc pm an (.ref cda) ct cc), osl⟩) hks hkc hat hfu (KI _ _ lk) rfl har hco (KI _ _ lc) rfl hvs hfile SF.htop ?_
  have g1 : wpAny (model X.prog X.w) X.A (loadName X.env "super") (fun g s₁ => g = .type "super" ∧ s₁ = s) E s := by
    refine PySem.W.ks_loadName_global I.ok.kind hks ?_
    obtain ⟨mb, h1, h2⟩ := I.mod.blt
    exact Calls.loadGlobal_builtin (by rw [I.ok.glob]; exact I.mod.glob.keeps I.bk) SF.hsuper (by rw [I.ok.blt]; exact h1.keeps I.bk) ((h2 "super" (by decide)).trans (by rfl)) ⟨rfl, rfl⟩
  refine wpAny_mono g1 (fun g s₁ hg => ?_) fun _ _ z => z
  obtain ⟨rfl, rfl⟩ := hg
  refine ⟨rfl, ?_⟩
  have hlk : X.env.cells.lookup clsN = some cc := by
    obtain ⟨L', hcl⟩ := hcl
    rw [hcl, cellsX_eq, List.lookup_append]
    cases e : (cellsFrom (L' + 1) X.env.scope.names []).lookup clsN with
    | none => rfl
    | some c =>
      rcases cellsFrom_dom _ _ _ _ _ (mem_of_lookup e) with q | q
      · cases q
      · exact absurd q hncl
  refine wpAny_loadName_free I.ok.kind hkc hlk (v := .ref D) ⟨_, KI _ _ lcell, rfl⟩ ?_
  rw [eself]
  refine loc_of I hN hσ hself hcd fun u ru => ?_
  obtain rfl : u = Value.ref x := ru
  obtain ⟨hh, gg, dd, tt, os⟩ := s₁
  refine PySem.ks_wpAny_isType_cls hD1 hD2 ⟨rfl, ?_⟩
  refine PySem.ks_wpAny_call_super hD1 hD2 hx hxc hnc (PySem.W.looks_mroIn KI hsub) fun h' e k => ?_
  have I2 := ClX.pin_new (t' := tt) I k (Nat.le_refl _) e (fun v z => nomatch z)
  exact h _ _ I2 k (ClX.base_none I (Nat.le_refl _))
end
structure SupM (K : PySem.W.Frag) (C D : Addr) (m : Str) (f2 : Addr) : Prop where
  hm : PySem.W.ks_superIn K C D m = some (some (.ref f2))
  ty : PySem.W.typeIn K (.ref f2) = some (.type "function")
  fi : PySem.W.fnIn K f2 = true
  sub : PySem.W.mroIn K C (.ref D) = some true
section
variable {X : Cx} {pins : List (Addr × Obj)} {σ : St} {H : Hp} {s : Shared}
theorem super_method {D x C so f2 : Addr} {m : Str} {pl : Sem Bool} {ox : Obj} {Q : Value × List Value → Shared → Prop} {E : Value → Shared → Prop} (I : Inv X ((so, PySem.W.ks_superObj D x C) :: pins) σ H s) (M : SupM X.K C D m f2) (ho : PySem.W.nsIn X.K cStatics "thirdparty.any" = some none)
    (hn : (m == clsN) = false) (hx : s.heap.get? x = some ox) (hxc : ox.cls = .ref C) (hnc : ∀ c, ox.data ≠ .cls c)
    (h : ∀ s', Inv X ((s.heap.objs.size, PySem.W.methodObj (.ref f2) (.ref x)) :: (so, PySem.W.ks_superObj D x C) :: pins) σ H s' → Q (.ref s.heap.objs.size, []) s') : wpAny (model X.prog X.w) X.A (getMethod (.ref so) m pl) Q E s := by
  have KI := I.kIn
  have hso := ClX.pin_at I
  obtain ⟨hh, gg, dd, tt, os⟩ := s
  cases hc : PySem.W.clsIn X.K C with
  | none => have hm := M.hm; unfold PySem.W.ks_superIn at hm; rw [hc] at hm; cases hm
  | some cd =>
    have hm := M.hm
    unfold PySem.W.ks_superIn at hm
    rw [hc] at hm
    obtain ⟨of, hof, hofc⟩ : ∃ of, hh.get? f2 = some of ∧ of.cls = .type "function" := by
      have ht' : (X.K.lookup f2).map (·.cls) = some (.type "function") := M.ty
      cases z : X.K.lookup f2 with
      | none => rw [z] at ht'; cases ht'
      | some of => rw [z] at ht'; exact ⟨of, KI _ _ z, Option.some.inj ht'⟩
    have hxC : x ≠ C := by
      rintro rfl
      unfold PySem.W.clsIn at hc
      split at hc
      · rename_i c d cd' sl ho
        have e := KI _ _ ho
        have e' : hh.get? x = some _ := e
        have hx' : hh.get? x = some ox := hx
        rw [hx'] at e'
        cases e'
        exact hnc _ rfl
      · cases hc
    refine PySem.ks_wpAny_getMethod_super hso (PySem.W.looks_opaque KI ho) (l₀ := cd.mro) ?_ rfl KI hm hof hofc hxC hn ?_
    · exact fun A Q E s k q => wpAny_bind ((PySem.W.looks_clsIn KI hc) A _ E s k (wpAny_pure q))
    · exact h _ (ClX.pin_new (t' := tt + 1) I (fun _ _ z => Heap.get?_push_of_some _ z) (Nat.le_refl _) (Heap.get?_push_size _ rfl) (fun v z => nomatch z))
end
end L2
namespace FI
open PySem L2 PySem.Spec PyProof.Rows
structure SupC where
  f : Addr
  cda : Addr
  cc : Addr
  D : Addr
  self : Str
structure XSup (g : Gm) (c : Sc) (q : SupC) (X : Cx) : Prop where
  x : XIs g c X
  sx : SupX X q.f q.cda q.cc
  cl : ∃ L, X.env.cells = cellsX X.env.scope q.cc L
structure FSa (g : Gm) (c : Sc) (q : SupC) (bd : List Stmt) (st : Stmt) (f : SS) : Prop where
  run : ∀ X, XSup g c q X → ∀ W, L2N.Takes X W → PSAt X bd st (tS g W f)
structure FBa (g : Gm) (c : Sc) (q : SupC) (bd sts : List Stmt) (f : SS) : Prop where
  run : ∀ X, XSup g c q X → ∀ W, L2N.Takes X W → PSsAt X bd sts (tS g W f)
theorem psAt_imp {X : Cx} {bd : List Stmt} {st : Stmt} {t t' : TS} (h : PSAt X bd st t) (k : ∀ D σ H, t' D σ H → t D σ H) : PSAt X bd st t' := ⟨fun pins s σ H D I q => h.run pins s σ H D I (k D σ H q)⟩
theorem pssAt_imp {X : Cx} {bd st : List Stmt} {t t' : TS} (h : PSsAt X bd st t) (k : ∀ D σ H, t' D σ H → t D σ H) : PSsAt X bd st t' := ⟨fun pins s σ H D I q => h.run pins s σ H D I (k D σ H q)⟩
section
variable {g : Gm} {c : Sc} {q : SupC} {bd : List Stmt} {st : Stmt} {rest : List Stmt} {f h : SS}
theorem FS.at (hs : FS g c st f) : FSa g c q bd st f := ⟨fun X i W t => (hs.run X i.x W t).at⟩
theorem FB.at (hs : FB g c rest f) : FBa g c q bd rest f := ⟨fun X i W t => (hs.run X i.x W t).at⟩
theorem fba_cons (h1 : FSa g c q bd st f) (h2 : FBa g c q bd rest h) : FBa g c q bd (st :: rest) (bSeq f h) :=
  ⟨fun X i W t => pssAt_imp (pssAt_cons (h1.run X i W t) (h2.run X i W t)) fun D0 σ H ⟨ι, gs, G, ss, sh, q⟩ => ⟨ι, gs, G, ss, sh, q.seq⟩⟩
def sSup (i : Nat) (tab : List (Nat × Fn)) (fa : SA) : SS := fun gs G => match gs[i]? with
  | some (some (.ref n)) => match G[n]? with
    | some (.ins cn _) => match tab.lookup cn with
      | some F => onE (bnd (fa gs G) fun ds => F (.ref n :: ds)) gs fun _ G' => some (.nx, gs, G')
      | none => none
    | _ => none
  | _ => none
theorem fsa_super {e : Expr} {es : List Expr} {fa : SA} {p0 p1 apos pos spos : Pos} {m : Str} {i k : Nat} {tab : List (Nat × Fn)} (SF : SupF g.P g.K g.mg q.f q.cda q.cc q.D q.self)
    (hT : ∀ cn F, tab.lookup cn = some F → ∃ f2, SupM g.K (g.cls cn) q.D m f2 ∧ CalD g k f2 [] F) (hk : k ≤ c.k ∧ c.hot = false) (ha : FA g c (e :: es) fa)
    (hks : c.sc.names.lookup ("super" : Str) = some .globalImplicit := by rfl) (hkc : c.sc.names.lookup clsN = some .free := by rfl) (hncl : (clsN, NameKind.cell) ∉ c.sc.names := by decide) (hat : (m == clsN) = false := by decide) (hN : c.N[i]? = some q.self := by rfl) (hself : c.sc.names.lookup q.self = some .local := by rfl) (hcd : (q.self == ("__classdict__" : Str)) = false := by decide)
    (hsw : ∀ env, swapsWith (.Call (.Attribute (.Call (.Name "super" p0) [] [] p1) m apos) (e :: es) [] pos) none spos.line env = pure false := by intro _; rfl)
    (hst : ∀ env, starEach (e :: es) env = (false, eval e env) :: starEach es env := by intro _; rfl) (hpl : ∀ env, (backTo pos (starEach es env)).any (·.1) = false := by intro _; rfl)
    (hev : ∀ env, ∃ pl, eval (.Call (.Attribute (.Call (.Name "super" p0) [] [] p1) m apos) (e :: es) [] pos) env = (do
      let ov ← attributeBase (.Call (.Name "super" p0) [] [] p1) m env (eval (.Call (.Name "super" p0) [] [] p1) env)
      standAt apos.atName
      let (f, first) ← holding [ov] (getMethod ov m pl)
      callWith pos f first (backTo pos (starEach (e :: es) env)) []) := by intro _; exact ⟨_, rfl⟩) :
    FSa g c q bd (.Expr (.Call (.Attribute (.Call (.Name "super" p0) [] [] p1) m apos) (e :: es) [] pos) spos) (sSup i tab fa) := ⟨fun X j W tk => ⟨fun pins s σ H D0 I ⟨ι, gs, G, ss, sh, h⟩ => by
  have hP : X.prog = g.P := j.x.P
  have hK : X.K = g.K := j.x.K
  have hmg : X.mg = g.mg := j.x.mg
  have hsc : X.env.scope = c.sc := j.x.sc
  have hXN : X.N = c.N := j.x.N
  unfold sSup at h
  cases e1 : gs[i]? with
  | none => rw [e1] at h; exact h.no
  | some o1 =>
    cases o1 with
    | none => rw [e1] at h; exact h.no
    | some d =>
      cases d with
      | ref n =>
        rw [e1] at h
        dsimp only at h
        cases e2 : G[n]? with
        | none => rw [e2] at h; exact h.no
        | some ob =>
          cases ob with
          | ins cn fs =>
            rw [e2] at h
            dsimp only at h
            cases e3 : tab.lookup cn with
            | none => rw [e3] at h; exact h.no
            | some F =>
              rw [e3] at h
              dsimp only at h
              obtain ⟨v, hv1, hv2⟩ := ss.at_ i _ e1
              cases hv2 with
              | @ref _ a ha' =>
                obtain ⟨u, hu, ro⟩ := sh.at_ n _ a e2 ha'
                cases ro with
                | @ins _ dx _ vfs rf =>
                  obtain ⟨f2, M, C⟩ := hT cn F e3
                  obtain ⟨mA, O, _⟩ := ins_get I.hok hu
                  obtain ⟨od, J, _⟩ := O.look
                  have hnc : ∀ cdx, (PySem.W.instObj (g.cls cn) dx).data ≠ .cls cdx := fun cdx z => nomatch z
                  refine PySem.ks_wpAt_Expr_any (PySem.ks_wpAt_mono (Q := fun v s' => SP X pins D0 .next s') ?_ (fun _ _ z => z) fun _ _ z => z) I.quiet (hsw _)
                  obtain ⟨pl, hpl'⟩ := hev X.env
                  refine PySem.ks_wpAt_MethodCall (pl := pl) ?_ hpl'
                  refine super_at (C := g.cls cn) (ox := PySem.W.instObj (g.cls cn) dx) (i := i) (self := q.self) (D := q.D) j.sx (by rw [hP, hK, hmg]; exact SF) I (by rw [hsc]; exact hks) (by rw [hsc]; exact hkc) j.cl (by rw [hsc]; exact hncl) hat (by rw [hXN]; exact hN) (by rw [hsc]; exact hself) hcd hv1 J.at_ rfl hnc (by rw [hK]; exact M.sub) fun so s1 I1 kp1 hb1 => ?_
                  refine super_method (ox := PySem.W.instObj (g.cls cn) dx) (f2 := f2) I1 (by rw [hK]; exact M) (by rw [hK]; exact SF.ho) hat (kp1 _ _ J.at_) rfl hnc fun s2 I2 => ?_
                  have hb2 := ClX.base_none I1 (Nat.le_refl _)
                  refine ClX.callwith_cm I2 hb2 (by rw [hK]; exact M.fi) ?_ (hst _) (hpl _)
                  have hg := ((h.onE ss).bnd)
                  refine thn ((ha.run X j.x W tk).run pos _ s2 σ H (fun vs H2 => RdF g F (WE W σ) (.ref a :: vs) H2 (fun _ H' => D0.nx σ H')) I2 ⟨ι, gs, G, ss, sh, hg.imp fun ds ι2 G2 H2 s2 t2 h2 vs rs => ?_⟩) fun us s3 ⟨vs, H3, I3, rv, h3⟩ => ⟨⟨ClX.pin_at I3, I3.kIn⟩, ?_⟩
                  · exact ⟨ι2, .ref n :: ds, G2, .cons (.ref (s2.at ha')) rs, t2, Gv.toE (h2.imp fun d ι' G' H' s' t' z v rv => z.at (.refl _ _ _) t' ((ss.mono s2).mono s'))⟩
                  · have z := C X.A X.stack s3 H3 (Value.ref a :: us) [] (V.ref a :: vs) (fun _ H' => D0.nx σ H') (WE W σ) ((j.x.room hk.2).mono hk.1) (j.x.env I3) rfl (by rw [List.append_nil]; exact .cons rfl rv) h3
                    rw [← j.x.P, ← j.x.w] at z
                    refine wpAny_call (PySem.W.method_call (ClX.pin_at I3) (codeAny_mono z fun r s' hq => ?_))
                    cases r with
                    | error e => exact tk e s' (L2N.XE.of_call I3 (fun _ _ _ h => h) hq)
                    | ok fl =>
                      cases fl with
                      | ret u =>
                        obtain ⟨v', H', I4, rv', q4⟩ := I3.after hq
                        exact ⟨σ, H', ClX.unpin (ClX.unpin I4), q4⟩
                      | next => exact False.elim hq
                      | brk => exact False.elim hq
                      | cont => exact False.elim hq
          | _ => rw [e2] at h; exact h.no
      | _ => rw [e1] at h; exact h.no⟩⟩
end
end FI
set_option maxRecDepth 100000
set_option maxHeartbeats 2000000
namespace FI
open PySem L2 PySem.Spec PyProof.Rows
def DBnd (g : Gm) (fd : FuncData) (ps ks : List Str) (B : List D → Option (List D)) : Prop :=
  ∀ (A : Around) (outer : List Env) (s : Shared) (H : Hp) (us ws : List Value) (vs : List V) (ds es : List D) (G : Hh) (ι : List Addr) (E : XK), Env0 g.P g.w g.K g.mg g.base A outer s H → ws.length = ks.length → Vals vs (us ++ ws) → RelDs g ι H ds vs → SimH g ι G H → B ds = some es →
    StX.Bnd (L2N.CX g.P g.w) g.P g.w g.K g.mg g.base fd ⟨us, ks.zip ws⟩ ps A outer s H E fun vs2 H2 => Stp g ι H ι H2 ∧ SimH g ι G H2 ∧ RelDs g ι H2 es vs2
noncomputable def mkFnB (B : List D → Option (List D)) (n : Nat) (b : SS) : Fn := fun ds G => match B ds with
  | some es => slim G (runB b n es G)
  | none => none
def bPlain (np : Nat) : List D → Option (List D) := fun ds => if ds.length = np then some ds else none
def bStar (np : Nat) : List D → Option (List D) := fun ds => if np ≤ ds.length ∧ ds.length ≤ 100000 then some (ds.take np ++ [.tup (ds.drop np)]) else none
section
variable {g : Gm} {k : Nat} {f : Addr} {name qual : Str} {params : Arguments} {body : List Stmt} {scope : Scope} {dV kV doc pm cdv ct oc : Value} {an od : Option Addr} {osl : Array (Option Value)} {N ps ks : List Str} {B : List D → Option (List D)} {b : SS} {fd : FuncData}
theorem dbnd_plain (hb : ∀ us : List Value, us.length = ps.length → bindArgs fd ⟨us, []⟩ = pure (ps.zip us)) : DBnd g fd ps [] (bPlain ps.length) := fun A outer s H us ws vs ds es G ι E e0 hw r rd sh hB => by
  have hw' : ws = [] := List.eq_nil_of_length_eq_zero hw
  subst hw'
  rw [List.append_nil] at r
  unfold bPlain at hB
  by_cases hl : ds.length = ps.length
  · rw [if_pos hl] at hB
    cases hB
    have hv : vs.length = ps.length := by rw [← rd.length]; exact hl
    intro A' Ex Q k
    rw [show ([] : List Str).zip ([] : List Value) = [] from rfl, hb us (by rw [← r.length]; exact hv)]
    exact wpAny_pure (k s H vs us e0 Un.refl rfl (fun _ _ z => z) r hv ⟨.refl _ _ _, sh, rd⟩)
  · rw [if_neg hl] at hB; cases hB
theorem dbnd_star {pv : Str} (hb : ∀ us rest : List Value, us.length = ps.length → bindArgs fd ⟨us ++ rest, []⟩ = (newTuple rest >>= fun t => pure (ps.zip us ++ [(pv, t)]))) : DBnd g fd (ps ++ [pv]) [] (bStar ps.length) := fun A outer s H us ws vs ds es G ι E e0 hw r rd sh hB => by
  have hw' : ws = [] := List.eq_nil_of_length_eq_zero hw
  subst hw'
  rw [List.append_nil] at r
  unfold bStar at hB
  by_cases hl : ps.length ≤ ds.length ∧ ds.length ≤ 100000
  · rw [if_pos hl] at hB
    cases hB
    have hvl := rd.length
    have e1 : vs = vs.take ps.length ++ vs.drop ps.length := (List.take_append_drop _ _).symm
    rw [e1] at r
    obtain ⟨u1, u2, eu, r1, r2⟩ := StX.vals_split r
    subst eu
    have hl1 : u1.length = ps.length := by rw [← r1.length, List.length_take]; omega
    have hl2 : u2.length ≤ sizeLine := by
      have := r2.length
      rw [List.length_drop] at this
      have h3 : u2.length ≤ 100000 := by omega
      exact line_of h3
    intro A' Ex Q k
    rw [show ([] : List Str).zip ([] : List Value) = [] from rfl, hb u1 u2 hl1]
    have hn : H s.heap.objs.size = none := e0.hok.fresh (Nat.le_refl _)
    refine wpAny_bind (wpAny_newTuple (wpAny_pure ?_) hl2)
    have hz : (vs.drop ps.length).length ≤ sizeLine := by rw [r2.length]; exact hl2
    have new : ObjOk g.P g.w (upd H s.heap.objs.size (.tup (vs.drop ps.length))) (s.heap.push ({ cls := .type "tuple", data := .seq u2.toArray } : Obj)) s.heap.objs.size (.tup (vs.drop ps.length)) := ⟨hz, u2, r2, ⟨_, Heap.get?_push_size _ rfl, rfl, _, rfl⟩⟩
    have un := StX.un_laid (fs := frs outer) (s := s) (o := ({ cls := .type "tuple", data := .seq u2.toArray } : Obj)) (u := .tup (vs.drop ps.length)) hn
    have z := k _ _ (vs.take ps.length ++ [V.ref s.heap.objs.size]) (u1 ++ [Value.ref s.heap.objs.size]) (StX.env0_laid e0 new) un rfl (fun e s' => L2.cxUpN outer s H _ _ E e s' un (fun b o q => Heap.get?_push_of_some _ q) rfl) (r1.append (.cons rfl .nil))
      (by rw [List.length_append, List.length_append, List.length_take]; show min _ _ + 1 = _ + 1; omega) ⟨stp_upd_new hn, sh.new hn, ((rd.take _).mono (stp_upd_new hn)).append (.one (new_tup hn (rd.drop _)))⟩
    rw [List.zip_append hl1.symm] at z
    exact z
  · rw [if_neg hl] at hB; cases hB
def bStarK (np : Nat) (kd : D) : List D → Option (List D) := fun ds => if np ≤ ds.length ∧ ds.length ≤ 100000 then some (ds.take np ++ [kd, .tup (ds.drop np)]) else none
theorem dbnd_starK {pv kw : Str} {Dk : Addr} {u : Value} {kv : V} {kd : D} (hn : PySem.W.nsIn g.K Dk kw = some (some u)) (hu : RelV kv u) (hd : ∀ ι H, RelD g ι H kd kv)
    (hb : ∀ us rest : List Value, us.length = ps.length → ∃ (β γ : Type) (k1 : Option Value → Sem β) (k2 : β → Sem γ) (k3 : γ → Sem (List (Str × Value))) (a : β),
      bindArgs fd ⟨us ++ rest, []⟩ = ((nsGet Dk kw >>= k1) >>= k2) >>= k3 ∧ k1 (some u) = pure a ∧ (k2 a >>= k3) = (newTuple rest >>= fun t => pure (ps.zip us ++ [(kw, u), (pv, t)]))) : DBnd g fd (ps ++ [kw, pv]) [] (bStarK ps.length kd) := fun A outer s H us ws vs ds es G ι E e0 hw r rd sh hB => by
  have hw' : ws = [] := List.eq_nil_of_length_eq_zero hw
  subst hw'
  rw [List.append_nil] at r
  unfold bStarK at hB
  by_cases hl : ps.length ≤ ds.length ∧ ds.length ≤ 100000
  · rw [if_pos hl] at hB
    cases hB
    have hvl := rd.length
    have e1 : vs = vs.take ps.length ++ vs.drop ps.length := (List.take_append_drop _ _).symm
    rw [e1] at r
    obtain ⟨u1, u2, eu, r1, r2⟩ := StX.vals_split r
    subst eu
    have hl1 : u1.length = ps.length := by rw [← r1.length, List.length_take]; omega
    have hl2 : u2.length ≤ sizeLine := by
      have := r2.length
      rw [List.length_drop] at this
      have h3 : u2.length ≤ 100000 := by omega
      exact line_of h3
    intro A' Ex Q k
    obtain ⟨β, γ, k1, k2, k3, a, q1, q2, q3⟩ := hb u1 u2 hl1
    have KX : g.K.In s.heap := e0.mod.kin.keeps fun b o e => (e0.bs b o e).1
    rw [show ([] : List Str).zip ([] : List Value) = [] from rfl, q1, bind_assoc]
    refine wpAny_bind (wpAny_bind ((PySem.W.looks_nsIn KX hn).here ?_))
    rw [q2]
    refine wpAny_pure ?_
    show wpAny _ _ (k2 a >>= k3) _ _ _
    rw [q3]
    have hn : H s.heap.objs.size = none := e0.hok.fresh (Nat.le_refl _)
    refine wpAny_bind (wpAny_newTuple (wpAny_pure ?_) hl2)
    have hz : (vs.drop ps.length).length ≤ sizeLine := by rw [r2.length]; exact hl2
    have new : ObjOk g.P g.w (upd H s.heap.objs.size (.tup (vs.drop ps.length))) (s.heap.push ({ cls := .type "tuple", data := .seq u2.toArray } : Obj)) s.heap.objs.size (.tup (vs.drop ps.length)) := ⟨hz, u2, r2, ⟨_, Heap.get?_push_size _ rfl, rfl, _, rfl⟩⟩
    have un := StX.un_laid (fs := frs outer) (s := s) (o := ({ cls := .type "tuple", data := .seq u2.toArray } : Obj)) (u := .tup (vs.drop ps.length)) hn
    have z := k _ _ (vs.take ps.length ++ [kv, V.ref s.heap.objs.size]) (u1 ++ [u, Value.ref s.heap.objs.size]) (StX.env0_laid e0 new) un rfl (fun e s' => L2.cxUpN outer s H _ _ E e s' un (fun b o q => Heap.get?_push_of_some _ q) rfl) (r1.append (.cons hu (.cons rfl .nil)))
      (by rw [List.length_append, List.length_append, List.length_take]; show min _ _ + 2 = _ + 2; omega) ⟨stp_upd_new hn, sh.new hn, ((rd.take _).mono (stp_upd_new hn)).append (.cons (hd _ _) (.one (new_tup hn (rd.drop _))))⟩
    rw [List.zip_append hl1.symm] at z
    exact z
  · rw [if_neg hl] at hB; cases hB
theorem rdf_body {E : XK} {vs : List V} {H : Hp} {Q : VK} (q : RdF g (mkFnB B N.length b) E vs H Q) : ∃ ι ds es G, RelDs g ι H ds vs ∧ SimH g ι G H ∧ B ds = some es ∧ Gv g (fun c d _ H' => E c d H') [] ι H (runB b N.length es G) (fun d ι' _ H' => ∀ v, RelD g ι' H' d v → Q v H') := by
  obtain ⟨ι, ds, G, rs, sh, h⟩ := q
  unfold mkFnB at h
  cases e : B ds with
  | none => rw [e] at h; exact h.no
  | some es => rw [e] at h; exact ⟨ι, ds, es, G, rs, sh, e, Gv.unslim sh h⟩
theorem run_read (h0 : g.hx = none) {E : XK} {Q : VK} {es : List D} {vs2 : List V} {ι : List Addr} {G : Hh} {H H2 : Hp} (st : Stp g ι H ι H2) (sh : SimH g ι G H2) (rs : RelDs g ι H2 es vs2) (h : Gv g (fun c d _ H' => E c d H') [] ι H (runB b N.length es G) (fun d ι' _ H' => ∀ v, RelD g ι' H' d v → Q v H')) :
    tS g (fun c d _ H' => E c d H') b { nx := fun _ H' => Q .non H', rt := Q } (L2.start N vs2) H2 := by
  refine ⟨ι, start0 N.length es, G, simStart h0 rs N, sh, ?_⟩
  obtain ⟨r, G', e, q⟩ := h
  unfold runB at e
  cases eb : b (start0 N.length es) G with
  | none => rw [eb] at e; cases e
  | some p =>
    obtain ⟨fl, gs', G1⟩ := p
    rw [eb] at e
    refine ⟨fl, gs', G1, rfl, fun ι' H' σ' st2 sm su => ?_⟩
    cases fl with
    | nx => cases e; exact q ι' H' (st.trans st2) sm _ .non
    | rt d => cases e; exact q ι' H' (st.trans st2) sm
    | ex x => cases e; exact q ι' H' (st.trans st2) sm
    | bk => cases e
    | ct => cases e
theorem cal_def (lk : g.K.lookup f = some ⟨oc, od, .func (PySem.W.fnOf name qual params body scope dV kV doc pm an cdv ct), osl⟩) (hcd : PySem.W.codeIn g.K cdv qual = true) (S : FnScope N ps scope)
    (hb : DBnd g (PySem.W.fnOf name qual params body scope dV kV doc pm an cdv ct) ps ks B) (hB : FB g { N := N, sc := scope, k := k } body b) (h0 : g.hx = none := by rfl) : CalD g (k + 1) f ks (mkFnB B N.length b) := fun A outer s H us ws vs Q E hr e0 hw r q => by
  obtain ⟨ι, ds, es, G, rs, sh, eB, h⟩ := rdf_body q
  refine StX.run_bnd lk hcd S hr e0 (hb A outer s H us ws vs ds es G ι E e0 hw r rs sh eB) fun s2 H2 vs2 ⟨st, sh2, rs2⟩ hr' => ?_
  exact ⟨_, hB.run _ (xis_def h0 S.nd hr') (fun c d _ H' => E c d H') (L2N.takes_of rfl rfl rfl rfl), run_read h0 st sh2 rs2 h⟩
end
section
variable {g : Gm} {k : Nat} {f cda cc D : Addr} {self : Str} {name qual : Str} {params : Arguments} {body : List Stmt} {scope : Scope} {dV kV doc pm ct oc : Value} {an od : Option Addr} {osl : Array (Option Value)} {N ps ks : List Str} {B : List FI.D → Option (List FI.D)} {b : SS} {fd : FuncData}
theorem cal_sup (lk : g.K.lookup f = some ⟨oc, od, .func (PySem.W.ksFn name qual params body scope dV kV doc pm an (.ref cda) ct cc), osl⟩) (hcd : PySem.W.codeIn g.K (.ref cda) qual = true) (S : SupScope N ps scope) (hcell : CellK g.K cc D)
    (hb : DBnd g (PySem.W.ksFn name qual params body scope dV kV doc pm an (.ref cda) ct cc) ps ks B) (hB : FBa g { N := N, sc := scope, k := k, ow := fun x => x != clsN } ⟨f, cda, cc, D, self⟩ body body b) (h0 : g.hx = none := by rfl) : CalD g (k + 1) f ks (mkFnB B N.length b) := fun A outer s H us ws vs Q E hr e0 hw r q => by
  obtain ⟨ι, ds, es, G, rs, sh, eB, h⟩ := rdf_body q
  have KX : g.K.In s.heap := e0.mod.kin.keeps fun b o e => (e0.bs b o e).1
  obtain ⟨cl, cld, csl, lc⟩ := hcell
  refine codeAny_call_function hr.depth (KX _ _ lk) rfl S.co S.gen rfl (PySem.W.codeRec_of KX hcd) ?_
  refine hb A outer s H us ws vs ds es G ι E e0 hw r rs sh eB _ _ _ fun s2 H2 vs2 us2 e2 un ho hx r2 hl ⟨st, sh2, rs2⟩ => ?_
  have lim : s2.heap.NoLimit := e0.mod.nolimit.keeps fun b o e => (e2.bs b o e).1
  have cb : g.base.get? cc = some ⟨cl, cld, .cell (some (.ref D)), csl⟩ := e0.mod.kin _ _ lc
  obtain ⟨c2, hcn⟩ := e2.bs _ _ cb
  refine InCF.env (s := s2) (qual := qual) S ⟨_, ⟨_, c2, rfl⟩⟩ (fun y hy => S.par y.1 (List.of_mem_zip hy).1) fun s1 cm x => ?_
  refine ⟨lim.keeps x.toInCall.keep, PySem.ks_codeAny_funcAt ?_⟩
  have I : Inv (scx (L2N.CX g.P g.w) g.P g.w g.K g.mg g.base N qual scope f (.ref cda) cc A outer s2 H2 E) [] (L2.start N vs2) H2 s1 := inv_startS S hr.hd e2 hl r2 hcn (Heap.lt_size c2) x
  have X1 : XIs g { N := N, sc := scope, k := k, ow := fun x => x != clsN } (scx (L2N.CX g.P g.w) g.P g.w g.K g.mg g.base N qual scope f (.ref cda) cc A outer s2 H2 E) :=
    ⟨rfl, rfl, rfl, rfl, rfl, rfl, rfl, S.nd, fun _ => rfl, fun _ => hr.deeper _, (hr.deeper _).un, (hr.deeper _).dp, (fun q e => by rw [h0] at e; cases e), passes_of rfl, fun x h => .inl h, fun _ => ⟨rfl, rfl⟩, fun z => nomatch z⟩
  have X2 : XSup g { N := N, sc := scope, k := k, ow := fun x => x != clsN } ⟨f, cda, cc, D, self⟩ (scx (L2N.CX g.P g.w) g.P g.w g.K g.mg g.base N qual scope f (.ref cda) cc A outer s2 H2 E) :=
    ⟨X1, ⟨name, qual, params, body, scope, dV, kV, doc, pm, an, ct, oc, od, osl, _, lk, rfl⟩, ⟨_, rfl⟩⟩
  have tk : L2N.Takes (scx (L2N.CX g.P g.w) g.P g.w g.K g.mg g.base N qual scope f (.ref cda) cc A outer s2 H2 E) (fun c d _ H' => E c d H') := L2N.takes_of rfl rfl rfl rfl
  refine PySem.ks_wpAt_mono ((hB.run _ X2 _ tk).run [] s1 _ H2 _ I (run_read h0 st sh2 rs2 h)) (fun fl s' hs => ?_) fun e s' hs => ?_
  · have fin : ∀ {σ' : L2.St} {H' : Hp} {v' : V} {u' : Value}, Inv (scx (L2N.CX g.P g.w) g.P g.w g.K g.mg g.base N qual scope f (.ref cda) cc A outer s2 H2 E) [] σ' H' s' → RelV v' u' → Q v' H' → CE outer g.P g.w H s Q u' s' :=
      fun {σ' H' v' u'} J rv' q => ⟨v', H', J.os.trans ho, J.bare, un.trans J.base, J.hok, rv', q⟩
    cases fl with
    | ret u' =>
      obtain ⟨v', σ', H', J, rv', q⟩ := hs
      exact fin J rv' q
    | next =>
      obtain ⟨σ', H', J, q⟩ := hs
      exact fin (v' := V.non) (u' := Value.none) J rfl q
    | brk =>
      obtain ⟨_, _, _, q⟩ := hs
      exact False.elim q
    | cont =>
      obtain ⟨_, _, _, q⟩ := hs
      exact False.elim q
  · exact wpAny_mono hs (fun _ s'' z => hx e s'' z) fun e' s'' z => hx e' s'' z
end
end FI
set_option maxRecDepth 100000
set_option maxHeartbeats 2000000
namespace L2
open PySem PySem.Spec PyProof.Rows
structure SupE (K : PySem.W.Frag) (C D : Addr) : Prop where
  hm : PySem.W.ks_superIn K C D "__init__" = some (some (.builtin "ValueError.__init__"))
  hB : PySem.W.subIn K (.ref C) (.type "ValueError") = some true
  sub : PySem.W.mroIn K C (.ref D) = some true
section
variable {X : Cx} {pins : List (Addr × Obj)} {σ : St} {H : Hp} {s : Shared}
theorem inst_exo (I : Inv X pins σ H s) {a C : Addr} (e : H a = some (exo a C none)) : ∃ ox, PySem.W.InstAt s.heap a ox C none ∧ (∀ c, ox.data ≠ .cls c) := by
  obtain ⟨t1, ho⟩ := exo_at I.hok e
  exact ⟨_, ⟨ho, rfl, rfl, trivial⟩, fun c z => nomatch z⟩
theorem mw_call {u a C : Addr} {us : List Value} {Q : Value → Shared → Prop} (T : OexC X.K C) (I : Inv X ((u, PySem.W.kxs_mw "ValueError.__init__" a) :: pins) σ H s) (e : H a = some (exo a C none)) (hl : us.length ≤ sizeLine)
    (h : ∀ s', Inv X ((u, PySem.W.kxs_mw "ValueError.__init__" a) :: pins) σ H s' → Q .none s') : wpAny (model X.prog X.w) X.A (call (.ref u) us) Q X.xe s := by
  obtain ⟨nm, q, N, bs, bm, sn, sub, ab, col, dd, k0, k1, k2, k3, k5, hC, hbm⟩ := T.cls
  obtain ⟨t1, ho⟩ := exo_at I.hok e
  have hu := ClX.pin_at I
  have KI := I.kIn
  obtain ⟨hp, g, d, t, os⟩ := s
  refine wpAny_call (codeAny_of_tree ?_)
  show wpAny _ X.A.in1 (callAny (.ref u) ⟨us, []⟩) _ _ _
  simp only [callAny]
  refine wpAny_bind (wpAny_load hu ?_)
  simp only [PySem.W.kxs_mw, show (Value.type "method-wrapper" == Value.type "method" || Value.type "method-wrapper" == Value.type "builtin_function_or_method" || Value.type "method-wrapper" == Value.type "method-wrapper") = true by decide, if_true]
  refine PySem.W.KFB.if_so (by decide) ?_
  refine wpAny_bind (PySem.W.check_bound_init F.excBase_ValueError.toExcCallFacts (KI _ _ hC) ho rfl ?_)
  refine wpAny_bind (wpAny_pure (wpAny_pure ?_))
  refine ⟨plainId_quiet F.excBase_ValueError.init.plain _, codeAny_builtin F.excBase_ValueError.initEntry ?_⟩
  refine PySem.W.exc_init_tree (cls := .ref C) (t0 := t1) (dv := none) (c2 := .none) (c3 := .none) (b4 := .bool false) ho hl fun h' k hx _ => ?_
  have J := I.write (t' := t) (x := a) (e := a) (o := exo a C none) (by rw [e]; exact True.intro) (.inl rfl) k ⟨_, hx⟩ (exo_ok hx)
  have eu : upd H a (exo a C none) = H := by
    funext b
    by_cases hb : b = a
    · rw [hb, upd_same, e]
    · rw [upd_ne hb]
  rw [eu] at J
  exact h _ J
def tSupE (i : Nat) (D C : Addr) (t : TA) : TS := fun D0 σ H => ∃ a, σ[i]? = some (some (.ref a)) ∧ H a = some (exo a C none) ∧ t σ H fun vs H1 => vs.length ≤ 1000 ∧ H1 a = some (exo a C none) ∧ D0.nx σ H1
theorem psat_superE {bd : List Stmt} {f cda cc D C : Addr} {self : Str} {i : Nat} {e : Expr} {es : List Expr} {t : TA} {p0 p1 apos pos spos : Pos} (SX : SupX X f cda cc) (SF : SupF X.prog X.K X.mg f cda cc D self) (M : SupE X.K C D) (T : OexC X.K C) (ha : PA X (e :: es) t)
    (hks : X.env.scope.names.lookup ("super" : Str) = some .globalImplicit) (hkc : X.env.scope.names.lookup clsN = some .free) (hcl : ∃ L, X.env.cells = cellsX X.env.scope cc L) (hncl : (clsN, NameKind.cell) ∉ X.env.scope.names) (hN : X.N[i]? = some self) (hself : X.env.scope.names.lookup self = some .local) (hcd : (self == ("__classdict__" : Str)) = false)
    (hsw : swapsWith (.Call (.Attribute (.Call (.Name "super" p0) [] [] p1) "__init__" apos) (e :: es) [] pos) none spos.line X.env = pure false)
    (hst : starEach (e :: es) X.env = (false, eval e X.env) :: starEach es X.env) (hpl : (backTo pos (starEach es X.env)).any (·.1) = false)
    (hev : ∃ pl, eval (.Call (.Attribute (.Call (.Name "super" p0) [] [] p1) "__init__" apos) (e :: es) [] pos) X.env = (do
      let ov ← attributeBase (.Call (.Name "super" p0) [] [] p1) "__init__" X.env (eval (.Call (.Name "super" p0) [] [] p1) X.env)
      standAt apos.atName
      let (f, first) ← holding [ov] (getMethod ov "__init__" pl)
      callWith pos f first (backTo pos (starEach (e :: es) X.env)) [])) :
    PSAt X bd (.Expr (.Call (.Attribute (.Call (.Name "super" p0) [] [] p1) "__init__" apos) (e :: es) [] pos) spos) (tSupE i D C t) := ⟨fun pins s σ H D0 I ⟨a, hσ, hx, h⟩ => by
  obtain ⟨ox, J, hnc⟩ := inst_exo I hx
  refine PySem.ks_wpAt_Expr_any (PySem.ks_wpAt_mono (Q := fun v s' => SP X pins D0 .next s') ?_ (fun _ _ z => z) fun _ _ z => z) I.quiet hsw
  obtain ⟨pl, hpl'⟩ := hev
  refine PySem.ks_wpAt_MethodCall (pl := pl) ?_ hpl'
  refine super_at (C := C) (ox := ox) (i := i) (D := D) SX SF I hks hkc hcl hncl (by decide) hN hself hcd hσ J.at_ J.cls hnc M.sub fun so s1 I1 kp1 hb1 => ?_
  have KI := I1.kIn
  have hso := ClX.pin_at I1
  have J1 : PySem.W.InstAt s1.heap a ox C none := ⟨kp1 _ _ J.at_, J.cls, J.no, by
    have z := J.dict
    revert z
    cases ox.dict <;> exact id⟩
  have hI : PySem.W.Looks (model X.prog X.w) s1.heap (isInstance (.ref a) (.type "ValueError")) true := J1.type.andThen (PySem.W.looks_subIn KI M.hB)
  obtain ⟨hh, gg, dd, tt, os⟩ := s1
  cases hc : PySem.W.clsIn X.K C with
  | none => have hm := M.hm; unfold PySem.W.ks_superIn at hm; rw [hc] at hm; cases hm
  | some cd =>
    have hm := M.hm
    unfold PySem.W.ks_superIn at hm
    rw [hc] at hm
    refine PySem.W.kxs_getMethod PySem.W.kxs_ValueError hso (PySem.W.looks_opaque KI SF.ho) (l₀ := cd.mro) (fun A Q E s k q => wpAny_bind ((PySem.W.looks_clsIn KI hc) A _ E s k (wpAny_pure q))) rfl KI hm hI (PySem.W.ks_ne KI J1 hc) (by decide) ?_
    have I2 := ClX.pin_new (t' := tt + 1) (o := PySem.W.kxs_mw "ValueError.__init__" a) (h' := hh.push (PySem.W.kxs_mw "ValueError.__init__" a)) I1 (fun _ _ z => Heap.get?_push_of_some _ z) (Nat.le_refl _) (Heap.get?_push_size _ rfl) (fun v z => nomatch z)
    show wpAny _ _ (callWith pos (.ref hh.objs.size) [] (backTo pos (starEach (e :: es) X.env)) []) _ _ _
    rw [hst]
    have key : wpAny (model X.prog X.w) X.A (spliced (backTo pos (starEach (e :: es) X.env))) (fun vs s₁ => PySem.W.KxsAt "ValueError.__init__" hh.objs.size a s₁.heap ∧ wpAny (model X.prog X.w) X.A (call (.ref hh.objs.size) vs) (fun _ s' => SP X pins D0 .next s') X.xe s₁) X.xe ⟨hh.push (PySem.W.kxs_mw "ValueError.__init__" a), gg, dd, tt + 1, os⟩ :=
      thn (ha.run pos _ _ σ H _ I2 h) fun us s3 ⟨vs, H3, I3, rv, hl, ha3, h3⟩ => ⟨ClX.pin_at I3, mw_call T I3 ha3 (by rw [← rv.length]; exact Nat.le_trans hl (by decide)) fun s' I4 => ⟨σ, H3, ClX.unpin (ClX.unpin I4), h3⟩⟩
    rw [hst] at key
    exact PySem.W.kxs_callWith (i := "ValueError.__init__") (x := a) (by show (false || (backTo pos (starEach es X.env)).any (·.1)) = false; rw [hpl]; rfl) (Calls.evalArgs_plain key)⟩
def tOsts (K : PySem.W.Frag) : List (Str × Nat) → TS
  | [] => fun D σ H => D.nx σ H
  | (f, j) :: r => fun D σ H => tOst K f (tVar 0) (tVar j) { D with nx := tOsts K r D } σ H
theorem pss_ost_nil : PSs X [] (tOsts X.K []) := pss_nil
theorem pss_ost_cons {st : Stmt} {rest : List Stmt} {f : Str} {j : Nat} {r : List (Str × Nat)} (h1 : PS X st (tOst X.K f (tVar 0) (tVar j))) (h2 : PSs X rest (tOsts X.K r)) : PSs X (st :: rest) (tOsts X.K ((f, j) :: r)) := pss_cons h1 h2
def ostV (σ : St) (fl : List (Str × Nat)) : List (Str × V) := fl.map fun p => (p.1, ((σ[p.2]?).join).getD .non)
theorem read_more {K : PySem.W.Frag} {C a dx : Addr} (T : OexC K C) {D0 : Ends} : ∀ (fl : List (Str × Nat)) (fs : List (Str × V)) (σ : St) (H : Hp), (∀ p ∈ fl, PySem.W.findIn K (.ref C) p.1 = some none ∧ ∃ v, σ[p.2]? = some (some v)) → σ[0]? = some (some (.ref a)) → H a = some (exo a C (some dx)) → H dx = some (exd dx fs) → fs.length + fl.length ≤ 900 → dx ≠ a →
    D0.nx σ (upd H dx (exd dx ((ostV σ fl).reverse ++ fs))) → tOsts K fl D0 σ H
  | [], fs, σ, H, _, _, _, ed, _, _, q => by
    have e : upd H dx (exd dx fs) = H := by
      funext b
      by_cases hb : b = dx
      · rw [hb, upd_same, ed]
      · rw [upd_ne hb]
    have q' : D0.nx σ (upd H dx (exd dx fs)) := q
    rw [e] at q'
    exact q'
  | (f, j) :: fl, fs, σ, H, hp, h0, ea, ed, hl, hne, q => by
    obtain ⟨hno, v, hv⟩ := hp (f, j) (List.mem_cons_self ..)
    refine ⟨v, hv, .ref a, h0, a, C, rfl, T, hno, .inr ⟨dx, fs, ea, ed, by simp at hl; omega, ?_⟩⟩
    refine read_more T fl ((f, v) :: fs) σ _ (fun p hm => hp p (List.mem_cons_of_mem _ hm)) h0 (by rw [upd_ne (Ne.symm hne)]; exact ea) upd_same (by simp at hl ⊢; omega) hne ?_
    have e2 : (ostV σ ((f, j) :: fl)).reverse ++ fs = (ostV σ fl).reverse ++ (f, v) :: fs := by
      unfold ostV
      rw [List.map_cons, List.reverse_cons, hv]
      simp
    rw [e2] at q
    have e3 : upd (upd H dx (exd dx ((f, v) :: fs))) dx (exd dx ((ostV σ fl).reverse ++ (f, v) :: fs)) = upd H dx (exd dx ((ostV σ fl).reverse ++ (f, v) :: fs)) := by
      funext b
      by_cases hb : b = dx
      · rw [hb, upd_same, upd_same]
      · rw [upd_ne hb, upd_ne hb, upd_ne hb]
    rw [e3]
    exact q
theorem read_osts {K : PySem.W.Frag} {C a : Addr} (T : OexC K C) {D0 : Ends} {f : Str} {j : Nat} {fl : List (Str × Nat)} {σ : St} {H : Hp} (hp : ∀ p ∈ (f, j) :: fl, PySem.W.findIn K (.ref C) p.1 = some none ∧ ∃ v, σ[p.2]? = some (some v)) (h0 : σ[0]? = some (some (.ref a))) (ea : H a = some (exo a C none)) (hl : fl.length ≤ 800)
    (q : ∀ dx, H dx = none → dx ≠ a → D0.nx σ (upd (upd H a (exo a C (some dx))) dx (exd dx (ostV σ ((f, j) :: fl)).reverse))) : tOsts K ((f, j) :: fl) D0 σ H := by
  obtain ⟨hno, v, hv⟩ := hp (f, j) (List.mem_cons_self ..)
  refine ⟨v, hv, .ref a, h0, a, C, rfl, T, hno, .inl ⟨ea, fun dx hdx hne => ?_⟩⟩
  refine read_more T fl [(f, v)] σ _ (fun p hm => hp p (List.mem_cons_of_mem _ hm)) h0 upd_same (by rw [upd_ne hne]; exact upd_same) (by simp; omega) hne ?_
  have e2 : (ostV σ fl).reverse ++ [(f, v)] = (ostV σ ((f, j) :: fl)).reverse := by
    unfold ostV
    rw [List.map_cons, List.reverse_cons, hv]
    rfl
  rw [e2]
  have e3 : upd (upd (upd H dx (exd dx [(f, v)])) a (exo a C (some dx))) dx (exd dx (ostV σ ((f, j) :: fl)).reverse) = upd (upd H a (exo a C (some dx))) dx (exd dx (ostV σ ((f, j) :: fl)).reverse) := by
    funext b
    by_cases hb : b = dx
    · rw [hb, upd_same, upd_same]
    · rw [upd_ne hb, upd_ne hb]
      by_cases hb2 : b = a
      · rw [hb2, upd_same, upd_same]
      · rw [upd_ne hb2, upd_ne hb2, upd_ne hb]
  rw [e3]
  exact q dx hdx hne
end
theorem fn_sup {P : Program} {w : World} {K : PySem.W.Frag} {mg : Str → Option Value} {base : Heap} {k : Nat} {f cda cc D : Addr} {name qual : Str} {params : Arguments} {body : List Stmt} {scope : Scope} {dV kV doc pm ct oc : Value} {an od : Option Addr} {osl : Array (Option Value)} {N ps : List Str} {sp : Sp}
    (lk : K.lookup f = some ⟨oc, od, .func (PySem.W.ksFn name qual params body scope dV kV doc pm an (.ref cda) ct cc), osl⟩) (hcd : PySem.W.codeIn K (.ref cda) qual = true) (S : SupScope N ps scope) (hcell : CellK K cc D) (len : ∀ vs H Q E, sp vs H Q E → vs.length = ps.length)
    (hbody : ∀ (A : Around) (outer : List Env) (s : Shared) (H : Hp) (vs : List V) (Q : VK) (E : XK), Room k (A.deeper (envS qual scope s.heap.objs.size f (.ref cda) cc)) → sp vs H Q E →
      ∃ t, PSsAt (scx (L2N.CX P w) P w K mg base N qual scope f (.ref cda) cc A outer s H E) body body t ∧ t { nx := fun _ H' => Q .non H', rt := Q } (start N vs) H) :
    FnOk P w K mg base (L2N.CX P w) (k + 1) f (PySem.W.ksFn name qual params body scope dV kV doc pm an (.ref cda) ct cc) ps sp := by
  refine ⟨len, fun A outer s H args us vs Q E hr e0 hb r hsp => ?_⟩
  have hl := len _ _ _ _ hsp
  have KX : K.In s.heap := e0.mod.kin.keeps fun b o e => (e0.bs b o e).1
  have lim : s.heap.NoLimit := e0.mod.nolimit.keeps fun b o e => (e0.bs b o e).1
  obtain ⟨cl, cld, csl, lc⟩ := hcell
  obtain ⟨c2, hcn⟩ := e0.bs _ _ (e0.mod.kin _ _ lc)
  refine codeAny_call_function hr.depth (KX _ _ lk) rfl S.co S.gen rfl (PySem.W.codeRec_of KX hcd) (hb _ _ _ _ ?_)
  refine InCF.env (s := s) (qual := qual) S ⟨_, ⟨_, c2, rfl⟩⟩ (fun y hy => S.par y.1 (List.of_mem_zip hy).1) fun s1 cm x => ?_
  refine ⟨lim.keeps x.toInCall.keep, PySem.ks_codeAny_funcAt ?_⟩
  have I : Inv (scx (L2N.CX P w) P w K mg base N qual scope f (.ref cda) cc A outer s H E) [] (start N vs) H s1 := inv_startS S hr.hd e0 hl r hcn (Heap.lt_size c2) x
  obtain ⟨t, ht, hq⟩ := hbody A outer s H vs Q E (hr.deeper _) hsp
  refine PySem.ks_wpAt_mono (ht.run [] s1 _ H _ I hq) (fun fl s' hs => ?_) fun e s' hs => hs
  have fin : ∀ {σ' : St} {H' : Hp} {v' : V} {u' : Value}, Inv (scx (L2N.CX P w) P w K mg base N qual scope f (.ref cda) cc A outer s H E) [] σ' H' s' → RelV v' u' → Q v' H' → CE outer P w H s Q u' s' :=
    fun {σ' H' v' u'} J rv' q => ⟨v', H', J.os, J.bare, J.base, J.hok, rv', q⟩
  cases fl with
  | ret u' =>
    obtain ⟨v', σ', H', J, rv', q⟩ := hs
    exact fin J rv' q
  | next =>
    obtain ⟨σ', H', J, q⟩ := hs
    exact fin (v' := V.non) (u' := Value.none) J rfl q
  | brk =>
    obtain ⟨_, _, _, q⟩ := hs
    exact False.elim q
  | cont =>
    obtain ⟨_, _, _, q⟩ := hs
    exact False.elim q
end L2
set_option maxRecDepth 100000
set_option maxHeartbeats 2000000
namespace L2
open PySem PySem.Spec PyProof.Rows
section
variable {X : Cx}
theorem mk_endN {pins : List (Addr × Obj)} {σ : St} {H1 H2 : Hp} {Q : XK} {hp hp2 h2 : Heap} {g1 g2 : Array GenState} {d1 d2 : Drawn} {t1 t2 : Nat} {os1 os2 : OsState} {a C : Addr} (T : Raises X (.ref C)) (I1 : Inv X pins σ H1 ⟨hp, g1, d1, t1, os1⟩)
    (ha : hp.objs.size ≤ a) (k : ∀ b o, hp.get? b = some o → hp2.get? b = some o) (un : Un (frs X.stack) [] (upd H1 a (exo a C none)) H2 hp2 h2) (hok : HOk X.prog X.w H2 h2) (ho : os2 = os1) (hb : AllBare g2)
    (ea : H2 = upd H1 a (exo a C none)) (q : Q (.ref C) none H1) : L2N.MkP X pins σ Q (.ref a) ⟨h2, g2, d2, t2, os2⟩ := by
  subst ea
  obtain ⟨t0, hoe⟩ := exo_at hok (upd_same (H := H1) (a := a) (o := exo a C none))
  have hn : H1 a = none := I1.hok.fresh ha
  obtain ⟨G, g1', g2'⟩ := restrict h2 fun b => decide (b ≠ a)
  have gk : ∀ b, b ≠ a → G.get? b = h2.get? b := fun b hb => g1' b (decide_eq_true hb)
  have ge : G.get? a = none := g2' a (by simp)
  have nha : ∀ {b : Addr} {o : Obj}, hp.get? b = some o → b ≠ a := fun {b o} z => Nat.ne_of_lt (Nat.lt_of_lt_of_le (Heap.lt_size z) ha)
  have up : ∀ {b : Addr}, b ≠ a → H1 b = none → upd H1 a (exo a C none) b = none := fun {b} hb n => by rw [upd_ne hb]; exact n
  have U : Un (frs X.stack) [] H1 H1 hp G := {
    keep := fun b o z n hf hx => by
      rw [gk b (nha z)]
      exact un.keep b o (k b o z) (up (nha z) n) hf hx
    slot := fun b o z n hf hx => by
      rw [gk b (nha z)]
      exact un.slot b o (k b o z) (up (nha z) n) hf hx
    free := fun b o z n hx => n
    there := fun b o z hx => by
      rw [gk b (nha z)]
      exact un.there b o (k b o z) hx
    tups := fun b xs z => z
    frzs := fun b o v z => z
    tbls := fun b ps z => ⟨#[], by simpa using z⟩ }
  have hok3 : HOk X.prog X.w H1 G := fun b o z => by
    have hba : b ≠ a := fun e => by rw [e, hn] at z; cases z
    have noa : ∀ {c : Addr}, upd H1 a (exo a C none) c = some (.own b) → c ≠ a := fun {c} hc e => by
      subst e
      rw [upd_same] at hc
      exact exo_own (Option.some.inj hc)
    have z' : upd H1 a (exo a C none) b = some o := by rw [upd_ne hba]; exact z
    exact (hok b o z').stay (fun c v hc y => by
        have hca : c ≠ a := by
          rcases hc with hc | hc
          · rw [hc]; exact hba
          · exact noa hc
        rw [gk c hca]
        exact y)
      (fun c hc => by
        have := noa hc
        rw [upd_ne this] at hc
        exact hc) (fun c xs hc => by
        have : c ≠ a := fun e => by
          subst e
          rw [upd_same] at hc
          exact exo_tup (Option.some.inj hc)
        rw [upd_ne this] at hc
        exact hc)
  have J : Inv X pins σ H1 ⟨G, g2, d2, t2, os2⟩ := I1.call' (ch := []) ho U hok3 hb (fun b z => absurd z (by simp))
  have kG : ∀ b o, G.get? b = some o → h2.get? b = some o := fun b o z => by
    by_cases hba : b = a
    · rw [hba, ge] at z; cases z
    · exact (gk b hba).symm.trans z
  exact ⟨a, _, _, ⟨G, g2, d2, t2, os2⟩, _, .ref C, none, rfl, J, kG, ge, hoe, ⟨rfl, rfl, fun vs hv => by cases hv; rfl⟩, rfl, rfl, hn, rfl, hb, T, q⟩
theorem mk_endZ {pins : List (Addr × Obj)} {σ : St} {H1 H2 : Hp} {Q : XK} {hp hp2 h2 : Heap} {g1 g2 : Array GenState} {d1 d2 : Drawn} {t1 t2 : Nat} {os1 os2 : OsState} {a C d : Addr} {fs : List (Str × V)} (T : Raises X (.ref C)) (I1 : Inv X pins σ H1 ⟨hp, g1, d1, t1, os1⟩)
    (ha : hp.objs.size ≤ a) (k : ∀ b o, hp.get? b = some o → hp2.get? b = some o) (un : Un (frs X.stack) [] (upd H1 a (exo a C none)) H2 hp2 h2) (hok : HOk X.prog X.w H2 h2) (ho : os2 = os1) (hb : AllBare g2)
    (ea : H2 a = some (exo a C (some d))) (ed : H2 d = some (exd d fs)) (hd1 : H1 d = none) (q : Q (.ref C) (some d) (upd (del H2 a) d (.xd fs))) : L2N.MkP X pins σ Q (.ref a) ⟨h2, g2, d2, t2, os2⟩ := by
  obtain ⟨t0, G, J, kG, ge, hoe, na⟩ := mk_end0 (d2 := d2) (t2 := t2) I1 ha k un hok ho hb ea ed hd1
  exact ⟨a, _, _, ⟨G, g2, d2, t2, os2⟩, _, .ref C, some d, rfl, J, kG, ge, hoe, ⟨rfl, rfl, fun vs hv => by cases hv; rfl⟩, rfl, rfl, na, rfl, hb, T, q⟩
theorem mk_core {CX : CXT} {C fI : Addr} {k : Nat} {fd : FuncData} {ps : List Str} {sp : Sp} {pins : List (Addr × Obj)} {σ : St} {H1 : Hp} {s1 : Shared} {Q : XK} {us : List Value} {vs : List V} (T : OexC X.K C) (iC : PySem.W.findIn X.K (.ref C) "__init__" = some (some (.ref fI))) (tI : PySem.W.typeIn X.K (.ref fI) = some (.type "function"))
    (F1 : FnOk X.prog X.w X.K X.mg X.base CX k fI fd ps sp) (hr : Room (k + 1) X.A) (hb : Binds X.K fd ps []) (hx : Passes CX X (fun _ _ _ => False)) (I1 : Inv X pins σ H1 s1) (r1 : Vals vs us) (hz : vs.length ≤ 1000)
    (q1 : ∀ a, H1 a = none → sp (.ref a :: vs) (upd H1 a (exo a C none)) (fun v H2 => v = .non ∧ ((∃ (d : Addr) (fs : List (Str × V)), H2 a = some (exo a C (some d)) ∧ H2 d = some (exd d fs) ∧ H1 d = none ∧ Q (.ref C) (some d) (upd (del H2 a) d (.xd fs))) ∨ (H2 = upd H1 a (exo a C none) ∧ Q (.ref C) none H1))) (fun _ _ _ => False)) :
    wpAny (model X.prog X.w) X.A (call (.ref C) us) (L2N.MkP X pins σ Q) X.xe s1 := by
  obtain ⟨nm, q, N, bs, bm, sn, sub, ab, col, dd, k0, k1, k2, k3, k5, hC, hbm⟩ := T.cls
  obtain ⟨hp, g, dr, tk, os⟩ := s1
  have hsz : hp.objs.size ≤ hp.objs.size + 1 := Nat.le_succ _
  have hn : H1 (hp.objs.size + 1) = none := I1.hok.fresh hsz
  have hq := q1 (hp.objs.size + 1) hn
  have kk : ∀ b o, hp.get? b = some o → ((hp.push (PySem.W.kdv_tup us)).push (PySem.HandSPX.excO C hp.objs.size)).get? b = some o := fun b o e => Heap.get?_push_of_some _ (Heap.get?_push_of_some _ e)
  have hget : ((hp.push (PySem.W.kdv_tup us)).push (PySem.HandSPX.excO C hp.objs.size)).get? (hp.objs.size + 1) = some (PySem.HandSPX.excO C hp.objs.size) := by heap_get
  have I2 : Inv X pins σ (upd H1 (hp.objs.size + 1) (exo (hp.objs.size + 1) C none)) ⟨(hp.push (PySem.W.kdv_tup us)).push (PySem.HandSPX.excO C hp.objs.size), g, dr, tk, os⟩ :=
    I1.laid (t' := tk) (a := hp.objs.size + 1) (o := exo (hp.objs.size + 1) C none) (h' := (hp.push (PySem.W.kdv_tup us)).push (PySem.HandSPX.excO C hp.objs.size)) kk hsz (exo_ok hget)
  have r2 : Vals (V.ref (hp.objs.size + 1) :: vs) (Value.ref (hp.objs.size + 1) :: us) := .cons rfl r1
  have hl : (Value.ref (hp.objs.size + 1) :: us ++ []).length = ps.length := by
    have e := r2.length
    rw [F1.len _ _ _ _ hq] at e
    rw [List.append_nil]
    exact e.symm
  have hus : us.length ≤ sizeLine := by
    rw [← Paired.length r1, sizeLine_eq]
    omega
  have hbb := hb _ (Value.ref (hp.objs.size + 1) :: us) I2.kIn hl
  rw [List.append_nil] at hbb
  refine wpAny_call (PySem.HandSPX.call_own F.excBase_ValueError (fun Y => PySem.HandSPX.refsVE_contains Y bm hbm) (I1.kIn _ _ hC) (PySem.W.looks_findIn I1.kIn iC) (fun self => PySem.W.bind_fn I1.kIn self tI) hus
    (codeAny_mono (F1.run _ X.stack _ _ ⟨Value.ref (hp.objs.size + 1) :: us, []⟩ (Value.ref (hp.objs.size + 1) :: us) _ _ (fun _ _ _ => False) (hr.make C us []) (I2.env0.make C us []) hbb r2 hq) fun r s' hq' => ?_))
  cases r with
  | error er => exact hx pins σ _ _ er s' I2 hq'
  | ok fl =>
    cases fl with
    | ret u =>
      obtain ⟨v, H2, os2, bare2, un2, hok2, rv, ev, q2⟩ := hq'
      subst ev
      obtain ⟨h2, g2, d2, t2, os'⟩ := s'
      rcases q2 with ⟨d, fs, ea, ed, hd1, q2⟩ | ⟨ea, q2⟩
      · exact ⟨rv, mk_endZ (raises_own T.exC T.tyC) I1 hsz kk un2 hok2 os2 bare2 ea ed hd1 q2⟩
      · exact ⟨rv, mk_endN (raises_own T.exC T.tyC) I1 hsz kk un2 hok2 os2 bare2 ea q2⟩
    | next => exact False.elim hq'
    | brk => exact False.elim hq'
    | cont => exact False.elim hq'
end
def spE (C : Addr) (N ps : List Str) (fl : List (Str × Nat)) : Sp := fun vs H Q _ => vs.length = ps.length ∧ ∃ a ws, vs = .ref a :: ws ∧ H a = some (exo a C none) ∧ (fl = [] → Q .non H) ∧
  (fl ≠ [] → ∀ dx, H dx = none → dx ≠ a → Q .non (upd (upd H a (exo a C (some dx))) dx (exd dx (ostV (start N vs) fl).reverse)))
end L2
namespace L2
open PySem PySem.Spec PyProof.Rows
theorem exc_fn {g : FI.Gm} {k : Nat} {f cda cc C : Addr} {slf : Str} {name qual : Str} {params : Arguments} {scope : Scope} {dV kV doc pm ct oc : Value} {an od : Option Addr} {osl : Array (Option Value)} {N ps : List Str} {fl : List (Str × Nat)} {txt : Str} {e : Expr} {es : List Expr} {p0 p1 apos pos spos : Pos} {rest : List Stmt}
    (lk : g.K.lookup f = some ⟨oc, od, .func (PySem.W.ksFn name qual params (.Expr (.Call (.Attribute (.Call (.Name "super" p0) [] [] p1) "__init__" apos) (e :: es) [] pos) spos :: rest) scope dV kV doc pm an (.ref cda) ct cc), osl⟩) (hcd : PySem.W.codeIn g.K (.ref cda) qual = true) (S : SupScope N ps scope)
    (T : OexC g.K C) (M : SupE g.K C C) (SF : SupF g.P g.K g.mg f cda cc C slf)
    (hmsg : ∀ X, FI.XIs g { N := N, sc := scope, k := k, ow := fun x => x != clsN } X → PA X (e :: es) (fun σ H K => K [.str txt] H))
    (hrest : ∀ X, FI.XIs g { N := N, sc := scope, k := k, ow := fun x => x != clsN } X → PSs X rest (tOsts X.K fl)) (hfl : ∀ p ∈ fl, PySem.W.findIn g.K (.ref C) p.1 = some none ∧ p.2 < ps.length) (hsmall : fl.length ≤ 800)
    (hp0 : N[0]? = some slf) (hks : scope.names.lookup ("super" : Str) = some .globalImplicit) (hself : scope.names.lookup slf = some .local) (hcd' : (slf == ("__classdict__" : Str)) = false)
    (hsw : ∀ env, swapsWith (.Call (.Attribute (.Call (.Name "super" p0) [] [] p1) "__init__" apos) (e :: es) [] pos) none spos.line env = pure false)
    (hst : ∀ env, starEach (e :: es) env = (false, eval e env) :: starEach es env) (hpl : ∀ env, (backTo pos (starEach es env)).any (·.1) = false)
    (hev : ∀ env, ∃ pl, eval (.Call (.Attribute (.Call (.Name "super" p0) [] [] p1) "__init__" apos) (e :: es) [] pos) env = (do
      let ov ← attributeBase (.Call (.Name "super" p0) [] [] p1) "__init__" env (eval (.Call (.Name "super" p0) [] [] p1) env)
      standAt apos.atName
      let (f, first) ← holding [ov] (getMethod ov "__init__" pl)
      callWith pos f first (backTo pos (starEach (e :: es) env)) [])) (h0 : g.hx = none := by rfl) :
    FnOk g.P g.w g.K g.mg g.base (L2N.CX g.P g.w) (k + 1) f (PySem.W.ksFn name qual params (.Expr (.Call (.Attribute (.Call (.Name "super" p0) [] [] p1) "__init__" apos) (e :: es) [] pos) spos :: rest) scope dV kV doc pm an (.ref cda) ct cc) ps (spE C N ps fl) := by
  refine fn_sup lk hcd S SF.cell (fun vs H Q E h => h.1) fun A outer s H vs Q E hr h => ?_
  obtain ⟨hl, a, ws, rfl, ha, q0, q1⟩ := h
  have X1 : FI.XIs g { N := N, sc := scope, k := k, ow := fun x => x != clsN } (scx (L2N.CX g.P g.w) g.P g.w g.K g.mg g.base N qual scope f (.ref cda) cc A outer s H E) :=
    ⟨rfl, rfl, rfl, rfl, rfl, rfl, rfl, S.nd, fun _ => rfl, fun _ => hr, hr.un, hr.dp, (fun q e => by rw [h0] at e; cases e), passes_of rfl, fun x h => .inl h, fun _ => ⟨rfl, rfl⟩, fun z => nomatch z⟩
  have hpl' : ps.length ≤ N.length := by have := congrArg List.length S.pre; rw [List.length_take] at this; omega
  have hst0 : (start N (.ref a :: ws))[0]? = some (some (.ref a)) := rfl
  refine ⟨_, pssAt_cons (psat_superE (i := 0) ⟨name, qual, params, _, scope, dV, kV, doc, pm, an, ct, oc, od, osl, _, lk, rfl⟩ SF M T (hmsg _ X1) hks S.cls ⟨_, rfl⟩ S.ncl hp0 hself hcd' (hsw _) (hst _) (hpl _) (hev _)) (hrest _ X1).at, ?_⟩
  refine ⟨a, hst0, ha, by show 1 ≤ 1000; decide, ha, ?_⟩
  cases fl with
  | nil => exact q0 rfl
  | cons p fl =>
    obtain ⟨f0, j0⟩ := p
    refine read_osts T (fun p hp => ⟨(hfl p hp).1, ?_⟩) hst0 ha (by simp at hsmall; omega) fun dx hdx hne => q1 (by simp) dx hdx hne
    have hj := (hfl p hp).2
    have hlt : p.2 < (V.ref a :: ws).length := by rw [hl]; exact hj
    unfold start
    rw [List.getElem?_append_left (by simpa using hlt), List.getElem?_map, List.getElem?_eq_getElem hlt]
    exact ⟨_, rfl⟩
end L2
namespace FI
open PySem L2 PySem.Spec PyProof.Rows
structure ExcOk (g : Gm) (k : Nat) (x : Str) (c np : Nat) (fln : List (Nat × Nat)) : Prop where
  T : OexC g.K (g.cls c)
  mg : g.mg x = some (.ref (g.cls c))
  fn : ∃ fI fd ps N, PySem.W.findIn g.K (.ref (g.cls c)) "__init__" = some (some (.ref fI)) ∧ PySem.W.typeIn g.K (.ref fI) = some (.type "function") ∧ Binds g.K fd ps [] ∧ ps.length = np + 1 ∧ np + 1 ≤ N.length ∧
    FnOk g.P g.w g.K g.mg g.base (L2N.CX g.P g.w) k fI fd ps (spE (g.cls c) N ps (fln.map fun p => (g.fld p.1, p.2)))
  fl : ∀ p ∈ fln, p.1 < g.nf ∧ 1 ≤ p.2 ∧ p.2 ≤ np
def mkEx (c : Nat) (fln : List (Nat × Nat)) (ds : List D) : Exc := ⟨c, (fln.map fun p => (p.1, ds.getD (p.2 - 1) .non)).reverse⟩
def sRaise (c np : Nat) (fln : List (Nat × Nat)) (fa : SA) : SS := fun gs G => match fa gs G with
  | some (.val ds, G1) => if ds.length = np ∧ np ≤ 900 then some (.ex (mkEx c fln ds), gs, G1) else none
  | _ => none
section
variable {g : Gm} {c0 : Sc} {k c np : Nat} {x : Str} {fln : List (Nat × Nat)} {e : Expr} {es : List Expr} {fa : SA} {p pos rpos : Pos}
theorem rel_fields {ι : List Addr} {H : Hp} {N : List Str} {a : Addr} {ds : List D} {ws : List V} (r : RelDs g ι H ds ws) : ∀ (fl : List (Nat × Nat)), (∀ q ∈ fl, q.1 < g.nf ∧ 1 ≤ q.2 ∧ q.2 ≤ ds.length) →
    RelFs g ι H (fl.map fun q => (q.1, ds.getD (q.2 - 1) .non)) (ostV (L2.start N (.ref a :: ws)) (fl.map fun q => (g.fld q.1, q.2)))
  | [], _ => .nil
  | (n, j) :: fl, h => by
    obtain ⟨h1, h2, h3⟩ := h (n, j) (List.mem_cons_self ..)
    have h2' : 1 ≤ j := h2
    have h3' : j ≤ ds.length := h3
    refine .cons h1 ?_ (rel_fields r fl fun q hq => h q (List.mem_cons_of_mem _ hq))
    have hlt : j - 1 < ds.length := by omega
    obtain ⟨v, hv, rv⟩ := r.get (i := j - 1) (d := ds[j - 1]) (List.getElem?_eq_getElem hlt)
    have e1 : ds.getD (j - 1) .non = ds[j - 1] := by rw [List.getD_eq_getElem?_getD, List.getElem?_eq_getElem hlt]; rfl
    have e2 : (L2.start N (.ref a :: ws))[j]? = some (some v) := by
      unfold L2.start
      obtain ⟨j', rfl⟩ : ∃ j', j = j' + 1 := ⟨j - 1, by omega⟩
      have hv' : ws[j']? = some v := by simpa using hv
      have hl2 : j' < ws.length := (List.getElem?_eq_some_iff.mp hv').1
      rw [List.getElem?_append_left (by simp; omega), List.getElem?_map, List.getElem?_cons_succ, hv']
      rfl
    show RelD g ι H (ds.getD (j - 1) .non) (((L2.start N (.ref a :: ws))[j]?).join.getD .non)
    rw [e1, e2]
    exact rv
theorem RelFs.rev {ι : List Addr} {H : Hp} {r : List (Nat × D)} {q : List (Str × V)} (h : RelFs g ι H r q) : RelFs g ι H r.reverse q.reverse := by
  have app : ∀ {r r' : List (Nat × D)} {q q' : List (Str × V)}, RelFs g ι H r q → RelFs g ι H r' q' → RelFs g ι H (r ++ r') (q ++ q') := by
    intro r r' q q' h h'
    induction h with
    | nil => exact h'
    | cons hk a _ ih => exact .cons hk a ih
  induction h with
  | nil => exact .nil
  | cons hk a _ ih =>
    rw [List.reverse_cons, List.reverse_cons]
    exact app ih (.cons hk a .nil)
theorem stp_exc {ι : List Addr} {H : Hp} {a dx : Addr} {fs : List (Str × V)} {C : Addr} (ha : H a = none) (hd : H dx = none) : Stp g ι H ι (upd (del (upd (upd H a (exo a C (some dx))) dx (exd dx fs)) a) dx (.xd fs)) ∧ ∀ b, H b ≠ none → upd (del (upd (upd H a (exo a C (some dx))) dx (exd dx fs)) a) dx (.xd fs) b = H b := by
  have key : ∀ b, H b ≠ none → upd (del (upd (upd H a (exo a C (some dx))) dx (exd dx fs)) a) dx (.xd fs) b = H b := fun b hb => by
    have h1 : b ≠ dx := fun e => hb (by rw [e]; exact hd)
    have h2 : b ≠ a := fun e => hb (by rw [e]; exact ha)
    rw [upd_ne h1, del_ne h2, upd_ne h1, upd_ne h2]
  exact ⟨⟨⟨[], by simp⟩, fun b xs h => by rw [key b (by rw [h]; simp)]; exact h, fun b o u h => by rw [key b (by rw [h]; simp)]; exact h, fun b fs h => by rw [key b (by rw [h]; simp)]; exact h⟩, key⟩
theorem exc_read {ι : List Addr} {G : Hh} {H : Hp} {W : WX} {σ : L2.St} {ds : List D} {vs : List V} (E : ExcOk g k x c np fln) (sh : SimH g ι G H) (r : RelDs g ι H ds vs) (hl : ds.length = np) (h : ∀ ι' H' cv d, Stp g ι H ι' H' → SimH g ι' G H' → RelX g ι' H' (mkEx c fln ds) cv d → W cv d σ H') {N ps : List Str} (hps : ps.length = np + 1) (a : Addr) (ha : H a = none) :
    spE (g.cls c) N ps (fln.map fun p => (g.fld p.1, p.2)) (.ref a :: vs) (upd H a (exo a (g.cls c) none)) (fun v H2 => v = .non ∧ ((∃ (d : Addr) (fs : List (Str × V)), H2 a = some (exo a (g.cls c) (some d)) ∧ H2 d = some (exd d fs) ∧ H d = none ∧ W (.ref (g.cls c)) (some d) σ (upd (del H2 a) d (.xd fs))) ∨ (H2 = upd H a (exo a (g.cls c) none) ∧ W (.ref (g.cls c)) none σ H))) (fun _ _ _ => False) := by
  refine ⟨by rw [hps, ← hl, r.length]; rfl, a, vs, rfl, upd_same, fun e => ⟨rfl, .inr ⟨rfl, ?_⟩⟩, fun e dx hdx hne => ⟨rfl, .inl ⟨dx, _, ?_, upd_same, ?_, ?_⟩⟩⟩
  · have hf : fln = [] := by simpa using e
    exact h ι H _ _ (.refl _ _ _) sh ⟨rfl, .inl ⟨by rw [hf]; rfl, rfl⟩⟩
  · rw [upd_ne (Ne.symm hne)]; exact upd_same
  · rw [upd_ne hne] at hdx; exact hdx
  · have hdx' : H dx = none := by rw [upd_ne hne] at hdx; exact hdx
    have e1 : upd (upd H a (exo a (g.cls c) none)) a (exo a (g.cls c) (some dx)) = upd H a (exo a (g.cls c) (some dx)) := by
      funext b
      by_cases hb : b = a
      · rw [hb, upd_same, upd_same]
      · rw [upd_ne hb, upd_ne hb, upd_ne hb]
    rw [e1]
    obtain ⟨st, key⟩ := stp_exc (g := g) (ι := ι) (C := g.cls c) (fs := (ostV (L2.start N (.ref a :: vs)) (fln.map fun p => (g.fld p.1, p.2))).reverse) ha hdx'
    refine h ι _ _ _ st (sh.keep st fun b hb => key b fun z => sh.fresh z hb) ⟨rfl, .inr ⟨dx, _, rfl, upd_same, ?_⟩⟩
    have rf := rel_fields (N := N) (a := a) r fln (fun q hq => by rw [hl]; exact E.fl q hq)
    exact (rf.rev).mono st
theorem raise_core {X : Cx} (i : XIs g c0 X) (E : ExcOk g k x c np fln) (hk : k + 1 ≤ c0.k ∧ c0.hot = false) {pins : List (Addr × Obj)} {σ : L2.St} {s1 : Shared} {us : List Value} {vs : List V} {ds : List D} {ι1 : List Addr} {G1 : Hh} {H1 : Hp} {Q : XK} (I1 : Inv X pins σ H1 s1) (r1 : Vals vs us)
    (sh1 : SimH g ι1 G1 H1) (rd1 : RelDs g ι1 H1 ds vs) (hl : ds.length = np) (h900 : np ≤ 900) (hx : ∀ ι' H' cv d, Stp g ι1 H1 ι' H' → SimH g ι' G1 H' → RelX g ι' H' (mkEx c fln ds) cv d → Q cv d H') : wpAny (model X.prog X.w) X.A (call (.ref (g.cls c)) us) (L2N.MkP X pins σ Q) X.xe s1 := by
  obtain ⟨fI, fd, ps, N, iC, tI, hb, hps, hN, F1⟩ := E.fn
  rw [← i.K] at iC tI hb
  have T : OexC X.K (g.cls c) := by rw [i.K]; exact E.T
  rw [← i.P, ← i.w, ← i.K, ← i.mg, ← i.base] at F1
  exact mk_core T iC tI F1 ((i.room hk.2).mono hk.1) hb passN I1 r1 (by rw [← rd1.length, hl]; omega) fun a ha => by
    have z := exc_read (W := fun cv d _ H' => Q cv d H') (σ := σ) E sh1 rd1 hl hx hps (N := N) a ha
    exact z
theorem fs_raise (E : ExcOk g k x c np fln) (hk : k + 1 ≤ c0.k ∧ c0.hot = false) (ha : FA g c0 (e :: es) fa) (hg : GlS c0 x := by rfl) (hdb : (x == ("__debug__" : Str)) = false := by decide) (he : ∀ env, starEach (e :: es) env = (false, eval e env) :: starEach es env := by intro _; rfl)
    (hpl : ∀ env, (backTo pos (starEach es env)).any (·.1) = false := by intro _; rfl) : FS g c0 (.Raise (some (.Call (.Name x p) (e :: es) [] pos)) none rpos) (sRaise c np fln fa) := ⟨fun X i W t => by
  have hm' : X.mg x = some (.ref (g.cls c)) := by rw [i.mg]; exact E.mg
  have T : OexC X.K (g.cls c) := by rw [i.K]; exact E.T
  have mk : L2N.PMk X (.Call (.Name x p) (e :: es) [] pos) (fun σ H Q => tA g (fun _ _ _ _ => False) fa σ H fun vs H1 => ∃ ι1 ds G1, SimH g ι1 G1 H1 ∧ RelDs g ι1 H1 ds vs ∧ ds.length = np ∧ np ≤ 900 ∧ ∀ ι' H' cv d, Stp g ι1 H1 ι' H' → SimH g ι' G1 H' → RelX g ι' H' (mkEx c fln ds) cv d → Q cv d H') := by
    intro pins s σ H Q I h
    refine wpAny_Call_Name_kw (ld_glob I (hg.gl i) hm' ?_ hdb)
    refine PySem.W.callWith_K (h₀ := X.base) I.ok.mod.kin T.kC (thn ((ha.run X i _ takesN0).run pos pins s σ H _ I h) fun us s1 ⟨vs, H1, I1, r1, ι1, ds, G1, sh1, rd1, hl, h900, hx⟩ => ⟨I1.kIn, ?_⟩) (he _) (hpl _)
    exact raise_core i E hk I1 r1 sh1 rd1 hl h900 hx
  refine ps_imp (L2N.ps_raise (i.calm hk.2) t mk) fun D0 σ H ⟨ι, gs, G, ss, sh, q⟩ => ?_
  unfold sRaise at q
  cases e1 : fa gs G with
  | none => rw [e1] at q; exact q.no
  | some p1 =>
    obtain ⟨r1, G1⟩ := p1
    cases r1 with
    | exc _ => rw [e1] at q; exact q.no
    | val ds =>
      rw [e1] at q
      dsimp only at q
      by_cases hc : ds.length = np ∧ np ≤ 900
      · rw [if_pos hc] at q
        refine ⟨ι, gs, G, ss, sh, .val ds, G1, e1, fun ι1 H1 s1 t1 vs rs => ⟨ι1, ds, G1, t1, rs, hc.1, hc.2, fun ι' H' cv d st sm rx => ?_⟩⟩
        exact q.at (σ' := σ) (s1.trans st) sm (ss.mono (s1.trans st)) cv d rx
      · rw [if_neg hc] at q; exact q.no⟩
end
end FI
set_option maxRecDepth 100000
set_option maxHeartbeats 2000000
namespace FI
open PySem L2 PySem.Spec PyProof.Rows
abbrev Hx := Nat × Addr × Value × Option Addr × Exc
abbrev Gm.han (g : Gm) (q : Hx) : Gm := { g with hx := some q }
abbrev Sc.hotted (c : Sc) : Sc := { c with hot := true }
section
variable {g : Gm} {q : Hx} {ι : List Addr} {H : Hp}
mutual
theorem RelD.toH : ∀ {d : D} {v : V}, RelD g ι H d v → RelD (g.han q) ι H d v
  | _, _, .non => .non
  | _, _, .bl b => .bl b
  | _, _, .int i => .int i
  | _, _, .str x => .str x
  | _, _, .tup h r => .tup h (RelDs.toH r)
  | _, _, .kt h r => .kt h (RelDs.toH r)
  | _, _, .kl h r => .kl h (RelDs.toH r)
  | _, _, .ref h => .ref h
  | _, _, .glb h => .glb h
  | _, _, .ty n => .ty n
  | _, _, .xo h1 h2 h0 h3 h4 h5 h6 r => .xo (g := g.han q) h1 h2 h0 h3 h4 h5 h6 (RelDs.toH r)
theorem RelDs.toH : ∀ {ds : List D} {vs : List V}, RelDs g ι H ds vs → RelDs (g.han q) ι H ds vs
  | _, _, .nil => .nil
  | _, _, .cons a b => .cons (RelD.toH a) (RelDs.toH b)
end
mutual
theorem RelD.ofH : ∀ {d : D} {v : V}, RelD (g.han q) ι H d v → RelD g ι H d v
  | _, _, .non => .non
  | _, _, .bl b => .bl b
  | _, _, .int i => .int i
  | _, _, .str x => .str x
  | _, _, .tup h r => .tup h (RelDs.ofH r)
  | _, _, .kt h r => .kt h (RelDs.ofH r)
  | _, _, .kl h r => .kl h (RelDs.ofH r)
  | _, _, .ref h => .ref h
  | _, _, .glb h => .glb h
  | _, _, .ty n => .ty n
  | _, _, .xo h1 h2 h0 h3 h4 h5 h6 r => .xo (g := g) h1 h2 h0 h3 h4 h5 h6 (RelDs.ofH r)
theorem RelDs.ofH : ∀ {ds : List D} {vs : List V}, RelDs (g.han q) ι H ds vs → RelDs g ι H ds vs
  | _, _, .nil => .nil
  | _, _, .cons a b => .cons (RelD.ofH a) (RelDs.ofH b)
end
theorem RelKv.toH {κ : Type} {r : List (κ × D)} {p : List (κ × V)} (h : RelKv g ι H r p) : RelKv (g.han q) ι H r p := by
  induction h with
  | nil => exact .nil
  | cons a _ ih => exact .cons a.toH ih
theorem RelKv.ofH {κ : Type} {r : List (κ × D)} {p : List (κ × V)} (h : RelKv (g.han q) ι H r p) : RelKv g ι H r p := by
  induction h with
  | nil => exact .nil
  | cons a _ ih => exact .cons a.ofH ih
theorem RelFs.toH {r : List (Nat × D)} {p : List (Str × V)} (h : RelFs g ι H r p) : RelFs (g.han q) ι H r p := by
  induction h with
  | nil => exact .nil
  | cons hk a _ ih => exact RelFs.cons (g := g.han q) hk a.toH ih
theorem RelFs.ofH {r : List (Nat × D)} {p : List (Str × V)} (h : RelFs (g.han q) ι H r p) : RelFs g ι H r p := by
  induction h with
  | nil => exact .nil
  | cons hk a _ ih => exact RelFs.cons (g := g) hk a.ofH ih
theorem RelO.toH {o : O} {u : HO} (h : RelO g ι H o u) : RelO (g.han q) ι H o u := by
  cases h with
  | lst a => exact .lst a.toH
  | dK a => exact .dK a.toH
  | dT a => exact .dT a.toH
  | dF a => exact .dF a.toH
  | ins a => exact RelO.ins (g := g.han q) a.toH
theorem RelO.ofH {o : O} {u : HO} (h : RelO (g.han q) ι H o u) : RelO g ι H o u := by
  cases h with
  | lst a => exact .lst a.ofH
  | dK a => exact .dK a.ofH
  | dT a => exact .dT a.ofH
  | dF a => exact .dF a.ofH
  | ins a => exact RelO.ins (g := g) a.ofH
theorem SimH.toH {G : Hh} (s : SimH g ι G H) : SimH (g.han q) ι G H := ⟨s.len, s.nd, fun n o a h1 h2 => let ⟨u, e, r⟩ := s.at_ n o a h1 h2; ⟨u, e, r.toH⟩⟩
theorem SimH.ofH {G : Hh} (s : SimH (g.han q) ι G H) : SimH g ι G H := ⟨s.len, s.nd, fun n o a h1 h2 => let ⟨u, e, r⟩ := s.at_ n o a h1 h2; ⟨u, e, r.ofH⟩⟩
theorem RelX.toH {x : Exc} {c : Value} {d : Option Addr} (h : RelX g ι H x c d) : RelX (g.han q) ι H x c d := by
  obtain ⟨h1, h2⟩ := h
  refine ⟨h1, ?_⟩
  rcases h2 with h2 | ⟨dd, vfs, e, h3, h4⟩
  · exact .inl h2
  · exact .inr ⟨dd, vfs, e, h3, h4.toH⟩
theorem Stp.ofH {ι' : List Addr} {H' : Hp} (s : Stp (g.han q) ι H ι' H') : Stp g ι H ι' H' := ⟨s.pre, s.tup, s.frz, s.xd⟩
theorem Stp.toH {ι' : List Addr} {H' : Hp} (s : Stp g ι H ι' H') : Stp (g.han q) ι H ι' H' := ⟨s.pre, s.tup, s.frz, s.xd⟩
theorem SimS.enter {gs : Sg} {σ : L2.St} {i : Nat} {a : Addr} {cv : Value} {d : Option Addr} {x : Exc} (s : SimS g ι H gs σ) (hi : i < gs.length) (rx : RelX g ι H x cv d) : SimS (g.han (i, a, cv, d, x)) ι H (gs.set i none) (σ.set i (some (.ref a))) := by
  refine ⟨by simp [s.len], fun j e hj => ?_, fun q e => ?_⟩
  · by_cases hij : i = j
    · subst hij
      rw [List.getElem?_set_self hi] at hj
      cases hj
    · rw [List.getElem?_set_ne hij] at hj
      obtain ⟨w, h1, h2⟩ := s.at_ j e hj
      exact ⟨w, by rw [List.getElem?_set_ne hij]; exact h1, h2.toH⟩
  · cases e
    exact ⟨List.getElem?_set_self hi, List.getElem?_set_self (by rw [← s.len]; exact hi), rx.toH⟩
theorem SimS.leave (h0 : g.hx = none) {gs : Sg} {σ : L2.St} (i : Nat) (s : SimS (g.han q) ι H gs σ) : SimS g ι H (gs.set i none) (σ.set i none) := by
  refine ⟨by simp [s.len], fun j e hj => ?_, fun q e => by rw [h0] at e; cases e⟩
  by_cases hij : i = j
  · subst hij
    rw [List.getElem?_set_self'] at hj
    cases h1 : gs[i]? with
    | none => rw [h1] at hj; cases hj
    | some y => rw [h1] at hj; cases hj
  · rw [List.getElem?_set_ne hij] at hj
    obtain ⟨w, h1, h2⟩ := s.at_ j e hj
    exact ⟨w, by rw [List.getElem?_set_ne hij]; exact h1, h2.ofH⟩
end
structure CatchOk (g : Gm) (xn : Str) (ct : List (Nat × Bool)) : Prop where
  ex : ∃ cv, (g.mg xn = some cv ∨ (g.mg xn = none ∧ bootBuiltins xn = some cv ∧ xn ≠ "__name__")) ∧ ∀ c b, ct.lookup c = some b → PySem.W.exmOne g.K (.ref (g.cls c)) cv = some b
def endS (i : Nat) : Sm → Sm
  | some (.ex _, _, _) => none
  | some (fl, gs, G) => some (fl, gs.set i none, G)
  | none => none
def sTryAs (ct : List (Nat × Bool)) (i : Nat) (fb : SS) (fsu : Exc → SS) : SS := fun gs G => match fb gs G with
  | some (.ex x, gs1, G1) => match ct.lookup x.c with
    | some true => if i < gs1.length then endS i (fsu x (gs1.set i none) G1) else none
    | some false => some (.ex x, gs1, G1)
    | none => none
  | o => o
section
variable {g : Gm} {c : Sc} {xn n : Str} {ct : List (Nat × Bool)} {body suite : List Stmt} {b₀ : Stmt} {np pos pos' : Pos} {fb : SS} {fsu : Exc → SS} {i : Nat}
theorem fs_tryAs (E : CatchOk g xn ct) (hb : FB g c body fb) (hsu : ∀ (a : Addr) (cv : Value) (d : Option Addr) (x : Exc), FB (g.han (i, a, cv, d, x)) c.hotted (b₀ :: suite) (fsu x)) (hN : c.N[i]? = some n := by rfl) (hln : c.sc.names.lookup n = some .local := by rfl) (hg : GlS c xn := by rfl)
    (hdb : (xn == ("__debug__" : Str)) = false := by decide) (htop : c.top = true := by rfl) (h0 : g.hx = none := by rfl) (hcold : c.hot = false := by rfl) : FS g c (.Try body [.ExceptHandler (some (.Name xn np)) (some n) (b₀ :: suite) pos'] [] [] pos) (sTryAs ct i fb fsu) := ⟨fun X j W tk => by
  obtain ⟨cv, hcv, hcat⟩ := E.ex
  have hnm : Names X xn cv := ⟨hg.gl j, hdb, by
    rcases hcv with h | ⟨h1, h2, h3⟩
    · exact .inl (by rw [j.mg]; exact h)
    · exact .inr ⟨by rw [j.mg]; exact h1, h2, h3⟩⟩
  have hkn : X.env.kindOf n = some .local := by
    show X.env.scope.names.lookup n = _
    rw [j.sc]
    exact hln
  refine ps_imp (L2N.ps_try_as (tb := fun W => tS g W fb) (ts := fun a cls d D σ H => ∃ x, tS (g.han (i, a, cls, d, x)) (fun _ _ _ _ => False) (fsu x) D σ H) (j.tp htop).1 (j.tp htop).2 (by rw [j.N]; exact j.nd) (by rw [j.N]; exact hN) hkn hnm tk (fun W' pn xe tk' po => hb.run (X.tr pn xe) ⟨j.P, j.w, j.K, j.mg, j.base, j.N, j.sc, j.nd, j.calm, j.room, j.un, j.dp, (fun q e => by rw [h0] at e; cases e), po, j.fn, j.tp, (fun z => by rw [hcold] at z; cases z)⟩ W' tk') ?_) ?_
  · intro a oe cls d pn hz hf
    refine ⟨fun pins s σ H D I ⟨x, h⟩ => ?_⟩
    exact ((hsu a cls d x).run (X.suite a ((a, oe) :: pn)) ⟨j.P, j.w, j.K, j.mg, j.base, j.N, j.sc, j.nd, (fun z => nomatch z), (fun z => nomatch z), j.un, j.dp, (fun q e => by cases e; exact ⟨X, oe, pn, rfl, hz, hf⟩), PassesOwn.never, j.fn, j.tp, (fun _ _ z => nomatch z)⟩ _ takesN0).run pins s σ H D I h
  · intro D0 σ H ⟨ι, gs, G, ss, sh, q⟩
    refine ⟨ι, gs, G, ss, sh, ?_⟩
    unfold sTryAs at q
    cases e1 : fb gs G with
    | none => rw [e1] at q; exact q.no
    | some p =>
      obtain ⟨fl, gs1, G1⟩ := p
      rw [e1] at q
      refine ⟨fl, gs1, G1, rfl, fun ι1 H1 σ1 s1 t1 u1 => ?_⟩
      cases fl with
      | nx => exact q.at s1 t1 u1
      | rt d => exact q.at s1 t1 u1
      | bk => exact q.at s1 t1 u1
      | ct => exact q.at s1 t1 u1
      | ex x =>
        intro cx d rx
        dsimp only at q
        have ecx : cx = .ref (g.cls x.c) := rx.1
        cases e2 : ct.lookup x.c with
        | none => rw [e2] at q; exact q.no
        | some b =>
          rw [e2] at q
          refine ⟨b, by rw [ecx, j.K]; exact hcat _ _ e2, fun hb' a ha => ?_, fun hb' => ?_⟩
          · subst hb'
            dsimp only at q
            by_cases hi : i < gs1.length
            · rw [if_pos hi] at q
              refine ⟨x, ι1, gs1.set i none, G1, u1.enter hi rx, t1.toH, ?_⟩
              cases e3 : fsu x (gs1.set i none) G1 with
              | none => rw [e3] at q; exact q.no
              | some p3 =>
                obtain ⟨fl3, gs3, G3⟩ := p3
                rw [e3] at q
                refine ⟨fl3, gs3, G3, rfl, fun ι4 H4 σ4 s4 t4 u4 => ?_⟩
                have st4 := s1.trans s4.ofH
                have su4 := u4.leave h0 i
                cases fl3 with
                | ex x3 => exact q.no
                | nx => exact q.at st4 t4.ofH su4
                | rt d3 => exact fun v rv => (q.at st4 t4.ofH su4) v rv.ofH
                | bk => exact q.at st4 t4.ofH su4
                | ct => exact q.at st4 t4.ofH su4
            · rw [if_neg hi] at q; exact q.no
          · subst hb'
            exact (q.at s1 t1 u1) cx d rx⟩
end
end FI
set_option maxRecDepth 100000
set_option maxHeartbeats 4000000
namespace PySem.W
open PySem PySem.Spec PySem.Calls PyProof.Rows
section
variable {prog : Program} {w : World} {A : Around} {E : Value → Shared → Prop} {s : Shared} {K : Frag} {x D : Addr} {ox : Obj} {od : Option Obj}
theorem fi_findObj_data {C : Addr} {name : Str} {a g : Value} (hc : (clsIn K C).isSome = true) (ha : findIn K (.ref C) name = some (some a)) (hg : specialIn K a "__get__" = some (some g)) (ht : takesIn K a = some true) : findObj K C od name = some (.bind g a) := by
  obtain ⟨cd, hc⟩ := Option.isSome_iff_exists.mp hc
  unfold findObj
  rw [hc, Option.bind_some, ha, Option.bind_some]
  simp [hg, ht]
theorem fi_classE {Q : Option Value → Shared → Prop} (hga : findIn K (.ref D) "__getattribute__" = some (some (.builtin "BaseException.__getattribute__"))) (hgt : findIn K (.ref D) "__getattr__" = some none) (hsub : subIn K (.ref D) (.type "BaseException") = some true)
    (hdct : hasDictIn K D = true) (ha : findIn K (.ref D) "__class__" = some (some (.builtin "object.__class__")))
    (hn : specialIn K (.builtin "object.__class__") "__get__" = some (some (.builtin "getset_descriptor.__get__"))) (htk : takesIn K (.builtin "object.__class__") = some true) (hm : mroIn K D (.type "object") = some true)
    (X : K.In s.heap) (I : InstAt s.heap x ox D od) (h : Q (some (.ref D)) { s with toks := s.toks + 1 }) : wpAny (model prog w) A (getAttr? (.ref x) "__class__") Q E s := by
  have hf : findObj K D od "__class__" = some (.bind (.builtin "getset_descriptor.__get__") (.builtin "object.__class__")) := fi_findObj_data (by obtain ⟨cd, hc, _⟩ := any_some hdct; rw [hc]; rfl) ha hn htk
  obtain ⟨hp, g, d, t, os⟩ := s
  have L0 := I.type (M := model prog w)
  have L1 := looks_findIn (M := model prog w) X hga
  have L2 := looks_findIn (M := model prog w) X hgt
  have L3 := looks_find (M := model prog w) X I hf
  have sub : Looks (model prog w) hp (isInstance (.ref x) (.type "BaseException")) true := L0.andThen (looks_subIn X hsub)
  have hx0 : (false && onTheHeap (Value.builtin "BaseException.__getattribute__")) = false := rfl
  have hx2 : (Value.builtin "BaseException.__getattribute__" == Value.builtin "object.__getattribute__") = false := by decide +kernel
  have hx1 : (onTheHeap (Value.ref D) && Value.builtin "BaseException.__getattribute__" == Value.builtin "object.__getattribute__") = false := by rw [hx2]; rfl
  unfold getAttr? getAttrBy? getAttrBy
  refine wpAny_bind (wpAny_mkText (wpAny_bind (wpAny_attempt (wpAny_holding (wpAny_bind (L0.at (wpAny_bind (L1.at ?_))))))))
  show wpAny _ _ (if (onTheHeap (Value.ref D) && Value.builtin "BaseException.__getattribute__" == Value.builtin "object.__getattribute__") = true then _ else _) _ _ _
  rw [hx1, if_neg Bool.false_ne_true]
  unfold getAttrByItsOwn hookBefore
  refine wpAny_bind ?_
  rw [if_pos (show onTheHeap (Value.ref D) = true from rfl)]
  refine L2.at ?_
  refine wpAny_bind (wpAny_attempt (wpAny_holding ?_))
  unfold callGetattribute
  rw [hx0, if_neg Bool.false_ne_true]
  unfold boundAndCalled
  rw [PySem.F.excAttr_ValueError.ga.bind (.ref x)]
  refine wpAny_bind (wpAny_pure ?_)
  show wpAny _ _ (call (.builtin "BaseException.__getattribute__") [.ref x, .str "__class__" t]) _ _ _
  refine wpAny_call (codeAny_call_builtin PySem.F.excAttr_ValueError.ga.plain PySem.F.entry_bexc_ga ?_)
  refine @check_slot (model prog w) _ _ ⟨hp, g, d, t + 1, os⟩ "BaseException.__getattribute__" "BaseException" "__getattribute__" (.ref x) [.str "__class__" t] [] _ (by decide +kernel) (by decide +kernel) sub (PySem.F.args_bexc_ga (.ref x) (.str "__class__" t)) ?_
  unfold Builtin.«object.__getattribute__»
  refine wpAny_bind (wpAny_of_eq (a := ((Value.ref x : Value), [Value.str "__class__" t])) (by first | rfl | (simp only [slotArgs]; rfl)) ?_)
  refine wpAny_bind (wpAny_pure (wpAny_bind (L0.at (wpAny_bind (L3.at ?_)))))
  show wpAny _ _ (holding [Value.builtin "object.__class__"] (call (.builtin "getset_descriptor.__get__") [.builtin "object.__class__", .ref x, .ref D]) >>= ret) _ _ _
  refine wpAny_bind (wpAny_holding (wpAny_call (class_get (s := ⟨hp, g, d, t + 1, os⟩) (ox := ox) (od := od) X I hm ?_)))
  refine wpAny_pure ?_
  show wpAny _ _ (handedOut (.ref D)) _ _ _
  rw [handedOut_of (v := .ref D) rfl]
  first
    | exact wpAny_pure (wpAny_pure h)
    | exact wpAny_pure h
    | exact wpAny_pure (wpAny_bind (wpAny_pure (wpAny_pure h)))
theorem fi_kitx_exc (hga : findIn K (.ref D) "__getattribute__" = some (some (.builtin "BaseException.__getattribute__"))) (hgt : findIn K (.ref D) "__getattr__" = some none) (hsub : subIn K (.ref D) (.type "BaseException") = some true) (hdct : hasDictIn K D = true) (ha : findIn K (.ref D) "__class__" = some (some (.builtin "object.__class__")))
    (hn : specialIn K (.builtin "object.__class__") "__get__" = some (some (.builtin "getset_descriptor.__get__"))) (htk : takesIn K (.builtin "object.__class__") = some true) (hm : mroIn K D (.type "object") = some true) :
    KitX K (.ref x) (.ref D) (fun h => InstAt h x ox D od) where
  ty := fun _ _ _ I => I.type
  it := fun _ _ X _ => by
    obtain ⟨cdD, hcD, _⟩ := any_some hdct
    unfold clsIn at hcD
    split at hcD
    · rename_i c' d' cd' sl' ho
      intro A' Q' E' s' k q
      unfold isType loadHead
      exact wpAny_bind (wpAny_loadPart (k _ _ (X _ _ ho)) (wpAny_pure q))
    · cases hcD
  ne := fun h tp dd its n sl X htp => by
    obtain ⟨cdD, hcD, _⟩ := any_some hdct
    refine Bool.eq_false_iff.mpr fun q => ?_
    have e : D = tp := Value.ref.inj (beq_iff_eq.mp q)
    subst e
    unfold clsIn at hcD
    split at hcD
    · rename_i c' d' cd' sl' ho
      have z := (X _ _ ho).symm.trans htp
      cases z
    · cases hcD
  ca := fun X I k => fi_classE hga hgt hsub hdct ha hn htk hm X I k
end
end PySem.W
namespace L2
open PySem PySem.Spec PyProof.Rows
def rIsX (K : PySem.W.Frag) (D a : Addr) (d : Option Addr) : List V → Hp → VK → Prop := fun xs H Q => (d = none ∨ ∃ dd fs, d = some dd ∧ H dd = some (.xd fs)) ∧ ∃ (c : V) (cv : Value) (b : Bool), xs = [.ref a, c] ∧ (∀ u, RelV c u → u = cv) ∧ PySem.W.kitOne K (.ref D) cv = some b ∧ Q (.bl b) H
theorem call_isX {X : Cx} {a D : Addr} {d : Option Addr} {oe : Obj} {pn : List (Addr × Obj)} (C : ExcC X.K D) (hz : L2N.Zn (.ref D) d oe) (hf : ∃ vs, oe.data = .fields vs) : CallR (X.suite a ((a, oe) :: pn)) (.builtin "isinstance") (rIsX X.K D a d) := by
  intro pins s σ H xs us Q I r h
  obtain ⟨hd, c, cv, b, rfl, hcv, e, q⟩ := h
  cases r with
  | cons rx rr =>
    cases rr with
    | cons rt rr =>
      cases rr
      cases rx
      have ec := hcv _ rt
      subst ec
      obtain ⟨hget, _⟩ := I.pin (a, oe) (List.mem_append.mpr (.inl List.mem_cons_self))
      obtain ⟨vs, hv⟩ := hf
      have J : ∃ od, PySem.W.InstAt s.heap a oe D od := by
        obtain ⟨oc, odd, oda, osl⟩ := oe
        obtain ⟨h1, h2, -⟩ := hz
        dsimp only at h1 h2 hv
        subst h1 h2 hv
        rcases hd with rfl | ⟨dd, fs, rfl, hfs⟩
        · exact ⟨none, hget, rfl, rfl, trivial⟩
        · have hx : ObjOk X.prog X.w H s.heap dd (.xd fs) := I.hok dd _ hfs
          obtain ⟨mA, hns, hr⟩ := hx
          obtain ⟨od, ho, hl⟩ := lookIn_ns hns
          exact ⟨some od, hget, rfl, rfl, ho⟩
      obtain ⟨od, J⟩ := J
      exact PySem.W.kia_one (PySem.W.fi_kitx_exc C.hg C.hk C.hs C.hd C.ha C.hn C.ht C.hm) I.kIn J e (fun z => nomatch z) fun tk => ⟨.bl b, H, I.kept (t' := tk) fun _ _ z => z, rfl, q⟩
end L2
namespace FI
open PySem L2 PySem.Spec PyProof.Rows
abbrev XKit := List ((Nat × CC) × Bool)
structure XKitOk (g : Gm) (kt : XKit) : Prop where
  one : ∀ e, e ∈ kt → ∃ u, ccV g e.1.2 = some u ∧ PySem.W.kitOne g.K (.ref (g.cls e.1.1)) u = some e.2
  exc : ∀ e, e ∈ kt → ExcC g.K (g.cls e.1.1)
def eIsX (kt : XKit) (x : Exc) (fc : SE) : SE := fun gs G => if x.c ∈ kt.map (·.1.1) then bnd (fc gs G) (fun dc G1 => match ccD dc with
  | some cc => match kt.lookup (x.c, cc) with
    | some b => some (.val (.bl b), G1)
    | none => none
  | none => none) else none
structure XFldOk (g : Gm) (cs : List Nat) (k : Nat) (f : Str) : Prop where
  lt : k < g.nf
  nm : g.fld k = f
  cl : ∀ c, c ∈ cs → XfC g.K (g.cls c) ∧ PySem.W.findIn g.K (.ref (g.cls c)) f = some none
def eXf (cs : List Nat) (k : Nat) (x : Exc) : SE := fun _ G => if x.c ∈ cs then (match x.fs.lookup k with
  | some d => some (.val d, G)
  | none => none) else none
section
variable {g : Gm} {c : Sc} {i : Nat} {a : Addr} {cv : Value} {d : Option Addr} {x : Exc} {n f y : Str} {ce : Expr} {fc : SE} {kt : XKit} {cs : List Nat} {k : Nat} {p p1 pos : Pos}
theorem fe_isX (ok : XKitOk g kt) (hx : g.hx = some (i, a, cv, d, x)) (hc : FE g c ce fc) (hy : bootBuiltins y = some (.builtin "isinstance") := by rfl) (hyn : y ≠ "__name__" := by decide) (hyd : (y == ("__debug__" : Str)) = false := by decide) (hg : GlB g c y)
    (hN : c.N[i]? = some n := by rfl) (hv : Vis c.sc n := by first | exact Or.inl rfl | exact Or.inr (Or.inl rfl) | exact Or.inr (Or.inr rfl)) (hd : (n == ("__debug__" : Str)) = false := by decide) (hcd : (n == ("__classdict__" : Str)) = false := by decide)
    (he : ∀ env, starEach [.Name n p1, ce] env = (false, eval (.Name n p1) env) :: starEach [ce] env := by intro _; rfl) (he2 : ∀ env, starEach [ce] env = (false, eval ce env) :: starEach [] env := by intro _; rfl) (hpl : ∀ env, (backTo pos (starEach [ce] env)).any (·.1) = false := by intro _; rfl) :
    FE g c (.Call (.Name y p) [.Name n p1, ce] [] pos) (eIsX kt x fc) := ⟨fun X j W t => by
  obtain ⟨Y, oe, pn, eX, hz, hf⟩ := j.hx _ hx
  dsimp only at eX hz
  have pv := pe_var (X := X) (i := i) (pos := p1) (by rw [j.N]; exact hN) (by rw [j.sc]; exact hv) hd hcd
  have pc := hc.run X j W t
  have hgl := hg.1.gl j
  have hmg : X.mg y = none := by rw [j.mg]; exact hg.2
  have pas := pa_cons pv (pa_cons pc pa_nil (he2 X.env)) (he X.env)
  refine ⟨fun pins s σ H Q I ⟨ι, gs, G, ss, sh, h⟩ => ?_⟩
  obtain ⟨q1, q2, q3⟩ := ss.hx _ hx
  dsimp only at q1 q2 q3
  obtain rfl : cv = Value.ref (g.cls x.c) := q3.1
  unfold eIsX at h
  by_cases hk : x.c ∈ kt.map (·.1.1)
  · rw [if_pos hk] at h
    obtain ⟨e, he1, he2'⟩ := List.mem_map.mp hk
    have C : ExcC g.K (g.cls x.c) := by rw [← he2']; exact ok.exc e he1
    have hr : CallR X (.builtin "isinstance") (rIsX g.K (g.cls x.c) a d) := by
      have eK : Y.K = g.K := by rw [← j.K, eX]
      rw [eX, ← eK]
      exact call_isX (by rw [eK]; exact C) hz hf
    refine (pe_callB hr hgl hmg hy pas hyn hyd (he _) ?_).run pins s σ H Q I ?_
    · have e1 : backTo pos (starEach [ce] X.env) = backTo pos (starEach [ce] X.env) := rfl
      exact hpl X.env
    · refine ⟨_, q2, ι, gs, G, ss, sh, h.bnd.imp fun dc ι1 G1 H1 s1 t1 h1 v rv => ?_⟩
      refine ⟨?_, ?_⟩
      · rcases q3.2 with ⟨_, q⟩ | ⟨dd, vfs, q, q4, _⟩
        · exact .inl q
        · exact .inr ⟨dd, vfs, q, s1.xd _ _ q4⟩
      · cases e1 : ccD dc with
        | none => rw [e1] at h1; exact h1.no
        | some cc =>
          rw [e1] at h1
          dsimp only at h1
          cases e2 : kt.lookup (x.c, cc) with
          | none => rw [e2] at h1; exact h1.no
          | some b =>
            rw [e2] at h1
            obtain ⟨u, hu, hk1⟩ := ok.one _ (lookup_mem e2)
            have hC := cls_of rv e1 hu
            refine ⟨v, u, b, rfl, fun w rw' => ?_, hk1, h1.val (.refl _ _ _) t1 _ (.bl b)⟩
            cases hC <;> first | exact rw' | (cases rw'; rfl)
  · rw [if_neg hk] at h
    exact h.no⟩
theorem fe_xf (F : XFldOk g cs k f) (hx : g.hx = some (i, a, cv, d, x)) (hN : c.N[i]? = some n := by rfl) (hv : Vis c.sc n := by first | exact Or.inl rfl | exact Or.inr (Or.inl rfl) | exact Or.inr (Or.inr rfl)) (hd : (n == ("__debug__" : Str)) = false := by decide) (hcd : (n == ("__classdict__" : Str)) = false := by decide)
    (hb : ∀ env, attributeBase (.Name n p1) f env (eval (.Name n p1) env) = eval (.Name n p1) env := by intro _; rfl) : FE g c (.Attribute (.Name n p1) f pos) (eXf cs k x) := ⟨fun X j W t => by
  obtain ⟨Y, oe, pn, eX, hz, hf⟩ := j.hx _ hx
  dsimp only at eX hz
  have pv := pe_var (X := X) (i := i) (pos := p1) (by rw [j.N]; exact hN) (by rw [j.sc]; exact hv) hd hcd
  refine ⟨fun pins s σ H Q I ⟨ι, gs, G, ss, sh, h⟩ => ?_⟩
  obtain ⟨q1, q2, q3⟩ := ss.hx _ hx
  dsimp only at q1 q2 q3
  unfold eXf at h
  by_cases hc : x.c ∈ cs
  · rw [if_pos hc] at h
    obtain ⟨h1, h2⟩ := F.cl _ hc
    have eK : Y.K = g.K := by rw [← j.K, eX]
    cases el : x.fs.lookup k with
    | none => rw [el] at h; exact h.no
    | some dv =>
      rw [el] at h
      obtain ⟨ec, q4⟩ := q3
      rcases q4 with ⟨q5, _⟩ | ⟨dd, vfs, q5, q6, q7⟩
      · rw [q5] at el; cases el
      · obtain ⟨v, e1, e2⟩ := q7.look F.lt el
        subst eX
        refine (pe_xf (C := g.cls x.c) (by rw [eK]; exact h1) (by rw [eK]; exact h2) hz.zc hf pv (hb _)).run pins s σ H Q I ⟨_, q2, rfl, ec, dd, vfs, v, q5, q6, by rw [← F.nm]; exact e1, h.val (.refl _ _ _) sh v e2⟩
  · rw [if_neg hc] at h
    exact h.no⟩
end
end FI
set_option maxRecDepth 100000
set_option maxHeartbeats 4000000
namespace FI
open PySem L2 PySem.Spec PyProof.Rows
structure CstOk (g : Gm) (cx f : Str) (d : D) : Prop where
  ex : ∃ C mc v u, g.mg cx = some (.ref C) ∧ ClX.CRead g.K C mc ∧ ClX.CVal g.K C mc f v u ∧ ∀ ι H, RelD g ι H d v
structure StmOk (g : Gm) (k : Nat) (cx m : Str) (F : Fn) : Prop where
  ex : ∃ C mc p f rest, g.mg cx = some (.ref C) ∧ ClX.CRead g.K C mc ∧ PySem.W.findCls g.K (.ref C) mc m = some (.get (.builtin "staticmethod.__get__") (.ref p) .none (.ref C)) ∧ PySem.W.recIn g.K p "staticmethod" = some (.ref f :: rest) ∧
    PySem.W.keepIn g.K (.ref f) = true ∧ CalD g k f [] F
section
variable {g : Gm} {c : Sc} {cx m f : Str} {d : D} {e : Expr} {es : List Expr} {fa : SA} {k : Nat} {F : Fn} {p apos pos : Pos} {pl : Env → Sem Bool}
theorem fe_cst (K : CstOk g cx f d) (hg : GlS c cx := by rfl) (hd : (cx == ("__debug__" : Str)) = false := by decide) (hb : ∀ env, attributeBase (.Name cx p) f env (eval (.Name cx p) env) = eval (.Name cx p) env := by intro _; rfl) : FE g c (.Attribute (.Name cx p) f pos) (eC d) := ⟨fun X i W t => by
  obtain ⟨C, mc, v, u, hm, r, cv, rd⟩ := K.ex
  refine pe_imp (ClX.pe_cval (pe_glob (v := .ref C) (hg.gl i) (by rw [i.mg]; exact hm) rfl hd) (hb _)) fun σ H Q ⟨ι, gs, G, ss, sh, h⟩ => ?_
  rw [i.K]
  exact ⟨C, mc, v, u, rfl, r, cv, h.val (.refl _ _ _) sh _ (rd _ _)⟩⟩
theorem fe_smeth (S : StmOk g k cx m F) (hk : k ≤ c.k ∧ c.hot = false) (ha : FA g c (e :: es) fa) (hg : GlS c cx := by rfl) (hd : (cx == ("__debug__" : Str)) = false := by decide)
    (hst : ∀ env, starEach (e :: es) env = (false, eval e env) :: starEach es env := by intro _; rfl) (hpl : ∀ env, (backTo pos (starEach es env)).any (·.1) = false := by intro _; rfl)
    (ht : ∀ env, eval (.Call (.Attribute (.Name cx p) m apos) (e :: es) [] pos) env = (do
      let ov ← eval (.Name cx p) env
      standAt apos.atName
      let (f, first) ← holding [ov] (getMethod ov m (pl env))
      callWith pos f first (backTo pos (starEach (e :: es) env)) (backToKw pos (keywordEach [] env))) := by intro _; rfl) : FE g c (.Call (.Attribute (.Name cx p) m apos) (e :: es) [] pos) (eCall F fa) := ⟨fun X i W t => by
  obtain ⟨C, mc, sp, f, rest, hm, cr, hf, hp, hkp, cal⟩ := S.ex
  refine ⟨fun pins s σ H Q I ⟨ι, gs, G, ss, sh, h⟩ => ?_⟩
  have hn := pe_glob (X := X) (pos := p) (v := .ref C) (hg.gl i) (by rw [i.mg]; exact hm) rfl hd
  refine PySem.W.methodCall_KW (pl := pl X.env) (thn (hn.run pins s σ H (fun v H1 => v = .ref C ∧ H1 = H) I ⟨rfl, rfl⟩) fun u s1 ⟨v, H1, I1, ru, ev, eH⟩ => ?_) (ht X.env)
  subst ev eH
  obtain rfl : u = Value.ref C := ru
  rw [← i.K] at hf hp hkp cr
  refine PySem.W.method_cls I1.kIn cr.ga (PySem.W.cls_bind I1.kIn cr.rd hf (wpAny_call (PySem.W.sm_get (s := { s1 with toks := s1.toks + 1 }) I1.kIn hp (PySem.W.handed_on rfl ?_))))
  have I2 := I1.tok (s1.toks + 1)
  refine PySem.W.callWith_K (first := []) (h₀ := X.base) I2.ok.mod.kin hkp (thn ((ha.run X i W t).run pos pins _ σ H1 (fun vs H2 => RdF g F (WE W σ) vs H2 Q) I2 ⟨ι, gs, G, ss, sh, h.bnd.imp fun ds ι2 G2 H2 s2 t2 h2 vs rs => ⟨ι2, _, G2, rs, t2, h2.toE⟩⟩) fun us s2 ⟨vs, H2, I3, r, q2⟩ => ⟨I3.kIn, ?_⟩) (hst _) (hpl _)
  exact runC (ks := []) (ws := []) (us := us) (vs := vs) cal i hk t I3 rfl (by rw [List.append_nil]; exact r) q2⟩
end
end FI
set_option maxRecDepth 100000
set_option maxHeartbeats 2000000
set_option maxRecDepth 100000
set_option maxHeartbeats 2000000
set_option maxRecDepth 100000
set_option maxHeartbeats 2000000
set_option maxRecDepth 100000
set_option maxHeartbeats 2000000
set_option maxRecDepth 100000
set_option maxHeartbeats 2000000
namespace FI
open PySem L2 PySem.Spec PyProof.Rows
def CalL (g : Gm) (k : Nat) (f : Addr) (F : Fn) : Prop :=
  ∀ (A : Around) (outer : List Env) (s : Shared) (H : Hp) (us : List Value) (vs : List V) (Q : VK) (E : XK) (pin : Addr × Obj), L2H.RoomH k A → L2H.Hot1 A pin → L2H.PinOk outer H s pin → Env0 g.P g.w g.K g.mg g.base A outer s H → Vals vs us → RdF g F E vs H Q →
    codeAny (model g.P g.w) A (.call (.ref f) ⟨us, []⟩) (CR (L2N.CX g.P g.w) outer g.P g.w H s Q E) s
theorem xis_leaf {g : Gm} {N : List Str} {qual : Str} {scope : Scope} {f : Addr} {cdv : Value} {A : Around} {outer : List Env} {s : Shared} {H : Hp} {E : XK} {k : Nat} {pin : Addr × Obj} (hot1 : L2H.Hot1 A pin) (h0 : g.hx = none) (nd : N.Nodup) (hr : L2H.RoomH k (A.deeper (envOfC qual scope s.heap.objs.size f cdv))) :
    XIs g { N := N, sc := scope, k := k, hot := true } (L2H.cxH (L2N.CX g.P g.w) g.P g.w g.K g.mg g.base N qual scope f cdv A outer s H E pin) where
  P := rfl
  w := rfl
  K := rfl
  mg := rfl
  base := rfl
  N := rfl
  sc := rfl
  nd := nd
  calm := fun z => nomatch z
  room := fun z => nomatch z
  un := hr.un
  dp := hr.dp
  tp := fun _ => ⟨rfl, rfl⟩
  hx := fun q e => by rw [h0] at e; cases e
  hp := fun _ _ _ => ⟨pin, ⟨hot1.1, hot1.2⟩, List.mem_cons_self ..⟩
  po := passes_of rfl
  fn := fun x _ => .inl rfl
section
variable {g : Gm} {k : Nat} {f : Addr} {name qual : Str} {params : Arguments} {body : List Stmt} {scope : Scope} {dV kV doc pm cdv ct oc : Value} {an od : Option Addr} {osl : Array (Option Value)} {N ps : List Str} {b : SS}
theorem leaf_def (hk : g.K.lookup f = some ⟨oc, od, .func (PySem.W.fnOf name qual params body scope dV kV doc pm an cdv ct), osl⟩) (hcode : PySem.W.codeIn g.K cdv qual = true) (S : FnScope N ps scope)
    (bd : ∀ us : List Value, us.length = ps.length → bindArgs (PySem.W.fnOf name qual params body scope dV kV doc pm an cdv ct) ⟨us, []⟩ = pure (ps.zip us)) (hb : FB g { N := N, sc := scope, k := k, hot := true } body b) (h0 : g.hx = none := by rfl) : CalL g (k + 1) f (mkFnB (bPlain ps.length) N.length b) := by
  intro A outer s H us vs Q E pin rm hot1 hp ev0 vals rd
  obtain ⟨ι, ds, G, rs, sh, q⟩ := rd
  unfold mkFnB bPlain at q
  by_cases hn : ds.length = ps.length
  case neg =>
    rw [if_neg hn] at q
    exact q.no
  case pos =>
    rw [if_pos hn] at q
    have nv : vs.length = ps.length := by rw [← rs.length]; exact hn
    have nu : us.length = ps.length := by rw [← vals.length]; exact nv
    have inK : g.K.In s.heap := ev0.mod.kin.keeps fun b o e => (ev0.bs b o e).1
    have bound := Binds.all bd s us inK (by rw [List.append_nil]; exact nu)
    rw [List.append_nil] at bound
    have kinds : ∀ z ∈ ps.zip us, scope.names.lookup z.1 = some .local ∨ (scope.names.lookup z.1 = some .cell ∧ ((cellsFrom (s.heap.objs.size + 1) scope.names []).lookup z.1).isSome = true) := fun z hz =>
      (S.par z.1 (List.of_mem_zip hz).1).imp id fun hc => ⟨hc, PySem.W.cellsFrom_some _ _ _ (.inl hc)⟩
    refine codeAny_call_function rm.depth (inK _ _ hk) rfl S.co S.gen rfl (PySem.W.codeRec_of inK hcode) (bound _ _ _ _ (wpAny_newFunctionEnv_cells S.kind kinds fun env he s1 made => ?_))
    subst he
    have nolim : s1.heap.NoLimit := (ev0.mod.nolimit.keeps fun b o e => (ev0.bs b o e).1).keeps made.toInCall.keep
    have deep : L2H.RoomH k (A.deeper (envOfC qual scope s.heap.objs.size f cdv)) := rm.deeper _
    have start := L2H.inv_startH (CX := L2N.CX g.P g.w) (E := E) S hp ev0 nv vals made
    have body := hb.run _ (xis_leaf (outer := outer) (H := H) (E := E) (pin := pin) hot1 h0 S.nd deep) (fun c d _ H' => E c d H') (L2N.takes_of rfl rfl rfl rfl)
    have read := run_read (N := N) (Q := Q) h0 (.refl g ι H) sh rs (Gv.unslim sh q)
    refine ⟨nolim, codeAny_func (wpAny_mono (body.run [] s1 _ H _ start read) (fun fl s' hs => ?_) fun _ _ z => z)⟩
    cases fl with
    | ret u => obtain ⟨v, σ', H', J, rv, w⟩ := hs; exact ⟨v, H', J.os, J.bare, J.base, J.hok, rv, w⟩
    | next => obtain ⟨σ', H', J, w⟩ := hs; exact ⟨V.non, H', J.os, J.bare, J.base, J.hok, rfl, w⟩
    | brk => obtain ⟨_, _, _, w⟩ := hs; exact w.elim
    | cont => obtain ⟨_, _, _, w⟩ := hs; exact w.elim
end
theorem CalL.mono {g : Gm} {j k : Nat} {f : Addr} {F : Fn} (c : CalL g j f F) (h : j ≤ k) : CalL g k f F := fun A outer s H us vs Q E pin hr => c A outer s H us vs Q E pin (hr.mono h)
structure NamL (g : Gm) (k : Nat) (x : Str) (F : Fn) : Prop where
  ex : ∃ f, g.mg x = some (.ref f) ∧ PySem.W.keepIn g.K (.ref f) = true ∧ CalL g k f F
theorem nam_leaf {g : Gm} {k : Nat} {f : Addr} {x name qual : Str} {params : Arguments} {body : List Stmt} {scope : Scope} {dV kV doc pm cdv ct oc : Value} {an od : Option Addr} {osl : Array (Option Value)} {N ps : List Str} {b : SS} (gl : g.mg x = some (.ref f)) (kp : PySem.W.keepIn g.K (.ref f) = true)
    (hk : g.K.lookup f = some ⟨oc, od, .func (PySem.W.fnOf name qual params body scope dV kV doc pm an cdv ct), osl⟩) (hcode : PySem.W.codeIn g.K cdv qual = true) (S : FnScope N ps scope)
    (bd : ∀ us : List Value, us.length = ps.length → bindArgs (PySem.W.fnOf name qual params body scope dV kV doc pm an cdv ct) ⟨us, []⟩ = pure (ps.zip us)) (hb : FB g { N := N, sc := scope, k := k, hot := true } body b) (h0 : g.hx = none := by rfl) : NamL g (k + 1) x (mkFnB (bPlain ps.length) N.length b) := ⟨⟨f, gl, kp, leaf_def hk hcode S bd hb h0⟩⟩
theorem RdF.ofH {g : Gm} {q : Hx} {F : Fn} {E : XK} {vs : List V} {H : Hp} {Q : VK} (h : RdF (g.han q) F E vs H Q) : RdF g F E vs H Q := by
  obtain ⟨ι, ds, G, rs, sh, r, G', e, z⟩ := h
  refine ⟨ι, ds, G, rs.ofH, sh.ofH, r, G', e, fun ι' H' st sm => ?_⟩
  have y := z ι' H' st.toH sm.toH
  cases r with
  | val d => exact fun v rv => y v rv.toH
  | exc x => exact fun c d rx => y c d rx.toH
section
variable {g : Gm} {c : Sc} {q : Hx} {k : Nat} {x : Str} {F : Fn} {e : Expr} {es : List Expr} {fa : SA} {p pos : Pos}
theorem runL {X : Cx} {W : WX} {f : Addr} {pins : List (Addr × Obj)} {σ : L2.St} {H : Hp} {s : Shared} {us : List Value} {vs : List V} {Q : VK} (C : CalL g k f F) (i : XIs (g.han q) c X) (hk : k ≤ c.k) (tk : L2N.Takes X W)
    (I : Inv X pins σ H s) (r : Vals vs us) (h : RdF (g.han q) F (WE W σ) vs H Q) : wpAny (model X.prog X.w) X.A (call (.ref f) us []) (EP X pins σ Q) X.xe s := by
  obtain ⟨Y, oe, pn, hX, hz, vs', hd⟩ := i.hx q rfl
  have hot1 : L2H.Hot1 X.A (q.2.1, oe) := ⟨by rw [hX]; rfl, vs', hd, hz.2.2 vs' hd⟩
  have mem : (q.2.1, oe) ∈ X.pn := by
    rw [hX]
    exact List.mem_cons_self ..
  have at_ := I.pin (q.2.1, oe) (List.mem_append_left _ mem)
  have pin : L2H.PinOk X.stack H s (q.2.1, oe) := ⟨at_.1, at_.2.1, fun hm => Or.elim (List.mem_cons.mp (I.stkSub q.2.1 hm)) at_.2.2.1 at_.2.2.2.1, at_.2.2.2.2⟩
  have room : L2H.RoomH k X.A := ⟨by have := i.dp; omega, by have := i.un; omega⟩
  have z := C X.A X.stack s H us vs Q (WE W σ) (q.2.1, oe) room hot1 pin (i.env I) r h.ofH
  have eP : X.prog = g.P := i.P
  have ew : X.w = g.w := i.w
  rw [← eP, ← ew] at z
  refine wpAny_call (codeAny_mono z fun r s' hq => ?_)
  cases r with
  | error e => exact tk e s' (L2N.XE.of_call I (fun _ _ _ h => h) hq)
  | ok fl =>
    cases fl with
    | ret u => exact I.after hq
    | next => exact False.elim hq
    | brk => exact False.elim hq
    | cont => exact False.elim hq
theorem fe_callL (n : NamL g k x F) (hk : k ≤ c.k) (ha : FA (g.han q) c (e :: es) fa) (hg : GlS c x := by rfl) (hdb : (x == ("__debug__" : Str)) = false := by decide) (he : ∀ env, starEach (e :: es) env = (false, eval e env) :: starEach es env := by intro _; rfl)
    (hpl : ∀ env, (backTo pos (starEach es env)).any (·.1) = false := by intro _; rfl) : FE (g.han q) c (.Call (.Name x p) (e :: es) [] pos) (eCall F fa) := ⟨fun X i W t => by
  obtain ⟨f, hm, hkp, C⟩ := n.ex
  have hm' : X.mg x = some (.ref f) := by rw [i.mg]; exact hm
  have hkp' : PySem.W.keepIn X.K (.ref f) = true := by rw [i.K]; exact hkp
  refine pe_imp (t := fun σ H Q => tA (g.han q) W fa σ H fun vs H1 => RdF (g.han q) F (WE W σ) vs H1 Q) ⟨fun pins s σ H Q I h => ?_⟩ fun σ H Q ⟨ι, gs, G, ss, sh, h⟩ => ⟨ι, gs, G, ss, sh, h.bnd.imp fun ds ι1 G1 H1 s1 t1 h1 vs rv => ⟨ι1, ds, G1, rv, t1, h1.toE⟩⟩
  refine wpAny_Call_Name_kw (ld_glob I (hg.gl i) hm' ?_ hdb)
  refine PySem.W.callWith_K (h₀ := X.base) I.ok.mod.kin hkp' (thn ((ha.run X i W t).run pos pins s σ H _ I h) fun us s1 ⟨vs, H1, I1, r, q⟩ => ⟨I1.kIn, ?_⟩) (he _) (hpl _)
  exact runL C i hk t I1 r q⟩
end
theorem KitOk.han {g : Gm} {q : Hx} {kt : Kit} (h : KitOk g kt) : KitOk (g.han q) kt := ⟨fun e he => h.one e he, fun e he c hc => h.ins e he c hc⟩
end FI
set_option maxRecDepth 100000
set_option maxHeartbeats 2000000
set_option maxRecDepth 100000
set_option maxHeartbeats 2000000
set_option maxRecDepth 100000
set_option maxHeartbeats 2000000
namespace FI
open PySem L2 PySem.Spec PyProof.Rows
section
variable {g : Gm} {c : Sc} {k : Nat} {x : Str} {F : Fn} {e : Expr} {es : List Expr} {fa : SA} {p pos : Pos}
theorem runLL {X : Cx} {W : WX} {f : Addr} {pins : List (Addr × Obj)} {σ : L2.St} {H : Hp} {s : Shared} {us : List Value} {vs : List V} {Q : VK} (C : CalL g k f F) (i : XIs g c X) (hh : c.hot = true) (ht : c.top = true) (h0 : g.hx = none) (hk : k ≤ c.k) (tk : L2N.Takes X W)
    (I : Inv X pins σ H s) (r : Vals vs us) (h : RdF g F (WE W σ) vs H Q) : wpAny (model X.prog X.w) X.A (call (.ref f) us []) (EP X pins σ Q) X.xe s := by
  obtain ⟨pn, hot1, mem⟩ := i.hp hh ht h0
  have at_ := I.pin pn (List.mem_append_left _ mem)
  have pin : L2H.PinOk X.stack H s pn := ⟨at_.1, at_.2.1, fun hm => Or.elim (List.mem_cons.mp (I.stkSub pn.1 hm)) at_.2.2.1 at_.2.2.2.1, at_.2.2.2.2⟩
  have room : L2H.RoomH k X.A := ⟨by have := i.dp; omega, by have := i.un; omega⟩
  have z := C X.A X.stack s H us vs Q (WE W σ) pn room hot1 pin (i.env I) r h
  have eP : X.prog = g.P := i.P
  have ew : X.w = g.w := i.w
  rw [← eP, ← ew] at z
  refine wpAny_call (codeAny_mono z fun r s' hq => ?_)
  cases r with
  | error e => exact tk e s' (L2N.XE.of_call I (fun _ _ _ h => h) hq)
  | ok fl =>
    cases fl with
    | ret u => exact I.after hq
    | next => exact False.elim hq
    | brk => exact False.elim hq
    | cont => exact False.elim hq
theorem fe_callLL (n : NamL g k x F) (hk : k ≤ c.k) (ha : FA g c (e :: es) fa) (hh : c.hot = true := by rfl) (ht : c.top = true := by rfl) (h0 : g.hx = none := by rfl) (hg : GlS c x := by rfl) (hdb : (x == ("__debug__" : Str)) = false := by decide) (he : ∀ env, starEach (e :: es) env = (false, eval e env) :: starEach es env := by intro _; rfl)
    (hpl : ∀ env, (backTo pos (starEach es env)).any (·.1) = false := by intro _; rfl) : FE g c (.Call (.Name x p) (e :: es) [] pos) (eCall F fa) := ⟨fun X i W t => by
  obtain ⟨f, hm, hkp, C⟩ := n.ex
  have hm' : X.mg x = some (.ref f) := by rw [i.mg]; exact hm
  have hkp' : PySem.W.keepIn X.K (.ref f) = true := by rw [i.K]; exact hkp
  refine pe_imp (t := fun σ H Q => tA g W fa σ H fun vs H1 => RdF g F (WE W σ) vs H1 Q) ⟨fun pins s σ H Q I h => ?_⟩ fun σ H Q ⟨ι, gs, G, ss, sh, h⟩ => ⟨ι, gs, G, ss, sh, h.bnd.imp fun ds ι1 G1 H1 s1 t1 h1 vs rv => ⟨ι1, ds, G1, rv, t1, h1.toE⟩⟩
  refine wpAny_Call_Name_kw (ld_glob I (hg.gl i) hm' ?_ hdb)
  refine PySem.W.callWith_K (h₀ := X.base) I.ok.mod.kin hkp' (thn ((ha.run X i W t).run pos pins s σ H _ I h) fun us s1 ⟨vs, H1, I1, r, q⟩ => ⟨I1.kIn, ?_⟩) (he _) (hpl _)
  exact runLL C i hh ht h0 hk t I1 r q⟩
end
end FI
set_option maxRecDepth 100000
set_option maxHeartbeats 1000000
namespace SrtO
open PySem PySem.Spec PyProof.Rows
def keySI (x : PySem.Str) (n : Int) : List Int := (x.cps.toList.map fun c : Nat => (c : Int) + 1) ++ [0, n]
def IsTupSI (h : Heap) (v : Value) (ks : List Int) : Prop := ∃ a o its nn x n t u, v = .ref a ∧ h.get? a = some o ∧ o.cls = .type "tuple" ∧ o.data = .seq its nn ∧ its.toList = [.str x t, .int n u] ∧ ks = keySI x n
theorem IsTupSI.keeps {h h' : Heap} {v : Value} {ks : List Int} (p : IsTupSI h v ks) (k : ∀ b o, h.get? b = some o → o.cls = .type "tuple" → h'.get? b = some o) : IsTupSI h' v ks := by
  obtain ⟨a, o, its, nn, x, n, t, u, e, ho, hc, r⟩ := p
  exact ⟨a, o, its, nn, x, n, t, u, e, k _ _ ho hc, hc, r⟩
end SrtO
set_option maxRecDepth 100000
set_option maxHeartbeats 2000000
set_option maxRecDepth 100000
set_option maxHeartbeats 2000000
set_option maxRecDepth 100000
set_option maxHeartbeats 2000000
set_option maxRecDepth 100000
set_option maxHeartbeats 4000000
set_option maxRecDepth 100000
set_option maxHeartbeats 4000000
set_option maxRecDepth 100000
set_option maxHeartbeats 1000000
set_option maxRecDepth 100000
set_option maxHeartbeats 1000000
set_option maxRecDepth 100000
set_option maxHeartbeats 2000000
namespace FI
open PySem L2 PySem.Spec PyProof.Rows
open He (ga ma refsD frG frG_in eqO eqO_ok ba relB relB_ok)
abbrev Fr := PySem.W.Frag
abbrev At := Fr → Addr
def atG (x : Str) : At := fun K => ga K x
def atM (x m : Str) : At := fun K => ma K (ga K x) m
def atR (T : String) (x m : Str) : At := fun K => match PySem.W.recIn K (ma K (ga K x) m) T with
  | some (.ref f :: _) => f
  | _ => 0
abbrev FnA : Type := Option (Str × Str × Arguments × FuncBody × Scope × Addr × List Str × Addr)
def fnA (K : Fr) (a : Addr) : FnA := match K.lookup a with
  | some ⟨_, _, .func fd, _⟩ => some (fd.name, fd.qualname, fd.params, fd.body, fd.scope, fd.globals, fd.closure.map (·.1), fd.builtins)
  | _ => none
structure FDf where
  at_ : At
  name : Str
  qual : Str
  params : Arguments
  body : List Stmt
  scope : Scope
  sup : Option Str := none
def FDf.val (d : FDf) : FnA := some (d.name, d.qual, d.params, .stmts d.body, d.scope, mainGlobals, (match d.sup with
  | none => []
  | some _ => [clsN]), builtinsNs)
def cellB (K : Fr) (cc D : Addr) : Bool := match K.lookup cc with
  | some ⟨_, _, .cell (some (.ref E)), _⟩ => decide (E = D)
  | _ => false
theorem cellB_ok {K : Fr} {cc D : Addr} (h : cellB K cc D = true) : CellK K cc D := by
  unfold cellB at h
  cases q : K.lookup cc with
  | none => rw [q] at h; cases h
  | some o =>
    obtain ⟨oc, od, dt, osl⟩ := o
    rw [q] at h
    cases dt with
    | cell v =>
      cases v with
      | none => cases h
      | some v =>
        cases v with
        | ref E =>
          have e : E = D := of_decide_eq_true h
          subst e
          exact ⟨oc, od, osl, q⟩
        | _ => cases h
    | _ => cases h
def thirdV (vs : Array Value) : Option Value := vs[2]?
def codeFile (K : Fr) (cd : Value) (file : Str) : Bool := match cd with
  | .ref c => (match K.lookup c with
    | some ⟨_, _, .fields vs, _⟩ => (match thirdV vs with
      | some (.str x _) => file == x
      | _ => false)
    | _ => false)
  | _ => false
theorem codeFile_ok {K : Fr} {cd : Value} {file : Str} (h : codeFile K cd file = true) : ∃ cda, cd = .ref cda ∧ ∃ (ccl : Value) (cdd : Option Addr) (vs : Array Value) (ccs : Array (Option Value)) (x : Str) (tf : Tok), K.lookup cda = some ⟨ccl, cdd, .fields vs, ccs⟩ ∧ vs[2]? = some (.str x tf) ∧ (file == x) = true := by
  cases cd with
  | ref c =>
    have h1 : (match K.lookup c with
      | some ⟨_, _, .fields vs, _⟩ => (match thirdV vs with
        | some (.str x _) => file == x
        | _ => false)
      | _ => false) = true := h
    cases q : K.lookup c with
    | none => rw [q] at h1; cases h1
    | some o =>
      obtain ⟨oc, od, dt, osl⟩ := o
      rw [q] at h1
      cases dt with
      | fields vs =>
        dsimp only at h1
        cases e : thirdV vs with
        | none => rw [e] at h1; cases h1
        | some v =>
          rw [e] at h1
          cases v with
          | str x t => exact ⟨c, rfl, oc, od, vs, osl, x, t, q, e, h1⟩
          | _ => cases h1
      | _ => cases h1
  | _ => cases h
def FDf.ok (file : Str) (K : Fr) (d : FDf) : Bool := match K.lookup (d.at_ K) with
  | some ⟨_, _, .func fd, _⟩ => PySem.W.codeIn K fd.code d.qual && ((match fd.defaults with
    | .none => true
    | _ => false) && (match d.sup with
    | none => true
    | some x => (match fd.closure with
      | [(_, cc)] => cellB K cc (ga K x) && codeFile K fd.code file
      | _ => false)))
  | _ => false
def DefAt (K : Fr) (d : FDf) : Prop := ∃ oc od osl kV doc pm an cdv ct, K.lookup (d.at_ K) = some ⟨oc, od, .func (PySem.W.fnOf d.name d.qual d.params d.body d.scope .none kV doc pm an cdv ct), osl⟩ ∧ PySem.W.codeIn K cdv d.qual = true
def SupAt (file : Str) (K : Fr) (d : FDf) (x : Str) : Prop := ∃ oc od osl kV doc pm an cda ct cc, K.lookup (d.at_ K) = some ⟨oc, od, .func (PySem.W.ksFn d.name d.qual d.params d.body d.scope .none kV doc pm an (.ref cda) ct cc), osl⟩ ∧ PySem.W.codeIn K (.ref cda) d.qual = true ∧ CellK K cc (ga K x) ∧
  ∃ (ccl : Value) (cdd : Option Addr) (vs : Array Value) (ccs : Array (Option Value)) (fx : Str) (tf : Tok), K.lookup cda = some ⟨ccl, cdd, .fields vs, ccs⟩ ∧ vs[2]? = some (.str fx tf) ∧ (file == fx) = true
theorem FDf.at1 {file : Str} {K : Fr} {d : FDf} (e : fnA K (d.at_ K) = d.val) (c : d.ok file K = true) (hs : d.sup = none) : DefAt K d := by
  unfold fnA at e
  unfold FDf.ok at c
  unfold FDf.val at e
  rw [hs] at e c
  cases q : K.lookup (d.at_ K) with
  | none => rw [q] at c; cases c
  | some o =>
    obtain ⟨oc, od, dt, osl⟩ := o
    rw [q] at c e
    cases dt with
    | func fd =>
      obtain ⟨n1, n2, n3, n4, n5, n6, n7, n8, n9, n10, n11, n12, n13, n14, n15⟩ := fd
      simp only [Option.some.injEq, Prod.mk.injEq] at e
      obtain ⟨h1, h2, h3, h4, h5, h6, h7, h8⟩ := e
      dsimp only at c
      obtain ⟨c1, c2⟩ := ba c
      obtain ⟨c3, _⟩ := ba c2
      have h7' : n7 = [] := by simpa using h7
      have h8' : n8 = .none := by cases n8 <;> first | rfl | cases c3
      subst h1 h2 h3 h4 h5 h6 h7' h8 h8'
      exact ⟨_, _, _, _, _, _, _, _, _, q, c1⟩
    | _ => cases c
theorem FDf.at2 {file : Str} {K : Fr} {d : FDf} {x : Str} (e : fnA K (d.at_ K) = d.val) (c : d.ok file K = true) (hs : d.sup = some x) : SupAt file K d x := by
  unfold fnA at e
  unfold FDf.ok at c
  unfold FDf.val at e
  rw [hs] at e c
  cases q : K.lookup (d.at_ K) with
  | none => rw [q] at c; cases c
  | some o =>
    obtain ⟨oc, od, dt, osl⟩ := o
    rw [q] at c e
    cases dt with
    | func fd =>
      obtain ⟨n1, n2, n3, n4, n5, n6, n7, n8, n9, n10, n11, n12, n13, n14, n15⟩ := fd
      simp only [Option.some.injEq, Prod.mk.injEq] at e
      obtain ⟨h1, h2, h3, h4, h5, h6, h7, h8⟩ := e
      dsimp only at c
      obtain ⟨c1, c2⟩ := ba c
      obtain ⟨c3, c4⟩ := ba c2
      have h8' : n8 = .none := by cases n8 <;> first | rfl | cases c3
      cases n7 with
      | nil => cases c4
      | cons p r =>
        cases r with
        | cons _ _ => cases c4
        | nil =>
          obtain ⟨nm, cc⟩ := p
          have h7' : nm = clsN := by simpa using h7
          dsimp only at c4
          obtain ⟨c5, c6⟩ := ba c4
          obtain ⟨cda, e13, rest⟩ := codeFile_ok c6
          subst h1 h2 h3 h4 h5 h6 h7' h8 h8' e13
          exact ⟨_, _, _, _, _, _, _, _, _, _, q, c1, cellB_ok c5, rest⟩
    | _ => cases c
abbrev AlM : Type := Bool × List FnA
def obsM (file : Str) (fs : List (Fr → Bool)) (fn : List FDf) (K : Fr) : AlM := ((fs.all fun f => f K) && fn.all fun d => d.ok file K, fn.map fun d => fnA K (d.at_ K))
def valM (fn : List FDf) : AlM := (true, fn.map FDf.val)
def SaysM (file : Str) (fs : List (Fr → Bool)) (fn : List FDf) (K : Fr) : Prop := obsM file fs fn K = valM fn
section
variable {file : Str} {fs : List (Fr → Bool)} {fn : List FDf} {K : Fr}
theorem SaysM.fact (c : SaysM file fs fn K) (i : Nat) {f : Fr → Bool} (h : fs[i]? = some f := by rfl) : f K = true := by
  have c1 := (ba (show ((fs.all fun f => f K) && fn.all fun d => d.ok file K) = true from congrArg (fun z : AlM => z.1) c)).1
  exact List.all_eq_true.mp c1 f (List.mem_of_getElem? h)
theorem SaysM.raw (c : SaysM file fs fn K) (i : Nat) {d : FDf} (h : fn[i]? = some d) : fnA K (d.at_ K) = d.val ∧ d.ok file K = true := by
  have c2 := (ba (show ((fs.all fun f => f K) && fn.all fun d => d.ok file K) = true from congrArg (fun z : AlM => z.1) c)).2
  have e : fn.map (fun d => fnA K (d.at_ K)) = fn.map FDf.val := congrArg (fun z : AlM => z.2) c
  have e2 : (fn.map fun d => fnA K (d.at_ K))[i]? = (fn.map FDf.val)[i]? := by rw [e]
  rw [List.getElem?_map, List.getElem?_map, h] at e2
  exact ⟨Option.some.inj e2, List.all_eq_true.mp c2 d (List.mem_of_getElem? h)⟩
theorem SaysM.def_ (c : SaysM file fs fn K) (i : Nat) (d : FDf) (h : fn[i]? = some d := by rfl) (hs : d.sup = none := by rfl) : DefAt K d := FDf.at1 (c.raw i h).1 (c.raw i h).2 hs
theorem SaysM.sup (c : SaysM file fs fn K) (i : Nat) (d : FDf) (x : Str) (h : fn[i]? = some d := by rfl) (hs : d.sup = some x := by rfl) : SupAt file K d x := FDf.at2 (c.raw i h).1 (c.raw i h).2 hs
theorem DefAt.keep {d : FDf} (h : DefAt K d) : PySem.W.keepIn K (.ref (d.at_ K)) = true := by
  obtain ⟨oc, od, osl, kV, doc, pm, an, cdv, ct, lk, _⟩ := h
  unfold PySem.W.keepIn
  dsimp only
  rw [lk]
end
def bGlo (x : Str) : Fr → Bool := fun K => eqO (PySem.W.nsIn K mainGlobals x) (some (some (.ref (ga K x))))
def bFree (x : Str) : Fr → Bool := fun K => eqO (PySem.W.nsIn K mainGlobals x) (some none)
def bCls (x : Str) : Fr → Bool := (He.Fa.cls x).ok
def bNoat (x f : Str) : Fr → Bool := fun K => eqO (PySem.W.findIn K (.ref (ga K x)) f) (some none)
def bMeth (x m : Str) : Fr → Bool := (He.Fa.meth x m).ok
def bMkr (x : Str) : Fr → Bool := (He.Fa.mkr x).ok
def bExm (x y : Str) (b : Bool) : Fr → Bool := fun K => decide (PySem.W.exmOne K (.ref (ga K x)) (.ref (ga K y)) = some b)
def bOex (x : Str) : Fr → Bool := fun K => (match K.lookup (ga K x) with
  | some ⟨.type t, _, .cls cd, sl⟩ => decide (t = "type") && (match cd.mro, sl.toList with
    | .ref C' :: bm, [_, _, _, _, some (.builtin n), _] => decide (C' = ga K x) && (decide (n = "ValueError.__new__") && (!cd.hasDel && (cd.hasDict && PySem.HandSPX.refsVE bm)))
    | _, _ => false)
  | _ => false) && (eqO (PySem.W.findIn K (.ref (ga K x)) "__setattr__") (some (some (.builtin "object.__setattr__"))) && (decide (PySem.W.subIn K (.ref (ga K x)) (.type "BaseException") = some true) &&
    (decide (PySem.W.typeIn K (.ref (ga K x)) = some (.type "type")) && PySem.W.keepIn K (.ref (ga K x)))))
def bSupE (x : Str) : Fr → Bool := fun K => eqO (PySem.W.ks_superIn K (ga K x) (ga K x) "__init__") (some (some (.builtin "ValueError.__init__"))) && (decide (PySem.W.subIn K (.ref (ga K x)) (.type "ValueError") = some true) && decide (PySem.W.mroIn K (ga K x) (.ref (ga K x)) = some true))
def bIni (x : Str) : Fr → Bool := fun K => eqO (PySem.W.findIn K (.ref (ga K x)) "__init__") (some (some (.ref (ma K (ga K x) "__init__")))) && decide (PySem.W.typeIn K (.ref (ma K (ga K x) "__init__")) = some (.type "function"))
def bIsc (x : Str) : Fr → Bool := fun K => (PySem.W.clsIn K (ga K x)).isSome
def bThird : Fr → Bool := fun K => eqO (PySem.W.nsIn K cStatics "thirdparty.any") (some none)
def bXf (x : Str) : Fr → Bool := fun K => xfB K (ga K x)
def bExc (x : Str) : Fr → Bool := fun K => decide (PySem.W.findIn K (.ref (ga K x)) "__getattribute__" = some (some (.builtin "BaseException.__getattribute__"))) && (decide (PySem.W.findIn K (.ref (ga K x)) "__getattr__" = some none) &&
  (decide (PySem.W.subIn K (.ref (ga K x)) (.type "BaseException") = some true) && (PySem.W.hasDictIn K (ga K x) && (decide (PySem.W.findIn K (.ref (ga K x)) "__class__" = some (some (.builtin "object.__class__"))) &&
  (decide (PySem.W.specialIn K (.builtin "object.__class__") "__get__" = some (some (.builtin "getset_descriptor.__get__"))) && (decide (PySem.W.takesIn K (.builtin "object.__class__") = some true) && decide (PySem.W.mroIn K (ga K x) (.type "object") = some true)))))))
def bIns (x : Str) : Fr → Bool := fun K => decide (PySem.W.findIn K (.ref (ga K x)) "__class__" = some (some (.builtin "object.__class__"))) && (decide (PySem.W.specialIn K (.builtin "object.__class__") "__get__" = some (some (.builtin "getset_descriptor.__get__"))) &&
  (decide (PySem.W.takesIn K (.builtin "object.__class__") = some true) && decide (PySem.W.mroIn K (ga K x) (.type "object") = some true)))
def bSupM' (x D m B : Str) : Fr → Bool := fun K => eqO (PySem.W.ks_superIn K (ga K x) (ga K D) m) (some (some (.ref (ma K (ga K B) m)))) && (decide (PySem.W.typeIn K (.ref (ma K (ga K B) m)) = some (.type "function")) && (PySem.W.fnIn K (ma K (ga K B) m) && decide (PySem.W.mroIn K (ga K x) (.ref (ga K D)) = some true)))
def clsOf (K : Fr) (x : Str) : Value := (PySem.W.typeIn K (.ref (ga K x))).getD .none
def bRead (x : Str) : Fr → Bool := fun K => PySem.W.readsIn K (ga K x) (clsOf K x) && decide (PySem.W.specialIn K (.ref (ga K x)) "__getattribute__" = some (some (.builtin "type.__getattribute__")))
def bStm (x m : Str) : Fr → Bool := fun K => (match PySem.W.findCls K (.ref (ga K x)) (clsOf K x) m with
  | some (.get (.builtin b) (.ref p) .none (.ref C)) => decide (b = "staticmethod.__get__") && (decide (p = ma K (ga K x) m) && decide (C = ga K x))
  | _ => false) && (match PySem.W.recIn K (ma K (ga K x) m) "staticmethod" with
  | some (.ref _ :: _) => true
  | _ => false)
def bCst (x f : Str) (v : V) : Fr → Bool := fun K => match PySem.W.findCls K (.ref (ga K x)) (clsOf K x) f with
  | some (.val u) => relB v u
  | _ => false
def bKit (t : Fr → Value) (u : Fr → Value) (b : Bool) : Fr → Bool := fun K => decide (PySem.W.kitOne K (t K) (u K) = some b)
section
variable {K : Fr} {x f m y : Str}
theorem bGlo_ok {h : Heap} {mg : Str → Option Value} (X : K.In h) (G : h.Ns mainGlobals mg) (c : bGlo x K = true) : mg x = some (.ref (ga K x)) := PySem.W.mg_of X G (eqO_ok c)
theorem bFree_ok {h : Heap} {mg : Str → Option Value} (X : K.In h) (G : h.Ns mainGlobals mg) (c : bFree x K = true) : mg x = none := PySem.W.mg_none_of X G (eqO_ok c)
theorem bOex_ok (c : bOex x K = true) : OexC K (ga K x) := by
  obtain ⟨c1, c⟩ := ba c
  obtain ⟨c2, c⟩ := ba c
  obtain ⟨c3, c⟩ := ba c
  obtain ⟨c4, c5⟩ := ba c
  refine ⟨?_, eqO_ok c2, of_decide_eq_true c3, of_decide_eq_true c4, c5⟩
  cases q : K.lookup (ga K x) with
  | none => rw [q] at c1; cases c1
  | some o =>
    obtain ⟨oc, od, dt, sl⟩ := o
    rw [q] at c1
    cases oc with
    | type t =>
      cases dt with
      | cls cd =>
        obtain ⟨d1, d2⟩ := ba (show (decide (t = "type") && _) = true from c1)
        have e1 : t = "type" := of_decide_eq_true d1
        subst e1
        obtain ⟨nm, bs, mro, ns, qn, hd, sn, sub, ab, col, hdel⟩ := cd
        obtain ⟨sl⟩ := sl
        dsimp only at d2
        split at d2
        · rename_i _ _ C' bm k0 k1 k2 k3 n k5
          obtain ⟨f1, f2⟩ := ba d2
          obtain ⟨f3, f4⟩ := ba f2
          obtain ⟨f5, f6⟩ := ba f4
          obtain ⟨f7, f8⟩ := ba f6
          have g1 : C' = ga K x := of_decide_eq_true f1
          have g2 : n = "ValueError.__new__" := of_decide_eq_true f3
          have g3 : hdel = false := by cases hdel <;> first | rfl | cases f5
          have g4 : hd = true := f7
          subst g2 g3 g4
          rw [← g1] at q ⊢
          exact ⟨nm, qn, ns, bs, bm, sn, sub, ab, col, od, k0, k1, k2, k3, k5, rfl, f8⟩
        · cases d2
      | _ => cases c1
    | _ => cases c1
theorem bSupE_ok (c : bSupE x K = true) : SupE K (ga K x) (ga K x) := by
  obtain ⟨c1, c⟩ := ba c
  obtain ⟨c2, c3⟩ := ba c
  exact ⟨eqO_ok c1, of_decide_eq_true c2, of_decide_eq_true c3⟩
theorem bIni_ok (c : bIni x K = true) : PySem.W.findIn K (.ref (ga K x)) "__init__" = some (some (.ref (ma K (ga K x) "__init__"))) ∧ PySem.W.typeIn K (.ref (ma K (ga K x) "__init__")) = some (.type "function") := by
  obtain ⟨c1, c2⟩ := ba c
  exact ⟨eqO_ok c1, of_decide_eq_true c2⟩
theorem bIsc_ok (c : bIsc x K = true) : ∃ cd, PySem.W.clsIn K (ga K x) = some cd := Option.isSome_iff_exists.mp c
theorem bExc_ok (c : bExc x K = true) : ExcC K (ga K x) := by
  obtain ⟨c1, c⟩ := ba c
  obtain ⟨c2, c⟩ := ba c
  obtain ⟨c3, c⟩ := ba c
  obtain ⟨c4, c⟩ := ba c
  obtain ⟨c5, c⟩ := ba c
  obtain ⟨c6, c⟩ := ba c
  obtain ⟨c7, c8⟩ := ba c
  exact ⟨of_decide_eq_true c1, of_decide_eq_true c2, of_decide_eq_true c3, c4, of_decide_eq_true c5, of_decide_eq_true c6, of_decide_eq_true c7, of_decide_eq_true c8⟩
theorem bIns_ok (c0 : bCls x K = true) (c : bIns x K = true) : InsOk K (ga K x) := by
  obtain ⟨c5, c⟩ := ba c
  obtain ⟨c6, c⟩ := ba c
  obtain ⟨c7, c8⟩ := ba c
  exact ⟨He.cls_ok c0, of_decide_eq_true c5, of_decide_eq_true c6, of_decide_eq_true c7, of_decide_eq_true c8⟩
theorem bSupM_ok {D B : Str} (c : bSupM' x D m B K = true) : SupM K (ga K x) (ga K D) m (ma K (ga K B) m) := by
  obtain ⟨c1, c⟩ := ba c
  obtain ⟨c2, c⟩ := ba c
  obtain ⟨c3, c4⟩ := ba c
  exact ⟨eqO_ok c1, of_decide_eq_true c2, c3, of_decide_eq_true c4⟩
theorem bRead_ok (c : bRead x K = true) : ClX.CRead K (ga K x) (clsOf K x) := by
  obtain ⟨c1, c2⟩ := ba c
  exact ⟨c1, of_decide_eq_true c2⟩
theorem bStm_ok {g : Gm} {k : Nat} {F : Fn} (hm : g.mg x = some (.ref (ga g.K x))) (r : bRead x g.K = true) (c : bStm x m g.K = true) (hk : PySem.W.keepIn g.K (.ref (atR "staticmethod" x m g.K)) = true) (C : CalD g k (atR "staticmethod" x m g.K) [] F) : StmOk g k x m F := by
  obtain ⟨c1, c2⟩ := ba c
  cases q : PySem.W.findCls g.K (.ref (ga g.K x)) (clsOf g.K x) m with
  | none => rw [q] at c1; cases c1
  | some fd =>
    rw [q] at c1
    split at c1
    · rename_i b p C' heq
      obtain ⟨d1, d2⟩ := ba c1
      obtain ⟨d3, d4⟩ := ba d2
      have e1 := of_decide_eq_true d1
      have e2 := of_decide_eq_true d3
      have e3 := of_decide_eq_true d4
      subst e1 e2 e3
      cases heq
      cases q2 : PySem.W.recIn g.K (ma g.K (ga g.K x) m) "staticmethod" with
      | none => rw [q2] at c2; cases c2
      | some l =>
        rw [q2] at c2
        split at c2
        · rename_i f rest heq2
          cases heq2
          have e4 : atR "staticmethod" x m g.K = f := by unfold atR; rw [q2]
          rw [e4] at hk C
          exact ⟨_, _, _, f, rest, hm, bRead_ok r, q, q2, hk, C⟩
        · cases c2
    · cases c1
theorem bCst_ok {g : Gm} {v : V} {d : D} (hm : g.mg x = some (.ref (ga g.K x))) (r : bRead x g.K = true) (c : bCst x f v g.K = true) (hd : ∀ ι H, RelD g ι H d v) : CstOk g x f d := by
  unfold bCst at c
  cases q : PySem.W.findCls g.K (.ref (ga g.K x)) (clsOf g.K x) f with
  | none => rw [q] at c; cases c
  | some fd =>
    rw [q] at c
    cases fd with
    | val u => exact ⟨_, _, v, u, hm, bRead_ok r, ⟨q, relB_ok c⟩, hd⟩
    | _ => cases c
end
end FI
set_option maxRecDepth 100000
set_option maxHeartbeats 2000000
namespace FI
open PySem L2 PySem.Spec PyProof.Rows
open He (ga ma eqO eqO_ok ba relB relB_ok)
theorem ft_chainO {g : Gm} {c : Sc} {x1 x2 x3 : Expr} {fa fb fc : SE} {op op' : CmpOp} {F F' : D → D → Mm D} {pos : Pos} (h : CmpOk g op F) (h' : CmpOk g op' F') (ha : FE g c x1 fa) (hb : FE g c x2 fb) (hc : FE g c x3 fc) (hm : lastMarks [op, op'] [x2, x3] = false := by rfl) : FT g c (.Compare x1 [op, op'] [x2, x3] pos) (tB (eChain F F' fa fb fc)) :=
  ⟨fun X i W t => by
    obtain ⟨_, ho, p⟩ := h.run c X i
    obtain ⟨_, ho', p'⟩ := h'.run c X i
    exact pt_imp (L2.pt_chain ho ho' (ha.run X i W t) (hb.run X i W t) (hc.run X i W t) hm) fun σ H Q ⟨ι, gs, G, ss, sh, h⟩ => ⟨ι, gs, G, ss, sh, h.bnd.bnd.imp fun d ι1 G1 H1 s1 t1 h1 v rv =>
      ⟨ι1, gs, G1, ss.mono s1, t1, h1.bnd.imp fun e ι2 G2 H2 s2 t2 h2 w rw' => p W σ ι2 G2 H2 d e v w _ t2 (rv.mono s2) rw' (h2.bnd.imp fun k ι3 G3 H3 s3 t3 h3 z rz => by
        cases rz with
        | bl b =>
          cases b with
          | true => exact ⟨true, rfl, ι3, gs, G3, ((ss.mono s1).mono s2).mono s3, t3, h3.bnd.imp fun y ι4 G4 H4 s4 t4 h4 u ru => p' W σ ι4 G4 H4 e y w u _ t4 ((rw'.mono s3).mono s4) ru (h4.imp fun z ι5 G5 H5 s5 t5 h5 v5 r5 => by
              cases r5 <;> first | exact h5.no | exact ⟨_, rfl, h5.val (.refl _ _ _) t5⟩)⟩
          | false => exact ⟨false, rfl, ⟨false, rfl, (h3.val (K := fun d ι' G' H' => Gv g W σ ι' H' _ _) (.refl _ _ _) t3).val (.refl _ _ _) t3⟩⟩
        | _ => exact h3.no)⟩⟩⟩
def bSorted : List D → Mm D := fun ds G => match d1 bSortL ds G with
  | some z => some z
  | none => d1 bSortD ds G
theorem b_sorted' {g : Gm} : BltOk g (.builtin "sorted") bSorted true := b_sorted
def kwdAt (K : Fr) (a : Addr) : Value := match K.lookup a with
  | some ⟨_, _, .func fd, _⟩ => fd.kwdefaults
  | _ => .none
def kwdRel (K : Fr) (kV : Value) (kw : Str) (v : V) : Bool := match kV with
  | .ref Dk => (match PySem.W.nsIn K Dk kw with
    | some (some u) => relB v u
    | _ => false)
  | _ => false
def bKwd (at_ : At) (kw : Str) (v : V) : Fr → Bool := fun K => kwdRel K (kwdAt K (at_ K)) kw v
theorem bKwd_ok {K : Fr} {at_ : At} {kw : Str} {v : V} (c : bKwd at_ kw v K = true) {oc : Value} {od : Option Addr} {fd : FuncData} {osl : Array (Option Value)} (lk : K.lookup (at_ K) = some ⟨oc, od, .func fd, osl⟩) : ∃ Dk u, fd.kwdefaults = .ref Dk ∧ PySem.W.nsIn K Dk kw = some (some u) ∧ RelV v u := by
  have c1 : kwdRel K (kwdAt K (at_ K)) kw v = true := c
  have e : kwdAt K (at_ K) = fd.kwdefaults := by unfold kwdAt; rw [lk]
  rw [e] at c1
  cases q : fd.kwdefaults with
  | ref Dk =>
    rw [q] at c1
    unfold kwdRel at c1
    dsimp only at c1
    cases q2 : PySem.W.nsIn K Dk kw with
    | none => rw [q2] at c1; cases c1
    | some r =>
      rw [q2] at c1
      cases r with
      | none => cases c1
      | some u => exact ⟨Dk, u, rfl, q2, relB_ok c1⟩
  | _ => rw [q] at c1; cases c1
def bSame (d b m : Str) : Fr → Bool := fun K => decide (ma K (ga K d) m = ma K (ga K b) m)
theorem pvx {g : Gm} {c : Sc} {X : Cx} (i : XIs g c X) (j : Nat) {x : Str} {pos : Pos} (hN : c.N[j]? = some x := by rfl) (hv : Vis c.sc x := by first | exact Or.inl rfl | exact Or.inr (Or.inl rfl) | exact Or.inr (Or.inr rfl))
    (hd : (x == ("__debug__" : Str)) = false := by decide) (hcd : (x == ("__classdict__" : Str)) = false := by decide) : PE X (.Name x pos) (tVar j) := pe_var (i := j) (by rw [i.N]; exact hN) (by rw [i.sc]; exact hv) hd hcd
end FI
set_option maxRecDepth 100000
set_option maxHeartbeats 2000000
namespace FI
open PySem L2 PySem.Spec PyProof.Rows
theorem walk_ofW {l : PySem.W.OpenLaw} {n k : Nat} {q : Program} {loose : List Str} {XP : (Str → Option Value) → Heap → Prop} {YP : World → Heap → Prop} {d : DefRec} {x : Str} (hn : l.most = some n) (hn2 : n ≤ sizeLine) (hdf : d.params.defaults = []) (hr : Room k callerA)
    (F : ∀ (w : World) (mg : Str → Option Value) (fa : Addr) (h : Heap), YP w h → h.Ns mainGlobals mg → mg d.name = some (.ref fa) → ∃ (K : PySem.W.Frag) (fd : FuncData) (sp : Heap → Sp), K.In h ∧ (∀ (s : Shared) (u : Value), BindsTo s fd ⟨[u], []⟩ [(x, u)]) ∧
      (∀ (H : Hp) (a : Addr) (ns : List Int), ns.length ≤ n → Only H → SqL K H a (ns.map V.int) → ∀ base, sp base [.ref a] H (fun v _ => v = .bl true) fun _ _ _ => False) ∧ ∀ base : Heap, FnOk l.prog w K mg base (L2N.CX l.prog w) k fa fd [x] (sp base)) :
    PySem.W.WalkO q loose XP YP l.row.toRowW d [] (fun f vs => PySem.call f vs) := by
  refine Att.attach_call hn hdf fun w s0 s1 mg mb fa o pm cd doc a vs ns G Y ho hd hcd hmg hobj hints hlen hg => ?_
  obtain ⟨K, fd, sp, KX, hb, hsp, hF⟩ := F w mg fa _ Y G.T.g hmg
  refine law_call (CX := L2N.CX l.prog w) (sp := fun vs H Q E => ∀ base, sp base vs H Q E) KX G.T.g G.T.b G.T.builtins G.T.nolimit hg hobj hints (Nat.le_trans hlen hn2) hr (fun base _ _ => ?_) hb (fun H hO hS => hsp H a ns hlen hO hS) fun H e s' z => ?_
  · have z := hF base
    exact ⟨fun vs H Q E q => z.len vs H Q E (q base), fun A outer s H args us vs Q E r e0 b rv q => z.run A outer s H args us vs Q E r e0 b rv (q base)⟩
  · obtain ⟨_, _, _, _, _, _, _, _, _, _, _, _, q⟩ := z
    exact q
end FI
namespace FI
open PySem L2 PySem.Spec PyProof.Rows
theorem sqf_only {K : PySem.W.Frag} {H : Hp} {a : Addr} {xs : List V} (hO : Only H) (h : SqL K H a xs) : SqF K H a xs := by
  rcases h with h | h
  · rcases h with h | ⟨o, h⟩
    · rcases hO a with e | ⟨o, ys, e⟩
      · rw [e] at h; cases h
      · rw [e] at h; cases h
    · exact .inl ⟨o, h⟩
  · exact .inr h
theorem rel_int_map {g : Gm} {ι : List Addr} {H : Hp} : ∀ ns : List Int, RelDs g ι H (ns.map D.int) (ns.map V.int)
  | [] => .nil
  | n :: r => .cons (.int n) (rel_int_map r)
theorem sp_law {g : Gm} {F : Fn} {H : Hp} {a : Addr} {ns : List Int} (hO : Only H) (hS : SqL g.K H a (ns.map V.int)) (pure : ∃ G', F [.kl (ns.map .int)] [] = some (.val (.bl true), G')) : spD g 1 F [.ref a] H (fun v _ => v = .bl true) fun _ _ _ => False := by
  obtain ⟨G', e⟩ := pure
  refine ⟨rfl, [], [.kl (ns.map .int)], [], .cons (.kl (sqf_only hO hS) (rel_int_map ns)) .nil, ⟨rfl, List.nodup_nil, fun n o a h => by simp at h⟩, ?_⟩
  refine Gv.mk e fun ι' H' s t v rv => ?_
  cases rv
  rfl
end FI
set_option maxRecDepth 100000
namespace FI
open PySem L2 PySem.Spec PyProof.Rows
open He (ga ma refsD frG frG_in eqO eqO_ok ba relB relB_ok)
def obsL (file : Str) (as : List Addr) (fs : List (Fr → Bool)) (fn : List FDf) (g : Addr → Option Obj) : AlM := obsM file fs fn (frG g as)
def hookL (file : Str) (as : List Addr) (fs : List (Fr → Bool)) (fn : List FDf) : PySem.W.Hook where
  α := AlM
  obs := fun s => obsL file as fs fn s.heap.get?
  val := fun _ => valM fn
  says := fun _ h => ∃ K : PySem.W.Frag, K.In h ∧ SaysM file fs fn K
  of := fun _ _ e => ⟨_, frG_in, e⟩
  keeps := fun _ _ _ ⟨K, hK, c⟩ k => ⟨K, PySem.W.Frag.In.keeps hK k, c⟩
theorem obsL_eq {file : Str} {as : List Addr} {fs : List (Fr → Bool)} {fn : List FDf} {g : Addr → Option Obj} {s : Shared} (h : ∀ a, g a = s.heap.get? a) : obsL file as fs fn g = (hookL file as fs fn).obs s := by
  have e : g = s.heap.get? := funext h
  rw [e] <;> rfl
end FI
set_option maxRecDepth 100000
set_option maxHeartbeats 1000000
namespace FI
open PySem PySem.Spec PyProof.Rows L2
section
variable {g : Gm} {c : Sc} {ek ev : Expr} {fk fv : SE} {pos : Pos}
theorem Gv.base {W : WX} {σ : L2.St} {ι ι' : List Addr} {H H' : Hp} {α : Type} {m : Option (Rs α × Hh)} {K : α → List Addr → Hh → Hp → Prop} (h : Gv g W σ ι H m K) (s : Stp g ι H ι' H') : Gv g W σ ι' H' m K := by
  obtain ⟨r, G', e, q⟩ := h
  exact ⟨r, G', e, fun ι2 H2 s2 t2 => q ι2 H2 (s.trans s2) t2⟩
end
end FI
namespace FI
open PySem PySem.Spec PyProof.Rows L2
structure PrpOk (g : Gm) (k cn : Nat) (f : Str) (F : Fn) : Prop where
  cl : Cls g.K (g.cls cn)
  ex : ∃ p ga fd, PropOf g.K (g.cls cn) f p ga ∧ FnD g k ga fd ["self"] F ∧ Binds g.K fd ["self"] []
end FI
namespace FI
open PySem PySem.Spec PyProof.Rows L2
def bPrp (x f : Str) : Fr → Bool := fun K => He.eqO (PySem.W.findIn K (.ref (He.ga K x)) f) (some (some (.ref (He.ma K (He.ga K x) f)))) && (decide (PySem.W.specialIn K (.ref (He.ma K (He.ga K x) f)) "__get__" = some (some (.builtin "property.__get__"))) &&
  (decide (PySem.W.takesIn K (.ref (He.ma K (He.ga K x) f)) = some true) && (match PySem.W.recIn K (He.ma K (He.ga K x) f) "property" with
  | some (.ref _ :: _) => true
  | _ => false)))
theorem bPrp_ok {K : Fr} {x f : Str} (c : bPrp x f K = true) : PropOf K (He.ga K x) f (He.ma K (He.ga K x) f) (atR "property" x f K) := by
  obtain ⟨c1, c⟩ := He.ba c
  obtain ⟨c2, c⟩ := He.ba c
  obtain ⟨c3, c4⟩ := He.ba c
  refine ⟨He.eqO_ok c1, of_decide_eq_true c2, of_decide_eq_true c3, ?_⟩
  unfold atR
  cases e : PySem.W.recIn K (He.ma K (He.ga K x) f) "property" with
  | none => rw [e] at c4; cases c4
  | some l =>
    rw [e] at c4
    cases l with
    | nil => cases c4
    | cons v r =>
      cases v with
      | ref a => exact ⟨r, rfl⟩
      | _ => cases c4
end FI
set_option maxRecDepth 100000
set_option maxHeartbeats 1000000
set_option maxRecDepth 100000
set_option maxHeartbeats 4000000
set_option maxRecDepth 100000
set_option maxHeartbeats 2000000
namespace FI
open PySem L2 PySem.Spec PyProof.Rows
open He (ga ma eqO eqO_ok ba relB relB_ok)
theorem XFldOk.un {g : Gm} {cs : List Nat} {k : Nat} {f : Str} (h : XFldOk (g.han (0, 0, .none, none, ⟨0, []⟩)) cs k f) : XFldOk g cs k f := ⟨h.lt, h.nm, h.cl⟩
structure CmtOk (g : Gm) (k : Nat) (cx m : Str) (F : Fn) : Prop where
  ex : ∃ C mc p f, g.mg cx = some (.ref C) ∧ ClX.CRead g.K C mc ∧ ClX.CMet g.K C mc m p f ∧ CalD g k f [] F
def eCMt (cx : Str) (F : Fn) (fa : SA) : SE := eArgs (fun ds => F (.glb cx :: ds)) fa
def aStar (fe : SE) (fr : SA) : SA := fun gs G => bnd (fe gs G) fun d G1 => match itemsD G1 d with
  | some xs => bnd (fr gs G1) fun ds G2 => some (.val (xs ++ ds), G2)
  | none => none
def eCallV (i : Nat) (x : Str) (F : Fn) (fa : SA) : SE := fun gs G => match gs[i]? with
  | some (some (.glb z)) => if z = x then bnd (fa gs G) F else none
  | _ => none
def eCstV (i : Nat) (x : Str) (d : D) : SE := fun gs G => match gs[i]? with
  | some (some (.glb z)) => if z = x then some (.val d, G) else none
  | _ => none
section
variable {g : Gm} {c : Sc} {cx m f x y : Str} {d : D} {a e : Expr} {es : List Expr} {fe : SE} {fa fr : SA} {k i : Nat} {F : Fn} {p sp apos pos : Pos} {pl : Env → Sem Bool}
theorem star_at {ι : List Addr} {G : Hh} {H : Hp} {d : D} {v : V} {xs : List D} (sh : SimH g ι G H) (r : RelD g ι H d v) (e : itemsD G d = some xs) : ∃ p vs, v = .ref p ∧ (SqT g.K H p vs ∨ SqL g.K H p vs) ∧ RelDs g ι H xs vs := by
  cases r with
  | @tup xs' a vs ha rs => cases e; exact ⟨a, vs, rfl, .inl (.inl (.inl ha)), rs⟩
  | @kt xs' a vs ha rs => cases e; exact ⟨a, vs, rfl, .inl ha.sq, rs⟩
  | @kl xs' a vs ha rs => cases e; exact ⟨a, vs, rfl, .inr ha.sq, rs⟩
  | @ref n a ha =>
    unfold itemsD at e
    dsimp only at e
    cases hm : G[n]? with
    | none => rw [hm] at e; cases e
    | some o =>
      rw [hm] at e
      cases o with
      | lst ys =>
        cases e
        obtain ⟨vs, hv, rs⟩ := lst_at sh ha hm
        exact ⟨a, vs, rfl, .inr (.inl (.inl hv)), rs⟩
      | _ => cases e
  | _ => cases e
theorem fa_star (ha : FE g c a fe) (hr : FA g c es fr) (hs : ∀ env, starEach (.Starred a sp :: es) env = (true, eval a env) :: starEach es env := by intro _; rfl) : FA g c (.Starred a sp :: es) (aStar fe fr) :=
  ⟨fun X i W t => pa_imp (StX.pa_star (ha.run X i W t) (hr.run X i W t) (hs _)) fun σ H Q ⟨ι, gs, G, ss, sh, h⟩ => ⟨ι, gs, G, ss, sh, h.bnd.imp fun d ι1 G1 H1 s1 t1 h1 v rv => by
    cases e : itemsD G1 d with
    | none => rw [e] at h1; exact h1.no
    | some xs =>
      rw [e] at h1
      obtain ⟨p, vs, rfl, hq, rs⟩ := star_at t1 rv e
      rw [i.K]
      exact ⟨p, vs, rfl, hq, ι1, gs, G1, ss.mono s1, t1, h1.bnd.imp fun ds ι2 G2 H2 s2 t2 h2 ws rw' => h2.val (.refl _ _ _) t2 (vs ++ ws) ((rs.mono s2).append rw')⟩⟩⟩
theorem runCc {X : Cx} {W : WX} {k : Nat} {f : Addr} {pins : List (Addr × Obj)} {σ : L2.St} {H : Hp} {s : Shared} {us : List Value} {vs : List V} {Q : VK} (C : CalD g k f [] F) (i : XIs g c X) (hk : k ≤ c.k ∧ c.hot = false) (tk : L2N.Takes X W)
    (I : Inv X pins σ H s) (r : Vals vs us) (h : RdF g F (WE W σ) vs H Q) : codeAny (model X.prog X.w) X.A (.call (.ref f) ⟨us, []⟩) (fun r s' => match r with | .ok (.ret v) => EP X pins σ Q v s' | .ok _ => False | .error e => X.xe e s') s := by
  have z := C X.A X.stack s H us [] vs Q (WE W σ) ((i.room hk.2).mono hk.1) (i.env I) rfl (by rw [List.append_nil]; exact r) h
  rw [← i.P, ← i.w] at z
  refine codeAny_mono z fun r s' hq => ?_
  cases r with
  | error e => exact tk e s' (L2N.XE.of_call I (fun _ _ _ h => h) hq)
  | ok fl =>
    cases fl with
    | ret u => exact I.after hq
    | next => exact False.elim hq
    | brk => exact False.elim hq
    | cont => exact False.elim hq
theorem fe_cmeth (S : CmtOk g k cx m F) (hk : k ≤ c.k ∧ c.hot = false) (ha : FA g c (e :: es) fa) (hg : GlS c cx := by rfl) (hd : (cx == ("__debug__" : Str)) = false := by decide)
    (hst : ∀ env, starEach (e :: es) env = (false, eval e env) :: starEach es env := by intro _; rfl) (hpl : ∀ env, (backTo pos (starEach es env)).any (·.1) = false := by intro _; rfl)
    (ht : ∀ env, eval (.Call (.Attribute (.Name cx p) m apos) (e :: es) [] pos) env = (do
      let ov ← eval (.Name cx p) env
      standAt apos.atName
      let (f, first) ← holding [ov] (getMethod ov m (pl env))
      callWith pos f first (backTo pos (starEach (e :: es) env)) (backToKw pos (keywordEach [] env))) := by intro _; rfl) : FE g c (.Call (.Attribute (.Name cx p) m apos) (e :: es) [] pos) (eCMt cx F fa) := ⟨fun X i W t => by
  obtain ⟨C, mc, q, f, hm, cr, cm, cal⟩ := S.ex
  refine ⟨fun pins s σ H Q I ⟨ι, gs, G, ss, sh, h⟩ => ?_⟩
  have hn := pe_glob (X := X) (pos := p) (v := .ref C) (hg.gl i) (by rw [i.mg]; exact hm) rfl hd
  refine PySem.W.methodCall_KW (pl := pl X.env) (thn (hn.run pins s σ H (fun v H1 => v = .ref C ∧ H1 = H) I ⟨rfl, rfl⟩) fun u s1 ⟨v, H1, I1, ru, ev, eH⟩ => ?_) (ht X.env)
  subst ev eH
  obtain rfl : u = Value.ref C := ru
  rw [← i.K] at cr cm
  refine ClX.getmethcm_ok I1 cr cm fun s2 I2 => ?_
  refine ClX.callwith_cm I2 (ClX.base_none I1 (Nat.le_refl _)) cm.fi (thn ((ha.run X i W t).run pos _ s2 σ H1 (fun vs H2 => RdF g F (WE W σ) (.ref C :: vs) H2 Q) I2 ⟨ι, gs, G, ss, sh, h.bnd.imp fun ds ι2 G2 H2 s2 t2 h2 vs rs => ⟨ι2, _, G2, .cons (.glb hm) rs, t2, h2.toE⟩⟩) fun us s3 ⟨vs, H2, I3, rv, q2⟩ => ⟨⟨ClX.pin_at I3, I3.kIn⟩, ?_⟩) (hst _) (hpl _)
  have z := runCc (us := .ref C :: us) (vs := .ref C :: vs) cal i hk t I3 (.cons rfl rv) q2
  exact thn (wpAny_call (PySem.W.method_call (ClX.pin_at I3) z)) fun _ _ y => ClX.unpinE y⟩
theorem fe_cmethW (S : CmtOk g k cx m F) (hk : k ≤ c.k ∧ c.hot = false) (ha : FA g c (e :: es) fa) (hg : GlS c cx := by rfl) (hd : (cx == ("__debug__" : Str)) = false := by decide)
    (hst : ∀ env, starEach (e :: es) env = (false, eval e env) :: starEach es env := by intro _; rfl) (hpl : ∀ env, (backTo pos (starEach es env)).any (·.1) = false := by intro _; rfl)
    (ht : ∀ env, eval (.Call (.Attribute (.Name cx p) m apos) (e :: es) [] pos) env = (do
      let ov ← eval (.Name cx p) env
      standAt apos.atName
      let (f, first) ← holding [ov] (do pure (← getAttr ov m true, []))
      let callPos ← pure pos
      callWith callPos f first (backTo pos (starEach (e :: es) env)) (backToKw pos (keywordEach [] env))) := by intro _; rfl) : FE g c (.Call (.Attribute (.Name cx p) m apos) (e :: es) [] pos) (eCMt cx F fa) := ⟨fun X i W t => by
  obtain ⟨C, mc, q, f, hm, cr, cm, cal⟩ := S.ex
  refine ⟨fun pins s σ H Q I ⟨ι, gs, G, ss, sh, h⟩ => ?_⟩
  have hn := pe_glob (X := X) (pos := p) (v := .ref C) (hg.gl i) (by rw [i.mg]; exact hm) rfl hd
  rw [ht]
  refine wpAny_bind (thn (hn.run pins s σ H (fun v H1 => v = .ref C ∧ H1 = H) I ⟨rfl, rfl⟩) fun u s1 ⟨v, H1, I1, ru, ev, eH⟩ => ?_)
  subst ev eH
  obtain rfl : u = Value.ref C := ru
  rw [← i.K] at cr cm
  refine wpAny_bind (wpAny_standAt (wpAny_bind (wpAny_holding (wpAny_bind (ClX.getcmet_ok I1 cr cm fun s2 I2 => wpAny_pure (wpAny_bind (wpAny_pure ?_)))))))
  refine ClX.callwith_cm I2 (ClX.base_none I1 (Nat.le_refl _)) cm.fi (thn ((ha.run X i W t).run pos _ s2 σ H1 (fun vs H2 => RdF g F (WE W σ) (.ref C :: vs) H2 Q) I2 ⟨ι, gs, G, ss, sh, h.bnd.imp fun ds ι2 G2 H2 s2 t2 h2 vs rs => ⟨ι2, _, G2, .cons (.glb hm) rs, t2, h2.toE⟩⟩) fun us s3 ⟨vs, H2, I3, rv, q2⟩ => ⟨⟨ClX.pin_at I3, I3.kIn⟩, ?_⟩) (hst _) (hpl _)
  have z := runCc (us := .ref C :: us) (vs := .ref C :: vs) cal i hk t I3 (.cons rfl rv) q2
  exact thn (wpAny_call (PySem.W.method_call (ClX.pin_at I3) z)) fun _ _ y => ClX.unpinE y⟩
theorem fe_callVS (n : Nam g k x [] F) (hk : k ≤ c.k ∧ c.hot = false) (ha : FA g c (e :: es) fa) (hN : c.N[i]? = some y := by rfl) (hv : Vis c.sc y := by first | exact Or.inl rfl | exact Or.inr (Or.inl rfl) | exact Or.inr (Or.inr rfl))
    (hd : (y == ("__debug__" : Str)) = false := by decide) (hcd : (y == ("__classdict__" : Str)) = false := by decide) (he : ∀ env, starEach (e :: es) env = (false, eval e env) :: starEach es env := by intro _; rfl)
    (hst : ∀ env, (backTo pos (starEach es env)).any (·.1) = true := by intro _; rfl)
    (ht : ∀ env, eval (.Call (.Name y p) (e :: es) [] pos) env = (do callWith pos (← eval (.Name y p) env) [] (backTo pos (starEach (e :: es) env)) (backToKw pos (keywordEach [] env))) := by intro _; rfl) :
    FE g c (.Call (.Name y p) (e :: es) [] pos) (eCallV i x F fa) := ⟨fun X j W t => by
  obtain ⟨f, hm, hkp, C⟩ := n.ex
  have hkp' : PySem.W.keepIn X.K (.ref f) = true := by rw [j.K]; exact hkp
  refine ⟨fun pins s σ H Q I ⟨ι, gs, G, ss, sh, h⟩ => ?_⟩
  unfold eCallV at h
  split at h
  · rename_i z e0
    by_cases hz : z = x
    · subst hz
      rw [if_pos rfl] at h
      obtain ⟨v, h1, h2⟩ := ss.at_ i _ e0
      cases h2 with
      | @glb _ a ha' =>
        have ea : a = f := by rw [ha'] at hm; cases hm; rfl
        subst ea
        have pv := pe_var (X := X) (i := i) (pos := p) (by rw [j.N]; exact hN) (by rw [j.sc]; exact hv) hd hcd
        refine Call_ (thn (pv.run pins s σ H (fun w H1 => w = .ref a ∧ H1 = H) I ⟨.ref a, h1, rfl, rfl⟩) fun u s1 ⟨w, H1, I1, rw1, ew, eH⟩ => ?_) (ht _)
        subst ew eH
        obtain rfl : u = Value.ref a := rw1
        refine PySem.W.callWith_S2 (h₀ := X.base) I1.ok.mod.kin hkp' (thn ((ha.run X j W t).run pos pins s1 σ H1 (fun vs H2 => RdF g F (WE W σ) vs H2 Q) I1 ⟨ι, gs, G, ss, sh, h.bnd.imp fun ds ι2 G2 H2 s2 t2 h2 vs rs => ⟨ι2, _, G2, rs, t2, h2.toE⟩⟩) fun us s2 ⟨vs, H2, I2, r, q⟩ => ⟨I2.kIn, ?_⟩) (he _) (hst _)
        exact runC (ks := []) (ws := []) C j hk t I2 rfl (by rw [List.append_nil]; exact r) q
    · rw [if_neg hz] at h
      exact h.no
  · exact h.no⟩
theorem fe_cstV (K : CstOk g cx f d) (hN : c.N[i]? = some y := by rfl) (hv : Vis c.sc y := by first | exact Or.inl rfl | exact Or.inr (Or.inl rfl) | exact Or.inr (Or.inr rfl)) (hd : (y == ("__debug__" : Str)) = false := by decide) (hcd : (y == ("__classdict__" : Str)) = false := by decide)
    (hb : ∀ env, attributeBase (.Name y p) f env (eval (.Name y p) env) = eval (.Name y p) env := by intro _; rfl) : FE g c (.Attribute (.Name y p) f pos) (eCstV i cx d) := ⟨fun X j W t => by
  obtain ⟨C, mc, v, u, hm, r, cv, rd⟩ := K.ex
  have pv := pe_var (X := X) (i := i) (pos := p) (by rw [j.N]; exact hN) (by rw [j.sc]; exact hv) hd hcd
  refine pe_imp (ClX.pe_cval pv (hb _)) fun σ H Q ⟨ι, gs, G, ss, sh, h⟩ => ?_
  unfold eCstV at h
  split at h
  · rename_i z e0
    by_cases hz : z = cx
    · subst hz
      rw [if_pos rfl] at h
      obtain ⟨v1, h1, h2⟩ := ss.at_ i _ e0
      cases h2 with
      | @glb _ a ha' =>
        have ea : a = C := by rw [ha'] at hm; cases hm; rfl
        subst ea
        rw [j.K]
        exact ⟨.ref a, h1, a, mc, v, u, rfl, r, cv, h.val (.refl _ _ _) sh _ (rd _ _)⟩
    · rw [if_neg hz] at h
      exact h.no
  · exact h.no⟩
end
def bCmt (x m : Str) : Fr → Bool := fun K => (match PySem.W.findCls K (.ref (ga K x)) (clsOf K x) m with
  | some (.get (.builtin b) (.ref p) .none (.ref C)) => decide (b = "classmethod.__get__") && (decide (p = ma K (ga K x) m) && decide (C = ga K x))
  | _ => false) && ((match PySem.W.recIn K (ma K (ga K x) m) "classmethod" with
  | some (.ref _ :: _) => true
  | _ => false) && PySem.W.fnIn K (atR "classmethod" x m K))
theorem bCmt_ok {g : Gm} {k : Nat} {x m : Str} {F : Fn} (hm : g.mg x = some (.ref (ga g.K x))) (r : bRead x g.K = true) (c : bCmt x m g.K = true) (C : CalD g k (atR "classmethod" x m g.K) [] F) : CmtOk g k x m F := by
  obtain ⟨c1, c2⟩ := ba c
  obtain ⟨c2, c3⟩ := ba c2
  cases q : PySem.W.findCls g.K (.ref (ga g.K x)) (clsOf g.K x) m with
  | none => rw [q] at c1; cases c1
  | some fd =>
    rw [q] at c1
    split at c1
    · rename_i b p C' heq
      obtain ⟨d1, d2⟩ := ba c1
      obtain ⟨d3, d4⟩ := ba d2
      have e1 := of_decide_eq_true d1
      have e2 := of_decide_eq_true d3
      have e3 := of_decide_eq_true d4
      subst e1 e2 e3
      cases heq
      cases q2 : PySem.W.recIn g.K (ma g.K (ga g.K x) m) "classmethod" with
      | none => rw [q2] at c2; cases c2
      | some l =>
        rw [q2] at c2
        split at c2
        · rename_i f rest heq2
          cases heq2
          have e4 : atR "classmethod" x m g.K = f := by unfold atR; rw [q2]
          rw [e4] at c3 C
          exact ⟨_, _, _, f, hm, bRead_ok r, ⟨q, ⟨rest, q2⟩, c3⟩, C⟩
        · cases c2
    · cases c1
end FI
set_option maxRecDepth 100000
set_option maxHeartbeats 2000000
set_option maxRecDepth 100000
set_option maxHeartbeats 2000000
namespace FI
open PySem L2 PySem.Spec PyProof.Rows
theorem RelFs.split {g : Gm} {ι : List Addr} {H : Hp} {r : List (Nat × D)} {q : List (Str × V)} (h : RelFs g ι H r q) : ∃ vs, q = ((r.map (·.1)).map g.fld).zip vs ∧ RelDs g ι H (r.map (·.2)) vs ∧ ∀ k ∈ r.map (·.1), k < g.nf := by
  induction h with
  | nil => exact ⟨[], rfl, .nil, fun k hk => absurd hk (List.not_mem_nil)⟩
  | cons hk a _ ih =>
    obtain ⟨vs, e, rs, hl⟩ := ih
    refine ⟨_ :: vs, by rw [e]; rfl, .cons a rs, fun k hk' => ?_⟩
    rcases List.mem_cons.mp hk' with rfl | hk'
    · exact hk
    · exact hl k hk'
end FI
set_option maxRecDepth 100000
set_option maxHeartbeats 2000000
namespace L2Z
open PySem PySem.Spec PyProof.Rows L2 L2H HotX
abbrev St := L2.St
structure TurnZ (P : Program) (w : World) (K : PySem.W.Frag) (tg : Expr) (J : It) (fp : List Addr) (it : Addr) (tn : Nat → Heap → Prop) : Prop where
  mem : it ∈ fp
  obj : ∀ i h, tn i h → ∀ b ∈ fp, ∃ o, h.get? b = some o ∧ ∀ v, o.data ≠ .cell v
  keep : ∀ i h h', tn i h → (∀ b ∈ fp, ∀ o, h.get? b = some o → h'.get? b = some o) → tn i h'
  item : ∀ (X : Cx), X.prog = P → X.w = w → X.K = K → ∀ (i : Nat) (pins : List (Addr × Obj)) (s : Shared) (σ : St) (H : Hp) (E : Value → Shared → Prop), (∃ x1, x1 ∉ fp ∧ HotAt X.A x1 s.heap) → Inv X pins σ H s → (∀ b ∈ fp, FpOk X pins H b) → tn i s.heap → J.go i H →
    wpAny (model P w) X.A (pyNext (.ref it)) (fun r s1 => ∃ u, r = some u ∧
      wpAny (model P w) X.A (letOwnedTupleGo tg (.ref it) u) (fun _ s2 => ∃ x H', Inv X pins σ H' s2 ∧ RelV x u ∧ J.yld i H x H' ∧ tn (i + 1) s2.heap ∧ ∀ b ∈ fp, H' b = none) E s1) E s
  done : ∀ (X : Cx), X.prog = P → X.w = w → X.K = K → ∀ (i : Nat) (pins : List (Addr × Obj)) (s : Shared) (σ : St) (H : Hp) (E : Value → Shared → Prop), (∃ x1, x1 ∉ fp ∧ HotAt X.A x1 s.heap) → Inv X pins σ H s → (∀ b ∈ fp, FpOk X pins H b) → tn i s.heap → J.stop i H →
    wpAny (model P w) X.A (pyNext (.ref it)) (fun r s1 => r = none ∧ Inv X pins σ H s1) E s
  self : ∀ (A : Around) (i : Nat) (s : Shared) (Q : Value → Shared → Prop) (E : Value → Shared → Prop), tn i s.heap → Q (.ref it) s → wpAny (model P w) A (pyIter (.ref it)) Q E s
theorem turn_rangeZ {P : Program} {w : World} {K : PySem.W.Frag} {tg : Expr} (it : Addr) (lo : Int) (n : Nat) : TurnZ P w K tg (Itr lo n) [it] it (fun i h => IsRangeIter h it (lo + (i : Nat) * 1) ((n : Int) - (i : Nat)) 1) where
  mem := by simp
  obj := fun i h st b hb => by
    have e : b = it := by simpa using hb
    subst e
    exact ⟨_, st, fun v z => by
      have z' : Data.fields _ = Data.cell v := z
      cases z'⟩
  keep := fun i h h' st k => k it (by simp) _ st
  item := by
    intro X hP hw hK i pins s σ H E hc I hf st hg
    subst hP hw hK
    obtain ⟨f0, f1, f2, f3, f4, f5⟩ := hf it (by simp)
    have hlt : i < n := hg
    refine wpAny_pyNext_range_item st (by omega) fun h' st' sb => ?_
    have st2 : IsRangeIter h' it (lo + ((i + 1 : Nat) : Int) * 1) ((n : Int) - ((i + 1 : Nat) : Int)) 1 := by
      have e1 : lo + ((i : Nat) : Int) * 1 + 1 = lo + ((i + 1 : Nat) : Int) * 1 := by omega
      have e2 : (n : Int) - ((i : Nat) : Int) - 1 = (n : Int) - ((i + 1 : Nat) : Int) := by omega
      rw [← e1, ← e2]
      exact st'
    have I1 : Inv X pins σ H { s with heap := h', toks := s.toks + 1 } := I.turned (fun b o hb e => (sb.2 b hb).trans e) f0 f1 f3 f4 f5
    refine ⟨_, rfl, go_of (s := { s with heap := h', toks := s.toks + 1 }) (n := "range_iterator") st2 rfl rfl (by decide) ⟨.int (lo + i), H, I1, ⟨s.toks, ?_⟩, ⟨rfl, rfl⟩, st2, fun b hb => (hf b hb).1⟩⟩
    rw [Int.mul_one]
  done := by
    intro X hP hw hK i pins s σ H E hc I hf st hg
    subst hP hw hK
    obtain ⟨f0, f1, f2, f3, f4, f5⟩ := hf it (by simp)
    obtain ⟨x1, -, hot⟩ := hc
    exact pyNext_range_end_hot hot st (by have : n ≤ i := hg; omega) fun h' eb => ⟨rfl, I.turned (t' := s.toks) (fun b o _ e => eb b o e) f0 f1 f3 f4 f5⟩
  self := fun _ _ _ _ _ st h => wpAny_pyIter_rangeiter st h
def PIEZ (X : Cx) (pins : List (Addr × Obj)) (σ : St) (tg : Expr) (R : It → Hp → Prop) (itv : Value) (s2 : Shared) : Prop :=
  ∃ (it : Addr) (fp : List Addr) (tn : Nat → Heap → Prop) (J : It) (H' : Hp), itv = .ref it ∧ Inv X pins σ H' s2 ∧ TurnZ X.prog X.w X.K tg J fp it tn ∧ tn 0 s2.heap ∧ (∀ b ∈ fp, FpOk X pins H' b) ∧ R J H'
structure PIZ (X : Cx) (tg iter : Expr) (wi : TI) : Prop where
  run : ∀ (pins : List (Addr × Obj)) (s : Shared) (σ : St) (H : Hp) (R : It → Hp → Prop), Inv X pins σ H s → wi σ H R →
    wpAny (model X.prog X.w) X.A (eval iter X.env) (fun v s1 => wpAny (model X.prog X.w) X.A (pyIter v) (PIEZ X pins σ tg R) X.xe s1) X.xe s
section
variable {X : Cx} {tg : Expr}
theorem range_itZ {pins : List (Addr × Obj)} {σ : St} {H : Hp} {s : Shared} {R : It → Hp → Prop} {E : Value → Shared → Prop} {lo hi : Int} {t u v : Tok} {tk : Nat} (I : Inv X pins σ H s) (h1 : -(2 ^ 62) ≤ lo) (h2 : lo < 2 ^ 62) (h3 : -(2 ^ 62) ≤ hi) (h4 : hi < 2 ^ 62)
    (q : R (Itr lo (hi - lo).toNat) H) : wpAny (model X.prog X.w) X.A (pyIter (.ref s.heap.objs.size)) (PIEZ X pins σ tg R) E { s with heap := s.heap.push { cls := .type "range", data := .fields #[.int lo t, .int hi u, .int 1 v] }, toks := tk } := by
  refine wpAny_pyIter_range (IsRange.new ..) (small_one h1 h2 h3 h4) ?_
  have I1 : Inv X pins σ H { s with heap := s.heap.push { cls := .type "range", data := .fields #[.int lo t, .int hi u, .int 1 v] }, toks := tk } := I.kept fun b o e => Heap.get?_push_of_some _ e
  refine ⟨(s.heap.push { cls := .type "range", data := .fields #[.int lo t, .int hi u, .int 1 v] }).objs.size, [(s.heap.push { cls := .type "range", data := .fields #[.int lo t, .int hi u, .int 1 v] }).objs.size], _, _, H, rfl,
    I1.kept (t' := tk) fun b o e => Heap.get?_push_of_some _ e, turn_rangeZ _ lo (hi - lo).toNat, ?_, fun b hb => ?_, q⟩
  · have e1 : lo + ((0 : Nat) : Int) * 1 = lo := by simp
    have e2 : (((hi - lo).toNat : Nat) : Int) - ((0 : Nat) : Int) = Builtin.Range.rangeSize lo hi 1 := by rw [rangeSize_one]; split <;> omega
    show IsRangeIter _ _ (lo + ((0 : Nat) : Int) * 1) ((((hi - lo).toNat : Nat) : Int) - ((0 : Nat) : Int)) 1
    rw [e1, e2]
    exact Heap.get?_push_size _ rfl
  · have e : b = (s.heap.push { cls := .type "range", data := .fields #[.int lo t, .int hi u, .int 1 v] }).objs.size := by simpa using hb
    subst e
    exact I1.fpOk (Nat.le_refl _) (I1.hok.fresh (Nat.le_refl _))
theorem pi_range1Z {a : Expr} {ta : TA} {p pos : Pos} (hg : Gl X "range") (hm : X.mg "range" = none) (ha : PA X [a] ta) (hs : starEach [a] X.env = [(false, eval a X.env)] := by rfl) : PIZ X tg (.Call (.Name "range" p) [a] [] pos) (iRng1 ta) := by
  refine ⟨fun pins s σ H R I h => ?_⟩
  refine Call_ (ld_blt I hg hm boot_range (PyProof.Rows.callWith_type1 (thn (ha.run pos pins s σ H _ I h) fun us s1 ⟨vs, H1, I1, r1, q1⟩ => ?_) hs rfl))
  obtain ⟨j, e, q1, q2, q⟩ := q1
  subst e
  cases r1 with
  | cons r rr =>
    cases rr
    obtain ⟨t, rfl⟩ := r
    exact call_range_1 (range_itZ I1 (by omega) (by omega) q1 q2 (by simpa using q))
theorem ps_forZ {iter : Expr} {body : List Stmt} {wi : TI} {g : TG} {tb : TS} {pos : Pos} (hp : PassesOwn (model X.prog X.w) X.A X.env X.xe) (hc : HotC X) (hi : PIZ X tg iter wi) (hg : PG X tg g) (hb : PSs X body tb)
    (hs : ∀ x, foldedSetIterable iter X.env x = pure x := by intro _; rfl) : PS X (.For tg iter body [] pos) (tFor wi g tb) := by
  refine ⟨fun pins s σ H D I h => ?_⟩
  refine wpAny_For (thn (hi.run pins s σ H _ I h) fun v s1 h1 => thn h1 fun itv s2 h2 => ?_) hs
  obtain ⟨it, fp, tn, J, H2, e, I2, T, st2, f2, W, ⟨m0, w0⟩, turn⟩ := h2
  subst e
  have stat : ∀ {H' : Hp}, (∀ b ∈ fp, H' b = none) → ∀ b ∈ fp, FpOk X pins H' b := fun hn b hb => ⟨hn b hb, (f2 b hb).2⟩
  have hotF : ∀ {σ' : St} {H' : Hp} {s' : Shared}, (∀ b ∈ fp, FpOk X pins H' b) → Inv X pins σ' H' s' → ∃ x1, x1 ∉ fp ∧ HotAt X.A x1 s'.heap := fun {σ' H' s'} hf I' => by
    obtain ⟨p, ⟨hh, v1, e1, c1⟩, hp⟩ := hc
    exact ⟨p.1, fun z => (hf p.1 z).2.2.2.2.2 p (List.mem_append_left _ hp) rfl, hh, p.2, v1, (I'.pin p (List.mem_append_left _ hp)).1, e1, c1⟩
  refine codeAny_forLoop_any (fun n s' => ∃ i σ' H', Inv X pins σ' H' s' ∧ tn i s'.heap ∧ (∀ b ∈ fp, H' b = none) ∧ W i n σ' H') ?_ m0 ⟨0, σ, H2, I2, st2, fun b hb => (f2 b hb).1, w0⟩
  rintro n s3 ⟨i, σ3, H3, I3, st3, fr3, w3⟩
  rcases turn i n σ3 H3 w3 with ⟨stop, qn⟩ | ⟨go, N, hN, step⟩
  · refine wpAny_passesOwn hp (thn (T.done X rfl rfl rfl i pins s3 σ3 H3 X.xe (hotF (stat fr3) I3) I3 (stat fr3) st3 stop) fun r s4 ⟨hr, I4⟩ => ?_)
    subst hr
    exact wpAny_execs_nil ⟨σ3, H3, I4, qn⟩
  · refine wpAny_passesOwn hp (thn (T.item X rfl rfl rfl i pins s3 σ3 H3 X.xe (hotF (stat fr3) I3) I3 (stat fr3) st3 go) fun r s4 ⟨u, hr, h4⟩ => ?_)
    subst hr
    refine wpAny_passesOwn hp (thn h4 fun _ s5 ⟨x, H5, I5, r5, y5, st5, fr5⟩ => ?_)
    have I5' := I5.pinned (stat fr5) (T.obj _ _ st5)
    refine wpAny_passesOwn hp (thn (hg.run _ s5 σ3 H5 x u _ I5' r5 (step x H5 y5)) fun _ s6 ⟨σ6, H6, I6, q6⟩ => ?_)
    refine wpAny_passesOwn hp (thn (hb.run _ s6 σ6 H6 _ I6 q6) fun f s7 q7 => ?_)
    have again : ∀ {σ7 : St} {H7 : Hp}, Inv X (pins ++ pinsAt fp s5.heap) σ7 H7 s7 → N σ7 H7 → ∃ m, m < n ∧ ∃ i σ' H', Inv X pins σ' H' s7 ∧ tn i s7.heap ∧ (∀ b ∈ fp, H' b = none) ∧ W i m σ' H' := fun {σ7 H7} I7 n7 => by
      obtain ⟨m', hm, w7⟩ := hN σ7 H7 n7
      refine ⟨m', hm, i + 1, σ7, H7, I7.unpinned, T.keep _ _ _ st5 fun b hb o e => (I7.pin (b, o) (List.mem_append_right _ (List.mem_append_right _ (mem_pinsAt hb e)))).1, fun b hb => ?_, w7⟩
      obtain ⟨o, e, d⟩ := T.obj _ _ st5 b hb
      exact (I7.pin (b, o) (List.mem_append_right _ (List.mem_append_right _ (mem_pinsAt hb e)))).2.1
    cases f with
    | next => obtain ⟨σ7, H7, I7, n7⟩ := q7; exact again I7 n7
    | cont => obtain ⟨σ7, H7, I7, n7⟩ := q7; exact again I7 n7
    | brk => obtain ⟨σ7, H7, I7, q7⟩ := q7; exact ⟨σ7, H7, I7.unpinned, q7⟩
    | ret v => obtain ⟨x7, σ7, H7, I7, r7, q7⟩ := q7; exact ⟨x7, σ7, H7, I7.unpinned, r7, q7⟩
end
end L2Z
namespace FI
open PySem L2 PySem.Spec PyProof.Rows
structure FKZ (g : Gm) (c : Sc) (tg iter : Expr) (f : SW) : Prop where
  run : ∀ X, XIs g c X → ∀ W, L2N.Takes X W → L2Z.PIZ X tg iter (tW g W f)
theorem pi_impZ {X : Cx} {tg iter : Expr} {t t' : TI} (h : L2Z.PIZ X tg iter t) (k : ∀ σ H Q, t' σ H Q → t σ H Q) : L2Z.PIZ X tg iter t' := ⟨fun pins s σ H Q I q => h.run pins s σ H Q I (k σ H Q q)⟩
section
variable {g : Gm} {c : Sc} {tg iter : Expr} {fw : SW} {t : GT} {body : List Stmt} {b : SS} {pos : Pos}
theorem fs_forZ {sl : List Nat} (hi : FKZ g c tg iter fw) (hg : FG g c tg sl t) (hb : FB g c body b) (hs : ∀ env x, foldedSetIterable iter env x = pure x := by intro _ _; rfl) (hh : c.hot = true := by rfl) (ht : c.top = true := by rfl) (h0 : g.hx = none := by rfl) : FS g c (.For tg iter body [] pos) (sFor fw t b) :=
  ⟨fun X i W tk => ps_imp (L2Z.ps_forZ i.po (i.hp hh ht h0) (hi.run X i W tk) (hg.run X i) (hb.run X i W tk) (hs _)) fun D0 σ H ⟨ι, gs, G, ss, sh, q⟩ => by
    refine ⟨ι, gs, G, ss, sh, (q.onE ss).imp fun p ι1 G1 H1 s1 t1 h1 J wk => ?_⟩
    obtain ⟨items, gd⟩ := p
    refine ⟨fun n m σ' H' => ∃ ι' gs' G', n ≤ items.length ∧ m = items.length - n ∧ Stp g ι1 H1 ι' H' ∧ SimS g ι' H' gs' σ' ∧ SimH g ι' G' H' ∧ Gs g W ι' H' (forL t b gd (items.drop n) gs' G') D0,
      ⟨_, ι1, gs, G1, Nat.zero_le _, rfl, .refl _ _ _, ss.mono s1, t1, h1⟩, ?_⟩
    rintro n m σ' H' ⟨ι', gs', G', hn, rfl, st, ss', sh', q'⟩
    by_cases hlt : n < items.length
    · have hd : items.drop n = items[n] :: items.drop (n + 1) := List.drop_eq_getElem_cons hlt
      rw [hd] at q'
      unfold forL at q'
      by_cases hgd : gd G'
      · rw [if_pos hgd] at q'
        obtain ⟨go, yl⟩ := (wk ι' H' G' n st sh' hgd hn).1 items[n] (List.getElem?_eq_getElem hlt)
        refine .inr ⟨go, fun σ2 H2 => ∃ ι' gs' G', n + 1 ≤ items.length ∧ Stp g ι1 H1 ι' H2 ∧ SimS g ι' H2 gs' σ2 ∧ SimH g ι' G' H2 ∧ Gs g W ι' H2 (forL t b gd (items.drop (n + 1)) gs' G') D0, ?_, fun x H2 y => ?_⟩
        · rintro σ2 H2 ⟨ι2, gs2, G2, h1, h2, h3, h4, h5⟩
          exact ⟨items.length - (n + 1), by omega, ι2, gs2, G2, h1, rfl, h2, h3, h4, h5⟩
        · obtain ⟨s2, t2, rd⟩ := yl x H2 y
          cases e : t items[n] gs' G' with
          | none => rw [e] at q'; exact q'.no
          | some p =>
            obtain ⟨gs1, G2⟩ := p
            rw [e] at q'
            refine ⟨ι', gs', G', items[n], gs1, G2, ss'.mono s2, t2, rd, e, fun ι3 H3 σ3 s3 t3 u3 _ => ⟨ι3, gs1, G2, u3, t3, ?_⟩⟩
            obtain ⟨fl, gs4, G4, e4, q4⟩ := q'
            dsimp only at e4
            cases eb : b gs1 G2 with
            | none => rw [eb] at e4; cases e4
            | some p =>
              obtain ⟨fl1, gs5, G5⟩ := p
              rw [eb] at e4
              refine ⟨fl1, gs5, G5, rfl, fun ι6 H6 σ6 s6 t6 u6 => ?_⟩
              have sAll : Stp g ι' H' ι6 H6 := (s2.trans s3).trans s6
              cases fl1 with
              | nx => exact ⟨ι6, gs5, G5, hlt, st.trans sAll, u6, t6, fl, gs4, G4, e4, fun ι7 H7 σ7 s7 t7 u7 => q4 ι7 H7 σ7 (sAll.trans s7) t7 u7⟩
              | ct => exact ⟨ι6, gs5, G5, hlt, st.trans sAll, u6, t6, fl, gs4, G4, e4, fun ι7 H7 σ7 s7 t7 u7 => q4 ι7 H7 σ7 (sAll.trans s7) t7 u7⟩
              | bk => cases e4; exact q4 ι6 H6 σ6 sAll t6 u6
              | rt d => cases e4; exact q4 ι6 H6 σ6 sAll t6 u6
              | ex x => cases e4; exact q4 ι6 H6 σ6 sAll t6 u6
      · rw [if_neg hgd] at q'
        exact q'.no
    · have hn2 : n = items.length := by omega
      subst hn2
      rw [List.drop_length] at q'
      unfold forL at q'
      by_cases hgd : gd G'
      · rw [if_pos hgd] at q'
        exact .inl ⟨(wk ι' H' G' _ st sh' hgd hn).2 rfl, q'.at (.refl _ _ _) sh' ss'⟩
      · rw [if_neg hgd] at q'
        exact q'.no⟩
end
section
variable {g : Gm} {c : Sc} {tg e e2 : Expr} {fe : SE} {fa : SA} {pos p tpos : Pos}
theorem fk_rng1Z (hg : GlB g c "range") (ha : FA g c [e] fa) (hs : ∀ env, starEach [e] env = [(false, eval e env)] := by intro _; rfl) : FKZ g c tg (.Call (.Name "range" p) [e] [] pos) (wRng1 fa) :=
  ⟨fun X i W t => pi_impZ (L2Z.pi_range1Z (hg.1.gl i) (by rw [i.mg]; exact hg.2) (ha.run X i W t) (hs _)) fun σ H R ⟨ι, gs, G, ss, sh, h⟩ => ⟨ι, gs, G, ss, sh, h.bnd.imp fun ds ι1 G1 H1 s1 t1 h1 vs rv => by
    split at h1
    · rename_i j
      cases rv with
      | cons r rr =>
        cases r with
        | int j =>
          cases rr
          by_cases hj : okR j = true
          · rw [if_pos hj] at h1
            have := of_decide_eq_true hj
            exact ⟨j, rfl, this.1, this.2, h1.val (.refl _ _ _) t1 _ (wk_r 0 j.toNat)⟩
          · rw [if_neg hj] at h1; exact h1.no
    · exact h1.no⟩⟩
end
end FI
set_option maxRecDepth 100000
set_option maxHeartbeats 2000000
namespace L2
open PySem PySem.Spec PyProof.Rows
structure PEAt (X : Cx) (bd : List Stmt) (e : Expr) (t : TE) : Prop where
  run : ∀ (pins : List (Addr × Obj)) (s : Shared) (σ : St) (H : Hp) (Q : VK), Inv X pins σ H s → t σ H Q → PySem.wpAt (model X.prog X.w) X.A (.func bd X.env) (eval e X.env) (EP X pins σ Q) X.xe s
section
variable {X : Cx} {bd : List Stmt} {a b e : Expr} {t ta tb t' : TE} {pos : Pos}
theorem PE.at (h : PE X e t) : PEAt X bd e t := ⟨fun pins s σ H Q I q => wpAt_of_wpAny (h.run pins s σ H Q I q)⟩
theorem peAt_imp (h : PEAt X bd e t) (k : ∀ σ H Q, t' σ H Q → t σ H Q) : PEAt X bd e t' := ⟨fun pins s σ H Q I q => h.run pins s σ H Q I (k σ H Q q)⟩
theorem peAt_op {op : Operator} {r : R2} (ho : OpR X (binaryOp op) r) (ha : PEAt X bd a ta) (hb : PEAt X bd b tb) : PEAt X bd (.BinOp a op b pos) (tOp r ta tb) :=
  ⟨fun pins s σ H Q I h => PySem.ks_wpAt_BinOp2 (PySem.ks_wpAt_mono (ha.run pins s σ H _ I h) (fun v s1 ⟨x, H1, I1, r1, q1⟩ => PySem.ks_wpAt_mono (hb.run pins s1 σ H1 _ I1 q1) (fun u s2 ⟨y, H2, I2, r2, q2⟩ => ho pins s2 σ H2 x y v u Q I2 r1 r2 q2) fun _ _ z => z) fun _ _ z => z)⟩
theorem psAt_ret (he : PEAt X bd e t) : PSAt X bd (.Return (some e) pos) (tRet t) :=
  ⟨fun pins s σ H D I h => PySem.ks_wpAt_Return_some (PySem.ks_wpAt_mono (he.run pins s σ H _ I h) (fun v s1 ⟨x, H1, I1, r1, q1⟩ => ⟨x, σ, H1, I1, r1, q1⟩) fun _ _ z => z)⟩
end
end L2
namespace FI
open PySem L2 PySem.Spec PyProof.Rows
structure FEa (g : Gm) (c : Sc) (q : SupC) (bd : List Stmt) (e : Expr) (f : SE) : Prop where
  run : ∀ X, XSup g c q X → ∀ W, L2N.Takes X W → PEAt X bd e (tE g W f)
section
variable {g : Gm} {c : Sc} {q : SupC} {bd : List Stmt} {a b e : Expr} {fa fb fe : SE} {pos : Pos}
theorem FE.at (h : FE g c e fe) : FEa g c q bd e fe := ⟨fun X i W t => (h.run X i.x W t).at⟩
theorem fsa_ret (he : FEa g c q bd e fe) : FSa g c q bd (.Return (some e) pos) (sRet fe) :=
  ⟨fun X i W t => psAt_imp (psAt_ret (he.run X i W t)) fun D0 σ H ⟨ι, gs, G, ss, sh, q⟩ => ⟨ι, gs, G, ss, sh, (q.onE ss).imp fun d ι1 G1 H1 s1 t1 h1 v rv => h1.at (.refl _ _ _) t1 (ss.mono s1) v rv⟩⟩
theorem fea_binO {op : Operator} {F : D → D → Mm D} (h : BinOk g op F) (ha : FEa g c q bd a fa) (hb : FEa g c q bd b fb) : FEa g c q bd (.BinOp a op b pos) (eOp F fa fb) :=
  ⟨fun X i W t => let ⟨_, ho, p⟩ := h.run c X i.x; peAt_imp (peAt_op ho (ha.run X i W t) (hb.run X i W t)) fun σ H Q ⟨ι, gs, G, ss, sh, h⟩ => ⟨ι, gs, G, ss, sh, h.bnd.imp fun d ι1 G1 H1 s1 t1 h1 v rv => ⟨ι1, gs, G1, ss.mono s1, t1, h1.bnd.imp fun e ι2 G2 H2 s2 t2 h2 w rw' => p W σ ι2 G2 H2 d e v w Q t2 (rv.mono s2) rw' h2⟩⟩⟩
def eSup (i : Nat) (tab : List (Nat × Fn)) : SE := fun gs G => match gs[i]? with
  | some (some (.ref n)) => match G[n]? with
    | some (.ins cn _) => match tab.lookup cn with
      | some F => F [.ref n] G
      | none => none
    | _ => none
  | _ => none
theorem fea_sup {p0 p1 apos : Pos} {m : Str} {i k : Nat} {tab : List (Nat × Fn)} (SF : SupF g.P g.K g.mg q.f q.cda q.cc q.D q.self)
    (hT : ∀ cn F, tab.lookup cn = some F → ∃ f2, SupM g.K (g.cls cn) q.D m f2 ∧ CalD g k f2 [] F) (hk : k ≤ c.k ∧ c.hot = false)
    (hks : c.sc.names.lookup ("super" : Str) = some .globalImplicit := by rfl) (hkc : c.sc.names.lookup clsN = some .free := by rfl) (hncl : (clsN, NameKind.cell) ∉ c.sc.names := by decide) (hat : (m == clsN) = false := by decide) (hN : c.N[i]? = some q.self := by rfl) (hself : c.sc.names.lookup q.self = some .local := by rfl) (hcd : (q.self == ("__classdict__" : Str)) = false := by decide)
    (hev : ∀ env, ∃ pl, eval (.Call (.Attribute (.Call (.Name "super" p0) [] [] p1) m apos) [] [] pos) env = (do
      let ov ← attributeBase (.Call (.Name "super" p0) [] [] p1) m env (eval (.Call (.Name "super" p0) [] [] p1) env)
      standAt apos.atName
      let (f, first) ← holding [ov] (getMethod ov m pl)
      callWith pos f first (backTo pos (starEach [] env)) []) := by intro _; exact ⟨_, rfl⟩) :
    FEa g c q bd (.Call (.Attribute (.Call (.Name "super" p0) [] [] p1) m apos) [] [] pos) (eSup i tab) := ⟨fun X j W tk => ⟨fun pins s σ H Q I ⟨ι, gs, G, ss, sh, h⟩ => by
  have hP : X.prog = g.P := j.x.P
  have hK : X.K = g.K := j.x.K
  have hmg : X.mg = g.mg := j.x.mg
  have hsc : X.env.scope = c.sc := j.x.sc
  have hXN : X.N = c.N := j.x.N
  unfold eSup at h
  cases e1 : gs[i]? with
  | none => rw [e1] at h; exact h.no
  | some o1 =>
    cases o1 with
    | none => rw [e1] at h; exact h.no
    | some d =>
      cases d with
      | ref n =>
        rw [e1] at h
        dsimp only at h
        cases e2 : G[n]? with
        | none => rw [e2] at h; exact h.no
        | some ob =>
          cases ob with
          | ins cn fs =>
            rw [e2] at h
            dsimp only at h
            cases e3 : tab.lookup cn with
            | none => rw [e3] at h; exact h.no
            | some F =>
              rw [e3] at h
              dsimp only at h
              obtain ⟨v, hv1, hv2⟩ := ss.at_ i _ e1
              cases hv2 with
              | @ref _ a ha' =>
                obtain ⟨u, hu, ro⟩ := sh.at_ n _ a e2 ha'
                cases ro with
                | @ins _ dx _ vfs rf =>
                  obtain ⟨f2, M, C⟩ := hT cn F e3
                  obtain ⟨mA, O, _⟩ := ins_get I.hok hu
                  obtain ⟨od, J, _⟩ := O.look
                  have hnc : ∀ cdx, (PySem.W.instObj (g.cls cn) dx).data ≠ .cls cdx := fun cdx z => nomatch z
                  obtain ⟨pl, hpl'⟩ := hev X.env
                  refine PySem.ks_wpAt_MethodCall (pl := pl) ?_ hpl'
                  refine super_at (C := g.cls cn) (ox := PySem.W.instObj (g.cls cn) dx) (i := i) (self := q.self) (D := q.D) j.sx (by rw [hP, hK, hmg]; exact SF) I (by rw [hsc]; exact hks) (by rw [hsc]; exact hkc) j.cl (by rw [hsc]; exact hncl) hat (by rw [hXN]; exact hN) (by rw [hsc]; exact hself) hcd hv1 J.at_ rfl hnc (by rw [hK]; exact M.sub) fun so s1 I1 kp1 hb1 => ?_
                  refine super_method (ox := PySem.W.instObj (g.cls cn) dx) (f2 := f2) I1 (by rw [hK]; exact M) (by rw [hK]; exact SF.ho) hat (kp1 _ _ J.at_) rfl hnc fun s2 I2 => ?_
                  refine PySem.W.callWith_M0 (K := X.K) (first := []) ⟨ClX.pin_at I2, I2.kIn⟩ (by rw [hK]; exact M.fi) ?_
                  have z := C X.A X.stack s2 H (Value.ref a :: []) [] (V.ref a :: []) Q (WE W σ) ((j.x.room hk.2).mono hk.1) (j.x.env I2) rfl (.cons rfl .nil) ⟨ι, [.ref n], G, .cons (.ref ha') .nil, sh, Gv.toE h⟩
                  rw [← j.x.P, ← j.x.w] at z
                  refine wpAny_call (PySem.W.method_call (ClX.pin_at I2) (codeAny_mono z fun r s' hq => ?_))
                  cases r with
                  | error e => exact tk e s' (L2N.XE.of_call I2 (fun _ _ _ h => h) hq)
                  | ok fl =>
                    cases fl with
                    | ret u => exact ClX.unpinE (ClX.unpinE (I2.after hq))
                    | next => exact False.elim hq
                    | brk => exact False.elim hq
                    | cont => exact False.elim hq
          | _ => rw [e2] at h; exact h.no
      | _ => rw [e1] at h; exact h.no⟩⟩
end
def fmtS : D → Option Str
  | .int i => if i.natAbs.log2 < 1900 then some (toString i) else none
  | .str y => if y.length ≤ 100000 then some y else none
  | _ => none
def eFmt (f : SE) : SE := fun gs G => bnd (f gs G) fun d G1 => match fmtS d with
  | some y => some (.val (.str y), G1)
  | none => none
def jS : List SE → Str → SE
  | [], acc, _, G => some (.val (.str acc), G)
  | f :: fs, acc, gs, G => bnd (f gs G) fun d G1 => match d with
    | .str y => if (acc ++ y).length ≤ 100000 then jS fs (acc ++ y) gs G1 else none
    | _ => none
inductive FJ (g : Gm) (c : Sc) : List Expr → List SE → Prop
  | nil : FJ g c [] []
  | cons {e : Expr} {f : SE} {es : List Expr} {fs : List SE} (h : FE g c e f) (r : FJ g c es fs) : FJ g c (e :: es) (f :: fs)
section
variable {g : Gm} {c : Sc} {a b e : Expr} {fa fb fe : SE} {pos : Pos}
theorem fe_fmt (ha : FE g c e fe) : FE g c (.FormattedValue e (-1) none pos) (eFmt fe) :=
  ⟨fun X i W t => pe_imp (pe_fmt (ha.run X i W t)) fun σ H Q ⟨ι, gs, G, ss, sh, h⟩ => ⟨ι, gs, G, ss, sh, h.bnd.imp fun d ι1 G1 H1 s1 t1 h1 v rv => by
    unfold fmtS at h1
    cases rv with
    | int j =>
      dsimp only at h1
      by_cases hj : j.natAbs.log2 < 1900
      · rw [if_pos hj] at h1
        exact .inr ⟨j, rfl, by omega, h1.val (.refl _ _ _) t1 _ (.str _)⟩
      · rw [if_neg hj] at h1; exact h1.no
    | str y =>
      dsimp only at h1
      by_cases hy : y.length ≤ 100000
      · rw [if_pos hy] at h1
        exact .inl ⟨y, rfl, line_of hy, h1.val (.refl _ _ _) t1 _ (.str _)⟩
      · rw [if_neg hy] at h1; exact h1.no
    | _ => exact h1.no⟩⟩
theorem FJ.pj {X : Cx} {W : WX} (i : XIs g c X) (t : L2N.Takes X W) : ∀ {es : List Expr} {fs : List SE}, FJ g c es fs → PJ X es (fs.map (tE g W))
  | _, _, .nil => .nil
  | _, _, .cons h r => .cons (h.run X i W t) (FJ.pj i t r)
theorem jS_read {W : WX} {σ : L2.St} {Q : VK} : ∀ {fs : List SE} {acc : Str} {ι : List Addr} {gs : Sg} {G : Hh} {H : Hp}, SimS g ι H gs σ → SimH g ι G H → Gv g W σ ι H (jS fs acc gs G) (fun d ι' _ H' => ∀ v, RelD g ι' H' d v → Q v H') → tJs (fs.map (tE g W)) acc σ H fun out H1 => Q (.str out) H1
  | [], acc, ι, gs, G, H, ss, sh, h => h.val (.refl _ _ _) sh _ (.str _)
  | f :: fs, acc, ι, gs, G, H, ss, sh, h => ⟨ι, gs, G, ss, sh, by
    have h' : Gv g W σ ι H (bnd (f gs G) fun d G1 => match d with
      | .str y => if (acc ++ y).length ≤ 100000 then jS fs (acc ++ y) gs G1 else none
      | _ => none) (fun d ι' _ H' => ∀ v, RelD g ι' H' d v → Q v H') := h
    refine h'.bnd.imp fun d ι1 G1 H1 s1 t1 h1 v rv => ?_
    cases rv with
    | str y =>
      dsimp only at h1
      by_cases hy : (acc ++ y).length ≤ 100000
      · rw [if_pos hy] at h1
        exact ⟨y, rfl, line_of hy, jS_read (ss.mono s1) t1 h1⟩
      · rw [if_neg hy] at h1; exact h1.no
    | _ => exact h1.no⟩
theorem fe_join {v1 v2 : Expr} {rest : List Expr} {fs : List SE} (h : FJ g c (v1 :: v2 :: rest) fs) : FE g c (.JoinedStr (v1 :: v2 :: rest) pos) (jS fs Str.empty) :=
  ⟨fun X i W t => pe_imp (pe_joined (FJ.pj i t h)) fun σ H Q ⟨ι, gs, G, ss, sh, h⟩ => jS_read ss sh h⟩
end
def dEqO (tab : List (Nat × Fn)) (ot : List (Nat × TC)) : D → D → Mm D := fun d e G => match d with
  | .ref n => match G[n]? with
    | some (.ins c _) => match tab.lookup c, tcD G e with
      | some F, some t => if (c, t) ∈ ot then (match F [d, e] G with
        | some (.val (.bl b), G') => some (.val (.bl b), G')
        | _ => none) else none
      | _, _ => none
    | _ => none
  | _ => none
def rEqO (g : Gm) (tab : List (Nat × Fn)) (ot : List (Nat × TC)) : R2 := fun x y H Q => ∃ (ι : List Addr) (G : Hh) (n : Nat) (e : D) (c : Nat) (fs : List (Nat × D)) (F : Fn) (t : TC) (b : Bool) (G' : Hh), SimH g ι G H ∧ RelD g ι H (.ref n) x ∧ RelD g ι H e y ∧ G[n]? = some (.ins c fs) ∧ tab.lookup c = some F ∧ tcD G e = some t ∧ (c, t) ∈ ot ∧
  F [.ref n, e] G = some (.val (.bl b), G') ∧ ∀ ι' H', Stp g ι H ι' H' → SimH g ι' G' H' → Q (.bl b) H'
section
variable {g : Gm} {c : Sc} {a b : Expr} {fa fb : SE} {pos : Pos} {k : Nat} {kt : Kit} {tab : List (Nat × Fn)} {ot : List (Nat × TC)}
theorem pr_eqO : Pr2 g (rEqO g tab ot) (dEqO tab ot) := fun W σ ι G H d e x y Q sh rx ry q => by
  unfold dEqO at q
  cases d with
  | ref n =>
    dsimp only at q
    cases hn : G[n]? with
    | none => rw [hn] at q; exact q.no
    | some o =>
      rw [hn] at q
      cases o with
      | ins c fs =>
        dsimp only at q
        cases hF : tab.lookup c with
        | none => rw [hF] at q; exact q.no
        | some F =>
          rw [hF] at q
          cases ht : tcD G e with
          | none => rw [ht] at q; exact q.no
          | some t =>
            rw [ht] at q
            dsimp only at q
            by_cases ho : (c, t) ∈ ot
            · rw [if_pos ho] at q
              cases hf : F [.ref n, e] G with
              | none => rw [hf] at q; exact q.no
              | some p =>
                obtain ⟨r, G'⟩ := p
                rw [hf] at q
                cases r with
                | exc _ => exact q.no
                | val z =>
                  cases z with
                  | bl b => exact ⟨ι, G, n, e, c, fs, F, t, b, G', sh, rx, ry, hn, hF, ht, ho, hf, fun ι' H' st sm => q.val st sm _ (.bl b)⟩
                  | _ => exact q.no
            · rw [if_neg ho] at q; exact q.no
      | _ => exact q.no
  | _ => exact q.no
theorem fe_eqO (kit : KitOk g kt) (hT : ∀ cn F, tab.lookup cn = some F → ∃ f, PySem.W.findIn g.K (.ref (g.cls cn)) "__eq__" = some (some (.ref f)) ∧ PySem.W.isFn g.K (.ref f) = true ∧ CalD g k f [] F)
    (hot : ∀ cn t, (cn, t) ∈ ot → (∃ cc b, kt.lookup (t, cc) = some b) ∧ PySem.W.notFirst g.K (g.cls cn) (tcV g t) = true) (hk : k ≤ c.k ∧ c.hot = false) (ha : FE g c a fa) (hb : FE g c b fb) (hm : behindInMarks .Eq b = false := by rfl) :
    FE g c (.Compare a [.Eq] [b] pos) (eOp (dEqO tab ot) fa fb) :=
  ⟨fun X i W t => two (pe_cmpR (r := rEqO g tab ot) (fun pins s σ H x y v u Q I rx ry q => by
    obtain ⟨ι, G, n, e, cn, fs, F, t, b, G', sh, dx, dy, hn, hF, ht, ho, hf, q⟩ := q
    cases dx with
    | @ref _ p hp =>
      obtain ⟨w, hw, ro⟩ := sh.at_ n _ p hn hp
      cases ro with
      | @ins _ xd _ vfs rf =>
        obtain ⟨f, h1, h2, C⟩ := hT cn F hF
        obtain ⟨hu, hnf⟩ := hot cn t ho
        obtain rfl : v = Value.ref p := rx
        obtain ⟨mA, J, _⟩ := ins_get I.hok hw
        obtain ⟨od, J, _⟩ := J.look
        obtain ⟨m, hFr⟩ := I.fr
        have ty := tyx_of sh kit dy ht hu
        obtain ⟨P, KX, hP, _⟩ := kit_of I ry (by rw [i.K]; exact ty)
        refine PySem.W.cmp_K (op := .Eq) (tb := tcV g t) i.hu0 hFr I.ok.mod.kin J (KX.ty _ _ I.kIn hP) (by rw [i.K]; exact hnf) (by rw [i.K]; exact h1) (by rw [i.K]; exact h2) ?_
        refine wpAny_mono (runC (W := fun _ _ _ _ => False) (us := [.ref p, u]) (ws := []) (vs := [.ref p, y]) (Q := fun z H' => z = .bl b ∧ Q (.bl b) H') C i hk takesN0 I rfl (.cons rfl (.cons ry .nil)) ⟨ι, [.ref n, e], G, .cons (.ref hp) (.cons dy .nil), sh, .val (.bl b), G', hf, fun ι' H' st sm z rz => ?_⟩) (fun r s' hr => ?_) fun _ _ z => z
        · cases rz
          exact ⟨rfl, q ι' H' st sm⟩
        · obtain ⟨z, H', I', rz, ez, qz⟩ := hr
          subst ez
          cases rz
          exact ⟨.bl b, H', I', rfl, qz⟩) (ha.run X i W t) (hb.run X i W t) hm) pr_eqO⟩
end
section
variable {g : Gm} {c : Sc} {cx m : Str} {k : Nat} {F : Fn} {p apos pos : Pos} {pl : Env → Sem Bool}
theorem fe_cmeth0 (S : CmtOk g k cx m F) (hk : k ≤ c.k ∧ c.hot = false) (hg : GlS c cx := by rfl) (hd : (cx == ("__debug__" : Str)) = false := by decide)
    (ht : ∀ env, eval (.Call (.Attribute (.Name cx p) m apos) [] [] pos) env = (do
      let ov ← eval (.Name cx p) env
      standAt apos.atName
      let (f, first) ← holding [ov] (getMethod ov m (pl env))
      callWith pos f first (backTo pos (starEach [] env)) (backToKw pos (keywordEach [] env))) := by intro _; rfl) : FE g c (.Call (.Attribute (.Name cx p) m apos) [] [] pos) (eCMt cx F aNil) := ⟨fun X i W t => by
  obtain ⟨C, mc, q, f, hm, cr, cm, cal⟩ := S.ex
  refine ⟨fun pins s σ H Q I ⟨ι, gs, G, ss, sh, h⟩ => ?_⟩
  have hn := pe_glob (X := X) (pos := p) (v := .ref C) (hg.gl i) (by rw [i.mg]; exact hm) rfl hd
  refine PySem.W.methodCall_KW (pl := pl X.env) (thn (hn.run pins s σ H (fun v H1 => v = .ref C ∧ H1 = H) I ⟨rfl, rfl⟩) fun u s1 ⟨v, H1, I1, ru, ev, eH⟩ => ?_) (ht X.env)
  subst ev eH
  obtain rfl : u = Value.ref C := ru
  rw [← i.K] at cr cm
  refine ClX.getmethcm_ok I1 cr cm fun s2 I2 => ?_
  refine PySem.W.callWith_M0 (K := X.K) (first := []) ⟨ClX.pin_at I2, I2.kIn⟩ cm.fi ?_
  have z := runCc (us := .ref C :: []) (vs := .ref C :: []) (Q := Q) cal i hk t I2 (.cons rfl .nil) ⟨ι, [.glb cx], G, .cons (.glb hm) .nil, sh, Gv.toE h⟩
  exact thn (wpAny_call (PySem.W.method_call (ClX.pin_at I2) z)) fun _ _ y => ClX.unpinE y⟩
end
end FI
namespace FI
open PySem PySem.Spec PyProof.Rows L2
structure PrpOkT (g : Gm) (k : Nat) (f : Str) (tab : List (Nat × Fn)) : Prop where
  ex : ∀ cn F, tab.lookup cn = some F → PrpOk g k cn f F
def ePropT (tab : List (Nat × Fn)) (fo : SE) : SE := fun gs G => bnd (fo gs G) fun o G1 => match o with
  | .ref n => match G1[n]? with
    | some (.ins c _) => match tab.lookup c with
      | some F => (match F [.ref n] G1 with
        | some (.val d, G2) => some (.val d, G2)
        | _ => none)
      | none => none
    | _ => none
  | _ => none
section
variable {g : Gm} {c : Sc} {o : Expr} {fo : SE} {k : Nat} {f : Str} {tab : List (Nat × Fn)} {pos : Pos}
theorem fe_propT (M : PrpOkT g k f tab) (hk : k + 1 ≤ c.k ∧ c.hot = false) (ho : FE g c o fo) (hab : ∀ env, attributeBase o f env (eval o env) = eval o env := by intro _; rfl) : FE g c (.Attribute o f pos) (ePropT tab fo) := ⟨fun X i W t => ⟨fun pins s σ H Q I ⟨ι, gs, G, ss, sh, h⟩ => by
  refine attr_of (hab X.env) (thn ((ho.run X i W t).run pins s σ H (fun x H1 => ∃ cn F a dx fs, x = .ref a ∧ H1 a = some (.ins (g.cls cn) dx fs) ∧ tab.lookup cn = some F ∧ spD g 1 F [.ref a] H1 Q (fun _ _ _ => False)) I ⟨ι, gs, G, ss, sh, h.bnd.imp fun d ι1 G1 H1 s1 t1 h1 v rv => ?_⟩) fun u s1 ⟨x, H1, I1, rx, cn, F, a, dx, fs, ex, ea, el, q⟩ => ?_)
  · cases rv with
    | @ref n a ha =>
      dsimp only at h1
      cases eg : G1[n]? with
      | none => rw [eg] at h1; exact h1.no
      | some ob =>
        rw [eg] at h1
        cases ob with
        | ins c0 fs =>
          dsimp only at h1
          cases el : tab.lookup c0 with
          | none => rw [el] at h1; exact h1.no
          | some F =>
            rw [el] at h1
            dsimp only at h1
            obtain ⟨u, hu, ro⟩ := t1.at_ n _ a eg ha
            cases ro with
            | ins rf =>
              refine ⟨c0, F, a, _, _, rfl, hu, el, rfl, ι1, [.ref n], G1, .cons (.ref ha) .nil, t1, ?_⟩
              cases eF : F [.ref n] G1 with
              | none => rw [eF] at h1; exact h1.no
              | some q =>
                obtain ⟨r, G2⟩ := q
                rw [eF] at h1
                cases r with
                | val d => exact ⟨.val d, G2, rfl, fun ι' H' a b => h1.val a b⟩
                | exc x => exact h1.no
        | _ => exact h1.no
    | _ => exact h1.no
  · obtain ⟨p, ga, fd, hp, hF, hb⟩ := (M.ex cn F el).ex
    subst ex
    obtain rfl : u = Value.ref a := rx
    exact getprop_ok (CX := L2N.CX g.P g.w) (C := g.cls cn) (dvs := []) (ds := []) (sp := spD g 1 F) I1 ea (by rw [i.K]; exact (M.ex cn F el).cl) (by rw [i.K]; exact hp) (by rw [i.P, i.w, i.K, i.mg, i.base]; exact hF) ((i.room hk.2).mono hk.1) (by rw [i.K]; exact hb) .nil
      (fun pins σ H s e s' _ z => by obtain ⟨_, _, _, _, _, _, _, _, _, _, _, _, z⟩ := z; exact z) q⟩⟩
end
def bEqm (x b : Str) : Fr → Bool := fun K => He.eqO (PySem.W.findIn K (.ref (He.ga K x)) "__eq__") (some (some (.ref (atM b "__eq__" K)))) && PySem.W.isFn K (.ref (atM b "__eq__" K))
def bNotf (x : Str) (t : Fr → Value) : Fr → Bool := fun K => PySem.W.notFirst K (He.ga K x) (t K)
theorem bEqm_ok {K : Fr} {x b : Str} (c : bEqm x b K = true) : PySem.W.findIn K (.ref (He.ga K x)) "__eq__" = some (some (.ref (atM b "__eq__" K))) ∧ PySem.W.isFn K (.ref (atM b "__eq__" K)) = true := by
  obtain ⟨c1, c2⟩ := He.ba c
  exact ⟨He.eqO_ok c1, c2⟩
end FI
set_option maxRecDepth 100000
set_option maxHeartbeats 4000000
namespace FI.K01
open PySem L2 PySem.Spec PyProof.Rows FI
def top (i : Nat) : Stmt := PySem.Challenge.pw_withincall_k01_rings_and_kinds.main.body.getD i (.Pass ⟨0, 0, 0, 0⟩)
abbrev s__law_same : Stmt := top 20
abbrev s__law_same_row : Stmt := top 21
abbrev s__law_cell : Stmt := top 17
abbrev s__law_bag : Stmt := top 18
abbrev s__law_draw : Stmt := top 19
abbrev s__law_is_capacity : Stmt := top 23
abbrev s__law_fault : Stmt := top 24
abbrev s_numbers_by_end : Stmt := top 12
abbrev s_Net_init : Stmt := inClass (top 13) 4
abbrev s_is_integer : Stmt := top 6
abbrev s_Net_is_capacity : Stmt := inClass (top 13) 5
abbrev s_check_capacities : Stmt := top 10
abbrev s_Ring_init : Stmt := inClass (top 15) 1
abbrev s__law_ring_of_40 : Stmt := top 25
abbrev s__law_ring_of_41 : Stmt := top 26
abbrev s__law_ring : Stmt := top 29
abbrev s_is_channel : Stmt := top 8
abbrev s_check_channels : Stmt := top 9
abbrev s_has_circle : Stmt := top 11
abbrev s_Pipeline_init : Stmt := inClass (top 14) 0
abbrev s_Pipeline_row : Stmt := inClass (top 14) 1
abbrev s__law_row_of_39 : Stmt := top 27
abbrev s__law_row_of_40 : Stmt := top 28
abbrev s__law_row : Stmt := top 30
abbrev s__law_links : Stmt := top 31
abbrev s__law_same_rows : Stmt := top 22
abbrev s_Pipeline_is_ring : Stmt := inClass (top 14) 2
abbrev s_Ring_is_ring : Stmt := inClass (top 15) 2
abbrev s_Net_slots : Stmt := inClass (top 13) 6
abbrev s_Net_summary : Stmt := inClass (top 13) 13
abbrev s_Pipeline_summary : Stmt := inClass (top 14) 5
abbrev s_Ring_summary : Stmt := inClass (top 15) 5
abbrev s__law_good : Stmt := top 32
abbrev s__law_answered : Stmt := top 33
abbrev s__law_mended : Stmt := top 34
abbrev s__law_large : Stmt := top 39
abbrev s__law_size : Stmt := top 38
abbrev s_Net_eq : Stmt := inClass (top 13) 7
abbrev s__law_equal : Stmt := top 36
abbrev s__law_pipeline : Stmt := top 35
abbrev s__law_compared : Stmt := top 37
abbrev s__law_small : Stmt := top 40
abbrev s_law : Stmt := top 41
abbrev s_InvalidNet_init : Stmt := inClass (top 3) 0
def clsL : List Str := ["WithinCallError", "InvalidNet", "InvalidState", "InvalidMove", "InvalidText", "NotFound", "Blocked", "Net", "Pipeline", "Ring", "Unreachable", "TooLarge", "InvalidBox", "Box", "NoState", "Unrecoverable", "MoveOrder", "Contradiction", "Claim", "Note", "Evidence", "Census", "InvalidLimit", "InvalidName", "UnknownName", "NothingToUndo", "NothingToRedo", "Entry", "Desk"]
def fldL : List Str := (["reason", "position", "line", "number", "move", "channels", "at", "stages", "_incoming", "_outgoing", "objection", "size", "most", "lows", "highs", "certificate", "conflict", "_total", "_counts", "_kinds", "_reasons", "_layers", "_earliest", "_latest", "possible"] : List Str) ++ (["question", "record", "claim", "positive", "_net", "_notes", "_least", "_start", "_lows", "_totals", "value", "name", "word", "moves", "net_before", "state_before", "net_behind", "state_behind", "_state", "_limit", "_entries", "_undone", "_moves_made", "_targets", "limit"] : List Str)
def cIns : List Nat := [8, 9]
def kt : Kit := [((.b "NoneType", .gl "Net"), false), ((.b "bool", .gl "Net"), false), ((.b "int", .gl "Net"), false), ((.b "str", .gl "Net"), false), ((.b "tuple", .gl "Net"), false), ((.b "list", .gl "Net"), false), ((.o 8, .gl "Net"), true), ((.o 9, .gl "Net"), true), ((.b "NoneType", .ty "bool"), false), ((.b "bool", .ty "bool"), true), ((.b "int", .ty "bool"), false), ((.b "str", .ty "bool"), false), ((.b "tuple", .ty "bool"), false), ((.b "list", .ty "bool"), false), ((.o 8, .ty "bool"), false), ((.o 9, .ty "bool"), false), ((.b "NoneType", .ty "int"), false), ((.b "bool", .ty "int"), true), ((.b "int", .ty "int"), true), ((.b "str", .ty "int"), false), ((.b "tuple", .ty "int"), false), ((.b "list", .ty "int"), false), ((.o 8, .ty "int"), false), ((.o 9, .ty "int"), false), ((.b "NoneType", .ty "str"), false), ((.b "bool", .ty "str"), false), ((.b "int", .ty "str"), false), ((.b "str", .ty "str"), true), ((.b "tuple", .ty "str"), false), ((.b "list", .ty "str"), false), ((.o 8, .ty "str"), false), ((.o 9, .ty "str"), false), ((.b "NoneType", .ty "tuple"), false), ((.b "bool", .ty "tuple"), false), ((.b "int", .ty "tuple"), false), ((.b "str", .ty "tuple"), false), ((.b "tuple", .ty "tuple"), true), ((.b "list", .ty "tuple"), false), ((.o 8, .ty "tuple"), false), ((.o 9, .ty "tuple"), false)]
def xkt : XKit := [((1, .gl "InvalidNet"), true), ((1, .gl "NotFound"), false)]
def ct_WithinCallError : List (Nat × Bool) := [(1, true)]
def N__law_same : List Str := ["_law_told", "_law_due"]
noncomputable def b__law_same : SS := bSeq (sIf (tB (eOp (dIs false) (eVar 1) (eC .non))) (bSeq (sRet (eOp (dIs false) (eVar 0) (eC .non))) bNil) bNil) (bSeq (sIf (tB (eOp (dIs false) (eVar 1) (eC (.bl true)))) (bSeq (sRet (eOp (dIs false) (eVar 0) (eC (.bl true)))) bNil) bNil) (bSeq (sIf (tB (eOp (dIs false) (eVar 1) (eC (.bl false)))) (bSeq (sRet (eOp (dIs false) (eVar 0) (eC (.bl false)))) bNil) bNil) (bSeq (sIf (tB (eArgs (d2 (bIsi kt)) (aCons (eVar 1) (aCons (eC (.ty "int")) aNil)))) (bSeq (sRet (eAnd (eArgs (d2 (bIsi kt)) (aCons (eVar 0) (aCons (eC (.ty "int")) aNil))) (eAnd (eNot (eArgs (d2 (bIsi kt)) (aCons (eVar 0) (aCons (eC (.ty "bool")) aNil)))) (eOp (dEqv false) (eVar 0) (eVar 1))))) bNil) bNil) (bSeq (sRet (eAnd (eArgs (d2 (bIsi kt)) (aCons (eVar 0) (aCons (eC (.ty "str")) aNil))) (eOp (dEqv false) (eVar 0) (eVar 1)))) bNil))))
noncomputable def F__law_same : Fn := mkFnB (bPlain 2) N__law_same.length b__law_same
def N__law_same_row : List Str := ["_law_told", "_law_due", "_law_k"]
noncomputable def b__law_same_row : SS := bSeq (sIf (tOr' (tNot' (tB (eArgs (d2 (bIsi kt)) (aCons (eVar 0) (aCons (eC (.ty "tuple")) aNil))))) (tB (eOp (dEqv true) (eArgs (d1 bLen) (aCons (eVar 0) aNil)) (eArgs (d1 bLen) (aCons (eVar 1) aNil))))) (bSeq (sRet (eC (.bl false))) bNil) bNil) (bSeq (sFor (wRng1 (aCons (eArgs (d1 bLen) (aCons (eVar 1) aNil)) aNil)) (gNm 2) (bSeq (sIf (tNot' (tB (eCall F__law_same (aCons (eOp dIx (eVar 0) (eVar 2)) (aCons (eOp dIx (eVar 1) (eVar 2)) aNil))))) (bSeq (sRet (eC (.bl false))) bNil) bNil) bNil)) (bSeq (sRet (eC (.bl true))) bNil))
noncomputable def F__law_same_row : Fn := mkFnB (bPlain 2) N__law_same_row.length b__law_same_row
def N__law_cell : List Str := ["_law_script", "_law_k"]
noncomputable def b__law_cell : SS := bSeq (sIf (tB (eOp dLtA (eVar 1) (eArgs (d1 bLen) (aCons (eVar 0) aNil)))) (bSeq (sRet (eOp dIx (eVar 0) (eVar 1))) bNil) bNil) (bSeq (sRet (eOp dAdd (eOp dAdd (eOp dMul (eOp dMod (eArgs (d1 bInt) (aCons (eArgs (d1 bSum) (aCons (eSl (eVar 0) oNone (oSome (eC (.int 2)))) aNil)) aNil)) (eC (.int 1000003))) (eC (.int 8191))) (eOp dMul (eVar 1) (eC (.int 131)))) (eC (.int 171)))) bNil)
noncomputable def F__law_cell : Fn := mkFnB (bPlain 2) N__law_cell.length b__law_cell
def N__law_bag : List Str := ["_law_script", "_law_k", "_law_cell_here"]
noncomputable def b__law_bag : SS := bSeq (sAsg (eCall F__law_cell (aCons (eVar 0) (aCons (eVar 1) aNil))) (gNm 2)) (bSeq (sIf (tB (eOp dGe (eVar 2) (eOp dPow (eC (.int 10)) (eC (.int 18))))) (bSeq (sRet (eArgs dLst (aCons (eOp dSub (eVar 2) (eOp dPow (eC (.int 10)) (eC (.int 18)))) (aCons (eC (.int 0)) aNil)))) bNil) bNil) (bSeq (sRet (eArgs dLst (aCons (eOp dMod (eArgs (d1 bInt) (aCons (eVar 2) aNil)) (eC (.int 2147483647))) (aCons (eC (.int 1)) aNil)))) bNil))
noncomputable def F__law_bag : Fn := mkFnB (bPlain 2) N__law_bag.length b__law_bag
def N__law_draw : List Str := ["_law_bag_here", "_law_many", "_law_digit", "_law_mixed"]
noncomputable def b__law_draw : SS := bSeq (sIf (tB (eOp (dEqv false) (eOp dIx (eVar 0) (eC (.int 1))) (eC (.int 0)))) (bSeq (sAsg (eOp dMod (eArgs (d1 bInt) (aCons (eOp dIx (eVar 0) (eC (.int 0))) aNil)) (eVar 1)) (gNm 2)) (bSeq (sAsg (eOp dFdiv (eOp dIx (eVar 0) (eC (.int 0))) (eVar 1)) (gSb (eVar 0) (eC (.int 0)))) (bSeq (sRet (eVar 2)) bNil))) bNil) (bSeq (sAsg (eOp dMod (eArgs (d1 bInt) (aCons (eOp dAdd (eOp dAdd (eOp dMul (eOp dIx (eVar 0) (eC (.int 0))) (eC (.int 48271))) (eOp dMul (eOp dIx (eVar 0) (eC (.int 1))) (eC (.int 69621)))) (eC (.int 13))) aNil)) (eC (.int 2147483629))) (gNm 3)) (bSeq (sAsg (eOp dMod (eArgs (d1 bInt) (aCons (eOp dAdd (eOp dAdd (eOp dMul (eVar 3) (eVar 3)) (eOp dMul (eOp dIx (eVar 0) (eC (.int 1))) (eC (.int 16807)))) (eC (.int 5))) aNil)) (eC (.int 2147483587))) (gNm 3)) (bSeq (sAsg (eOp dMod (eArgs (d1 bInt) (aCons (eOp dAdd (eOp dAdd (eOp dMul (eVar 3) (eVar 3)) (eOp dIx (eVar 0) (eC (.int 0)))) (eC (.int 3))) aNil)) (eC (.int 2147483579))) (gNm 3)) (bSeq (sAsg (eOp dAdd (eOp dIx (eVar 0) (eC (.int 1))) (eC (.int 1))) (gSb (eVar 0) (eC (.int 1)))) (bSeq (sRet (eOp dMod (eArgs (d1 bInt) (aCons (eOp dFdiv (eVar 3) (eC (.int 16))) aNil)) (eVar 1))) bNil)))))
noncomputable def F__law_draw : Fn := mkFnB (bPlain 2) N__law_draw.length b__law_draw
def N__law_is_capacity : List Str := ["_law_thing"]
noncomputable def b__law_is_capacity : SS := bSeq (sRet (eAnd (eArgs (d2 (bIsi kt)) (aCons (eVar 0) (aCons (eC (.ty "int")) aNil))) (eAnd (eNot (eArgs (d2 (bIsi kt)) (aCons (eVar 0) (aCons (eC (.ty "bool")) aNil)))) (eChain dLe dLe (eC (.int 1)) (eVar 0) (eC (.int 999)))))) bNil
noncomputable def F__law_is_capacity : Fn := mkFnB (bPlain 1) N__law_is_capacity.length b__law_is_capacity
def N__law_fault : List Str := ["_law_sizes", "_law_least", "_law_most", "_law_k"]
noncomputable def b__law_fault : SS := bSeq (sIf (tOr' (tB (eOp dLtA (eArgs (d1 bLen) (aCons (eVar 0) aNil)) (eVar 1))) (tB (eOp dGt (eArgs (d1 bLen) (aCons (eVar 0) aNil)) (eVar 2)))) (bSeq (sRet (eArgs dTup (aCons (eC (.str "stages")) (aCons (eC .non) aNil)))) bNil) bNil) (bSeq (sFor (wRng1 (aCons (eArgs (d1 bLen) (aCons (eVar 0) aNil)) aNil)) (gNm 3) (bSeq (sIf (tNot' (tB (eCall F__law_is_capacity (aCons (eOp dIx (eVar 0) (eVar 3)) aNil)))) (bSeq (sRet (eArgs dTup (aCons (eC (.str "capacity")) (aCons (eVar 3) aNil)))) bNil) bNil) bNil)) (bSeq (sRet (eC .non)) bNil))
noncomputable def F__law_fault : Fn := mkFnB (bPlain 3) N__law_fault.length b__law_fault
def N_numbers_by_end : List Str := ["channels", "stages", "end", "found", "_", "number", "channel", "numbers"]
noncomputable def b_numbers_by_end : SS := bSeq (sAsg (eLc (wRng1 (aCons (eVar 1) aNil)) (gNm 4) tTrue (eArgs dLst aNil) [4]) (gNm 3)) (bSeq (sFor (wEnum (aCons (eVar 0) aNil)) (gTp 2 (gsCons (gNm 5) (gsCons (gNm 6) gsNil))) (bSeq (sDrop (eMtL (mLst fAppend) (eOp dIx (eVar 3) (eOp dIx (eVar 6) (eVar 2))) (aCons (eVar 5) aNil))) bNil)) (bSeq (sRet (eArgs (d1 bTuple) (aCons (eLc (wSeq (eVar 3)) (gNm 7) tTrue (eArgs (d1 bTuple) (aCons (eVar 7) aNil)) [7]) aNil))) bNil))
noncomputable def F_numbers_by_end : Fn := mkFnB (bPlain 3) N_numbers_by_end.length b_numbers_by_end
def N_Net_init : List Str := ["self", "stages", "channels"]
noncomputable def b_Net_init : SS := bSeq (sFld' cIns 7 (eVar 0) (eVar 1)) (bSeq (sFld' cIns 5 (eVar 0) (eVar 2)) (bSeq (sFld' cIns 8 (eVar 0) (eCall F_numbers_by_end (aCons (eVar 2) (aCons (eVar 1) (aCons (eC (.int 1)) aNil))))) (bSeq (sFld' cIns 9 (eVar 0) (eCall F_numbers_by_end (aCons (eVar 2) (aCons (eVar 1) (aCons (eC (.int 0)) aNil))))) bNil)))
noncomputable def F_Net_init : Fn := mkFnB (bPlain 3) N_Net_init.length b_Net_init
def N_is_integer : List Str := ["value"]
noncomputable def b_is_integer : SS := bSeq (sRet (eAnd (eArgs (d2 (bIsi kt)) (aCons (eVar 0) (aCons (eC (.ty "int")) aNil))) (eNot (eArgs (d2 (bIsi kt)) (aCons (eVar 0) (aCons (eC (.ty "bool")) aNil)))))) bNil
noncomputable def F_is_integer : Fn := mkFnB (bPlain 1) N_is_integer.length b_is_integer
def N_Net_is_capacity : List Str := ["value"]
noncomputable def b_Net_is_capacity : SS := bSeq (sRet (eAnd (eCall F_is_integer (aCons (eVar 0) aNil)) (eChain dLe dLe (eC (.int 1)) (eVar 0) (eC (.int 999))))) bNil
noncomputable def F_Net_is_capacity : Fn := mkFnB (bPlain 1) N_Net_is_capacity.length b_Net_is_capacity
def N_check_capacities : List Str := ["capacities", "position", "capacity"]
noncomputable def b_check_capacities : SS := bSeq (sFor (wEnum (aCons (eVar 0) aNil)) (gTp 2 (gsCons (gNm 1) (gsCons (gNm 2) gsNil))) (bSeq (sIf (tNot' (tB (eCall F_Net_is_capacity (aCons (eVar 2) aNil)))) (bSeq (sRaise 1 2 [(0, 1), (1, 2)] (aCons (eC (.str "capacity")) (aCons (eVar 1) aNil))) bNil) bNil) bNil)) bNil
noncomputable def F_check_capacities : Fn := mkFnB (bPlain 1) N_check_capacities.length b_check_capacities
def N_Ring_init : List Str := ["self", "capacities", "stages", "channels", "stage", "capacity"]
noncomputable def b_Ring_init : SS := bSeq (sAsg (eArgs (d1 bLen) (aCons (eVar 1) aNil)) (gNm 2)) (bSeq (sIf (tNot' (tB (eChain dLe dLe (eC (.int 3)) (eVar 2) (eC (.int 40))))) (bSeq (sRaise 1 2 [(0, 1), (1, 2)] (aCons (eC (.str "stages")) (aCons (eC .non) aNil))) bNil) bNil) (bSeq (sDrop (eCall F_check_capacities (aCons (eVar 1) aNil))) (bSeq (sAsg (eLc (wEnum (aCons (eVar 1) aNil)) (gTp 2 (gsCons (gNm 4) (gsCons (gNm 5) gsNil))) tTrue (eArgs dTup (aCons (eVar 4) (aCons (eOp dMod (eOp dAdd (eVar 4) (eC (.int 1))) (eVar 2)) (aCons (eVar 5) aNil)))) [4, 5]) (gNm 3)) (bSeq (sSup 0 [(9, F_Net_init)] (aCons (eVar 2) (aCons (eArgs (d1 bTuple) (aCons (eVar 3) aNil)) aNil))) bNil))))
noncomputable def F_Ring_init : Fn := mkFnB (bStar 1) N_Ring_init.length b_Ring_init
noncomputable def C_Ring : Fn := mkCls 9 F_Ring_init
def N__law_ring_of_40 : List Str := ["_law_c"]
noncomputable def b__law_ring_of_40 : SS := bSeq (sRet (eCall C_Ring (aCons (eOp dIx (eVar 0) (eC (.int 0))) (aCons (eOp dIx (eVar 0) (eC (.int 1))) (aCons (eOp dIx (eVar 0) (eC (.int 2))) (aCons (eOp dIx (eVar 0) (eC (.int 3))) (aCons (eOp dIx (eVar 0) (eC (.int 4))) (aCons (eOp dIx (eVar 0) (eC (.int 5))) (aCons (eOp dIx (eVar 0) (eC (.int 6))) (aCons (eOp dIx (eVar 0) (eC (.int 7))) (aCons (eOp dIx (eVar 0) (eC (.int 8))) (aCons (eOp dIx (eVar 0) (eC (.int 9))) (aCons (eOp dIx (eVar 0) (eC (.int 10))) (aCons (eOp dIx (eVar 0) (eC (.int 11))) (aCons (eOp dIx (eVar 0) (eC (.int 12))) (aCons (eOp dIx (eVar 0) (eC (.int 13))) (aCons (eOp dIx (eVar 0) (eC (.int 14))) (aCons (eOp dIx (eVar 0) (eC (.int 15))) (aCons (eOp dIx (eVar 0) (eC (.int 16))) (aCons (eOp dIx (eVar 0) (eC (.int 17))) (aCons (eOp dIx (eVar 0) (eC (.int 18))) (aCons (eOp dIx (eVar 0) (eC (.int 19))) (aCons (eOp dIx (eVar 0) (eC (.int 20))) (aCons (eOp dIx (eVar 0) (eC (.int 21))) (aCons (eOp dIx (eVar 0) (eC (.int 22))) (aCons (eOp dIx (eVar 0) (eC (.int 23))) (aCons (eOp dIx (eVar 0) (eC (.int 24))) (aCons (eOp dIx (eVar 0) (eC (.int 25))) (aCons (eOp dIx (eVar 0) (eC (.int 26))) (aCons (eOp dIx (eVar 0) (eC (.int 27))) (aCons (eOp dIx (eVar 0) (eC (.int 28))) (aCons (eOp dIx (eVar 0) (eC (.int 29))) (aCons (eOp dIx (eVar 0) (eC (.int 30))) (aCons (eOp dIx (eVar 0) (eC (.int 31))) (aCons (eOp dIx (eVar 0) (eC (.int 32))) (aCons (eOp dIx (eVar 0) (eC (.int 33))) (aCons (eOp dIx (eVar 0) (eC (.int 34))) (aCons (eOp dIx (eVar 0) (eC (.int 35))) (aCons (eOp dIx (eVar 0) (eC (.int 36))) (aCons (eOp dIx (eVar 0) (eC (.int 37))) (aCons (eOp dIx (eVar 0) (eC (.int 38))) (aCons (eOp dIx (eVar 0) (eC (.int 39))) aNil)))))))))))))))))))))))))))))))))))))))))) bNil
noncomputable def F__law_ring_of_40 : Fn := mkFnB (bPlain 1) N__law_ring_of_40.length b__law_ring_of_40
def N__law_ring_of_41 : List Str := ["_law_c"]
noncomputable def b__law_ring_of_41 : SS := bSeq (sRet (eCall C_Ring (aCons (eOp dIx (eVar 0) (eC (.int 0))) (aCons (eOp dIx (eVar 0) (eC (.int 1))) (aCons (eOp dIx (eVar 0) (eC (.int 2))) (aCons (eOp dIx (eVar 0) (eC (.int 3))) (aCons (eOp dIx (eVar 0) (eC (.int 4))) (aCons (eOp dIx (eVar 0) (eC (.int 5))) (aCons (eOp dIx (eVar 0) (eC (.int 6))) (aCons (eOp dIx (eVar 0) (eC (.int 7))) (aCons (eOp dIx (eVar 0) (eC (.int 8))) (aCons (eOp dIx (eVar 0) (eC (.int 9))) (aCons (eOp dIx (eVar 0) (eC (.int 10))) (aCons (eOp dIx (eVar 0) (eC (.int 11))) (aCons (eOp dIx (eVar 0) (eC (.int 12))) (aCons (eOp dIx (eVar 0) (eC (.int 13))) (aCons (eOp dIx (eVar 0) (eC (.int 14))) (aCons (eOp dIx (eVar 0) (eC (.int 15))) (aCons (eOp dIx (eVar 0) (eC (.int 16))) (aCons (eOp dIx (eVar 0) (eC (.int 17))) (aCons (eOp dIx (eVar 0) (eC (.int 18))) (aCons (eOp dIx (eVar 0) (eC (.int 19))) (aCons (eOp dIx (eVar 0) (eC (.int 20))) (aCons (eOp dIx (eVar 0) (eC (.int 21))) (aCons (eOp dIx (eVar 0) (eC (.int 22))) (aCons (eOp dIx (eVar 0) (eC (.int 23))) (aCons (eOp dIx (eVar 0) (eC (.int 24))) (aCons (eOp dIx (eVar 0) (eC (.int 25))) (aCons (eOp dIx (eVar 0) (eC (.int 26))) (aCons (eOp dIx (eVar 0) (eC (.int 27))) (aCons (eOp dIx (eVar 0) (eC (.int 28))) (aCons (eOp dIx (eVar 0) (eC (.int 29))) (aCons (eOp dIx (eVar 0) (eC (.int 30))) (aCons (eOp dIx (eVar 0) (eC (.int 31))) (aCons (eOp dIx (eVar 0) (eC (.int 32))) (aCons (eOp dIx (eVar 0) (eC (.int 33))) (aCons (eOp dIx (eVar 0) (eC (.int 34))) (aCons (eOp dIx (eVar 0) (eC (.int 35))) (aCons (eOp dIx (eVar 0) (eC (.int 36))) (aCons (eOp dIx (eVar 0) (eC (.int 37))) (aCons (eOp dIx (eVar 0) (eC (.int 38))) (aCons (eOp dIx (eVar 0) (eC (.int 39))) (aCons (eOp dIx (eVar 0) (eC (.int 40))) aNil))))))))))))))))))))))))))))))))))))))))))) bNil
noncomputable def F__law_ring_of_41 : Fn := mkFnB (bPlain 1) N__law_ring_of_41.length b__law_ring_of_41
def N__law_ring : List Str := ["_law_c"]
noncomputable def b__law_ring : SS := bSeq (sIf (tB (eOp (dEqv false) (eArgs (d1 bLen) (aCons (eVar 0) aNil)) (eC (.int 0)))) (bSeq (sRet (eCall C_Ring aNil)) bNil) bNil) (bSeq (sIf (tB (eOp (dEqv false) (eArgs (d1 bLen) (aCons (eVar 0) aNil)) (eC (.int 1)))) (bSeq (sRet (eCall C_Ring (aCons (eOp dIx (eVar 0) (eC (.int 0))) aNil))) bNil) bNil) (bSeq (sIf (tB (eOp (dEqv false) (eArgs (d1 bLen) (aCons (eVar 0) aNil)) (eC (.int 2)))) (bSeq (sRet (eCall C_Ring (aCons (eOp dIx (eVar 0) (eC (.int 0))) (aCons (eOp dIx (eVar 0) (eC (.int 1))) aNil)))) bNil) bNil) (bSeq (sIf (tB (eOp (dEqv false) (eArgs (d1 bLen) (aCons (eVar 0) aNil)) (eC (.int 3)))) (bSeq (sRet (eCall C_Ring (aCons (eOp dIx (eVar 0) (eC (.int 0))) (aCons (eOp dIx (eVar 0) (eC (.int 1))) (aCons (eOp dIx (eVar 0) (eC (.int 2))) aNil))))) bNil) bNil) (bSeq (sIf (tB (eOp (dEqv false) (eArgs (d1 bLen) (aCons (eVar 0) aNil)) (eC (.int 4)))) (bSeq (sRet (eCall C_Ring (aCons (eOp dIx (eVar 0) (eC (.int 0))) (aCons (eOp dIx (eVar 0) (eC (.int 1))) (aCons (eOp dIx (eVar 0) (eC (.int 2))) (aCons (eOp dIx (eVar 0) (eC (.int 3))) aNil)))))) bNil) bNil) (bSeq (sIf (tB (eOp (dEqv false) (eArgs (d1 bLen) (aCons (eVar 0) aNil)) (eC (.int 5)))) (bSeq (sRet (eCall C_Ring (aCons (eOp dIx (eVar 0) (eC (.int 0))) (aCons (eOp dIx (eVar 0) (eC (.int 1))) (aCons (eOp dIx (eVar 0) (eC (.int 2))) (aCons (eOp dIx (eVar 0) (eC (.int 3))) (aCons (eOp dIx (eVar 0) (eC (.int 4))) aNil))))))) bNil) bNil) (bSeq (sIf (tB (eOp (dEqv false) (eArgs (d1 bLen) (aCons (eVar 0) aNil)) (eC (.int 6)))) (bSeq (sRet (eCall C_Ring (aCons (eOp dIx (eVar 0) (eC (.int 0))) (aCons (eOp dIx (eVar 0) (eC (.int 1))) (aCons (eOp dIx (eVar 0) (eC (.int 2))) (aCons (eOp dIx (eVar 0) (eC (.int 3))) (aCons (eOp dIx (eVar 0) (eC (.int 4))) (aCons (eOp dIx (eVar 0) (eC (.int 5))) aNil)))))))) bNil) bNil) (bSeq (sIf (tB (eOp (dEqv false) (eArgs (d1 bLen) (aCons (eVar 0) aNil)) (eC (.int 40)))) (bSeq (sRet (eCall F__law_ring_of_40 (aCons (eVar 0) aNil))) bNil) bNil) (bSeq (sRet (eCall F__law_ring_of_41 (aCons (eVar 0) aNil))) bNil))))))))
noncomputable def F__law_ring : Fn := mkFnB (bPlain 1) N__law_ring.length b__law_ring
def N_is_channel : List Str := ["channel", "stages", "stage"]
noncomputable def b_is_channel : SS := bSeq (sIf (tOr' (tNot' (tB (eArgs (d2 (bIsi kt)) (aCons (eVar 0) (aCons (eC (.ty "tuple")) aNil))))) (tB (eOp (dIn true) (eArgs (d1 bLen) (aCons (eVar 0) aNil)) (eArgs dTup (aCons (eC (.int 2)) (aCons (eC (.int 3)) aNil)))))) (bSeq (sRet (eC (.bl false))) bNil) bNil) (bSeq (sFor (wSeq (eSl (eVar 0) oNone (oSome (eC (.int 2))))) (gNm 2) (bSeq (sIf (tOr' (tNot' (tB (eCall F_is_integer (aCons (eVar 2) aNil)))) (tNot' (tB (eChain dLe dLtA (eC (.int 0)) (eVar 2) (eVar 1))))) (bSeq (sRet (eC (.bl false))) bNil) bNil) bNil)) (bSeq (sRet (eOp (dEqv true) (eOp dIx (eVar 0) (eC (.int 0))) (eOp dIx (eVar 0) (eC (.int 1))))) bNil))
noncomputable def F_is_channel : Fn := mkFnB (bPlain 2) N_is_channel.length b_is_channel
def N_check_channels : List Str := ["channels", "stages", "known", "position", "channel"]
noncomputable def b_check_channels : SS := bSeq (sAsg dNewT (gNm 2)) (bSeq (sFor (wEnum (aCons (eVar 0) aNil)) (gTp 2 (gsCons (gNm 3) (gsCons (gNm 4) gsNil))) (bSeq (sIf (tNot' (tB (eCall F_is_channel (aCons (eVar 4) (aCons (eVar 1) aNil))))) (bSeq (sRaise 1 2 [(0, 1), (1, 2)] (aCons (eC (.str "channel")) (aCons (eVar 3) aNil))) bNil) bNil) (bSeq (sIf (tAnd' (tB (eOp (dEqv false) (eArgs (d1 bLen) (aCons (eVar 4) aNil)) (eC (.int 3)))) (tNot' (tB (eCall F_Net_is_capacity (aCons (eOp dIx (eVar 4) (eC (.int 2))) aNil))))) (bSeq (sRaise 1 2 [(0, 1), (1, 2)] (aCons (eC (.str "capacity")) (aCons (eVar 3) aNil))) bNil) bNil) (bSeq (sIf (tB (eOp (dIn false) (eSl (eVar 4) oNone (oSome (eC (.int 2)))) (eVar 2))) (bSeq (sRaise 1 2 [(0, 1), (1, 2)] (aCons (eC (.str "duplicate")) (aCons (eVar 3) aNil))) bNil) bNil) (bSeq (sAsg (eC (.bl true)) (gSb (eVar 2) (eSl (eVar 4) oNone (oSome (eC (.int 2)))))) bNil))))) bNil)
noncomputable def F_check_channels : Fn := mkFnB (bPlain 2) N_check_channels.length b_check_channels
def N_has_circle : List Str := ["channels", "stages", "missing", "channel", "free", "stage", "removed"]
noncomputable def b_has_circle : SS := bSeq (sAsg (eOp dMul (eArgs dLst (aCons (eC (.int 0)) aNil)) (eVar 1)) (gNm 2)) (bSeq (sFor (wSeq (eVar 0)) (gNm 3) (bSeq (sAugS (fun i j => i + j) (eVar 2) (eOp dIx (eVar 3) (eC (.int 1))) (eC (.int 1))) bNil)) (bSeq (sAsg (eLc (wRng1 (aCons (eVar 1) aNil)) (gNm 5) (tB (eOp (dEqv false) (eOp dIx (eVar 2) (eVar 5)) (eC (.int 0)))) (eVar 5) [5]) (gNm 4)) (bSeq (sAsg (eC (.int 0)) (gNm 6)) (bSeq (sWhile (tB (eOp dGt (eArgs (d1 bLen) (aCons (eVar 4) aNil)) (eC (.int 0)))) (bSeq (sAsg (eMtL (mLst fPop) (eVar 4) aNil) (gNm 5)) (bSeq (sAugN 6 (fun i j => i + j) (eC (.int 1))) (bSeq (sFor (wSeq (eVar 0)) (gNm 3) (bSeq (sIf (tB (eOp (dEqv false) (eOp dIx (eVar 3) (eC (.int 0))) (eVar 5))) (bSeq (sAugS (fun i j => i - j) (eVar 2) (eOp dIx (eVar 3) (eC (.int 1))) (eC (.int 1))) (bSeq (sIf (tB (eOp (dEqv false) (eOp dIx (eVar 2) (eOp dIx (eVar 3) (eC (.int 1)))) (eC (.int 0)))) (bSeq (sDrop (eMtL (mLst fAppend) (eVar 4) (aCons (eOp dIx (eVar 3) (eC (.int 1))) aNil))) bNil) bNil) bNil)) bNil) bNil)) bNil)))) (bSeq (sRet (eOp dLtA (eVar 6) (eVar 1))) bNil)))))
noncomputable def F_has_circle : Fn := mkFnB (bPlain 2) N_has_circle.length b_has_circle
def N_Pipeline_init : List Str := ["self", "stages", "capacity", "channels", "triples", "channel"]
noncomputable def b_Pipeline_init : SS := bSeq (sIf (tOr' (tNot' (tB (eCall F_is_integer (aCons (eVar 1) aNil)))) (tNot' (tB (eChain dLe dLe (eC (.int 1)) (eVar 1) (eC (.int 40)))))) (bSeq (sRaise 1 2 [(0, 1), (1, 2)] (aCons (eC (.str "stages")) (aCons (eC .non) aNil))) bNil) bNil) (bSeq (sIf (tB (eOp dGt (eArgs (d1 bLen) (aCons (eVar 3) aNil)) (eC (.int 120)))) (bSeq (sRaise 1 2 [(0, 1), (1, 2)] (aCons (eC (.str "limit")) (aCons (eC .non) aNil))) bNil) bNil) (bSeq (sDrop (eCall F_check_channels (aCons (eVar 3) (aCons (eVar 1) aNil)))) (bSeq (sIf (tNot' (tB (eCall F_Net_is_capacity (aCons (eVar 2) aNil)))) (bSeq (sRaise 1 2 [(0, 1), (1, 2)] (aCons (eC (.str "capacity")) (aCons (eC .non) aNil))) bNil) bNil) (bSeq (sIf (tB (eCall F_has_circle (aCons (eVar 3) (aCons (eVar 1) aNil)))) (bSeq (sRaise 1 2 [(0, 1), (1, 2)] (aCons (eC (.str "circle")) (aCons (eC .non) aNil))) bNil) bNil) (bSeq (sAsg (eLc (wSeq (eVar 3)) (gNm 5) tTrue (eIf (tB (eOp (dEqv false) (eArgs (d1 bLen) (aCons (eVar 5) aNil)) (eC (.int 3)))) (eVar 5) (eArgs dTup (aCons (eOp dIx (eVar 5) (eC (.int 0))) (aCons (eOp dIx (eVar 5) (eC (.int 1))) (aCons (eVar 2) aNil))))) [5]) (gNm 4)) (bSeq (sSup 0 [(8, F_Net_init)] (aCons (eVar 1) (aCons (eArgs (d1 bTuple) (aCons (eArgs (bSorted) (aCons (eVar 4) aNil)) aNil)) aNil))) bNil))))))
noncomputable def F_Pipeline_init : Fn := mkFnB (bStarK 2 (.int 1)) N_Pipeline_init.length b_Pipeline_init
noncomputable def C_Pipeline : Fn := mkCls 8 F_Pipeline_init
def N_Pipeline_row : List Str := ["cls", "capacities", "channels", "stage", "capacity"]
noncomputable def b_Pipeline_row : SS := bSeq (sIf (tB (eOp dGe (eArgs (d1 bLen) (aCons (eVar 1) aNil)) (eCstV 0 "Pipeline" (.int 40)))) (bSeq (sRaise 1 2 [(0, 1), (1, 2)] (aCons (eC (.str "stages")) (aCons (eC .non) aNil))) bNil) bNil) (bSeq (sDrop (eCall F_check_capacities (aCons (eVar 1) aNil))) (bSeq (sAsg (eLc (wEnum (aCons (eVar 1) aNil)) (gTp 2 (gsCons (gNm 3) (gsCons (gNm 4) gsNil))) tTrue (eArgs dTup (aCons (eVar 3) (aCons (eOp dAdd (eVar 3) (eC (.int 1))) (aCons (eVar 4) aNil)))) [3, 4]) (gNm 2)) (bSeq (sRet (eCallV 0 "Pipeline" C_Pipeline (aCons (eOp dAdd (eArgs (d1 bLen) (aCons (eVar 1) aNil)) (eC (.int 1))) (aStar (eVar 2) aNil)))) bNil)))
noncomputable def F_Pipeline_row : Fn := mkFnB (bStar 1) N_Pipeline_row.length b_Pipeline_row
def N__law_row_of_39 : List Str := ["_law_c"]
noncomputable def b__law_row_of_39 : SS := bSeq (sRet (eCMt "Pipeline" F_Pipeline_row (aCons (eOp dIx (eVar 0) (eC (.int 0))) (aCons (eOp dIx (eVar 0) (eC (.int 1))) (aCons (eOp dIx (eVar 0) (eC (.int 2))) (aCons (eOp dIx (eVar 0) (eC (.int 3))) (aCons (eOp dIx (eVar 0) (eC (.int 4))) (aCons (eOp dIx (eVar 0) (eC (.int 5))) (aCons (eOp dIx (eVar 0) (eC (.int 6))) (aCons (eOp dIx (eVar 0) (eC (.int 7))) (aCons (eOp dIx (eVar 0) (eC (.int 8))) (aCons (eOp dIx (eVar 0) (eC (.int 9))) (aCons (eOp dIx (eVar 0) (eC (.int 10))) (aCons (eOp dIx (eVar 0) (eC (.int 11))) (aCons (eOp dIx (eVar 0) (eC (.int 12))) (aCons (eOp dIx (eVar 0) (eC (.int 13))) (aCons (eOp dIx (eVar 0) (eC (.int 14))) (aCons (eOp dIx (eVar 0) (eC (.int 15))) (aCons (eOp dIx (eVar 0) (eC (.int 16))) (aCons (eOp dIx (eVar 0) (eC (.int 17))) (aCons (eOp dIx (eVar 0) (eC (.int 18))) (aCons (eOp dIx (eVar 0) (eC (.int 19))) (aCons (eOp dIx (eVar 0) (eC (.int 20))) (aCons (eOp dIx (eVar 0) (eC (.int 21))) (aCons (eOp dIx (eVar 0) (eC (.int 22))) (aCons (eOp dIx (eVar 0) (eC (.int 23))) (aCons (eOp dIx (eVar 0) (eC (.int 24))) (aCons (eOp dIx (eVar 0) (eC (.int 25))) (aCons (eOp dIx (eVar 0) (eC (.int 26))) (aCons (eOp dIx (eVar 0) (eC (.int 27))) (aCons (eOp dIx (eVar 0) (eC (.int 28))) (aCons (eOp dIx (eVar 0) (eC (.int 29))) (aCons (eOp dIx (eVar 0) (eC (.int 30))) (aCons (eOp dIx (eVar 0) (eC (.int 31))) (aCons (eOp dIx (eVar 0) (eC (.int 32))) (aCons (eOp dIx (eVar 0) (eC (.int 33))) (aCons (eOp dIx (eVar 0) (eC (.int 34))) (aCons (eOp dIx (eVar 0) (eC (.int 35))) (aCons (eOp dIx (eVar 0) (eC (.int 36))) (aCons (eOp dIx (eVar 0) (eC (.int 37))) (aCons (eOp dIx (eVar 0) (eC (.int 38))) aNil))))))))))))))))))))))))))))))))))))))))) bNil
noncomputable def F__law_row_of_39 : Fn := mkFnB (bPlain 1) N__law_row_of_39.length b__law_row_of_39
def N__law_row_of_40 : List Str := ["_law_c"]
noncomputable def b__law_row_of_40 : SS := bSeq (sRet (eCMt "Pipeline" F_Pipeline_row (aCons (eOp dIx (eVar 0) (eC (.int 0))) (aCons (eOp dIx (eVar 0) (eC (.int 1))) (aCons (eOp dIx (eVar 0) (eC (.int 2))) (aCons (eOp dIx (eVar 0) (eC (.int 3))) (aCons (eOp dIx (eVar 0) (eC (.int 4))) (aCons (eOp dIx (eVar 0) (eC (.int 5))) (aCons (eOp dIx (eVar 0) (eC (.int 6))) (aCons (eOp dIx (eVar 0) (eC (.int 7))) (aCons (eOp dIx (eVar 0) (eC (.int 8))) (aCons (eOp dIx (eVar 0) (eC (.int 9))) (aCons (eOp dIx (eVar 0) (eC (.int 10))) (aCons (eOp dIx (eVar 0) (eC (.int 11))) (aCons (eOp dIx (eVar 0) (eC (.int 12))) (aCons (eOp dIx (eVar 0) (eC (.int 13))) (aCons (eOp dIx (eVar 0) (eC (.int 14))) (aCons (eOp dIx (eVar 0) (eC (.int 15))) (aCons (eOp dIx (eVar 0) (eC (.int 16))) (aCons (eOp dIx (eVar 0) (eC (.int 17))) (aCons (eOp dIx (eVar 0) (eC (.int 18))) (aCons (eOp dIx (eVar 0) (eC (.int 19))) (aCons (eOp dIx (eVar 0) (eC (.int 20))) (aCons (eOp dIx (eVar 0) (eC (.int 21))) (aCons (eOp dIx (eVar 0) (eC (.int 22))) (aCons (eOp dIx (eVar 0) (eC (.int 23))) (aCons (eOp dIx (eVar 0) (eC (.int 24))) (aCons (eOp dIx (eVar 0) (eC (.int 25))) (aCons (eOp dIx (eVar 0) (eC (.int 26))) (aCons (eOp dIx (eVar 0) (eC (.int 27))) (aCons (eOp dIx (eVar 0) (eC (.int 28))) (aCons (eOp dIx (eVar 0) (eC (.int 29))) (aCons (eOp dIx (eVar 0) (eC (.int 30))) (aCons (eOp dIx (eVar 0) (eC (.int 31))) (aCons (eOp dIx (eVar 0) (eC (.int 32))) (aCons (eOp dIx (eVar 0) (eC (.int 33))) (aCons (eOp dIx (eVar 0) (eC (.int 34))) (aCons (eOp dIx (eVar 0) (eC (.int 35))) (aCons (eOp dIx (eVar 0) (eC (.int 36))) (aCons (eOp dIx (eVar 0) (eC (.int 37))) (aCons (eOp dIx (eVar 0) (eC (.int 38))) (aCons (eOp dIx (eVar 0) (eC (.int 39))) aNil)))))))))))))))))))))))))))))))))))))))))) bNil
noncomputable def F__law_row_of_40 : Fn := mkFnB (bPlain 1) N__law_row_of_40.length b__law_row_of_40
def N__law_row : List Str := ["_law_c"]
noncomputable def b__law_row : SS := bSeq (sIf (tB (eOp (dEqv false) (eArgs (d1 bLen) (aCons (eVar 0) aNil)) (eC (.int 0)))) (bSeq (sRet (eCMt "Pipeline" F_Pipeline_row aNil)) bNil) bNil) (bSeq (sIf (tB (eOp (dEqv false) (eArgs (d1 bLen) (aCons (eVar 0) aNil)) (eC (.int 1)))) (bSeq (sRet (eCMt "Pipeline" F_Pipeline_row (aCons (eOp dIx (eVar 0) (eC (.int 0))) aNil))) bNil) bNil) (bSeq (sIf (tB (eOp (dEqv false) (eArgs (d1 bLen) (aCons (eVar 0) aNil)) (eC (.int 2)))) (bSeq (sRet (eCMt "Pipeline" F_Pipeline_row (aCons (eOp dIx (eVar 0) (eC (.int 0))) (aCons (eOp dIx (eVar 0) (eC (.int 1))) aNil)))) bNil) bNil) (bSeq (sIf (tB (eOp (dEqv false) (eArgs (d1 bLen) (aCons (eVar 0) aNil)) (eC (.int 3)))) (bSeq (sRet (eCMt "Pipeline" F_Pipeline_row (aCons (eOp dIx (eVar 0) (eC (.int 0))) (aCons (eOp dIx (eVar 0) (eC (.int 1))) (aCons (eOp dIx (eVar 0) (eC (.int 2))) aNil))))) bNil) bNil) (bSeq (sIf (tB (eOp (dEqv false) (eArgs (d1 bLen) (aCons (eVar 0) aNil)) (eC (.int 4)))) (bSeq (sRet (eCMt "Pipeline" F_Pipeline_row (aCons (eOp dIx (eVar 0) (eC (.int 0))) (aCons (eOp dIx (eVar 0) (eC (.int 1))) (aCons (eOp dIx (eVar 0) (eC (.int 2))) (aCons (eOp dIx (eVar 0) (eC (.int 3))) aNil)))))) bNil) bNil) (bSeq (sIf (tB (eOp (dEqv false) (eArgs (d1 bLen) (aCons (eVar 0) aNil)) (eC (.int 5)))) (bSeq (sRet (eCMt "Pipeline" F_Pipeline_row (aCons (eOp dIx (eVar 0) (eC (.int 0))) (aCons (eOp dIx (eVar 0) (eC (.int 1))) (aCons (eOp dIx (eVar 0) (eC (.int 2))) (aCons (eOp dIx (eVar 0) (eC (.int 3))) (aCons (eOp dIx (eVar 0) (eC (.int 4))) aNil))))))) bNil) bNil) (bSeq (sIf (tB (eOp (dEqv false) (eArgs (d1 bLen) (aCons (eVar 0) aNil)) (eC (.int 6)))) (bSeq (sRet (eCMt "Pipeline" F_Pipeline_row (aCons (eOp dIx (eVar 0) (eC (.int 0))) (aCons (eOp dIx (eVar 0) (eC (.int 1))) (aCons (eOp dIx (eVar 0) (eC (.int 2))) (aCons (eOp dIx (eVar 0) (eC (.int 3))) (aCons (eOp dIx (eVar 0) (eC (.int 4))) (aCons (eOp dIx (eVar 0) (eC (.int 5))) aNil)))))))) bNil) bNil) (bSeq (sIf (tB (eOp (dEqv false) (eArgs (d1 bLen) (aCons (eVar 0) aNil)) (eC (.int 39)))) (bSeq (sRet (eCall F__law_row_of_39 (aCons (eVar 0) aNil))) bNil) bNil) (bSeq (sRet (eCall F__law_row_of_40 (aCons (eVar 0) aNil))) bNil))))))))
noncomputable def F__law_row : Fn := mkFnB (bPlain 1) N__law_row.length b__law_row
def N__law_links : List Str := ["_law_sizes", "_law_ring_here", "_law_count", "_law_k"]
noncomputable def b__law_links : SS := bSeq (sAsg (eIf (tB (eVar 1)) (eArgs (d1 bLen) (aCons (eVar 0) aNil)) (eOp dAdd (eArgs (d1 bLen) (aCons (eVar 0) aNil)) (eC (.int 1)))) (gNm 2)) (bSeq (sRet (eLc (wRng1 (aCons (eArgs (d1 bLen) (aCons (eVar 0) aNil)) aNil)) (gNm 3) tTrue (eArgs dTup (aCons (eVar 3) (aCons (eOp dMod (eArgs (d1 bInt) (aCons (eOp dAdd (eVar 3) (eC (.int 1))) aNil)) (eVar 2)) (aCons (eOp dIx (eVar 0) (eVar 3)) aNil)))) [3])) bNil)
noncomputable def F__law_links : Fn := mkFnB (bPlain 2) N__law_links.length b__law_links
def N__law_same_rows : List Str := ["_law_told", "_law_due", "_law_k"]
noncomputable def b__law_same_rows : SS := bSeq (sIf (tOr' (tNot' (tB (eArgs (d2 (bIsi kt)) (aCons (eVar 0) (aCons (eC (.ty "tuple")) aNil))))) (tB (eOp (dEqv true) (eArgs (d1 bLen) (aCons (eVar 0) aNil)) (eArgs (d1 bLen) (aCons (eVar 1) aNil))))) (bSeq (sRet (eC (.bl false))) bNil) bNil) (bSeq (sFor (wRng1 (aCons (eArgs (d1 bLen) (aCons (eVar 1) aNil)) aNil)) (gNm 2) (bSeq (sIf (tNot' (tB (eCall F__law_same_row (aCons (eOp dIx (eVar 0) (eVar 2)) (aCons (eOp dIx (eVar 1) (eVar 2)) aNil))))) (bSeq (sRet (eC (.bl false))) bNil) bNil) bNil)) (bSeq (sRet (eC (.bl true))) bNil))
noncomputable def F__law_same_rows : Fn := mkFnB (bPlain 2) N__law_same_rows.length b__law_same_rows
def N_Pipeline_is_ring : List Str := ["self"]
noncomputable def b_Pipeline_is_ring : SS := bSeq (sRet (eC (.bl false))) bNil
noncomputable def F_Pipeline_is_ring : Fn := mkFnB (bPlain 1) N_Pipeline_is_ring.length b_Pipeline_is_ring
def N_Ring_is_ring : List Str := ["self"]
noncomputable def b_Ring_is_ring : SS := bSeq (sRet (eC (.bl true))) bNil
noncomputable def F_Ring_is_ring : Fn := mkFnB (bPlain 1) N_Ring_is_ring.length b_Ring_is_ring
noncomputable def T_is_ring : List (Nat × Fn) := [(8, F_Pipeline_is_ring), (9, F_Ring_is_ring)]
def N_Net_slots : List Str := ["self", "channel"]
noncomputable def b_Net_slots : SS := bSeq (sRet (eArgs (d1 bSum) (aCons (eLc (wSeq (eUn (dFld cIns 5) (eVar 0))) (gNm 1) tTrue (eOp dIx (eVar 1) (eC (.int 2))) [1]) aNil))) bNil
noncomputable def Tp_slots : List (Nat × Fn) := [(8, mkFn 1 N_Net_slots.length b_Net_slots), (9, mkFn 1 N_Net_slots.length b_Net_slots)]
def N_Net_summary : List Str := ["self"]
noncomputable def b_Net_summary : SS := bSeq (sRet (jS [eFmt (eUn (dFld cIns 7) (eVar 0)), eC (.str " stages, "), eFmt (eArgs (d1 bLen) (aCons (eUn (dFld cIns 5) (eVar 0)) aNil)), eC (.str " channels, "), eFmt (ePropT Tp_slots (eVar 0)), eC (.str " slots")] Str.empty)) bNil
noncomputable def F_Net_summary : Fn := mkFnB (bPlain 1) N_Net_summary.length b_Net_summary
def N_Pipeline_summary : List Str := ["self"]
noncomputable def b_Pipeline_summary : SS := bSeq (sRet (eOp dAdd (eC (.str "pipeline of ")) (eSup 0 [(8, F_Net_summary)]))) bNil
noncomputable def F_Pipeline_summary : Fn := mkFnB (bPlain 1) N_Pipeline_summary.length b_Pipeline_summary
def N_Ring_summary : List Str := ["self"]
noncomputable def b_Ring_summary : SS := bSeq (sRet (eOp dAdd (eC (.str "ring of ")) (eSup 0 [(9, F_Net_summary)]))) bNil
noncomputable def F_Ring_summary : Fn := mkFnB (bPlain 1) N_Ring_summary.length b_Ring_summary
noncomputable def T_summary : List (Nat × Fn) := [(8, F_Pipeline_summary), (9, F_Ring_summary)]
def N__law_good : List Str := ["_law_net", "_law_sizes", "_law_ring_here", "_law_links_here", "_law_count", "_law_kind", "_law_words"]
noncomputable def b__law_good : SS := bSeq (sAsg (eCall F__law_links (aCons (eVar 1) (aCons (eVar 2) aNil))) (gNm 3)) (bSeq (sAsg (eIf (tB (eVar 2)) (eArgs (d1 bLen) (aCons (eVar 1) aNil)) (eOp dAdd (eArgs (d1 bLen) (aCons (eVar 1) aNil)) (eC (.int 1)))) (gNm 4)) (bSeq (sIf (tOr' (tNot' (tB (eCall F__law_same_rows (aCons (eUn (dFld cIns 5) (eVar 0)) (aCons (eArgs (d1 bTuple) (aCons (eVar 3) aNil)) aNil))))) (tNot' (tB (eCall F__law_same (aCons (eUn (dFld cIns 7) (eVar 0)) (aCons (eVar 4) aNil)))))) (bSeq (sRet (eC (.bl false))) bNil) bNil) (bSeq (sIf (tOr' (tNot' (tB (eCall F__law_same (aCons (eMeth T_is_ring (eVar 0) aNil) (aCons (eVar 2) aNil))))) (tNot' (tB (eCall F__law_same (aCons (ePropT Tp_slots (eVar 0)) (aCons (eArgs (d1 bSum) (aCons (eVar 1) aNil)) aNil)))))) (bSeq (sRet (eC (.bl false))) bNil) bNil) (bSeq (sAsg (eIf (tB (eVar 2)) (eC (.str "ring of ")) (eC (.str "pipeline of "))) (gNm 5)) (bSeq (sAsg (eOp dAdd (eOp dAdd (eOp dAdd (eOp dAdd (eOp dAdd (eOp dAdd (eVar 5) (eArgs (d1 bStr) (aCons (eVar 4) aNil))) (eC (.str " stages, "))) (eArgs (d1 bStr) (aCons (eArgs (d1 bLen) (aCons (eVar 1) aNil)) aNil))) (eC (.str " channels, "))) (eArgs (d1 bStr) (aCons (eArgs (d1 bSum) (aCons (eVar 1) aNil)) aNil))) (eC (.str " slots"))) (gNm 6)) (bSeq (sRet (eCall F__law_same (aCons (eMeth T_summary (eVar 0) aNil) (aCons (eVar 6) aNil)))) bNil))))))
noncomputable def F__law_good : Fn := mkFnB (bPlain 3) N__law_good.length b__law_good
def N__law_answered : List Str := ["_law_sizes", "_law_ring_here", "_law_due", "_law_net", "refusal"]
noncomputable def b__law_answered : SS := bSeq (sIf (tB (eVar 1)) (bSeq (sAsg (eCall F__law_fault (aCons (eVar 0) (aCons (eC (.int 3)) (aCons (eC (.int 40)) aNil)))) (gNm 2)) bNil) (bSeq (sAsg (eCall F__law_fault (aCons (eVar 0) (aCons (eC (.int 0)) (aCons (eC (.int 39)) aNil)))) (gNm 2)) bNil)) (bSeq (sTryAs ct_WithinCallError 4 (bSeq (sIf (tB (eVar 1)) (bSeq (sAsg (eCall F__law_ring (aCons (eArgs (d1 bList) (aCons (eVar 0) aNil)) aNil)) (gNm 3)) bNil) (bSeq (sAsg (eCall F__law_row (aCons (eArgs (d1 bList) (aCons (eVar 0) aNil)) aNil)) (gNm 3)) bNil)) bNil) (fun x => bSeq (sIf (tOr' (tNot' (tB (eIsX xkt x (eC (.glb "InvalidNet"))))) (tB (eIsX xkt x (eC (.glb "NotFound"))))) (bSeq (sRet (eC (.bl false))) bNil) bNil) (bSeq (sRet (eAnd (eOp (dIs true) (eVar 2) (eC .non)) (eCall F__law_same_row (aCons (eArgs dTup (aCons (eXf [1] 0 x) (aCons (eXf [1] 1 x) aNil))) (aCons (eVar 2) aNil))))) bNil))) (bSeq (sRet (eAnd (eOp (dIs false) (eVar 2) (eC .non)) (eCall F__law_good (aCons (eVar 3) (aCons (eVar 0) (aCons (eVar 1) aNil)))))) bNil))
noncomputable def F__law_answered : Fn := mkFnB (bPlain 2) N__law_answered.length b__law_answered
def N__law_mended : List Str := ["_law_sizes", "_law_ring_here", "_law_turn", "_law_odd", "_law_k"]
noncomputable def b__law_mended : SS := bSeq (sAsg (eArgs (d1 bList) (aCons (eVar 0) aNil)) (gNm 0)) (bSeq (sFor (wRng1 (aCons (eC (.int 8)) aNil)) (gNm 2) (bSeq (sIf (tNot' (tB (eCall F__law_answered (aCons (eVar 0) (aCons (eVar 1) aNil))))) (bSeq (sRet (eC (.bl false))) bNil) bNil) (bSeq (sAsg (eLc (wRng1 (aCons (eArgs (d1 bLen) (aCons (eVar 0) aNil)) aNil)) (gNm 4) (tNot' (tB (eCall F__law_is_capacity (aCons (eOp dIx (eVar 0) (eVar 4)) aNil)))) (eVar 4) [4]) (gNm 3)) (bSeq (sIf (tB (eOp (dEqv false) (eArgs (d1 bLen) (aCons (eVar 3) aNil)) (eC (.int 0)))) (bSeq (sRet (eC (.bl true))) bNil) bNil) (bSeq (sAsg (eOp dAdd (eC (.int 5)) (eVar 2)) (gSb (eVar 0) (eOp dIx (eVar 3) (eC (.int 0))))) bNil))))) (bSeq (sRet (eC (.bl true))) bNil))
noncomputable def F__law_mended : Fn := mkFnB (bPlain 2) N__law_mended.length b__law_mended
def N__law_large : List Str := ["_law_bag_here", "_law_first", "_law_step", "_law_sizes", "_law_k", "_law_count"]
noncomputable def b__law_large : SS := bSeq (sAsg (eCall F__law_draw (aCons (eVar 0) (aCons (eC (.int 999)) aNil))) (gNm 1)) (bSeq (sAsg (eCall F__law_draw (aCons (eVar 0) (aCons (eC (.int 999)) aNil))) (gNm 2)) (bSeq (sAsg (eLc (wRng1 (aCons (eC (.int 41)) aNil)) (gNm 4) tTrue (eOp dAdd (eC (.int 1)) (eOp dMod (eArgs (d1 bInt) (aCons (eOp dAdd (eVar 1) (eOp dMul (eVar 4) (eVar 2))) aNil)) (eC (.int 999)))) [4]) (gNm 3)) (bSeq (sIf (tB (eOp dGt (eCall F__law_draw (aCons (eVar 0) (aCons (eC (.int 3)) aNil))) (eC (.int 0)))) (bSeq (sAsg (eOp dIx (eArgs dLst (aCons (eC (.int 0)) (aCons (eC (.int 1000)) (aCons (eC (.bl true)) (aCons (eC .non) aNil))))) (eCall F__law_draw (aCons (eVar 0) (aCons (eC (.int 4)) aNil)))) (gSb (eVar 3) (eCall F__law_draw (aCons (eVar 0) (aCons (eC (.int 41)) aNil))))) bNil) bNil) (bSeq (sFor (wSeq (eArgs dLst (aCons (eC (.int 40)) (aCons (eC (.int 41)) aNil)))) (gNm 5) (bSeq (sIf (tOr' (tNot' (tB (eCall F__law_mended (aCons (eSl (eVar 3) oNone (oSome (eVar 5))) (aCons (eC (.bl true)) aNil))))) (tNot' (tB (eCall F__law_mended (aCons (eSl (eVar 3) (oSome (eOp dSub (eC (.int 41)) (eVar 5))) oNone) (aCons (eC (.bl true)) aNil)))))) (bSeq (sRet (eC (.bl false))) bNil) bNil) bNil)) (bSeq (sRet (eAnd (eCall F__law_mended (aCons (eSl (eVar 3) oNone (oSome (eC (.int 39)))) (aCons (eC (.bl false)) aNil))) (eCall F__law_mended (aCons (eSl (eVar 3) oNone (oSome (eC (.int 40)))) (aCons (eC (.bl false)) aNil))))) bNil)))))
noncomputable def F__law_large : Fn := mkFnB (bPlain 1) N__law_large.length b__law_large
def N__law_size : List Str := ["_law_bag_here", "_law_way"]
noncomputable def b__law_size : SS := bSeq (sAsg (eCall F__law_draw (aCons (eVar 0) (aCons (eC (.int 10)) aNil))) (gNm 1)) (bSeq (sIf (tB (eOp (dEqv false) (eVar 1) (eC (.int 0)))) (bSeq (sRet (eOp dIx (eArgs dLst (aCons (eC (.int 0)) (aCons (eC (.int 1000)) (aCons (eUn dNeg (eC (.int 1))) (aCons (eOp dPow (eC (.int 10)) (eC (.int 20))) (aCons (eC (.bl true)) (aCons (eC (.bl false)) (aCons (eC .non) (aCons (eC (.str "4")) (aCons (eArgs dTup (aCons (eC (.int 4)) aNil)) aNil)))))))))) (eCall F__law_draw (aCons (eVar 0) (aCons (eC (.int 9)) aNil))))) bNil) bNil) (bSeq (sIf (tB (eOp (dEqv false) (eVar 1) (eC (.int 1)))) (bSeq (sRet (eOp dAdd (eC (.int 1)) (eCall F__law_draw (aCons (eVar 0) (aCons (eC (.int 999)) aNil))))) bNil) bNil) (bSeq (sIf (tB (eOp (dEqv false) (eVar 1) (eC (.int 2)))) (bSeq (sRet (eC (.int 999))) bNil) bNil) (bSeq (sRet (eOp dAdd (eC (.int 1)) (eCall F__law_draw (aCons (eVar 0) (aCons (eC (.int 4)) aNil))))) bNil))))
noncomputable def F__law_size : Fn := mkFnB (bPlain 1) N__law_size.length b__law_size
def N_Net_eq : List Str := ["self", "other"]
noncomputable def b_Net_eq : SS := bSeq (sRet (eAnd (eArgs (d2 (bIsi kt)) (aCons (eVar 1) (aCons (eC (.glb "Net")) aNil))) (eAnd (eOp (dEqv false) (eUn (dFld cIns 7) (eVar 0)) (eUn (dFld cIns 7) (eVar 1))) (eOp (dEqv false) (eUn (dFld cIns 5) (eVar 0)) (eUn (dFld cIns 5) (eVar 1)))))) bNil
noncomputable def F_Net_eq : Fn := mkFnB (bPlain 2) N_Net_eq.length b_Net_eq
noncomputable def T_eq : List (Nat × Fn) := [(8, F_Net_eq), (9, F_Net_eq)]
def ot_eq : List (Nat × TC) := [(8, .b "NoneType"), (8, .b "bool"), (8, .b "int"), (8, .b "str"), (8, .b "tuple"), (8, .b "list"), (8, .o 8), (8, .o 9), (9, .b "NoneType"), (9, .b "bool"), (9, .b "int"), (9, .b "str"), (9, .b "tuple"), (9, .b "list"), (9, .o 8), (9, .o 9)]
def N__law_equal : List Str := ["_law_one", "_law_other", "_law_due"]
noncomputable def b__law_equal : SS := bSeq (sRet (eAnd (eCall F__law_same (aCons (eOp (dEqO T_eq ot_eq) (eVar 0) (eVar 1)) (aCons (eVar 2) aNil))) (eCall F__law_same (aCons (eOp (dEqO T_eq ot_eq) (eVar 1) (eVar 0)) (aCons (eVar 2) aNil))))) bNil
noncomputable def F__law_equal : Fn := mkFnB (bPlain 3) N__law_equal.length b__law_equal
def N__law_pipeline : List Str := ["_law_count", "_law_c"]
noncomputable def b__law_pipeline : SS := bSeq (sIf (tB (eOp (dEqv false) (eArgs (d1 bLen) (aCons (eVar 1) aNil)) (eC (.int 0)))) (bSeq (sRet (eCall C_Pipeline (aCons (eVar 0) aNil))) bNil) bNil) (bSeq (sIf (tB (eOp (dEqv false) (eArgs (d1 bLen) (aCons (eVar 1) aNil)) (eC (.int 1)))) (bSeq (sRet (eCall C_Pipeline (aCons (eVar 0) (aCons (eOp dIx (eVar 1) (eC (.int 0))) aNil)))) bNil) bNil) (bSeq (sIf (tB (eOp (dEqv false) (eArgs (d1 bLen) (aCons (eVar 1) aNil)) (eC (.int 2)))) (bSeq (sRet (eCall C_Pipeline (aCons (eVar 0) (aCons (eOp dIx (eVar 1) (eC (.int 0))) (aCons (eOp dIx (eVar 1) (eC (.int 1))) aNil))))) bNil) bNil) (bSeq (sIf (tB (eOp (dEqv false) (eArgs (d1 bLen) (aCons (eVar 1) aNil)) (eC (.int 3)))) (bSeq (sRet (eCall C_Pipeline (aCons (eVar 0) (aCons (eOp dIx (eVar 1) (eC (.int 0))) (aCons (eOp dIx (eVar 1) (eC (.int 1))) (aCons (eOp dIx (eVar 1) (eC (.int 2))) aNil)))))) bNil) bNil) (bSeq (sIf (tB (eOp (dEqv false) (eArgs (d1 bLen) (aCons (eVar 1) aNil)) (eC (.int 4)))) (bSeq (sRet (eCall C_Pipeline (aCons (eVar 0) (aCons (eOp dIx (eVar 1) (eC (.int 0))) (aCons (eOp dIx (eVar 1) (eC (.int 1))) (aCons (eOp dIx (eVar 1) (eC (.int 2))) (aCons (eOp dIx (eVar 1) (eC (.int 3))) aNil))))))) bNil) bNil) (bSeq (sIf (tB (eOp (dEqv false) (eArgs (d1 bLen) (aCons (eVar 1) aNil)) (eC (.int 5)))) (bSeq (sRet (eCall C_Pipeline (aCons (eVar 0) (aCons (eOp dIx (eVar 1) (eC (.int 0))) (aCons (eOp dIx (eVar 1) (eC (.int 1))) (aCons (eOp dIx (eVar 1) (eC (.int 2))) (aCons (eOp dIx (eVar 1) (eC (.int 3))) (aCons (eOp dIx (eVar 1) (eC (.int 4))) aNil)))))))) bNil) bNil) (bSeq (sRet (eCall C_Pipeline (aCons (eVar 0) (aCons (eOp dIx (eVar 1) (eC (.int 0))) (aCons (eOp dIx (eVar 1) (eC (.int 1))) (aCons (eOp dIx (eVar 1) (eC (.int 2))) (aCons (eOp dIx (eVar 1) (eC (.int 3))) (aCons (eOp dIx (eVar 1) (eC (.int 4))) (aCons (eOp dIx (eVar 1) (eC (.int 5))) aNil))))))))) bNil))))))
noncomputable def F__law_pipeline : Fn := mkFnB (bPlain 2) N__law_pipeline.length b__law_pipeline
def N__law_compared : List Str := ["_law_sizes", "_law_place", "_law_count", "_law_links_here", "_law_row_here", "_law_thing", "_law_changed", "_law_ring_here"]
noncomputable def b__law_compared : SS := bSeq (sAsg (eOp dAdd (eArgs (d1 bLen) (aCons (eVar 0) aNil)) (eC (.int 1))) (gNm 2)) (bSeq (sAsg (eCall F__law_links (aCons (eVar 0) (aCons (eC (.bl false)) aNil))) (gNm 3)) (bSeq (sAsg (eCall F__law_row (aCons (eArgs (d1 bList) (aCons (eVar 0) aNil)) aNil)) (gNm 4)) (bSeq (sIf (tNot' (tB (eCall F__law_equal (aCons (eVar 4) (aCons (eCall F__law_pipeline (aCons (eVar 2) (aCons (eOp dAdd (eSl (eVar 3) (oSome (eVar 1)) oNone) (eSl (eVar 3) oNone (oSome (eVar 1)))) aNil))) (aCons (eC (.bl true)) aNil)))))) (bSeq (sRet (eC (.bl false))) bNil) bNil) (bSeq (sIf (tNot' (tB (eCall F__law_equal (aCons (eVar 4) (aCons (eCall F__law_pipeline (aCons (eOp dAdd (eVar 2) (eC (.int 1))) (aCons (eVar 3) aNil))) (aCons (eC (.bl false)) aNil)))))) (bSeq (sRet (eC (.bl false))) bNil) bNil) (bSeq (sFor (wSeq (eArgs dLst (aCons (eC .non) (aCons (eC (.int 0)) (aCons (eC (.str "row")) (aCons (eArgs (d1 bTuple) (aCons (eVar 3) aNil)) (aCons (eArgs (d1 bList) (aCons (eVar 3) aNil)) aNil))))))) (gNm 5) (bSeq (sIf (tNot' (tB (eCall F__law_same (aCons (eOp (dEqO T_eq ot_eq) (eVar 4) (eVar 5)) (aCons (eC (.bl false)) aNil))))) (bSeq (sRet (eC (.bl false))) bNil) bNil) bNil)) (bSeq (sIf (tB (eOp (dEqv false) (eArgs (d1 bLen) (aCons (eVar 0) aNil)) (eC (.int 0)))) (bSeq (sRet (eC (.bl true))) bNil) bNil) (bSeq (sAsg (eArgs (d1 bList) (aCons (eVar 0) aNil)) (gNm 6)) (bSeq (sAsg (eIf (tB (eOp dLtA (eOp dIx (eVar 6) (eVar 1)) (eC (.int 999)))) (eOp dAdd (eC (.int 1)) (eOp dIx (eVar 6) (eVar 1))) (eC (.int 998))) (gSb (eVar 6) (eVar 1))) (bSeq (sIf (tNot' (tB (eCall F__law_equal (aCons (eVar 4) (aCons (eCall F__law_row (aCons (eVar 6) aNil)) (aCons (eC (.bl false)) aNil)))))) (bSeq (sRet (eC (.bl false))) bNil) bNil) (bSeq (sIf (tNot' (tB (eCall F__law_equal (aCons (eVar 4) (aCons (eCall F__law_pipeline (aCons (eVar 2) (aCons (eOp dAdd (eSl (eVar 3) oNone (oSome (eVar 1))) (eSl (eVar 3) (oSome (eOp dAdd (eVar 1) (eC (.int 1)))) oNone)) aNil))) (aCons (eC (.bl false)) aNil)))))) (bSeq (sRet (eC (.bl false))) bNil) bNil) (bSeq (sIf (tB (eOp dLtA (eArgs (d1 bLen) (aCons (eVar 0) aNil)) (eC (.int 3)))) (bSeq (sRet (eC (.bl true))) bNil) bNil) (bSeq (sAsg (eCall F__law_ring (aCons (eArgs (d1 bList) (aCons (eVar 0) aNil)) aNil)) (gNm 7)) (bSeq (sIf (tNot' (tB (eCall F__law_equal (aCons (eVar 7) (aCons (eCall F__law_ring (aCons (eArgs (d1 bList) (aCons (eVar 0) aNil)) aNil)) (aCons (eC (.bl true)) aNil)))))) (bSeq (sRet (eC (.bl false))) bNil) bNil) (bSeq (sIf (tNot' (tB (eCall F__law_equal (aCons (eVar 7) (aCons (eCall F__law_ring (aCons (eVar 6) aNil)) (aCons (eC (.bl false)) aNil)))))) (bSeq (sRet (eC (.bl false))) bNil) bNil) (bSeq (sIf (tOr' (tNot' (tB (eCall F__law_equal (aCons (eVar 7) (aCons (eVar 4) (aCons (eC (.bl false)) aNil)))))) (tNot' (tB (eCall F__law_same (aCons (eOp (dEqO T_eq ot_eq) (eVar 7) (eArgs (d1 bTuple) (aCons (eCall F__law_links (aCons (eVar 0) (aCons (eC (.bl true)) aNil))) aNil))) (aCons (eC (.bl false)) aNil)))))) (bSeq (sRet (eC (.bl false))) bNil) bNil) (bSeq (sRet (eAnd (eCall F__law_good (aCons (eVar 7) (aCons (eVar 0) (aCons (eC (.bl true)) aNil)))) (eCall F__law_good (aCons (eVar 4) (aCons (eVar 0) (aCons (eC (.bl false)) aNil)))))) bNil))))))))))))))))
noncomputable def F__law_compared : Fn := mkFnB (bPlain 2) N__law_compared.length b__law_compared
def N__law_small : List Str := ["_law_bag_here", "_law_sizes", "_law_k", "_law_things", "_law_thing", "_law_plain", "_law_one"]
noncomputable def b__law_small : SS := bSeq (sAsg (eArgs dLst aNil) (gNm 1)) (bSeq (sFor (wRng1 (aCons (eCall F__law_draw (aCons (eVar 0) (aCons (eC (.int 7)) aNil))) aNil)) (gNm 2) (bSeq (sDrop (eMtL (mLst fAppend) (eVar 1) (aCons (eCall F__law_size (aCons (eVar 0) aNil)) aNil))) bNil)) (bSeq (sIf (tOr' (tNot' (tB (eCall F__law_mended (aCons (eVar 1) (aCons (eC (.bl true)) aNil))))) (tNot' (tB (eCall F__law_mended (aCons (eVar 1) (aCons (eC (.bl false)) aNil)))))) (bSeq (sRet (eC (.bl false))) bNil) bNil) (bSeq (sAsg (eArgs dLst (aCons (eC (.int 0)) (aCons (eC (.int 1)) (aCons (eC (.int 999)) (aCons (eC (.int 1000)) (aCons (eC (.bl true)) (aCons (eC (.bl false)) (aCons (eC .non) (aCons (eC (.str "1")) (aCons (eArgs dTup (aCons (eC (.int 1)) aNil)) (aCons (eArgs dLst (aCons (eC (.int 2)) aNil)) (aCons (eOp dSub (eCall F__law_draw (aCons (eVar 0) (aCons (eC (.int 2003)) aNil))) (eC (.int 1001))) aNil)))))))))))) (gNm 3)) (bSeq (sFor (wSeq (eOp dAdd (eVar 3) (eVar 1))) (gNm 4) (bSeq (sIf (tNot' (tB (eCall F__law_same (aCons (eCall F_Net_is_capacity (aCons (eVar 4) aNil)) (aCons (eCall F__law_is_capacity (aCons (eVar 4) aNil)) aNil))))) (bSeq (sRet (eC (.bl false))) bNil) bNil) bNil)) (bSeq (sAsg (eLc (wSeq (eVar 1)) (gNm 6) tTrue (eIf (tB (eCall F__law_is_capacity (aCons (eVar 6) aNil))) (eVar 6) (eC (.int 3))) [6]) (gNm 5)) (bSeq (sRet (eCall F__law_compared (aCons (eVar 5) (aCons (eCall F__law_draw (aCons (eVar 0) (aCons (eArgs (d2 bMax2) (aCons (eC (.int 1)) (aCons (eArgs (d1 bLen) (aCons (eVar 5) aNil)) aNil))) aNil))) aNil)))) bNil))))))
noncomputable def F__law_small : Fn := mkFnB (bPlain 1) N__law_small.length b__law_small
def N_law : List Str := ["_law_script", "_law_most", "_law_k", "_law_bag_here", "_law_good_here"]
noncomputable def b_law : SS := bSeq (sAsg (eArgs dTup (aCons (eC (.int 40)) (aCons (eC (.int 120)) (aCons (eC (.int 999)) (aCons (eC (.int 999)) aNil))))) (gNm 1)) (bSeq (sIf (tNot' (tB (eCall F__law_same_row (aCons (eVar 1) (aCons (eArgs dTup (aCons (eC (.int 40)) (aCons (eC (.int 120)) (aCons (eC (.int 999)) (aCons (eC (.int 999)) aNil))))) aNil))))) (bSeq (sRet (eC (.bl false))) bNil) bNil) (bSeq (sFor (wRng1 (aCons (eArgs (d2 bMax2) (aCons (eC (.int 1)) (aCons (eArgs (d2 bMin2) (aCons (eArgs (d1 bLen) (aCons (eVar 0) aNil)) (aCons (eC (.int 3)) aNil))) aNil))) aNil)) (gNm 2) (bSeq (sAsg (eCall F__law_bag (aCons (eVar 0) (aCons (eVar 2) aNil))) (gNm 3)) (bSeq (sIf (tB (eOp (dEqv false) (eCall F__law_draw (aCons (eVar 3) (aCons (eC (.int 8)) aNil))) (eC (.int 7)))) (bSeq (sAsg (eCall F__law_large (aCons (eVar 3) aNil)) (gNm 4)) bNil) (bSeq (sAsg (eCall F__law_small (aCons (eVar 3) aNil)) (gNm 4)) bNil)) (bSeq (sIf (tNot' (tB (eVar 4))) (bSeq (sRet (eC (.bl false))) bNil) bNil) bNil)))) (bSeq (sRet (eC (.bl true))) bNil)))
noncomputable def F_law : Fn := mkFnB (bPlain 1) N_law.length b_law
end FI.K01
set_option maxRecDepth 100000
set_option maxHeartbeats 4000000
namespace FI.K01
open PySem L2 PySem.Spec PyProof.Rows FI
def d__law_same : FDf := ⟨atG "_law_same", "_law_same", "_law_same", defArgs s__law_same, defBody s__law_same, defScope s__law_same, none⟩
def d__law_same_row : FDf := ⟨atG "_law_same_row", "_law_same_row", "_law_same_row", defArgs s__law_same_row, defBody s__law_same_row, defScope s__law_same_row, none⟩
def d__law_cell : FDf := ⟨atG "_law_cell", "_law_cell", "_law_cell", defArgs s__law_cell, defBody s__law_cell, defScope s__law_cell, none⟩
def d__law_bag : FDf := ⟨atG "_law_bag", "_law_bag", "_law_bag", defArgs s__law_bag, defBody s__law_bag, defScope s__law_bag, none⟩
def d__law_draw : FDf := ⟨atG "_law_draw", "_law_draw", "_law_draw", defArgs s__law_draw, defBody s__law_draw, defScope s__law_draw, none⟩
def d__law_is_capacity : FDf := ⟨atG "_law_is_capacity", "_law_is_capacity", "_law_is_capacity", defArgs s__law_is_capacity, defBody s__law_is_capacity, defScope s__law_is_capacity, none⟩
def d__law_fault : FDf := ⟨atG "_law_fault", "_law_fault", "_law_fault", defArgs s__law_fault, defBody s__law_fault, defScope s__law_fault, none⟩
def d_numbers_by_end : FDf := ⟨atG "numbers_by_end", "numbers_by_end", "numbers_by_end", defArgs s_numbers_by_end, defBody s_numbers_by_end, defScope s_numbers_by_end, none⟩
def d_Net_init : FDf := ⟨atM "Net" "__init__", "__init__", "Net.__init__", defArgs s_Net_init, defBody s_Net_init, defScope s_Net_init, none⟩
def d_is_integer : FDf := ⟨atG "is_integer", "is_integer", "is_integer", defArgs s_is_integer, defBody s_is_integer, defScope s_is_integer, none⟩
def d_Net_is_capacity : FDf := ⟨atR "staticmethod" "Net" "is_capacity", "is_capacity", "Net.is_capacity", defArgs s_Net_is_capacity, defBody s_Net_is_capacity, defScope s_Net_is_capacity, none⟩
def d_check_capacities : FDf := ⟨atG "check_capacities", "check_capacities", "check_capacities", defArgs s_check_capacities, defBody s_check_capacities, defScope s_check_capacities, none⟩
def d_Ring_init : FDf := ⟨atM "Ring" "__init__", "__init__", "Ring.__init__", defArgs s_Ring_init, defBody s_Ring_init, defScope s_Ring_init, some "Ring"⟩
def d__law_ring_of_40 : FDf := ⟨atG "_law_ring_of_40", "_law_ring_of_40", "_law_ring_of_40", defArgs s__law_ring_of_40, defBody s__law_ring_of_40, defScope s__law_ring_of_40, none⟩
def d__law_ring_of_41 : FDf := ⟨atG "_law_ring_of_41", "_law_ring_of_41", "_law_ring_of_41", defArgs s__law_ring_of_41, defBody s__law_ring_of_41, defScope s__law_ring_of_41, none⟩
def d__law_ring : FDf := ⟨atG "_law_ring", "_law_ring", "_law_ring", defArgs s__law_ring, defBody s__law_ring, defScope s__law_ring, none⟩
def d_is_channel : FDf := ⟨atG "is_channel", "is_channel", "is_channel", defArgs s_is_channel, defBody s_is_channel, defScope s_is_channel, none⟩
def d_check_channels : FDf := ⟨atG "check_channels", "check_channels", "check_channels", defArgs s_check_channels, defBody s_check_channels, defScope s_check_channels, none⟩
def d_has_circle : FDf := ⟨atG "has_circle", "has_circle", "has_circle", defArgs s_has_circle, defBody s_has_circle, defScope s_has_circle, none⟩
def d_Pipeline_init : FDf := ⟨atM "Pipeline" "__init__", "__init__", "Pipeline.__init__", defArgs s_Pipeline_init, defBody s_Pipeline_init, defScope s_Pipeline_init, some "Pipeline"⟩
def d_Pipeline_row : FDf := ⟨atR "classmethod" "Pipeline" "row", "row", "Pipeline.row", defArgs s_Pipeline_row, defBody s_Pipeline_row, defScope s_Pipeline_row, none⟩
def d__law_row_of_39 : FDf := ⟨atG "_law_row_of_39", "_law_row_of_39", "_law_row_of_39", defArgs s__law_row_of_39, defBody s__law_row_of_39, defScope s__law_row_of_39, none⟩
def d__law_row_of_40 : FDf := ⟨atG "_law_row_of_40", "_law_row_of_40", "_law_row_of_40", defArgs s__law_row_of_40, defBody s__law_row_of_40, defScope s__law_row_of_40, none⟩
def d__law_row : FDf := ⟨atG "_law_row", "_law_row", "_law_row", defArgs s__law_row, defBody s__law_row, defScope s__law_row, none⟩
def d__law_links : FDf := ⟨atG "_law_links", "_law_links", "_law_links", defArgs s__law_links, defBody s__law_links, defScope s__law_links, none⟩
def d__law_same_rows : FDf := ⟨atG "_law_same_rows", "_law_same_rows", "_law_same_rows", defArgs s__law_same_rows, defBody s__law_same_rows, defScope s__law_same_rows, none⟩
def d_Pipeline_is_ring : FDf := ⟨atM "Pipeline" "is_ring", "is_ring", "Pipeline.is_ring", defArgs s_Pipeline_is_ring, defBody s_Pipeline_is_ring, defScope s_Pipeline_is_ring, none⟩
def d_Ring_is_ring : FDf := ⟨atM "Ring" "is_ring", "is_ring", "Ring.is_ring", defArgs s_Ring_is_ring, defBody s_Ring_is_ring, defScope s_Ring_is_ring, none⟩
def d_Net_slots : FDf := ⟨atR "property" "Net" "slots", "slots", "Net.slots", defArgs s_Net_slots, defBody s_Net_slots, defScope s_Net_slots, none⟩
def d_Net_summary : FDf := ⟨atM "Net" "summary", "summary", "Net.summary", defArgs s_Net_summary, defBody s_Net_summary, defScope s_Net_summary, none⟩
def d_Pipeline_summary : FDf := ⟨atM "Pipeline" "summary", "summary", "Pipeline.summary", defArgs s_Pipeline_summary, defBody s_Pipeline_summary, defScope s_Pipeline_summary, some "Pipeline"⟩
def d_Ring_summary : FDf := ⟨atM "Ring" "summary", "summary", "Ring.summary", defArgs s_Ring_summary, defBody s_Ring_summary, defScope s_Ring_summary, some "Ring"⟩
def d__law_good : FDf := ⟨atG "_law_good", "_law_good", "_law_good", defArgs s__law_good, defBody s__law_good, defScope s__law_good, none⟩
def d__law_answered : FDf := ⟨atG "_law_answered", "_law_answered", "_law_answered", defArgs s__law_answered, defBody s__law_answered, defScope s__law_answered, none⟩
def d__law_mended : FDf := ⟨atG "_law_mended", "_law_mended", "_law_mended", defArgs s__law_mended, defBody s__law_mended, defScope s__law_mended, none⟩
def d__law_large : FDf := ⟨atG "_law_large", "_law_large", "_law_large", defArgs s__law_large, defBody s__law_large, defScope s__law_large, none⟩
def d__law_size : FDf := ⟨atG "_law_size", "_law_size", "_law_size", defArgs s__law_size, defBody s__law_size, defScope s__law_size, none⟩
def d_Net_eq : FDf := ⟨atM "Net" "__eq__", "__eq__", "Net.__eq__", defArgs s_Net_eq, defBody s_Net_eq, defScope s_Net_eq, none⟩
def d__law_equal : FDf := ⟨atG "_law_equal", "_law_equal", "_law_equal", defArgs s__law_equal, defBody s__law_equal, defScope s__law_equal, none⟩
def d__law_pipeline : FDf := ⟨atG "_law_pipeline", "_law_pipeline", "_law_pipeline", defArgs s__law_pipeline, defBody s__law_pipeline, defScope s__law_pipeline, none⟩
def d__law_compared : FDf := ⟨atG "_law_compared", "_law_compared", "_law_compared", defArgs s__law_compared, defBody s__law_compared, defScope s__law_compared, none⟩
def d__law_small : FDf := ⟨atG "_law_small", "_law_small", "_law_small", defArgs s__law_small, defBody s__law_small, defScope s__law_small, none⟩
def d_law : FDf := ⟨atG "law", "law", "law", defArgs s_law, defBody s_law, defScope s_law, none⟩
def d_InvalidNet_init : FDf := ⟨atM "InvalidNet" "__init__", "__init__", "InvalidNet.__init__", defArgs s_InvalidNet_init, defBody s_InvalidNet_init, defScope s_InvalidNet_init, some "InvalidNet"⟩
def fnL0 : List FDf := [d__law_same, d__law_same_row, d__law_cell, d__law_bag, d__law_draw, d__law_is_capacity, d__law_fault, d_numbers_by_end, d_Net_init, d_is_integer, d_Net_is_capacity, d_check_capacities, d_Ring_init, d__law_ring_of_40, d__law_ring_of_41, d__law_ring, d_is_channel, d_check_channels, d_has_circle, d_Pipeline_init, d_Pipeline_row, d__law_row_of_39, d__law_row_of_40, d__law_row, d__law_links, d__law_same_rows, d_Pipeline_is_ring, d_Ring_is_ring, d_Net_slots, d_Net_summary]
def fnL1 : List FDf := [d_Pipeline_summary, d_Ring_summary, d__law_good, d__law_answered, d__law_mended, d__law_large, d__law_size, d_Net_eq, d__law_equal, d__law_pipeline, d__law_compared, d__law_small, d_law, d_InvalidNet_init]
def fnL : List FDf := fnL0 ++ fnL1
def fsL0 : List (Fr → Bool) := [bCst "Net" "MOST_COUNTER" (.int 999), bRead "Net", bGlo "Net", bCst "Net" "MOST_CAPACITY" (.int 999), bCst "Net" "MOST_CHANNELS" (.int 120), bCst "Net" "MOST_STAGES" (.int 40), bFree "tuple", bFree "isinstance", bFree "len", bFree "range", bFree "int", bFree "bool", bFree "str", bFree "min", bFree "max", bFree "sum", bFree "list", bFree "enumerate", bCst "Ring" "LEAST_STAGES" (.int 3), bRead "Ring", bGlo "Ring", bCst "Pipeline" "MOST_STAGES" (.int 40), bRead "Pipeline", bGlo "Pipeline", bFree "sorted", bGlo "InvalidNet", bGlo "NotFound", bPrp "Pipeline" "slots", bCls "Pipeline", bSame "Pipeline" "Net" "slots"]
def fsL1 : List (Fr → Bool) := [bPrp "Ring" "slots", bCls "Ring", bSame "Ring" "Net" "slots", bGlo "_law_same", bGlo "_law_same_row", bGlo "_law_cell", bGlo "_law_bag", bGlo "_law_draw", bGlo "_law_is_capacity", bGlo "_law_fault", bGlo "numbers_by_end", bGlo "is_integer", bGlo "check_capacities", bGlo "_law_ring_of_40", bGlo "_law_ring_of_41", bGlo "_law_ring", bGlo "is_channel", bGlo "check_channels", bGlo "has_circle", bGlo "_law_row_of_39", bGlo "_law_row_of_40", bGlo "_law_row", bGlo "_law_links", bGlo "_law_same_rows", bGlo "_law_good", bGlo "_law_answered", bGlo "_law_mended", bGlo "_law_large", bGlo "_law_size", bGlo "_law_equal"]
def fsL2 : List (Fr → Bool) := [bGlo "_law_pipeline", bGlo "_law_compared", bGlo "_law_small", bGlo "law", bNoat "Pipeline" "_incoming", bNoat "Ring" "_incoming", bNoat "Pipeline" "_outgoing", bNoat "Ring" "_outgoing", bNoat "Pipeline" "channels", bNoat "Ring" "channels", bNoat "Pipeline" "stages", bNoat "Ring" "stages", bMkr "Pipeline", bMkr "Ring", bMeth "Pipeline" "is_ring", bMeth "Ring" "is_ring", bMeth "Pipeline" "summary", bMeth "Ring" "summary", bStm "Net" "is_capacity", bCmt "Pipeline" "row", bOex "InvalidNet", bSupE "InvalidNet", bIni "InvalidNet", bIsc "InvalidNet", bNoat "InvalidNet" "reason", bNoat "InvalidNet" "position", bIsc "Ring", bSupM' "Ring" "Ring" "__init__" "Net", bIsc "Pipeline", bSupM' "Pipeline" "Pipeline" "__init__" "Net"]
def fsL3 : List (Fr → Bool) := [bSupM' "Pipeline" "Pipeline" "summary" "Net", bSupM' "Ring" "Ring" "summary" "Net", bThird, bFree "super", bXf "InvalidNet", bExc "InvalidNet", bGlo "WithinCallError", bExm "InvalidNet" "WithinCallError" true, bKit (fun _ => .type "NoneType") (fun K => .ref (He.ga K "Net")) false, bKit (fun _ => .type "bool") (fun K => .ref (He.ga K "Net")) false, bKit (fun _ => .type "int") (fun K => .ref (He.ga K "Net")) false, bKit (fun _ => .type "str") (fun K => .ref (He.ga K "Net")) false, bKit (fun _ => .type "tuple") (fun K => .ref (He.ga K "Net")) false, bKit (fun _ => .type "list") (fun K => .ref (He.ga K "Net")) false, bKit (fun K => .ref (He.ga K "Pipeline")) (fun K => .ref (He.ga K "Net")) true, bKit (fun K => .ref (He.ga K "Ring")) (fun K => .ref (He.ga K "Net")) true, bKit (fun _ => .type "NoneType") (fun _ => .type "bool") false, bKit (fun _ => .type "bool") (fun _ => .type "bool") true, bKit (fun _ => .type "int") (fun _ => .type "bool") false, bKit (fun _ => .type "str") (fun _ => .type "bool") false, bKit (fun _ => .type "tuple") (fun _ => .type "bool") false, bKit (fun _ => .type "list") (fun _ => .type "bool") false, bKit (fun K => .ref (He.ga K "Pipeline")) (fun _ => .type "bool") false, bKit (fun K => .ref (He.ga K "Ring")) (fun _ => .type "bool") false, bKit (fun _ => .type "NoneType") (fun _ => .type "int") false, bKit (fun _ => .type "bool") (fun _ => .type "int") true, bKit (fun _ => .type "int") (fun _ => .type "int") true, bKit (fun _ => .type "str") (fun _ => .type "int") false, bKit (fun _ => .type "tuple") (fun _ => .type "int") false, bKit (fun _ => .type "list") (fun _ => .type "int") false]
def fsL4 : List (Fr → Bool) := [bKit (fun K => .ref (He.ga K "Pipeline")) (fun _ => .type "int") false, bKit (fun K => .ref (He.ga K "Ring")) (fun _ => .type "int") false, bKit (fun _ => .type "NoneType") (fun _ => .type "str") false, bKit (fun _ => .type "bool") (fun _ => .type "str") false, bKit (fun _ => .type "int") (fun _ => .type "str") false, bKit (fun _ => .type "str") (fun _ => .type "str") true, bKit (fun _ => .type "tuple") (fun _ => .type "str") false, bKit (fun _ => .type "list") (fun _ => .type "str") false, bKit (fun K => .ref (He.ga K "Pipeline")) (fun _ => .type "str") false, bKit (fun K => .ref (He.ga K "Ring")) (fun _ => .type "str") false, bKit (fun _ => .type "NoneType") (fun _ => .type "tuple") false, bKit (fun _ => .type "bool") (fun _ => .type "tuple") false, bKit (fun _ => .type "int") (fun _ => .type "tuple") false, bKit (fun _ => .type "str") (fun _ => .type "tuple") false, bKit (fun _ => .type "tuple") (fun _ => .type "tuple") true, bKit (fun _ => .type "list") (fun _ => .type "tuple") false, bKit (fun K => .ref (He.ga K "Pipeline")) (fun _ => .type "tuple") false, bKit (fun K => .ref (He.ga K "Ring")) (fun _ => .type "tuple") false, bKit (fun K => .ref (He.ga K "InvalidNet")) (fun K => .ref (He.ga K "InvalidNet")) true, bKit (fun K => .ref (He.ga K "InvalidNet")) (fun K => .ref (He.ga K "NotFound")) false, bIns "Pipeline", bIns "Ring", bEqm "Pipeline" "Net", bNotf "Pipeline" (fun _ => .type "NoneType"), bNotf "Pipeline" (fun _ => .type "bool"), bNotf "Pipeline" (fun _ => .type "int"), bNotf "Pipeline" (fun _ => .type "str"), bNotf "Pipeline" (fun _ => .type "tuple"), bNotf "Pipeline" (fun _ => .type "list"), bNotf "Pipeline" (fun K => .ref (He.ga K "Pipeline"))]
def fsL5 : List (Fr → Bool) := [bNotf "Pipeline" (fun K => .ref (He.ga K "Ring")), bEqm "Ring" "Net", bNotf "Ring" (fun _ => .type "NoneType"), bNotf "Ring" (fun _ => .type "bool"), bNotf "Ring" (fun _ => .type "int"), bNotf "Ring" (fun _ => .type "str"), bNotf "Ring" (fun _ => .type "tuple"), bNotf "Ring" (fun _ => .type "list"), bNotf "Ring" (fun K => .ref (He.ga K "Pipeline")), bNotf "Ring" (fun K => .ref (He.ga K "Ring")), bKwd (atM "Pipeline" "__init__") "capacity" (.int 1)]
def fsL : List (Fr → Bool) := fsL0 ++ fsL1 ++ fsL2 ++ fsL3 ++ fsL4 ++ fsL5
abbrev R : PySem.W.OpenRow := PySem.W.OpenLaw.row PySem.Challenge.rw_withincall_k01_rings_and_kinds
abbrev fileP : Str := PySem.Challenge.pw_withincall_k01_rings_and_kinds.main.file
def names0 : List Str := ["__name__", "_wall", "WithinCallError", "InvalidNet", "NotFound", "is_integer", "check_number", "is_channel", "check_channels", "check_capacities", "has_circle", "numbers_by_end", "Net", "Pipeline", "Ring", "_law_cell", "_law_bag", "_law_draw", "_law_same", "_law_same_row", "_law_same_rows", "_law_is_capacity", "_law_fault", "_law_ring_of_40", "_law_ring_of_41", "_law_row_of_39", "_law_row_of_40", "_law_ring", "_law_row", "_law_links"]
def names1 : List Str := ["_law_good", "_law_answered", "_law_mended", "_law_pipeline", "_law_equal", "_law_compared", "_law_size", "_law_large", "_law_small"]
def names : List Str := names0 ++ names1
def asL : List Addr := [3, 2, 6, 4, 21, 31, 53, 74, 83, 90, 97, 104, 111, 116, 121, 210, 269, 317, 326, 333, 340, 347, 354, 361, 368, 375, 382, 389, 396, 403, 410, 417, 422, 429, 436, 441, 448, 455, 462, 469, 474, 479, 486, 0, 20, 30, 52, 73, 82, 89, 96, 103, 110, 115, 120, 209, 268, 316, 325, 332, 339, 346, 353, 360, 367, 374, 381, 388, 395, 402, 409, 416, 421, 428, 435, 440, 447, 454, 461, 468, 473, 478, 485, 15, 16, 17, 18, 19, 29, 32, 50, 51, 71, 72, 77, 78, 79, 80, 81, 84, 85, 86, 87, 88, 91, 92, 93, 94, 95, 98, 99, 100, 101, 102, 105, 106, 107, 108, 109, 112, 113, 114, 117, 118, 119, 135, 144, 151, 158, 165, 172, 179, 186, 193, 200, 207, 208, 211, 212, 229, 236, 244, 251, 258, 266, 267, 285, 292, 299, 306, 314, 315, 320, 321, 322, 323, 324, 327, 328, 329, 330, 331, 334, 335, 336, 337, 338, 341, 342, 343, 344, 345, 348, 349, 350, 351, 352, 355, 356, 357, 358, 359, 362, 363, 364, 365, 366, 369, 370, 371, 372, 373, 376, 377, 378, 379, 380, 383, 384, 385, 386, 387, 390, 391, 392, 393, 394, 397, 398, 399, 400, 401, 404, 405, 406, 407, 408, 411, 412, 413, 414, 415, 418, 419, 420, 423, 424, 425, 426, 427, 430, 431, 432, 433, 434, 437, 438, 439, 442, 443, 444, 445, 446, 449, 450, 451, 452, 453, 456, 457, 458, 459, 460, 463, 464, 465, 466, 467, 470, 471, 472, 475, 476, 477, 480, 481, 482, 483, 484, 49, 38, 70, 59, 134, 142, 143, 150, 157, 164, 171, 178, 185, 192, 199, 206, 228, 223, 218, 234, 235, 243, 250, 257, 265, 284, 275, 291, 298, 305, 313, 44, 45, 46, 47, 48, 65, 66, 67, 68, 69, 129, 130, 131, 132, 133, 141, 145, 149, 152, 153, 154, 155, 156, 159, 160, 161, 162, 163, 166, 167, 168, 169, 170, 173, 174, 175, 176, 177, 180, 181, 182, 183, 184, 187, 188, 189, 190, 191, 194, 195, 196, 197, 198, 201, 202, 203, 204, 205, 225, 226, 227, 233, 237, 238, 239, 240, 241, 242, 245, 246, 247, 248, 249, 252, 253, 254, 255, 256, 260, 261, 262, 263, 264, 281, 282, 283, 286, 287, 288, 289, 290, 293, 294, 295, 296, 297, 300, 301, 302, 303, 304, 308, 309, 310, 311, 312, 136, 137, 138, 139, 140, 146, 147, 148, 230, 231, 232]
abbrev hk : PySem.W.Hook := hookL fileP asL fsL fnL
noncomputable def ob (s : PySem.W.SharedT) : AlM := obsL fileP asL fsL fnL (HandSHeadRun.getT s)
theorem ob_eq (s : PySem.W.SharedT) : ob s = hk.obs s.abs := obsL_eq (HandSHeadRun.getT_eq s)
end FI.K01
set_option maxRecDepth 100000
set_option maxHeartbeats 4000000
namespace FI.K01
open PySem L2 PySem.Spec PyProof.Rows FI
theorem fld_inj : ∀ a, a < 50 → ∀ b, b < 50 → fldL.getD a "" = fldL.getD b "" → a = b := by decide +kernel
section
variable (P0 : Program) (w0 : World) (K : Fr) (mg : Str → Option Value) (base : Heap)
abbrev gm : Gm := { P := P0, w := w0, K := K, mg := mg, base := base, cls := fun n => He.ga K (clsL.getD n ""), fld := fun n => fldL.getD n "", nf := 50, inj := fun a b ha hb => fld_inj a ha b hb }
structure Hs : Prop where
  file : P0.main.file = fileP
  scp : (P0.main.scope.names.lookup ("super" : Str)).isSome = false
  hp : ∃ h : Heap, K.In h ∧ h.Ns mainGlobals mg
  says : SaysM fileP fsL fnL K
end
section
variable {P0 : Program} {w0 : World} {K : Fr} {mg : Str → Option Value} {base : Heap} (h : Hs P0 K mg)
include h
theorem Hs.cs_Net_MOST_COUNTER : (bCst "Net" "MOST_COUNTER" (.int 999)) K = true := h.says.fact 0
theorem Hs.rd_Net : (bRead "Net") K = true := h.says.fact 1
theorem Hs.gl_Net : mg "Net" = some (.ref (He.ga K "Net")) := let ⟨_, X, G⟩ := h.hp; bGlo_ok X G (h.says.fact 2 (f := bGlo "Net"))
theorem Hs.cs_Net_MOST_CAPACITY : (bCst "Net" "MOST_CAPACITY" (.int 999)) K = true := h.says.fact 3
theorem Hs.cs_Net_MOST_CHANNELS : (bCst "Net" "MOST_CHANNELS" (.int 120)) K = true := h.says.fact 4
theorem Hs.cs_Net_MOST_STAGES : (bCst "Net" "MOST_STAGES" (.int 40)) K = true := h.says.fact 5
theorem Hs.fr_tuple : mg "tuple" = none := let ⟨_, X, G⟩ := h.hp; bFree_ok X G (h.says.fact 6 (f := bFree "tuple"))
theorem Hs.fr_isinstance : mg "isinstance" = none := let ⟨_, X, G⟩ := h.hp; bFree_ok X G (h.says.fact 7 (f := bFree "isinstance"))
theorem Hs.fr_len : mg "len" = none := let ⟨_, X, G⟩ := h.hp; bFree_ok X G (h.says.fact 8 (f := bFree "len"))
theorem Hs.fr_range : mg "range" = none := let ⟨_, X, G⟩ := h.hp; bFree_ok X G (h.says.fact 9 (f := bFree "range"))
theorem Hs.fr_int : mg "int" = none := let ⟨_, X, G⟩ := h.hp; bFree_ok X G (h.says.fact 10 (f := bFree "int"))
theorem Hs.fr_bool : mg "bool" = none := let ⟨_, X, G⟩ := h.hp; bFree_ok X G (h.says.fact 11 (f := bFree "bool"))
theorem Hs.fr_str : mg "str" = none := let ⟨_, X, G⟩ := h.hp; bFree_ok X G (h.says.fact 12 (f := bFree "str"))
theorem Hs.fr_min : mg "min" = none := let ⟨_, X, G⟩ := h.hp; bFree_ok X G (h.says.fact 13 (f := bFree "min"))
theorem Hs.fr_max : mg "max" = none := let ⟨_, X, G⟩ := h.hp; bFree_ok X G (h.says.fact 14 (f := bFree "max"))
theorem Hs.fr_sum : mg "sum" = none := let ⟨_, X, G⟩ := h.hp; bFree_ok X G (h.says.fact 15 (f := bFree "sum"))
theorem Hs.fr_list : mg "list" = none := let ⟨_, X, G⟩ := h.hp; bFree_ok X G (h.says.fact 16 (f := bFree "list"))
theorem Hs.fr_enumerate : mg "enumerate" = none := let ⟨_, X, G⟩ := h.hp; bFree_ok X G (h.says.fact 17 (f := bFree "enumerate"))
theorem Hs.cs_Ring_LEAST_STAGES : (bCst "Ring" "LEAST_STAGES" (.int 3)) K = true := h.says.fact 18
theorem Hs.rd_Ring : (bRead "Ring") K = true := h.says.fact 19
theorem Hs.gl_Ring : mg "Ring" = some (.ref (He.ga K "Ring")) := let ⟨_, X, G⟩ := h.hp; bGlo_ok X G (h.says.fact 20 (f := bGlo "Ring"))
theorem Hs.cs_Pipeline_MOST_STAGES : (bCst "Pipeline" "MOST_STAGES" (.int 40)) K = true := h.says.fact 21
theorem Hs.rd_Pipeline : (bRead "Pipeline") K = true := h.says.fact 22
theorem Hs.gl_Pipeline : mg "Pipeline" = some (.ref (He.ga K "Pipeline")) := let ⟨_, X, G⟩ := h.hp; bGlo_ok X G (h.says.fact 23 (f := bGlo "Pipeline"))
theorem Hs.fr_sorted : mg "sorted" = none := let ⟨_, X, G⟩ := h.hp; bFree_ok X G (h.says.fact 24 (f := bFree "sorted"))
theorem Hs.gl_InvalidNet : mg "InvalidNet" = some (.ref (He.ga K "InvalidNet")) := let ⟨_, X, G⟩ := h.hp; bGlo_ok X G (h.says.fact 25 (f := bGlo "InvalidNet"))
theorem Hs.gl_NotFound : mg "NotFound" = some (.ref (He.ga K "NotFound")) := let ⟨_, X, G⟩ := h.hp; bGlo_ok X G (h.says.fact 26 (f := bGlo "NotFound"))
theorem Hs.pr_Pipeline_slots : (bPrp "Pipeline" "slots") K = true := h.says.fact 27
theorem Hs.cl_Pipeline : (bCls "Pipeline") K = true := h.says.fact 28
theorem Hs.sa_Pipeline_slots : (bSame "Pipeline" "Net" "slots") K = true := h.says.fact 29
theorem Hs.pr_Ring_slots : (bPrp "Ring" "slots") K = true := h.says.fact 30
theorem Hs.cl_Ring : (bCls "Ring") K = true := h.says.fact 31
theorem Hs.sa_Ring_slots : (bSame "Ring" "Net" "slots") K = true := h.says.fact 32
theorem Hs.gl__law_same : mg "_law_same" = some (.ref (He.ga K "_law_same")) := let ⟨_, X, G⟩ := h.hp; bGlo_ok X G (h.says.fact 33 (f := bGlo "_law_same"))
theorem Hs.gl__law_same_row : mg "_law_same_row" = some (.ref (He.ga K "_law_same_row")) := let ⟨_, X, G⟩ := h.hp; bGlo_ok X G (h.says.fact 34 (f := bGlo "_law_same_row"))
theorem Hs.gl__law_cell : mg "_law_cell" = some (.ref (He.ga K "_law_cell")) := let ⟨_, X, G⟩ := h.hp; bGlo_ok X G (h.says.fact 35 (f := bGlo "_law_cell"))
theorem Hs.gl__law_bag : mg "_law_bag" = some (.ref (He.ga K "_law_bag")) := let ⟨_, X, G⟩ := h.hp; bGlo_ok X G (h.says.fact 36 (f := bGlo "_law_bag"))
theorem Hs.gl__law_draw : mg "_law_draw" = some (.ref (He.ga K "_law_draw")) := let ⟨_, X, G⟩ := h.hp; bGlo_ok X G (h.says.fact 37 (f := bGlo "_law_draw"))
theorem Hs.gl__law_is_capacity : mg "_law_is_capacity" = some (.ref (He.ga K "_law_is_capacity")) := let ⟨_, X, G⟩ := h.hp; bGlo_ok X G (h.says.fact 38 (f := bGlo "_law_is_capacity"))
theorem Hs.gl__law_fault : mg "_law_fault" = some (.ref (He.ga K "_law_fault")) := let ⟨_, X, G⟩ := h.hp; bGlo_ok X G (h.says.fact 39 (f := bGlo "_law_fault"))
theorem Hs.gl_numbers_by_end : mg "numbers_by_end" = some (.ref (He.ga K "numbers_by_end")) := let ⟨_, X, G⟩ := h.hp; bGlo_ok X G (h.says.fact 40 (f := bGlo "numbers_by_end"))
theorem Hs.gl_is_integer : mg "is_integer" = some (.ref (He.ga K "is_integer")) := let ⟨_, X, G⟩ := h.hp; bGlo_ok X G (h.says.fact 41 (f := bGlo "is_integer"))
theorem Hs.gl_check_capacities : mg "check_capacities" = some (.ref (He.ga K "check_capacities")) := let ⟨_, X, G⟩ := h.hp; bGlo_ok X G (h.says.fact 42 (f := bGlo "check_capacities"))
theorem Hs.gl__law_ring_of_40 : mg "_law_ring_of_40" = some (.ref (He.ga K "_law_ring_of_40")) := let ⟨_, X, G⟩ := h.hp; bGlo_ok X G (h.says.fact 43 (f := bGlo "_law_ring_of_40"))
theorem Hs.gl__law_ring_of_41 : mg "_law_ring_of_41" = some (.ref (He.ga K "_law_ring_of_41")) := let ⟨_, X, G⟩ := h.hp; bGlo_ok X G (h.says.fact 44 (f := bGlo "_law_ring_of_41"))
theorem Hs.gl__law_ring : mg "_law_ring" = some (.ref (He.ga K "_law_ring")) := let ⟨_, X, G⟩ := h.hp; bGlo_ok X G (h.says.fact 45 (f := bGlo "_law_ring"))
theorem Hs.gl_is_channel : mg "is_channel" = some (.ref (He.ga K "is_channel")) := let ⟨_, X, G⟩ := h.hp; bGlo_ok X G (h.says.fact 46 (f := bGlo "is_channel"))
theorem Hs.gl_check_channels : mg "check_channels" = some (.ref (He.ga K "check_channels")) := let ⟨_, X, G⟩ := h.hp; bGlo_ok X G (h.says.fact 47 (f := bGlo "check_channels"))
theorem Hs.gl_has_circle : mg "has_circle" = some (.ref (He.ga K "has_circle")) := let ⟨_, X, G⟩ := h.hp; bGlo_ok X G (h.says.fact 48 (f := bGlo "has_circle"))
theorem Hs.gl__law_row_of_39 : mg "_law_row_of_39" = some (.ref (He.ga K "_law_row_of_39")) := let ⟨_, X, G⟩ := h.hp; bGlo_ok X G (h.says.fact 49 (f := bGlo "_law_row_of_39"))
theorem Hs.gl__law_row_of_40 : mg "_law_row_of_40" = some (.ref (He.ga K "_law_row_of_40")) := let ⟨_, X, G⟩ := h.hp; bGlo_ok X G (h.says.fact 50 (f := bGlo "_law_row_of_40"))
theorem Hs.gl__law_row : mg "_law_row" = some (.ref (He.ga K "_law_row")) := let ⟨_, X, G⟩ := h.hp; bGlo_ok X G (h.says.fact 51 (f := bGlo "_law_row"))
theorem Hs.gl__law_links : mg "_law_links" = some (.ref (He.ga K "_law_links")) := let ⟨_, X, G⟩ := h.hp; bGlo_ok X G (h.says.fact 52 (f := bGlo "_law_links"))
theorem Hs.gl__law_same_rows : mg "_law_same_rows" = some (.ref (He.ga K "_law_same_rows")) := let ⟨_, X, G⟩ := h.hp; bGlo_ok X G (h.says.fact 53 (f := bGlo "_law_same_rows"))
theorem Hs.gl__law_good : mg "_law_good" = some (.ref (He.ga K "_law_good")) := let ⟨_, X, G⟩ := h.hp; bGlo_ok X G (h.says.fact 54 (f := bGlo "_law_good"))
theorem Hs.gl__law_answered : mg "_law_answered" = some (.ref (He.ga K "_law_answered")) := let ⟨_, X, G⟩ := h.hp; bGlo_ok X G (h.says.fact 55 (f := bGlo "_law_answered"))
theorem Hs.gl__law_mended : mg "_law_mended" = some (.ref (He.ga K "_law_mended")) := let ⟨_, X, G⟩ := h.hp; bGlo_ok X G (h.says.fact 56 (f := bGlo "_law_mended"))
theorem Hs.gl__law_large : mg "_law_large" = some (.ref (He.ga K "_law_large")) := let ⟨_, X, G⟩ := h.hp; bGlo_ok X G (h.says.fact 57 (f := bGlo "_law_large"))
theorem Hs.gl__law_size : mg "_law_size" = some (.ref (He.ga K "_law_size")) := let ⟨_, X, G⟩ := h.hp; bGlo_ok X G (h.says.fact 58 (f := bGlo "_law_size"))
theorem Hs.gl__law_equal : mg "_law_equal" = some (.ref (He.ga K "_law_equal")) := let ⟨_, X, G⟩ := h.hp; bGlo_ok X G (h.says.fact 59 (f := bGlo "_law_equal"))
theorem Hs.gl__law_pipeline : mg "_law_pipeline" = some (.ref (He.ga K "_law_pipeline")) := let ⟨_, X, G⟩ := h.hp; bGlo_ok X G (h.says.fact 60 (f := bGlo "_law_pipeline"))
theorem Hs.gl__law_compared : mg "_law_compared" = some (.ref (He.ga K "_law_compared")) := let ⟨_, X, G⟩ := h.hp; bGlo_ok X G (h.says.fact 61 (f := bGlo "_law_compared"))
theorem Hs.gl__law_small : mg "_law_small" = some (.ref (He.ga K "_law_small")) := let ⟨_, X, G⟩ := h.hp; bGlo_ok X G (h.says.fact 62 (f := bGlo "_law_small"))
theorem Hs.gl_law : mg "law" = some (.ref (He.ga K "law")) := let ⟨_, X, G⟩ := h.hp; bGlo_ok X G (h.says.fact 63 (f := bGlo "law"))
theorem Hs.na_Pipeline__incoming : (bNoat "Pipeline" "_incoming") K = true := h.says.fact 64
theorem Hs.na_Ring__incoming : (bNoat "Ring" "_incoming") K = true := h.says.fact 65
theorem Hs.na_Pipeline__outgoing : (bNoat "Pipeline" "_outgoing") K = true := h.says.fact 66
theorem Hs.na_Ring__outgoing : (bNoat "Ring" "_outgoing") K = true := h.says.fact 67
theorem Hs.na_Pipeline_channels : (bNoat "Pipeline" "channels") K = true := h.says.fact 68
theorem Hs.na_Ring_channels : (bNoat "Ring" "channels") K = true := h.says.fact 69
theorem Hs.na_Pipeline_stages : (bNoat "Pipeline" "stages") K = true := h.says.fact 70
theorem Hs.na_Ring_stages : (bNoat "Ring" "stages") K = true := h.says.fact 71
theorem Hs.mk_Pipeline : (bMkr "Pipeline") K = true := h.says.fact 72
theorem Hs.mk_Ring : (bMkr "Ring") K = true := h.says.fact 73
theorem Hs.me_Pipeline_is_ring : (bMeth "Pipeline" "is_ring") K = true := h.says.fact 74
theorem Hs.me_Ring_is_ring : (bMeth "Ring" "is_ring") K = true := h.says.fact 75
theorem Hs.me_Pipeline_summary : (bMeth "Pipeline" "summary") K = true := h.says.fact 76
theorem Hs.me_Ring_summary : (bMeth "Ring" "summary") K = true := h.says.fact 77
theorem Hs.st_Net_is_capacity : (bStm "Net" "is_capacity") K = true := h.says.fact 78
theorem Hs.cm_Pipeline_row : (bCmt "Pipeline" "row") K = true := h.says.fact 79
theorem Hs.ox_InvalidNet : (bOex "InvalidNet") K = true := h.says.fact 80
theorem Hs.se_InvalidNet : (bSupE "InvalidNet") K = true := h.says.fact 81
theorem Hs.in_InvalidNet : (bIni "InvalidNet") K = true := h.says.fact 82
theorem Hs.ic_InvalidNet : (bIsc "InvalidNet") K = true := h.says.fact 83
theorem Hs.nx_InvalidNet_reason : (bNoat "InvalidNet" "reason") K = true := h.says.fact 84
theorem Hs.nx_InvalidNet_position : (bNoat "InvalidNet" "position") K = true := h.says.fact 85
theorem Hs.ic_Ring : (bIsc "Ring") K = true := h.says.fact 86
theorem Hs.sm_Ring_Ring_init : (bSupM' "Ring" "Ring" "__init__" "Net") K = true := h.says.fact 87
theorem Hs.ic_Pipeline : (bIsc "Pipeline") K = true := h.says.fact 88
theorem Hs.sm_Pipeline_Pipeline_init : (bSupM' "Pipeline" "Pipeline" "__init__" "Net") K = true := h.says.fact 89
theorem Hs.sm_Pipeline_Pipeline_summary : (bSupM' "Pipeline" "Pipeline" "summary" "Net") K = true := h.says.fact 90
theorem Hs.sm_Ring_Ring_summary : (bSupM' "Ring" "Ring" "summary" "Net") K = true := h.says.fact 91
theorem Hs.third : (bThird) K = true := h.says.fact 92
theorem Hs.fr_super : mg "super" = none := let ⟨_, X, G⟩ := h.hp; bFree_ok X G (h.says.fact 93 (f := bFree "super"))
theorem Hs.xf_InvalidNet : (bXf "InvalidNet") K = true := h.says.fact 94
theorem Hs.ex_InvalidNet : (bExc "InvalidNet") K = true := h.says.fact 95
theorem Hs.gl_WithinCallError : mg "WithinCallError" = some (.ref (He.ga K "WithinCallError")) := let ⟨_, X, G⟩ := h.hp; bGlo_ok X G (h.says.fact 96 (f := bGlo "WithinCallError"))
theorem Hs.ec_InvalidNet_WithinCallError : (bExm "InvalidNet" "WithinCallError" true) K = true := h.says.fact 97
theorem Hs.ki_NoneType_Net : (bKit (fun _ => .type "NoneType") (fun K => .ref (He.ga K "Net")) false) K = true := h.says.fact 98
theorem Hs.ki_bool_Net : (bKit (fun _ => .type "bool") (fun K => .ref (He.ga K "Net")) false) K = true := h.says.fact 99
theorem Hs.ki_int_Net : (bKit (fun _ => .type "int") (fun K => .ref (He.ga K "Net")) false) K = true := h.says.fact 100
theorem Hs.ki_str_Net : (bKit (fun _ => .type "str") (fun K => .ref (He.ga K "Net")) false) K = true := h.says.fact 101
theorem Hs.ki_tuple_Net : (bKit (fun _ => .type "tuple") (fun K => .ref (He.ga K "Net")) false) K = true := h.says.fact 102
theorem Hs.ki_list_Net : (bKit (fun _ => .type "list") (fun K => .ref (He.ga K "Net")) false) K = true := h.says.fact 103
theorem Hs.ki_Pipeline_Net : (bKit (fun K => .ref (He.ga K "Pipeline")) (fun K => .ref (He.ga K "Net")) true) K = true := h.says.fact 104
theorem Hs.ki_Ring_Net : (bKit (fun K => .ref (He.ga K "Ring")) (fun K => .ref (He.ga K "Net")) true) K = true := h.says.fact 105
theorem Hs.ki_NoneType_bool : (bKit (fun _ => .type "NoneType") (fun _ => .type "bool") false) K = true := h.says.fact 106
theorem Hs.ki_bool_bool : (bKit (fun _ => .type "bool") (fun _ => .type "bool") true) K = true := h.says.fact 107
theorem Hs.ki_int_bool : (bKit (fun _ => .type "int") (fun _ => .type "bool") false) K = true := h.says.fact 108
theorem Hs.ki_str_bool : (bKit (fun _ => .type "str") (fun _ => .type "bool") false) K = true := h.says.fact 109
theorem Hs.ki_tuple_bool : (bKit (fun _ => .type "tuple") (fun _ => .type "bool") false) K = true := h.says.fact 110
theorem Hs.ki_list_bool : (bKit (fun _ => .type "list") (fun _ => .type "bool") false) K = true := h.says.fact 111
theorem Hs.ki_Pipeline_bool : (bKit (fun K => .ref (He.ga K "Pipeline")) (fun _ => .type "bool") false) K = true := h.says.fact 112
theorem Hs.ki_Ring_bool : (bKit (fun K => .ref (He.ga K "Ring")) (fun _ => .type "bool") false) K = true := h.says.fact 113
theorem Hs.ki_NoneType_int : (bKit (fun _ => .type "NoneType") (fun _ => .type "int") false) K = true := h.says.fact 114
theorem Hs.ki_bool_int : (bKit (fun _ => .type "bool") (fun _ => .type "int") true) K = true := h.says.fact 115
theorem Hs.ki_int_int : (bKit (fun _ => .type "int") (fun _ => .type "int") true) K = true := h.says.fact 116
theorem Hs.ki_str_int : (bKit (fun _ => .type "str") (fun _ => .type "int") false) K = true := h.says.fact 117
theorem Hs.ki_tuple_int : (bKit (fun _ => .type "tuple") (fun _ => .type "int") false) K = true := h.says.fact 118
theorem Hs.ki_list_int : (bKit (fun _ => .type "list") (fun _ => .type "int") false) K = true := h.says.fact 119
theorem Hs.ki_Pipeline_int : (bKit (fun K => .ref (He.ga K "Pipeline")) (fun _ => .type "int") false) K = true := h.says.fact 120
theorem Hs.ki_Ring_int : (bKit (fun K => .ref (He.ga K "Ring")) (fun _ => .type "int") false) K = true := h.says.fact 121
theorem Hs.ki_NoneType_str : (bKit (fun _ => .type "NoneType") (fun _ => .type "str") false) K = true := h.says.fact 122
theorem Hs.ki_bool_str : (bKit (fun _ => .type "bool") (fun _ => .type "str") false) K = true := h.says.fact 123
theorem Hs.ki_int_str : (bKit (fun _ => .type "int") (fun _ => .type "str") false) K = true := h.says.fact 124
theorem Hs.ki_str_str : (bKit (fun _ => .type "str") (fun _ => .type "str") true) K = true := h.says.fact 125
theorem Hs.ki_tuple_str : (bKit (fun _ => .type "tuple") (fun _ => .type "str") false) K = true := h.says.fact 126
theorem Hs.ki_list_str : (bKit (fun _ => .type "list") (fun _ => .type "str") false) K = true := h.says.fact 127
theorem Hs.ki_Pipeline_str : (bKit (fun K => .ref (He.ga K "Pipeline")) (fun _ => .type "str") false) K = true := h.says.fact 128
theorem Hs.ki_Ring_str : (bKit (fun K => .ref (He.ga K "Ring")) (fun _ => .type "str") false) K = true := h.says.fact 129
theorem Hs.ki_NoneType_tuple : (bKit (fun _ => .type "NoneType") (fun _ => .type "tuple") false) K = true := h.says.fact 130
theorem Hs.ki_bool_tuple : (bKit (fun _ => .type "bool") (fun _ => .type "tuple") false) K = true := h.says.fact 131
theorem Hs.ki_int_tuple : (bKit (fun _ => .type "int") (fun _ => .type "tuple") false) K = true := h.says.fact 132
theorem Hs.ki_str_tuple : (bKit (fun _ => .type "str") (fun _ => .type "tuple") false) K = true := h.says.fact 133
theorem Hs.ki_tuple_tuple : (bKit (fun _ => .type "tuple") (fun _ => .type "tuple") true) K = true := h.says.fact 134
theorem Hs.ki_list_tuple : (bKit (fun _ => .type "list") (fun _ => .type "tuple") false) K = true := h.says.fact 135
theorem Hs.ki_Pipeline_tuple : (bKit (fun K => .ref (He.ga K "Pipeline")) (fun _ => .type "tuple") false) K = true := h.says.fact 136
theorem Hs.ki_Ring_tuple : (bKit (fun K => .ref (He.ga K "Ring")) (fun _ => .type "tuple") false) K = true := h.says.fact 137
theorem Hs.kx_InvalidNet_InvalidNet : (bKit (fun K => .ref (He.ga K "InvalidNet")) (fun K => .ref (He.ga K "InvalidNet")) true) K = true := h.says.fact 138
theorem Hs.kx_InvalidNet_NotFound : (bKit (fun K => .ref (He.ga K "InvalidNet")) (fun K => .ref (He.ga K "NotFound")) false) K = true := h.says.fact 139
theorem Hs.is_Pipeline : (bIns "Pipeline") K = true := h.says.fact 140
theorem Hs.is_Ring : (bIns "Ring") K = true := h.says.fact 141
theorem Hs.eqm_Pipeline : (bEqm "Pipeline" "Net") K = true := h.says.fact 142
theorem Hs.nf_Pipeline_NoneType : (bNotf "Pipeline" (fun _ => .type "NoneType")) K = true := h.says.fact 143
theorem Hs.nf_Pipeline_bool : (bNotf "Pipeline" (fun _ => .type "bool")) K = true := h.says.fact 144
theorem Hs.nf_Pipeline_int : (bNotf "Pipeline" (fun _ => .type "int")) K = true := h.says.fact 145
theorem Hs.nf_Pipeline_str : (bNotf "Pipeline" (fun _ => .type "str")) K = true := h.says.fact 146
theorem Hs.nf_Pipeline_tuple : (bNotf "Pipeline" (fun _ => .type "tuple")) K = true := h.says.fact 147
theorem Hs.nf_Pipeline_list : (bNotf "Pipeline" (fun _ => .type "list")) K = true := h.says.fact 148
theorem Hs.nf_Pipeline_Pipeline : (bNotf "Pipeline" (fun K => .ref (He.ga K "Pipeline"))) K = true := h.says.fact 149
theorem Hs.nf_Pipeline_Ring : (bNotf "Pipeline" (fun K => .ref (He.ga K "Ring"))) K = true := h.says.fact 150
theorem Hs.eqm_Ring : (bEqm "Ring" "Net") K = true := h.says.fact 151
theorem Hs.nf_Ring_NoneType : (bNotf "Ring" (fun _ => .type "NoneType")) K = true := h.says.fact 152
theorem Hs.nf_Ring_bool : (bNotf "Ring" (fun _ => .type "bool")) K = true := h.says.fact 153
theorem Hs.nf_Ring_int : (bNotf "Ring" (fun _ => .type "int")) K = true := h.says.fact 154
theorem Hs.nf_Ring_str : (bNotf "Ring" (fun _ => .type "str")) K = true := h.says.fact 155
theorem Hs.nf_Ring_tuple : (bNotf "Ring" (fun _ => .type "tuple")) K = true := h.says.fact 156
theorem Hs.nf_Ring_list : (bNotf "Ring" (fun _ => .type "list")) K = true := h.says.fact 157
theorem Hs.nf_Ring_Pipeline : (bNotf "Ring" (fun K => .ref (He.ga K "Pipeline"))) K = true := h.says.fact 158
theorem Hs.nf_Ring_Ring : (bNotf "Ring" (fun K => .ref (He.ga K "Ring"))) K = true := h.says.fact 159
theorem Hs.kw_Pipeline_init : (bKwd (atM "Pipeline" "__init__") "capacity" (.int 1)) K = true := h.says.fact 160
theorem Hs.fl__incoming : FldOk (gm P0 w0 K mg base) cIns 8 "_incoming" := ⟨by show (8 : Nat) < 50; decide, rfl, fun c hc => by
  simp only [cIns, List.mem_cons, List.not_mem_nil, or_false] at hc
  rcases hc with rfl | rfl
  · exact ⟨He.cls_ok h.cl_Pipeline, He.eqO_ok h.na_Pipeline__incoming⟩
  · exact ⟨He.cls_ok h.cl_Ring, He.eqO_ok h.na_Ring__incoming⟩⟩
theorem Hs.fl__outgoing : FldOk (gm P0 w0 K mg base) cIns 9 "_outgoing" := ⟨by show (9 : Nat) < 50; decide, rfl, fun c hc => by
  simp only [cIns, List.mem_cons, List.not_mem_nil, or_false] at hc
  rcases hc with rfl | rfl
  · exact ⟨He.cls_ok h.cl_Pipeline, He.eqO_ok h.na_Pipeline__outgoing⟩
  · exact ⟨He.cls_ok h.cl_Ring, He.eqO_ok h.na_Ring__outgoing⟩⟩
theorem Hs.fl_channels : FldOk (gm P0 w0 K mg base) cIns 5 "channels" := ⟨by show (5 : Nat) < 50; decide, rfl, fun c hc => by
  simp only [cIns, List.mem_cons, List.not_mem_nil, or_false] at hc
  rcases hc with rfl | rfl
  · exact ⟨He.cls_ok h.cl_Pipeline, He.eqO_ok h.na_Pipeline_channels⟩
  · exact ⟨He.cls_ok h.cl_Ring, He.eqO_ok h.na_Ring_channels⟩⟩
theorem Hs.fl_stages : FldOk (gm P0 w0 K mg base) cIns 7 "stages" := ⟨by show (7 : Nat) < 50; decide, rfl, fun c hc => by
  simp only [cIns, List.mem_cons, List.not_mem_nil, or_false] at hc
  rcases hc with rfl | rfl
  · exact ⟨He.cls_ok h.cl_Pipeline, He.eqO_ok h.na_Pipeline_stages⟩
  · exact ⟨He.cls_ok h.cl_Ring, He.eqO_ok h.na_Ring_stages⟩⟩
theorem Hs.kit : KitOk (gm P0 w0 K mg base) kt := ⟨by
    intro e he
    simp only [kt, List.mem_cons, List.not_mem_nil, or_false] at he
    rcases he with rfl | rfl | rfl | rfl | rfl | rfl | rfl | rfl | rfl | rfl | rfl | rfl | rfl | rfl | rfl | rfl | rfl | rfl | rfl | rfl | rfl | rfl | rfl | rfl | rfl | rfl | rfl | rfl | rfl | rfl | rfl | rfl | rfl | rfl | rfl | rfl | rfl | rfl | rfl | rfl
    · exact ⟨.ref (He.ga K "Net"), h.gl_Net, of_decide_eq_true h.ki_NoneType_Net⟩
    · exact ⟨.ref (He.ga K "Net"), h.gl_Net, of_decide_eq_true h.ki_bool_Net⟩
    · exact ⟨.ref (He.ga K "Net"), h.gl_Net, of_decide_eq_true h.ki_int_Net⟩
    · exact ⟨.ref (He.ga K "Net"), h.gl_Net, of_decide_eq_true h.ki_str_Net⟩
    · exact ⟨.ref (He.ga K "Net"), h.gl_Net, of_decide_eq_true h.ki_tuple_Net⟩
    · exact ⟨.ref (He.ga K "Net"), h.gl_Net, of_decide_eq_true h.ki_list_Net⟩
    · exact ⟨.ref (He.ga K "Net"), h.gl_Net, of_decide_eq_true h.ki_Pipeline_Net⟩
    · exact ⟨.ref (He.ga K "Net"), h.gl_Net, of_decide_eq_true h.ki_Ring_Net⟩
    · exact ⟨.type "bool", rfl, of_decide_eq_true h.ki_NoneType_bool⟩
    · exact ⟨.type "bool", rfl, of_decide_eq_true h.ki_bool_bool⟩
    · exact ⟨.type "bool", rfl, of_decide_eq_true h.ki_int_bool⟩
    · exact ⟨.type "bool", rfl, of_decide_eq_true h.ki_str_bool⟩
    · exact ⟨.type "bool", rfl, of_decide_eq_true h.ki_tuple_bool⟩
    · exact ⟨.type "bool", rfl, of_decide_eq_true h.ki_list_bool⟩
    · exact ⟨.type "bool", rfl, of_decide_eq_true h.ki_Pipeline_bool⟩
    · exact ⟨.type "bool", rfl, of_decide_eq_true h.ki_Ring_bool⟩
    · exact ⟨.type "int", rfl, of_decide_eq_true h.ki_NoneType_int⟩
    · exact ⟨.type "int", rfl, of_decide_eq_true h.ki_bool_int⟩
    · exact ⟨.type "int", rfl, of_decide_eq_true h.ki_int_int⟩
    · exact ⟨.type "int", rfl, of_decide_eq_true h.ki_str_int⟩
    · exact ⟨.type "int", rfl, of_decide_eq_true h.ki_tuple_int⟩
    · exact ⟨.type "int", rfl, of_decide_eq_true h.ki_list_int⟩
    · exact ⟨.type "int", rfl, of_decide_eq_true h.ki_Pipeline_int⟩
    · exact ⟨.type "int", rfl, of_decide_eq_true h.ki_Ring_int⟩
    · exact ⟨.type "str", rfl, of_decide_eq_true h.ki_NoneType_str⟩
    · exact ⟨.type "str", rfl, of_decide_eq_true h.ki_bool_str⟩
    · exact ⟨.type "str", rfl, of_decide_eq_true h.ki_int_str⟩
    · exact ⟨.type "str", rfl, of_decide_eq_true h.ki_str_str⟩
    · exact ⟨.type "str", rfl, of_decide_eq_true h.ki_tuple_str⟩
    · exact ⟨.type "str", rfl, of_decide_eq_true h.ki_list_str⟩
    · exact ⟨.type "str", rfl, of_decide_eq_true h.ki_Pipeline_str⟩
    · exact ⟨.type "str", rfl, of_decide_eq_true h.ki_Ring_str⟩
    · exact ⟨.type "tuple", rfl, of_decide_eq_true h.ki_NoneType_tuple⟩
    · exact ⟨.type "tuple", rfl, of_decide_eq_true h.ki_bool_tuple⟩
    · exact ⟨.type "tuple", rfl, of_decide_eq_true h.ki_int_tuple⟩
    · exact ⟨.type "tuple", rfl, of_decide_eq_true h.ki_str_tuple⟩
    · exact ⟨.type "tuple", rfl, of_decide_eq_true h.ki_tuple_tuple⟩
    · exact ⟨.type "tuple", rfl, of_decide_eq_true h.ki_list_tuple⟩
    · exact ⟨.type "tuple", rfl, of_decide_eq_true h.ki_Pipeline_tuple⟩
    · exact ⟨.type "tuple", rfl, of_decide_eq_true h.ki_Ring_tuple⟩
  , by
    intro e he c hc
    simp only [kt, List.mem_cons, List.not_mem_nil, or_false] at he
    rcases he with rfl | rfl | rfl | rfl | rfl | rfl | rfl | rfl | rfl | rfl | rfl | rfl | rfl | rfl | rfl | rfl | rfl | rfl | rfl | rfl | rfl | rfl | rfl | rfl | rfl | rfl | rfl | rfl | rfl | rfl | rfl | rfl | rfl | rfl | rfl | rfl | rfl | rfl | rfl | rfl
    · cases hc
    · cases hc
    · cases hc
    · cases hc
    · cases hc
    · cases hc
    · cases hc; exact bIns_ok h.cl_Pipeline h.is_Pipeline
    · cases hc; exact bIns_ok h.cl_Ring h.is_Ring
    · cases hc
    · cases hc
    · cases hc
    · cases hc
    · cases hc
    · cases hc
    · cases hc; exact bIns_ok h.cl_Pipeline h.is_Pipeline
    · cases hc; exact bIns_ok h.cl_Ring h.is_Ring
    · cases hc
    · cases hc
    · cases hc
    · cases hc
    · cases hc
    · cases hc
    · cases hc; exact bIns_ok h.cl_Pipeline h.is_Pipeline
    · cases hc; exact bIns_ok h.cl_Ring h.is_Ring
    · cases hc
    · cases hc
    · cases hc
    · cases hc
    · cases hc
    · cases hc
    · cases hc; exact bIns_ok h.cl_Pipeline h.is_Pipeline
    · cases hc; exact bIns_ok h.cl_Ring h.is_Ring
    · cases hc
    · cases hc
    · cases hc
    · cases hc
    · cases hc
    · cases hc
    · cases hc; exact bIns_ok h.cl_Pipeline h.is_Pipeline
    · cases hc; exact bIns_ok h.cl_Ring h.is_Ring
  ⟩
theorem Hs.xkit {q : Hx} : XKitOk ((gm P0 w0 K mg base).han q) xkt := ⟨by
    intro e he
    simp only [xkt, List.mem_cons, List.not_mem_nil, or_false] at he
    rcases he with rfl | rfl
    · exact ⟨.ref (He.ga K "InvalidNet"), h.gl_InvalidNet, of_decide_eq_true h.kx_InvalidNet_InvalidNet⟩
    · exact ⟨.ref (He.ga K "NotFound"), h.gl_NotFound, of_decide_eq_true h.kx_InvalidNet_NotFound⟩
  , by
    intro e he
    simp only [xkt, List.mem_cons, List.not_mem_nil, or_false] at he
    rcases he with rfl | rfl
    · exact bExc_ok h.ex_InvalidNet
    · exact bExc_ok h.ex_InvalidNet
  ⟩
theorem Hs.xf_position {q : Hx} : XFldOk ((gm P0 w0 K mg base).han q) [1] 1 "position" := ⟨by show (1 : Nat) < 50; decide, rfl, fun c hc => by
  simp only [List.mem_cons, List.not_mem_nil, or_false] at hc
  rcases hc with rfl
  · exact ⟨xfB_ok h.xf_InvalidNet, He.eqO_ok h.nx_InvalidNet_position⟩⟩
theorem Hs.xf_reason {q : Hx} : XFldOk ((gm P0 w0 K mg base).han q) [1] 0 "reason" := ⟨by show (0 : Nat) < 50; decide, rfl, fun c hc => by
  simp only [List.mem_cons, List.not_mem_nil, or_false] at hc
  rcases hc with rfl
  · exact ⟨xfB_ok h.xf_InvalidNet, He.eqO_ok h.nx_InvalidNet_reason⟩⟩
theorem Hs.ca_WithinCallError : CatchOk (gm P0 w0 K mg base) "WithinCallError" ct_WithinCallError := ⟨⟨_, .inl h.gl_WithinCallError, fun c b hc => by
  have hm := lookup_mem hc
  simp only [ct_WithinCallError, List.mem_cons, List.not_mem_nil, or_false, Prod.mk.injEq] at hm
  rcases hm with ⟨rfl, rfl⟩
  · exact of_decide_eq_true h.ec_InvalidNet_WithinCallError⟩⟩
end
end FI.K01
set_option maxRecDepth 100000
set_option maxHeartbeats 4000000
namespace FI.K01
open PySem L2 PySem.Spec PyProof.Rows FI
section
variable {P0 : Program} {w0 : World} {K : Fr} {mg : Str → Option Value} {base : Heap} (h : Hs P0 K mg)
include h
theorem x_InvalidNet : ExcOk (gm P0 w0 K mg base) 1 "InvalidNet" 1 2 [(0, 1), (1, 2)] := by
  obtain ⟨oc, od, osl, kV, doc, pm, an, cda, ct, cc, lk, hcd, hcell, hfile⟩ := h.says.sup 43 d_InvalidNet_init "InvalidNet"
  obtain ⟨hi1, hi2⟩ := bIni_ok h.in_InvalidNet
  have T := bOex_ok h.ox_InvalidNet
  have SF : SupF P0 K mg (He.ma K (He.ga K "InvalidNet") "__init__") cda cc (He.ga K "InvalidNet") "self" := ⟨fun l => by have z := lk.symm.trans l; cases z; exact ⟨_, rfl, rfl⟩, by rw [h.file]; exact hfile, hcell, bIsc_ok h.ic_InvalidNet, h.scp, h.fr_super, He.eqO_ok h.third⟩
  refine ⟨T, h.gl_InvalidNet, ⟨_, ?fd, ["self", "reason", "position"], ["self", "reason", "position"], hi1, hi2, ?b, rfl, by decide, ?f⟩, ?l⟩
  case l => show ∀ p ∈ ([(0, 1), (1, 2)] : List (Nat × Nat)), p.1 < 50 ∧ 1 ≤ p.2 ∧ p.2 ≤ 2
            decide
  case f => exact exc_fn (g := (gm P0 w0 K mg base)) (k := 0) (N := ["self", "reason", "position"]) (ps := ["self", "reason", "position"]) (fl := [("reason", 1), ("position", 2)]) (txt := "the net is not valid") lk hcd ⟨rfl, rfl, rfl, by decide +kernel, rfl, by decide +kernel, by decide +kernel, rfl, by decide +kernel⟩ T (bSupE_ok h.se_InvalidNet) SF (fun X i => pa_cons pe_str pa_nil) (fun X i => pss_ost_cons (ps_ost (pvx i 0) (pvx i 1)) (pss_ost_cons (ps_ost (pvx i 0) (pvx i 2)) (pss_ost_nil))) (by simp [He.eqO_ok h.nx_InvalidNet_reason, He.eqO_ok h.nx_InvalidNet_position]) (by decide) rfl rfl rfl (by decide) (fun _ => rfl) (fun _ => rfl) (fun _ => rfl) (fun _ => ⟨_, rfl⟩)
  case b => exact .all fun us hl => match us, hl with | [_, _, _], _ => rfl
theorem f__law_same : FB (gm P0 w0 K mg base) { N := N__law_same, sc := defScope s__law_same, k := 0 } (defBody s__law_same) b__law_same := fb_cons (fs_if (ft_cmpO co_is (fe_var 1) (fe_non)) (fb_cons (fs_ret (fe_cmpO co_is (fe_var 0) (fe_non))) (fb_nil)) (fb_nil)) (fb_cons (fs_if (ft_cmpO co_is (fe_var 1) (fe_bl)) (fb_cons (fs_ret (fe_cmpO co_is (fe_var 0) (fe_bl))) (fb_nil)) (fb_nil)) (fb_cons (fs_if (ft_cmpO co_is (fe_var 1) (fe_bl)) (fb_cons (fs_ret (fe_cmpO co_is (fe_var 0) (fe_bl))) (fb_nil)) (fb_nil)) (fb_cons (fs_if (ft_val (fe_blt (b_isi h.kit) ⟨rfl, h.fr_isinstance⟩ (fa_cons (fe_var 1) (fa_cons (fe_ty (n := "int") (h.fr_int) rfl) (fa_nil))))) (fb_cons (fs_ret (fe_and (fe_blt (b_isi h.kit) ⟨rfl, h.fr_isinstance⟩ (fa_cons (fe_var 0) (fa_cons (fe_ty (n := "int") (h.fr_int) rfl) (fa_nil)))) (fe_and (fe_not (fe_blt (b_isi h.kit) ⟨rfl, h.fr_isinstance⟩ (fa_cons (fe_var 0) (fa_cons (fe_ty (n := "bool") (h.fr_bool) rfl) (fa_nil))))) (fe_one (fe_cmpO co_eq (fe_var 0) (fe_var 1)))))) (fb_nil)) (fb_nil)) (fb_cons (fs_ret (fe_and (fe_blt (b_isi h.kit) ⟨rfl, h.fr_isinstance⟩ (fa_cons (fe_var 0) (fa_cons (fe_ty (n := "str") (h.fr_str) rfl) (fa_nil)))) (fe_one (fe_cmpO co_eq (fe_var 0) (fe_var 1))))) (fb_nil)))))
theorem c__law_same : CalD (gm P0 w0 K mg base) 1 (atG "_law_same" K) [] F__law_same := by
  obtain ⟨oc, od, osl, kV, doc, pm, an, cdv, ct, lk, hcd⟩ := h.says.def_ 0 d__law_same
  exact cal_def (ps := ["_law_told", "_law_due"]) lk hcd ⟨rfl, rfl, rfl, by decide +kernel, rfl, by decide +kernel, by decide +kernel⟩ (dbnd_plain (ps := ["_law_told", "_law_due"]) fun us hl => match us, hl with | [_, _], _ => rfl) (f__law_same h)
theorem n__law_same : Nam (gm P0 w0 K mg base) 1 "_law_same" [] F__law_same := ⟨⟨_, h.gl__law_same, DefAt.keep (h.says.def_ 0 d__law_same), c__law_same h⟩⟩
theorem g__law_same : FB (gm P0 w0 K mg base) { N := N__law_same, sc := defScope s__law_same, k := 0, hot := true } (defBody s__law_same) b__law_same := fb_cons (fs_if (ft_cmpO co_is (fe_var 1) (fe_non)) (fb_cons (fs_ret (fe_cmpO co_is (fe_var 0) (fe_non))) (fb_nil)) (fb_nil)) (fb_cons (fs_if (ft_cmpO co_is (fe_var 1) (fe_bl)) (fb_cons (fs_ret (fe_cmpO co_is (fe_var 0) (fe_bl))) (fb_nil)) (fb_nil)) (fb_cons (fs_if (ft_cmpO co_is (fe_var 1) (fe_bl)) (fb_cons (fs_ret (fe_cmpO co_is (fe_var 0) (fe_bl))) (fb_nil)) (fb_nil)) (fb_cons (fs_if (ft_val (fe_blt (b_isi h.kit) ⟨rfl, h.fr_isinstance⟩ (fa_cons (fe_var 1) (fa_cons (fe_ty (n := "int") (h.fr_int) rfl) (fa_nil))))) (fb_cons (fs_ret (fe_and (fe_blt (b_isi h.kit) ⟨rfl, h.fr_isinstance⟩ (fa_cons (fe_var 0) (fa_cons (fe_ty (n := "int") (h.fr_int) rfl) (fa_nil)))) (fe_and (fe_not (fe_blt (b_isi h.kit) ⟨rfl, h.fr_isinstance⟩ (fa_cons (fe_var 0) (fa_cons (fe_ty (n := "bool") (h.fr_bool) rfl) (fa_nil))))) (fe_one (fe_cmpO co_eq (fe_var 0) (fe_var 1)))))) (fb_nil)) (fb_nil)) (fb_cons (fs_ret (fe_and (fe_blt (b_isi h.kit) ⟨rfl, h.fr_isinstance⟩ (fa_cons (fe_var 0) (fa_cons (fe_ty (n := "str") (h.fr_str) rfl) (fa_nil)))) (fe_one (fe_cmpO co_eq (fe_var 0) (fe_var 1))))) (fb_nil)))))
theorem l__law_same : NamL (gm P0 w0 K mg base) 1 "_law_same" F__law_same := by
  obtain ⟨oc, od, osl, kV, doc, pm, an, cdv, ct, lk, hcd⟩ := h.says.def_ 0 d__law_same
  exact nam_leaf (ps := ["_law_told", "_law_due"]) h.gl__law_same (DefAt.keep (h.says.def_ 0 d__law_same)) lk hcd ⟨rfl, rfl, rfl, by decide +kernel, rfl, by decide +kernel, by decide +kernel⟩ (fun us hl => match us, hl with | [_, _], _ => rfl) (g__law_same h)
theorem f__law_same_row : FB (gm P0 w0 K mg base) { N := N__law_same_row, sc := defScope s__law_same_row, k := 1 } (defBody s__law_same_row) b__law_same_row := fb_cons (fs_if (FW.ft (fw_or (ft_not (ft_val (fe_blt (b_isi h.kit) ⟨rfl, h.fr_isinstance⟩ (fa_cons (fe_var 0) (fa_cons (fe_ty (n := "tuple") (h.fr_tuple) rfl) (fa_nil)))))) (fw_one (ft_cmpO co_ne (fe_blt b_len ⟨rfl, h.fr_len⟩ (fa_cons (fe_var 0) (fa_nil))) (fe_blt b_len ⟨rfl, h.fr_len⟩ (fa_cons (fe_var 1) (fa_nil))))))) (fb_cons (fs_ret (fe_bl)) (fb_nil)) (fb_nil)) (fb_cons (fs_for (fk_rng1 ⟨rfl, h.fr_range⟩ (fa_cons (fe_blt b_len ⟨rfl, h.fr_len⟩ (fa_cons (fe_var 1) (fa_nil))) (fa_nil))) (fg_name 2) (fb_cons (fs_if (ft_not (ft_val (fe_call (n__law_same h) ⟨by decide, rfl⟩ (fa_cons (fe_ixO (fe_var 0) (fe_var 2)) (fa_cons (fe_ixO (fe_var 1) (fe_var 2)) (fa_nil)))))) (fb_cons (fs_ret (fe_bl)) (fb_nil)) (fb_nil)) (fb_nil))) (fb_cons (fs_ret (fe_bl)) (fb_nil)))
theorem c__law_same_row : CalD (gm P0 w0 K mg base) 2 (atG "_law_same_row" K) [] F__law_same_row := by
  obtain ⟨oc, od, osl, kV, doc, pm, an, cdv, ct, lk, hcd⟩ := h.says.def_ 1 d__law_same_row
  exact cal_def (ps := ["_law_told", "_law_due"]) lk hcd ⟨rfl, rfl, rfl, by decide +kernel, rfl, by decide +kernel, by decide +kernel⟩ (dbnd_plain (ps := ["_law_told", "_law_due"]) fun us hl => match us, hl with | [_, _], _ => rfl) (f__law_same_row h)
theorem n__law_same_row : Nam (gm P0 w0 K mg base) 2 "_law_same_row" [] F__law_same_row := ⟨⟨_, h.gl__law_same_row, DefAt.keep (h.says.def_ 1 d__law_same_row), c__law_same_row h⟩⟩
theorem g__law_same_row : FB (gm P0 w0 K mg base) { N := N__law_same_row, sc := defScope s__law_same_row, k := 1, hot := true } (defBody s__law_same_row) b__law_same_row := fb_cons (fs_if (FW.ft (fw_or (ft_not (ft_val (fe_blt (b_isi h.kit) ⟨rfl, h.fr_isinstance⟩ (fa_cons (fe_var 0) (fa_cons (fe_ty (n := "tuple") (h.fr_tuple) rfl) (fa_nil)))))) (fw_one (ft_cmpO co_ne (fe_blt b_len ⟨rfl, h.fr_len⟩ (fa_cons (fe_var 0) (fa_nil))) (fe_blt b_len ⟨rfl, h.fr_len⟩ (fa_cons (fe_var 1) (fa_nil))))))) (fb_cons (fs_ret (fe_bl)) (fb_nil)) (fb_nil)) (fb_cons (fs_forZ (fk_rng1Z ⟨rfl, h.fr_range⟩ (fa_cons (fe_blt b_len ⟨rfl, h.fr_len⟩ (fa_cons (fe_var 1) (fa_nil))) (fa_nil))) (fg_name 2) (fb_cons (fs_if (ft_not (ft_val (fe_callLL (l__law_same h) (by decide) (fa_cons (fe_ixO (fe_var 0) (fe_var 2)) (fa_cons (fe_ixO (fe_var 1) (fe_var 2)) (fa_nil)))))) (fb_cons (fs_ret (fe_bl)) (fb_nil)) (fb_nil)) (fb_nil))) (fb_cons (fs_ret (fe_bl)) (fb_nil)))
theorem l__law_same_row : NamL (gm P0 w0 K mg base) 2 "_law_same_row" F__law_same_row := by
  obtain ⟨oc, od, osl, kV, doc, pm, an, cdv, ct, lk, hcd⟩ := h.says.def_ 1 d__law_same_row
  exact nam_leaf (ps := ["_law_told", "_law_due"]) h.gl__law_same_row (DefAt.keep (h.says.def_ 1 d__law_same_row)) lk hcd ⟨rfl, rfl, rfl, by decide +kernel, rfl, by decide +kernel, by decide +kernel⟩ (fun us hl => match us, hl with | [_, _], _ => rfl) (g__law_same_row h)
theorem f__law_cell : FB (gm P0 w0 K mg base) { N := N__law_cell, sc := defScope s__law_cell, k := 0 } (defBody s__law_cell) b__law_cell := fb_cons (fs_if (ft_cmpO co_lt (fe_var 1) (fe_blt b_len ⟨rfl, h.fr_len⟩ (fa_cons (fe_var 0) (fa_nil)))) (fb_cons (fs_ret (fe_ixO (fe_var 0) (fe_var 1))) (fb_nil)) (fb_nil)) (fb_cons (fs_ret (fe_binO bo_add (fe_binO bo_add (fe_binO bo_mul (fe_binO bo_mod (fe_bty b_int ⟨rfl, h.fr_int⟩ (fa_cons (fe_blt b_sum ⟨rfl, h.fr_sum⟩ (fa_cons (fe_slice (fe_var 0) (fo_none) (fo_some (fe_int))) (fa_nil))) (fa_nil))) (fe_int)) (fe_int)) (fe_binO bo_mul (fe_var 1) (fe_int))) (fe_int))) (fb_nil))
theorem c__law_cell : CalD (gm P0 w0 K mg base) 1 (atG "_law_cell" K) [] F__law_cell := by
  obtain ⟨oc, od, osl, kV, doc, pm, an, cdv, ct, lk, hcd⟩ := h.says.def_ 2 d__law_cell
  exact cal_def (ps := ["_law_script", "_law_k"]) lk hcd ⟨rfl, rfl, rfl, by decide +kernel, rfl, by decide +kernel, by decide +kernel⟩ (dbnd_plain (ps := ["_law_script", "_law_k"]) fun us hl => match us, hl with | [_, _], _ => rfl) (f__law_cell h)
theorem n__law_cell : Nam (gm P0 w0 K mg base) 1 "_law_cell" [] F__law_cell := ⟨⟨_, h.gl__law_cell, DefAt.keep (h.says.def_ 2 d__law_cell), c__law_cell h⟩⟩
theorem f__law_bag : FB (gm P0 w0 K mg base) { N := N__law_bag, sc := defScope s__law_bag, k := 1 } (defBody s__law_bag) b__law_bag := fb_cons (fs_asg (fe_call (n__law_cell h) ⟨by decide, rfl⟩ (fa_cons (fe_var 0) (fa_cons (fe_var 1) (fa_nil)))) (fg_name 2)) (fb_cons (fs_if (ft_cmpO co_ge (fe_var 2) (fe_binO bo_pow (fe_int) (fe_int))) (fb_cons (fs_ret (fe_lst (fa_cons (fe_binO bo_sub (fe_var 2) (fe_binO bo_pow (fe_int) (fe_int))) (fa_cons (fe_int) (fa_nil))))) (fb_nil)) (fb_nil)) (fb_cons (fs_ret (fe_lst (fa_cons (fe_binO bo_mod (fe_bty b_int ⟨rfl, h.fr_int⟩ (fa_cons (fe_var 2) (fa_nil))) (fe_int)) (fa_cons (fe_int) (fa_nil))))) (fb_nil)))
theorem c__law_bag : CalD (gm P0 w0 K mg base) 2 (atG "_law_bag" K) [] F__law_bag := by
  obtain ⟨oc, od, osl, kV, doc, pm, an, cdv, ct, lk, hcd⟩ := h.says.def_ 3 d__law_bag
  exact cal_def (ps := ["_law_script", "_law_k"]) lk hcd ⟨rfl, rfl, rfl, by decide +kernel, rfl, by decide +kernel, by decide +kernel⟩ (dbnd_plain (ps := ["_law_script", "_law_k"]) fun us hl => match us, hl with | [_, _], _ => rfl) (f__law_bag h)
theorem n__law_bag : Nam (gm P0 w0 K mg base) 2 "_law_bag" [] F__law_bag := ⟨⟨_, h.gl__law_bag, DefAt.keep (h.says.def_ 3 d__law_bag), c__law_bag h⟩⟩
theorem f__law_draw : FB (gm P0 w0 K mg base) { N := N__law_draw, sc := defScope s__law_draw, k := 0 } (defBody s__law_draw) b__law_draw := fb_cons (fs_if (ft_cmpO co_eq (fe_ixO (fe_var 0) (fe_int)) (fe_int)) (fb_cons (fs_asg (fe_binO bo_mod (fe_bty b_int ⟨rfl, h.fr_int⟩ (fa_cons (fe_ixO (fe_var 0) (fe_int)) (fa_nil))) (fe_var 1)) (fg_name 2)) (fb_cons (fs_asg (fe_binO bo_fdiv (fe_ixO (fe_var 0) (fe_int)) (fe_var 1)) (fg_sub (fe_var 0) (fe_int))) (fb_cons (fs_ret (fe_var 2)) (fb_nil)))) (fb_nil)) (fb_cons (fs_asg (fe_binO bo_mod (fe_bty b_int ⟨rfl, h.fr_int⟩ (fa_cons (fe_binO bo_add (fe_binO bo_add (fe_binO bo_mul (fe_ixO (fe_var 0) (fe_int)) (fe_int)) (fe_binO bo_mul (fe_ixO (fe_var 0) (fe_int)) (fe_int))) (fe_int)) (fa_nil))) (fe_int)) (fg_name 3)) (fb_cons (fs_asg (fe_binO bo_mod (fe_bty b_int ⟨rfl, h.fr_int⟩ (fa_cons (fe_binO bo_add (fe_binO bo_add (fe_binO bo_mul (fe_var 3) (fe_var 3)) (fe_binO bo_mul (fe_ixO (fe_var 0) (fe_int)) (fe_int))) (fe_int)) (fa_nil))) (fe_int)) (fg_name 3)) (fb_cons (fs_asg (fe_binO bo_mod (fe_bty b_int ⟨rfl, h.fr_int⟩ (fa_cons (fe_binO bo_add (fe_binO bo_add (fe_binO bo_mul (fe_var 3) (fe_var 3)) (fe_ixO (fe_var 0) (fe_int))) (fe_int)) (fa_nil))) (fe_int)) (fg_name 3)) (fb_cons (fs_asg (fe_binO bo_add (fe_ixO (fe_var 0) (fe_int)) (fe_int)) (fg_sub (fe_var 0) (fe_int))) (fb_cons (fs_ret (fe_binO bo_mod (fe_bty b_int ⟨rfl, h.fr_int⟩ (fa_cons (fe_binO bo_fdiv (fe_var 3) (fe_int)) (fa_nil))) (fe_var 1))) (fb_nil))))))
theorem c__law_draw : CalD (gm P0 w0 K mg base) 1 (atG "_law_draw" K) [] F__law_draw := by
  obtain ⟨oc, od, osl, kV, doc, pm, an, cdv, ct, lk, hcd⟩ := h.says.def_ 4 d__law_draw
  exact cal_def (ps := ["_law_bag_here", "_law_many"]) lk hcd ⟨rfl, rfl, rfl, by decide +kernel, rfl, by decide +kernel, by decide +kernel⟩ (dbnd_plain (ps := ["_law_bag_here", "_law_many"]) fun us hl => match us, hl with | [_, _], _ => rfl) (f__law_draw h)
theorem n__law_draw : Nam (gm P0 w0 K mg base) 1 "_law_draw" [] F__law_draw := ⟨⟨_, h.gl__law_draw, DefAt.keep (h.says.def_ 4 d__law_draw), c__law_draw h⟩⟩
theorem f__law_is_capacity : FB (gm P0 w0 K mg base) { N := N__law_is_capacity, sc := defScope s__law_is_capacity, k := 0 } (defBody s__law_is_capacity) b__law_is_capacity := fb_cons (fs_ret (fe_and (fe_blt (b_isi h.kit) ⟨rfl, h.fr_isinstance⟩ (fa_cons (fe_var 0) (fa_cons (fe_ty (n := "int") (h.fr_int) rfl) (fa_nil)))) (fe_and (fe_not (fe_blt (b_isi h.kit) ⟨rfl, h.fr_isinstance⟩ (fa_cons (fe_var 0) (fa_cons (fe_ty (n := "bool") (h.fr_bool) rfl) (fa_nil))))) (fe_one (fe_chainO co_le co_le (fe_int) (fe_var 0) (fe_int)))))) (fb_nil)
theorem c__law_is_capacity : CalD (gm P0 w0 K mg base) 1 (atG "_law_is_capacity" K) [] F__law_is_capacity := by
  obtain ⟨oc, od, osl, kV, doc, pm, an, cdv, ct, lk, hcd⟩ := h.says.def_ 5 d__law_is_capacity
  exact cal_def (ps := ["_law_thing"]) lk hcd ⟨rfl, rfl, rfl, by decide +kernel, rfl, by decide +kernel, by decide +kernel⟩ (dbnd_plain (ps := ["_law_thing"]) fun us hl => match us, hl with | [_], _ => rfl) (f__law_is_capacity h)
theorem n__law_is_capacity : Nam (gm P0 w0 K mg base) 1 "_law_is_capacity" [] F__law_is_capacity := ⟨⟨_, h.gl__law_is_capacity, DefAt.keep (h.says.def_ 5 d__law_is_capacity), c__law_is_capacity h⟩⟩
theorem f__law_fault : FB (gm P0 w0 K mg base) { N := N__law_fault, sc := defScope s__law_fault, k := 1 } (defBody s__law_fault) b__law_fault := fb_cons (fs_if (FW.ft (fw_or (ft_cmpO co_lt (fe_blt b_len ⟨rfl, h.fr_len⟩ (fa_cons (fe_var 0) (fa_nil))) (fe_var 1)) (fw_one (ft_cmpO co_gt (fe_blt b_len ⟨rfl, h.fr_len⟩ (fa_cons (fe_var 0) (fa_nil))) (fe_var 2))))) (fb_cons (fs_ret (fe_tup (fa_cons (fe_str) (fa_cons (fe_non) (fa_nil))))) (fb_nil)) (fb_nil)) (fb_cons (fs_for (fk_rng1 ⟨rfl, h.fr_range⟩ (fa_cons (fe_blt b_len ⟨rfl, h.fr_len⟩ (fa_cons (fe_var 0) (fa_nil))) (fa_nil))) (fg_name 3) (fb_cons (fs_if (ft_not (ft_val (fe_call (n__law_is_capacity h) ⟨by decide, rfl⟩ (fa_cons (fe_ixO (fe_var 0) (fe_var 3)) (fa_nil))))) (fb_cons (fs_ret (fe_tup (fa_cons (fe_str) (fa_cons (fe_var 3) (fa_nil))))) (fb_nil)) (fb_nil)) (fb_nil))) (fb_cons (fs_ret (fe_non)) (fb_nil)))
theorem c__law_fault : CalD (gm P0 w0 K mg base) 2 (atG "_law_fault" K) [] F__law_fault := by
  obtain ⟨oc, od, osl, kV, doc, pm, an, cdv, ct, lk, hcd⟩ := h.says.def_ 6 d__law_fault
  exact cal_def (ps := ["_law_sizes", "_law_least", "_law_most"]) lk hcd ⟨rfl, rfl, rfl, by decide +kernel, rfl, by decide +kernel, by decide +kernel⟩ (dbnd_plain (ps := ["_law_sizes", "_law_least", "_law_most"]) fun us hl => match us, hl with | [_, _, _], _ => rfl) (f__law_fault h)
theorem n__law_fault : Nam (gm P0 w0 K mg base) 2 "_law_fault" [] F__law_fault := ⟨⟨_, h.gl__law_fault, DefAt.keep (h.says.def_ 6 d__law_fault), c__law_fault h⟩⟩
theorem f_numbers_by_end : FB (gm P0 w0 K mg base) { N := N_numbers_by_end, sc := defScope s_numbers_by_end, k := 0 } (defBody s_numbers_by_end) b_numbers_by_end := fb_cons (fs_setLc (k := 3) (own := [("_", 4)]) (fk_rng1 ⟨rfl, h.fr_range⟩ (fa_cons (fe_var 1) (fa_nil))) (fg_name 4) (fts_nil) (fe_lst (fa_nil))) (fb_cons (fs_for (fk_enum ⟨rfl, h.fr_enumerate⟩ (fa_cons (fe_var 0) (fa_nil))) (fg_tup (fgs_cons (fg_name 5) (fgs_cons (fg_name 6) (fgs_nil)))) (fb_cons (fs_expr (fe_mtL m_append (fe_ixO (fe_var 3) (fe_ixO (fe_var 6) (fe_var 2))) (fa_cons (fe_var 5) (fa_nil)) PySem.F.slot_list_append PySem.F.type_list_append)) (fb_nil))) (fb_cons (fs_ret (fe_bty b_tuple ⟨rfl, h.fr_tuple⟩ (fa_cons (fe_lc (own := [("numbers", 7)]) (fk_seq (fe_var 3)) (fg_name 7) (fts_nil) (fe_bty b_tuple ⟨rfl, h.fr_tuple⟩ (fa_cons (fe_var 7) (fa_nil)))) (fa_nil)))) (fb_nil)))
theorem c_numbers_by_end : CalD (gm P0 w0 K mg base) 1 (atG "numbers_by_end" K) [] F_numbers_by_end := by
  obtain ⟨oc, od, osl, kV, doc, pm, an, cdv, ct, lk, hcd⟩ := h.says.def_ 7 d_numbers_by_end
  exact cal_def (ps := ["channels", "stages", "end"]) lk hcd ⟨rfl, rfl, rfl, by decide +kernel, rfl, by decide +kernel, by decide +kernel⟩ (dbnd_plain (ps := ["channels", "stages", "end"]) fun us hl => match us, hl with | [_, _, _], _ => rfl) (f_numbers_by_end h)
theorem n_numbers_by_end : Nam (gm P0 w0 K mg base) 1 "numbers_by_end" [] F_numbers_by_end := ⟨⟨_, h.gl_numbers_by_end, DefAt.keep (h.says.def_ 7 d_numbers_by_end), c_numbers_by_end h⟩⟩
theorem f_Net_init : FB (gm P0 w0 K mg base) { N := N_Net_init, sc := defScope s_Net_init, k := 1 } (defBody s_Net_init) b_Net_init := fb_cons (fs_fld h.fl_stages (fe_var 0) (fe_var 1)) (fb_cons (fs_fld h.fl_channels (fe_var 0) (fe_var 2)) (fb_cons (fs_fld h.fl__incoming (fe_var 0) (fe_call (n_numbers_by_end h) ⟨by decide, rfl⟩ (fa_cons (fe_var 2) (fa_cons (fe_var 1) (fa_cons (fe_int) (fa_nil)))))) (fb_cons (fs_fld h.fl__outgoing (fe_var 0) (fe_call (n_numbers_by_end h) ⟨by decide, rfl⟩ (fa_cons (fe_var 2) (fa_cons (fe_var 1) (fa_cons (fe_int) (fa_nil)))))) (fb_nil))))
theorem c_Net_init : CalD (gm P0 w0 K mg base) 2 (atM "Net" "__init__" K) [] F_Net_init := by
  obtain ⟨oc, od, osl, kV, doc, pm, an, cdv, ct, lk, hcd⟩ := h.says.def_ 8 d_Net_init
  exact cal_def (ps := ["self", "stages", "channels"]) lk hcd ⟨rfl, rfl, rfl, by decide +kernel, rfl, by decide +kernel, by decide +kernel⟩ (dbnd_plain (ps := ["self", "stages", "channels"]) fun us hl => match us, hl with | [_, _, _], _ => rfl) (f_Net_init h)
theorem f_is_integer : FB (gm P0 w0 K mg base) { N := N_is_integer, sc := defScope s_is_integer, k := 0 } (defBody s_is_integer) b_is_integer := fb_cons (fs_ret (fe_and (fe_blt (b_isi h.kit) ⟨rfl, h.fr_isinstance⟩ (fa_cons (fe_var 0) (fa_cons (fe_ty (n := "int") (h.fr_int) rfl) (fa_nil)))) (fe_one (fe_not (fe_blt (b_isi h.kit) ⟨rfl, h.fr_isinstance⟩ (fa_cons (fe_var 0) (fa_cons (fe_ty (n := "bool") (h.fr_bool) rfl) (fa_nil)))))))) (fb_nil)
theorem c_is_integer : CalD (gm P0 w0 K mg base) 1 (atG "is_integer" K) [] F_is_integer := by
  obtain ⟨oc, od, osl, kV, doc, pm, an, cdv, ct, lk, hcd⟩ := h.says.def_ 9 d_is_integer
  exact cal_def (ps := ["value"]) lk hcd ⟨rfl, rfl, rfl, by decide +kernel, rfl, by decide +kernel, by decide +kernel⟩ (dbnd_plain (ps := ["value"]) fun us hl => match us, hl with | [_], _ => rfl) (f_is_integer h)
theorem n_is_integer : Nam (gm P0 w0 K mg base) 1 "is_integer" [] F_is_integer := ⟨⟨_, h.gl_is_integer, DefAt.keep (h.says.def_ 9 d_is_integer), c_is_integer h⟩⟩
theorem f_Net_is_capacity : FB (gm P0 w0 K mg base) { N := N_Net_is_capacity, sc := defScope s_Net_is_capacity, k := 1 } (defBody s_Net_is_capacity) b_Net_is_capacity := fb_cons (fs_ret (fe_and (fe_call (n_is_integer h) ⟨by decide, rfl⟩ (fa_cons (fe_var 0) (fa_nil))) (fe_one (fe_chainO co_le co_le (fe_int) (fe_var 0) (fe_cst (bCst_ok (h.gl_Net) h.rd_Net h.cs_Net_MOST_CAPACITY fun _ _ => .int _)))))) (fb_nil)
theorem c_Net_is_capacity : CalD (gm P0 w0 K mg base) 2 (atR "staticmethod" "Net" "is_capacity" K) [] F_Net_is_capacity := by
  obtain ⟨oc, od, osl, kV, doc, pm, an, cdv, ct, lk, hcd⟩ := h.says.def_ 10 d_Net_is_capacity
  exact cal_def (ps := ["value"]) lk hcd ⟨rfl, rfl, rfl, by decide +kernel, rfl, by decide +kernel, by decide +kernel⟩ (dbnd_plain (ps := ["value"]) fun us hl => match us, hl with | [_], _ => rfl) (f_Net_is_capacity h)
theorem v_Net_is_capacity : StmOk (gm P0 w0 K mg base) 2 "Net" "is_capacity" F_Net_is_capacity := bStm_ok h.gl_Net h.rd_Net h.st_Net_is_capacity (DefAt.keep (h.says.def_ 10 d_Net_is_capacity)) (c_Net_is_capacity h)
theorem f_check_capacities : FB (gm P0 w0 K mg base) { N := N_check_capacities, sc := defScope s_check_capacities, k := 2 } (defBody s_check_capacities) b_check_capacities := fb_cons (fs_for (fk_enum ⟨rfl, h.fr_enumerate⟩ (fa_cons (fe_var 0) (fa_nil))) (fg_tup (fgs_cons (fg_name 1) (fgs_cons (fg_name 2) (fgs_nil)))) (fb_cons (fs_if (ft_not (ft_val (fe_smeth (v_Net_is_capacity h) ⟨by decide, rfl⟩ (fa_cons (fe_var 2) (fa_nil))))) (fb_cons (fs_raise (x_InvalidNet h) ⟨by decide, rfl⟩ (fa_cons (fe_str) (fa_cons (fe_var 1) (fa_nil)))) (fb_nil)) (fb_nil)) (fb_nil))) (fb_nil)
theorem c_check_capacities : CalD (gm P0 w0 K mg base) 3 (atG "check_capacities" K) [] F_check_capacities := by
  obtain ⟨oc, od, osl, kV, doc, pm, an, cdv, ct, lk, hcd⟩ := h.says.def_ 11 d_check_capacities
  exact cal_def (ps := ["capacities"]) lk hcd ⟨rfl, rfl, rfl, by decide +kernel, rfl, by decide +kernel, by decide +kernel⟩ (dbnd_plain (ps := ["capacities"]) fun us hl => match us, hl with | [_], _ => rfl) (f_check_capacities h)
theorem n_check_capacities : Nam (gm P0 w0 K mg base) 3 "check_capacities" [] F_check_capacities := ⟨⟨_, h.gl_check_capacities, DefAt.keep (h.says.def_ 11 d_check_capacities), c_check_capacities h⟩⟩
theorem f_Ring_init {q : SupC} (SF : SupF P0 K mg q.f q.cda q.cc q.D q.self) (hD : q.D = He.ga K "Ring") (hs : q.self = "self") : FBa (gm P0 w0 K mg base) { N := N_Ring_init, sc := defScope s_Ring_init, k := 3, ow := fun x => x != clsN } q (defBody s_Ring_init) (defBody s_Ring_init) b_Ring_init := by
  obtain ⟨f0, cda, cc, D0, self⟩ := q
  dsimp only at hD hs SF
  subst hD hs
  have hT : ∀ cn F, [(9, F_Net_init)].lookup cn = some F → ∃ f2, SupM K ((gm P0 w0 K mg base).cls cn) (He.ga K "Ring") "__init__" f2 ∧ CalD (gm P0 w0 K mg base) 3 f2 [] F := fun cn F hc => by
    have hm := lookup_mem hc
    simp only [List.mem_cons, List.not_mem_nil, or_false, Prod.mk.injEq] at hm
    rcases hm with ⟨rfl, rfl⟩
    · exact ⟨_, bSupM_ok h.sm_Ring_Ring_init, (c_Net_init h).mono (by decide)⟩
  exact fba_cons (FS.at (fs_asg (fe_blt b_len ⟨rfl, h.fr_len⟩ (fa_cons (fe_var 1) (fa_nil))) (fg_name 2))) (fba_cons (FS.at (fs_if (ft_not (ft_chainO co_le co_le (fe_cst (bCst_ok (h.gl_Ring) h.rd_Ring h.cs_Ring_LEAST_STAGES fun _ _ => .int _)) (fe_var 2) (fe_cst (bCst_ok (h.gl_Net) h.rd_Net h.cs_Net_MOST_STAGES fun _ _ => .int _)))) (fb_cons (fs_raise (x_InvalidNet h) ⟨by decide, rfl⟩ (fa_cons (fe_str) (fa_cons (fe_non) (fa_nil)))) (fb_nil)) (fb_nil))) (fba_cons (FS.at (fs_expr (fe_call (n_check_capacities h) ⟨by decide, rfl⟩ (fa_cons (fe_var 1) (fa_nil))))) (fba_cons (FS.at (fs_setLc (k := 3) (own := [("stage", 4), ("capacity", 5)]) (fk_enum ⟨rfl, h.fr_enumerate⟩ (fa_cons (fe_var 1) (fa_nil))) (fg_tup (fgs_cons (fg_name 4) (fgs_cons (fg_name 5) (fgs_nil)))) (fts_nil) (fe_tup (fa_cons (fe_var 4) (fa_cons (fe_binO bo_mod (fe_binO bo_add (fe_var 4) (fe_int)) (fe_var 2)) (fa_cons (fe_var 5) (fa_nil))))))) (fba_cons (fsa_super (i := 0) (k := 3) SF hT ⟨by decide, rfl⟩ (fa_cons (fe_var 2) (fa_cons (fe_bty b_tuple ⟨rfl, h.fr_tuple⟩ (fa_cons (fe_var 3) (fa_nil))) (fa_nil))) (hcd := by show (("self" : Str) == ("__classdict__" : Str)) = false; decide)) (FB.at fb_nil)))))
theorem c_Ring_init : CalD (gm P0 w0 K mg base) 4 (atM "Ring" "__init__" K) [] F_Ring_init := by
  obtain ⟨oc, od, osl, kV, doc, pm, an, cda, ct, cc, lk, hcd, hcell, hfile⟩ := h.says.sup 12 d_Ring_init "Ring"
  have SF : SupF P0 K mg (atM "Ring" "__init__" K) cda cc (He.ga K "Ring") "self" := ⟨fun l => by have z := lk.symm.trans l; cases z; exact ⟨_, rfl, rfl⟩, by rw [h.file]; exact hfile, hcell, bIsc_ok h.ic_Ring, h.scp, h.fr_super, He.eqO_ok h.third⟩
  exact cal_sup (ps := ["self", "capacities"]) (self := "self") lk hcd ⟨rfl, rfl, rfl, by decide +kernel, rfl, by decide +kernel, by decide +kernel, rfl, by decide +kernel⟩ hcell (dbnd_star (ps := ["self"]) (pv := "capacities") fun us rest hl => match us, rest, hl with | [_], [], _ => rfl | [_], _ :: _, _ => rfl) (f_Ring_init h SF rfl rfl)
theorem m_Ring : Nam (gm P0 w0 K mg base) 5 "Ring" [] C_Ring := ⟨⟨_, h.gl_Ring, (He.mkr_ok h.mk_Ring).kp, cal_cls (g := (gm P0 w0 K mg base)) (c := 9) (He.mkr_ok h.mk_Ring) (c_Ring_init h)⟩⟩
theorem f__law_ring_of_40 : FB (gm P0 w0 K mg base) { N := N__law_ring_of_40, sc := defScope s__law_ring_of_40, k := 5 } (defBody s__law_ring_of_40) b__law_ring_of_40 := fb_cons (fs_ret (fe_call (m_Ring h) ⟨by decide, rfl⟩ (fa_cons (fe_ixO (fe_var 0) (fe_int)) (fa_cons (fe_ixO (fe_var 0) (fe_int)) (fa_cons (fe_ixO (fe_var 0) (fe_int)) (fa_cons (fe_ixO (fe_var 0) (fe_int)) (fa_cons (fe_ixO (fe_var 0) (fe_int)) (fa_cons (fe_ixO (fe_var 0) (fe_int)) (fa_cons (fe_ixO (fe_var 0) (fe_int)) (fa_cons (fe_ixO (fe_var 0) (fe_int)) (fa_cons (fe_ixO (fe_var 0) (fe_int)) (fa_cons (fe_ixO (fe_var 0) (fe_int)) (fa_cons (fe_ixO (fe_var 0) (fe_int)) (fa_cons (fe_ixO (fe_var 0) (fe_int)) (fa_cons (fe_ixO (fe_var 0) (fe_int)) (fa_cons (fe_ixO (fe_var 0) (fe_int)) (fa_cons (fe_ixO (fe_var 0) (fe_int)) (fa_cons (fe_ixO (fe_var 0) (fe_int)) (fa_cons (fe_ixO (fe_var 0) (fe_int)) (fa_cons (fe_ixO (fe_var 0) (fe_int)) (fa_cons (fe_ixO (fe_var 0) (fe_int)) (fa_cons (fe_ixO (fe_var 0) (fe_int)) (fa_cons (fe_ixO (fe_var 0) (fe_int)) (fa_cons (fe_ixO (fe_var 0) (fe_int)) (fa_cons (fe_ixO (fe_var 0) (fe_int)) (fa_cons (fe_ixO (fe_var 0) (fe_int)) (fa_cons (fe_ixO (fe_var 0) (fe_int)) (fa_cons (fe_ixO (fe_var 0) (fe_int)) (fa_cons (fe_ixO (fe_var 0) (fe_int)) (fa_cons (fe_ixO (fe_var 0) (fe_int)) (fa_cons (fe_ixO (fe_var 0) (fe_int)) (fa_cons (fe_ixO (fe_var 0) (fe_int)) (fa_cons (fe_ixO (fe_var 0) (fe_int)) (fa_cons (fe_ixO (fe_var 0) (fe_int)) (fa_cons (fe_ixO (fe_var 0) (fe_int)) (fa_cons (fe_ixO (fe_var 0) (fe_int)) (fa_cons (fe_ixO (fe_var 0) (fe_int)) (fa_cons (fe_ixO (fe_var 0) (fe_int)) (fa_cons (fe_ixO (fe_var 0) (fe_int)) (fa_cons (fe_ixO (fe_var 0) (fe_int)) (fa_cons (fe_ixO (fe_var 0) (fe_int)) (fa_cons (fe_ixO (fe_var 0) (fe_int)) (fa_nil))))))))))))))))))))))))))))))))))))))))))) (fb_nil)
theorem c__law_ring_of_40 : CalD (gm P0 w0 K mg base) 6 (atG "_law_ring_of_40" K) [] F__law_ring_of_40 := by
  obtain ⟨oc, od, osl, kV, doc, pm, an, cdv, ct, lk, hcd⟩ := h.says.def_ 13 d__law_ring_of_40
  exact cal_def (ps := ["_law_c"]) lk hcd ⟨rfl, rfl, rfl, by decide +kernel, rfl, by decide +kernel, by decide +kernel⟩ (dbnd_plain (ps := ["_law_c"]) fun us hl => match us, hl with | [_], _ => rfl) (f__law_ring_of_40 h)
theorem n__law_ring_of_40 : Nam (gm P0 w0 K mg base) 6 "_law_ring_of_40" [] F__law_ring_of_40 := ⟨⟨_, h.gl__law_ring_of_40, DefAt.keep (h.says.def_ 13 d__law_ring_of_40), c__law_ring_of_40 h⟩⟩
theorem f__law_ring_of_41 : FB (gm P0 w0 K mg base) { N := N__law_ring_of_41, sc := defScope s__law_ring_of_41, k := 5 } (defBody s__law_ring_of_41) b__law_ring_of_41 := fb_cons (fs_ret (fe_call (m_Ring h) ⟨by decide, rfl⟩ (fa_cons (fe_ixO (fe_var 0) (fe_int)) (fa_cons (fe_ixO (fe_var 0) (fe_int)) (fa_cons (fe_ixO (fe_var 0) (fe_int)) (fa_cons (fe_ixO (fe_var 0) (fe_int)) (fa_cons (fe_ixO (fe_var 0) (fe_int)) (fa_cons (fe_ixO (fe_var 0) (fe_int)) (fa_cons (fe_ixO (fe_var 0) (fe_int)) (fa_cons (fe_ixO (fe_var 0) (fe_int)) (fa_cons (fe_ixO (fe_var 0) (fe_int)) (fa_cons (fe_ixO (fe_var 0) (fe_int)) (fa_cons (fe_ixO (fe_var 0) (fe_int)) (fa_cons (fe_ixO (fe_var 0) (fe_int)) (fa_cons (fe_ixO (fe_var 0) (fe_int)) (fa_cons (fe_ixO (fe_var 0) (fe_int)) (fa_cons (fe_ixO (fe_var 0) (fe_int)) (fa_cons (fe_ixO (fe_var 0) (fe_int)) (fa_cons (fe_ixO (fe_var 0) (fe_int)) (fa_cons (fe_ixO (fe_var 0) (fe_int)) (fa_cons (fe_ixO (fe_var 0) (fe_int)) (fa_cons (fe_ixO (fe_var 0) (fe_int)) (fa_cons (fe_ixO (fe_var 0) (fe_int)) (fa_cons (fe_ixO (fe_var 0) (fe_int)) (fa_cons (fe_ixO (fe_var 0) (fe_int)) (fa_cons (fe_ixO (fe_var 0) (fe_int)) (fa_cons (fe_ixO (fe_var 0) (fe_int)) (fa_cons (fe_ixO (fe_var 0) (fe_int)) (fa_cons (fe_ixO (fe_var 0) (fe_int)) (fa_cons (fe_ixO (fe_var 0) (fe_int)) (fa_cons (fe_ixO (fe_var 0) (fe_int)) (fa_cons (fe_ixO (fe_var 0) (fe_int)) (fa_cons (fe_ixO (fe_var 0) (fe_int)) (fa_cons (fe_ixO (fe_var 0) (fe_int)) (fa_cons (fe_ixO (fe_var 0) (fe_int)) (fa_cons (fe_ixO (fe_var 0) (fe_int)) (fa_cons (fe_ixO (fe_var 0) (fe_int)) (fa_cons (fe_ixO (fe_var 0) (fe_int)) (fa_cons (fe_ixO (fe_var 0) (fe_int)) (fa_cons (fe_ixO (fe_var 0) (fe_int)) (fa_cons (fe_ixO (fe_var 0) (fe_int)) (fa_cons (fe_ixO (fe_var 0) (fe_int)) (fa_cons (fe_ixO (fe_var 0) (fe_int)) (fa_nil)))))))))))))))))))))))))))))))))))))))))))) (fb_nil)
theorem c__law_ring_of_41 : CalD (gm P0 w0 K mg base) 6 (atG "_law_ring_of_41" K) [] F__law_ring_of_41 := by
  obtain ⟨oc, od, osl, kV, doc, pm, an, cdv, ct, lk, hcd⟩ := h.says.def_ 14 d__law_ring_of_41
  exact cal_def (ps := ["_law_c"]) lk hcd ⟨rfl, rfl, rfl, by decide +kernel, rfl, by decide +kernel, by decide +kernel⟩ (dbnd_plain (ps := ["_law_c"]) fun us hl => match us, hl with | [_], _ => rfl) (f__law_ring_of_41 h)
theorem n__law_ring_of_41 : Nam (gm P0 w0 K mg base) 6 "_law_ring_of_41" [] F__law_ring_of_41 := ⟨⟨_, h.gl__law_ring_of_41, DefAt.keep (h.says.def_ 14 d__law_ring_of_41), c__law_ring_of_41 h⟩⟩
theorem f__law_ring : FB (gm P0 w0 K mg base) { N := N__law_ring, sc := defScope s__law_ring, k := 6 } (defBody s__law_ring) b__law_ring := fb_cons (fs_if (ft_cmpO co_eq (fe_blt b_len ⟨rfl, h.fr_len⟩ (fa_cons (fe_var 0) (fa_nil))) (fe_int)) (fb_cons (fs_ret (fe_call0 (m_Ring h) ⟨by decide, rfl⟩)) (fb_nil)) (fb_nil)) (fb_cons (fs_if (ft_cmpO co_eq (fe_blt b_len ⟨rfl, h.fr_len⟩ (fa_cons (fe_var 0) (fa_nil))) (fe_int)) (fb_cons (fs_ret (fe_call (m_Ring h) ⟨by decide, rfl⟩ (fa_cons (fe_ixO (fe_var 0) (fe_int)) (fa_nil)))) (fb_nil)) (fb_nil)) (fb_cons (fs_if (ft_cmpO co_eq (fe_blt b_len ⟨rfl, h.fr_len⟩ (fa_cons (fe_var 0) (fa_nil))) (fe_int)) (fb_cons (fs_ret (fe_call (m_Ring h) ⟨by decide, rfl⟩ (fa_cons (fe_ixO (fe_var 0) (fe_int)) (fa_cons (fe_ixO (fe_var 0) (fe_int)) (fa_nil))))) (fb_nil)) (fb_nil)) (fb_cons (fs_if (ft_cmpO co_eq (fe_blt b_len ⟨rfl, h.fr_len⟩ (fa_cons (fe_var 0) (fa_nil))) (fe_int)) (fb_cons (fs_ret (fe_call (m_Ring h) ⟨by decide, rfl⟩ (fa_cons (fe_ixO (fe_var 0) (fe_int)) (fa_cons (fe_ixO (fe_var 0) (fe_int)) (fa_cons (fe_ixO (fe_var 0) (fe_int)) (fa_nil)))))) (fb_nil)) (fb_nil)) (fb_cons (fs_if (ft_cmpO co_eq (fe_blt b_len ⟨rfl, h.fr_len⟩ (fa_cons (fe_var 0) (fa_nil))) (fe_int)) (fb_cons (fs_ret (fe_call (m_Ring h) ⟨by decide, rfl⟩ (fa_cons (fe_ixO (fe_var 0) (fe_int)) (fa_cons (fe_ixO (fe_var 0) (fe_int)) (fa_cons (fe_ixO (fe_var 0) (fe_int)) (fa_cons (fe_ixO (fe_var 0) (fe_int)) (fa_nil))))))) (fb_nil)) (fb_nil)) (fb_cons (fs_if (ft_cmpO co_eq (fe_blt b_len ⟨rfl, h.fr_len⟩ (fa_cons (fe_var 0) (fa_nil))) (fe_int)) (fb_cons (fs_ret (fe_call (m_Ring h) ⟨by decide, rfl⟩ (fa_cons (fe_ixO (fe_var 0) (fe_int)) (fa_cons (fe_ixO (fe_var 0) (fe_int)) (fa_cons (fe_ixO (fe_var 0) (fe_int)) (fa_cons (fe_ixO (fe_var 0) (fe_int)) (fa_cons (fe_ixO (fe_var 0) (fe_int)) (fa_nil)))))))) (fb_nil)) (fb_nil)) (fb_cons (fs_if (ft_cmpO co_eq (fe_blt b_len ⟨rfl, h.fr_len⟩ (fa_cons (fe_var 0) (fa_nil))) (fe_int)) (fb_cons (fs_ret (fe_call (m_Ring h) ⟨by decide, rfl⟩ (fa_cons (fe_ixO (fe_var 0) (fe_int)) (fa_cons (fe_ixO (fe_var 0) (fe_int)) (fa_cons (fe_ixO (fe_var 0) (fe_int)) (fa_cons (fe_ixO (fe_var 0) (fe_int)) (fa_cons (fe_ixO (fe_var 0) (fe_int)) (fa_cons (fe_ixO (fe_var 0) (fe_int)) (fa_nil))))))))) (fb_nil)) (fb_nil)) (fb_cons (fs_if (ft_cmpO co_eq (fe_blt b_len ⟨rfl, h.fr_len⟩ (fa_cons (fe_var 0) (fa_nil))) (fe_int)) (fb_cons (fs_ret (fe_call (n__law_ring_of_40 h) ⟨by decide, rfl⟩ (fa_cons (fe_var 0) (fa_nil)))) (fb_nil)) (fb_nil)) (fb_cons (fs_ret (fe_call (n__law_ring_of_41 h) ⟨by decide, rfl⟩ (fa_cons (fe_var 0) (fa_nil)))) (fb_nil)))))))))
theorem c__law_ring : CalD (gm P0 w0 K mg base) 7 (atG "_law_ring" K) [] F__law_ring := by
  obtain ⟨oc, od, osl, kV, doc, pm, an, cdv, ct, lk, hcd⟩ := h.says.def_ 15 d__law_ring
  exact cal_def (ps := ["_law_c"]) lk hcd ⟨rfl, rfl, rfl, by decide +kernel, rfl, by decide +kernel, by decide +kernel⟩ (dbnd_plain (ps := ["_law_c"]) fun us hl => match us, hl with | [_], _ => rfl) (f__law_ring h)
theorem n__law_ring : Nam (gm P0 w0 K mg base) 7 "_law_ring" [] F__law_ring := ⟨⟨_, h.gl__law_ring, DefAt.keep (h.says.def_ 15 d__law_ring), c__law_ring h⟩⟩
theorem f_is_channel : FB (gm P0 w0 K mg base) { N := N_is_channel, sc := defScope s_is_channel, k := 1 } (defBody s_is_channel) b_is_channel := fb_cons (fs_if (FW.ft (fw_or (ft_not (ft_val (fe_blt (b_isi h.kit) ⟨rfl, h.fr_isinstance⟩ (fa_cons (fe_var 0) (fa_cons (fe_ty (n := "tuple") (h.fr_tuple) rfl) (fa_nil)))))) (fw_one (ft_cmpO co_notin (fe_blt b_len ⟨rfl, h.fr_len⟩ (fa_cons (fe_var 0) (fa_nil))) (fe_tup (fa_cons (fe_int) (fa_cons (fe_int) (fa_nil)))))))) (fb_cons (fs_ret (fe_bl)) (fb_nil)) (fb_nil)) (fb_cons (fs_for (fk_seq (fe_slice (fe_var 0) (fo_none) (fo_some (fe_int)))) (fg_name 2) (fb_cons (fs_if (FW.ft (fw_or (ft_not (ft_val (fe_call (n_is_integer h) ⟨by decide, rfl⟩ (fa_cons (fe_var 2) (fa_nil))))) (fw_one (ft_not (ft_chainO co_le co_lt (fe_int) (fe_var 2) (fe_var 1)))))) (fb_cons (fs_ret (fe_bl)) (fb_nil)) (fb_nil)) (fb_nil))) (fb_cons (fs_ret (fe_cmpO co_ne (fe_ixO (fe_var 0) (fe_int)) (fe_ixO (fe_var 0) (fe_int)))) (fb_nil)))
theorem c_is_channel : CalD (gm P0 w0 K mg base) 2 (atG "is_channel" K) [] F_is_channel := by
  obtain ⟨oc, od, osl, kV, doc, pm, an, cdv, ct, lk, hcd⟩ := h.says.def_ 16 d_is_channel
  exact cal_def (ps := ["channel", "stages"]) lk hcd ⟨rfl, rfl, rfl, by decide +kernel, rfl, by decide +kernel, by decide +kernel⟩ (dbnd_plain (ps := ["channel", "stages"]) fun us hl => match us, hl with | [_, _], _ => rfl) (f_is_channel h)
theorem n_is_channel : Nam (gm P0 w0 K mg base) 2 "is_channel" [] F_is_channel := ⟨⟨_, h.gl_is_channel, DefAt.keep (h.says.def_ 16 d_is_channel), c_is_channel h⟩⟩
theorem f_check_channels : FB (gm P0 w0 K mg base) { N := N_check_channels, sc := defScope s_check_channels, k := 2 } (defBody s_check_channels) b_check_channels := fb_cons (fs_asg (fe_newT) (fg_name 2)) (fb_cons (fs_for (fk_enum ⟨rfl, h.fr_enumerate⟩ (fa_cons (fe_var 0) (fa_nil))) (fg_tup (fgs_cons (fg_name 3) (fgs_cons (fg_name 4) (fgs_nil)))) (fb_cons (fs_if (ft_not (ft_val (fe_call (n_is_channel h) ⟨by decide, rfl⟩ (fa_cons (fe_var 4) (fa_cons (fe_var 1) (fa_nil)))))) (fb_cons (fs_raise (x_InvalidNet h) ⟨by decide, rfl⟩ (fa_cons (fe_str) (fa_cons (fe_var 3) (fa_nil)))) (fb_nil)) (fb_nil)) (fb_cons (fs_if (FW.ft (fw_and (ft_cmpO co_eq (fe_blt b_len ⟨rfl, h.fr_len⟩ (fa_cons (fe_var 4) (fa_nil))) (fe_int)) (fw_one (ft_not (ft_val (fe_smeth (v_Net_is_capacity h) ⟨by decide, rfl⟩ (fa_cons (fe_ixO (fe_var 4) (fe_int)) (fa_nil)))))))) (fb_cons (fs_raise (x_InvalidNet h) ⟨by decide, rfl⟩ (fa_cons (fe_str) (fa_cons (fe_var 3) (fa_nil)))) (fb_nil)) (fb_nil)) (fb_cons (fs_if (ft_cmpO co_in (fe_slice (fe_var 4) (fo_none) (fo_some (fe_int))) (fe_var 2)) (fb_cons (fs_raise (x_InvalidNet h) ⟨by decide, rfl⟩ (fa_cons (fe_str) (fa_cons (fe_var 3) (fa_nil)))) (fb_nil)) (fb_nil)) (fb_cons (fs_asg (fe_bl) (fg_sub (fe_var 2) (fe_slice (fe_var 4) (fo_none) (fo_some (fe_int))))) (fb_nil)))))) (fb_nil))
theorem c_check_channels : CalD (gm P0 w0 K mg base) 3 (atG "check_channels" K) [] F_check_channels := by
  obtain ⟨oc, od, osl, kV, doc, pm, an, cdv, ct, lk, hcd⟩ := h.says.def_ 17 d_check_channels
  exact cal_def (ps := ["channels", "stages"]) lk hcd ⟨rfl, rfl, rfl, by decide +kernel, rfl, by decide +kernel, by decide +kernel⟩ (dbnd_plain (ps := ["channels", "stages"]) fun us hl => match us, hl with | [_, _], _ => rfl) (f_check_channels h)
theorem n_check_channels : Nam (gm P0 w0 K mg base) 3 "check_channels" [] F_check_channels := ⟨⟨_, h.gl_check_channels, DefAt.keep (h.says.def_ 17 d_check_channels), c_check_channels h⟩⟩
theorem f_has_circle : FB (gm P0 w0 K mg base) { N := N_has_circle, sc := defScope s_has_circle, k := 0 } (defBody s_has_circle) b_has_circle := fb_cons (fs_asg (fe_binO bo_mul (fe_lst (fa_cons (fe_int) (fa_nil))) (fe_var 1)) (fg_name 2)) (fb_cons (fs_for (fk_seq (fe_var 0)) (fg_name 3) (fb_cons (fs_augS (fun _ => ip_add) (fe_var 2) (fe_ixO (fe_var 3) (fe_int)) (fe_int)) (fb_nil))) (fb_cons (fs_setLc (k := 4) (own := [("stage", 5)]) (fk_rng1 ⟨rfl, h.fr_range⟩ (fa_cons (fe_var 1) (fa_nil))) (fg_name 5) (fts_one (ft_cmpO co_eq (fe_ixO (fe_var 2) (fe_var 5)) (fe_int))) (fe_var 5)) (fb_cons (fs_asg (fe_int) (fg_name 6)) (fb_cons (fs_while (ft_cmpO co_gt (fe_blt b_len ⟨rfl, h.fr_len⟩ (fa_cons (fe_var 4) (fa_nil))) (fe_int)) (fb_cons (fs_asg (fe_mtL0 m_pop (fe_var 4) PySem.F.slot_list_pop PySem.F.type_list_pop) (fg_name 5)) (fb_cons (fs_augN 6 (fun _ => ip_add) (fe_int)) (fb_cons (fs_for (fk_seq (fe_var 0)) (fg_name 3) (fb_cons (fs_if (ft_cmpO co_eq (fe_ixO (fe_var 3) (fe_int)) (fe_var 5)) (fb_cons (fs_augS (fun _ => ip_sub) (fe_var 2) (fe_ixO (fe_var 3) (fe_int)) (fe_int)) (fb_cons (fs_if (ft_cmpO co_eq (fe_ixO (fe_var 2) (fe_ixO (fe_var 3) (fe_int))) (fe_int)) (fb_cons (fs_expr (fe_mtL m_append (fe_var 4) (fa_cons (fe_ixO (fe_var 3) (fe_int)) (fa_nil)) PySem.F.slot_list_append PySem.F.type_list_append)) (fb_nil)) (fb_nil)) (fb_nil))) (fb_nil)) (fb_nil))) (fb_nil))))) (fb_cons (fs_ret (fe_cmpO co_lt (fe_var 6) (fe_var 1))) (fb_nil))))))
theorem c_has_circle : CalD (gm P0 w0 K mg base) 1 (atG "has_circle" K) [] F_has_circle := by
  obtain ⟨oc, od, osl, kV, doc, pm, an, cdv, ct, lk, hcd⟩ := h.says.def_ 18 d_has_circle
  exact cal_def (ps := ["channels", "stages"]) lk hcd ⟨rfl, rfl, rfl, by decide +kernel, rfl, by decide +kernel, by decide +kernel⟩ (dbnd_plain (ps := ["channels", "stages"]) fun us hl => match us, hl with | [_, _], _ => rfl) (f_has_circle h)
theorem n_has_circle : Nam (gm P0 w0 K mg base) 1 "has_circle" [] F_has_circle := ⟨⟨_, h.gl_has_circle, DefAt.keep (h.says.def_ 18 d_has_circle), c_has_circle h⟩⟩
theorem f_Pipeline_init {q : SupC} (SF : SupF P0 K mg q.f q.cda q.cc q.D q.self) (hD : q.D = He.ga K "Pipeline") (hs : q.self = "self") : FBa (gm P0 w0 K mg base) { N := N_Pipeline_init, sc := defScope s_Pipeline_init, k := 3, ow := fun x => x != clsN } q (defBody s_Pipeline_init) (defBody s_Pipeline_init) b_Pipeline_init := by
  obtain ⟨f0, cda, cc, D0, self⟩ := q
  dsimp only at hD hs SF
  subst hD hs
  have hT : ∀ cn F, [(8, F_Net_init)].lookup cn = some F → ∃ f2, SupM K ((gm P0 w0 K mg base).cls cn) (He.ga K "Pipeline") "__init__" f2 ∧ CalD (gm P0 w0 K mg base) 3 f2 [] F := fun cn F hc => by
    have hm := lookup_mem hc
    simp only [List.mem_cons, List.not_mem_nil, or_false, Prod.mk.injEq] at hm
    rcases hm with ⟨rfl, rfl⟩
    · exact ⟨_, bSupM_ok h.sm_Pipeline_Pipeline_init, (c_Net_init h).mono (by decide)⟩
  exact fba_cons (FS.at (fs_if (FW.ft (fw_or (ft_not (ft_val (fe_call (n_is_integer h) ⟨by decide, rfl⟩ (fa_cons (fe_var 1) (fa_nil))))) (fw_one (ft_not (ft_chainO co_le co_le (fe_int) (fe_var 1) (fe_cst (bCst_ok (h.gl_Net) h.rd_Net h.cs_Net_MOST_STAGES fun _ _ => .int _))))))) (fb_cons (fs_raise (x_InvalidNet h) ⟨by decide, rfl⟩ (fa_cons (fe_str) (fa_cons (fe_non) (fa_nil)))) (fb_nil)) (fb_nil))) (fba_cons (FS.at (fs_if (ft_cmpO co_gt (fe_blt b_len ⟨rfl, h.fr_len⟩ (fa_cons (fe_var 3) (fa_nil))) (fe_cst (bCst_ok (h.gl_Net) h.rd_Net h.cs_Net_MOST_CHANNELS fun _ _ => .int _))) (fb_cons (fs_raise (x_InvalidNet h) ⟨by decide, rfl⟩ (fa_cons (fe_str) (fa_cons (fe_non) (fa_nil)))) (fb_nil)) (fb_nil))) (fba_cons (FS.at (fs_expr (fe_call (n_check_channels h) ⟨by decide, rfl⟩ (fa_cons (fe_var 3) (fa_cons (fe_var 1) (fa_nil)))))) (fba_cons (FS.at (fs_if (ft_not (ft_val (fe_smeth (v_Net_is_capacity h) ⟨by decide, rfl⟩ (fa_cons (fe_var 2) (fa_nil))))) (fb_cons (fs_raise (x_InvalidNet h) ⟨by decide, rfl⟩ (fa_cons (fe_str) (fa_cons (fe_non) (fa_nil)))) (fb_nil)) (fb_nil))) (fba_cons (FS.at (fs_if (ft_val (fe_call (n_has_circle h) ⟨by decide, rfl⟩ (fa_cons (fe_var 3) (fa_cons (fe_var 1) (fa_nil))))) (fb_cons (fs_raise (x_InvalidNet h) ⟨by decide, rfl⟩ (fa_cons (fe_str) (fa_cons (fe_non) (fa_nil)))) (fb_nil)) (fb_nil))) (fba_cons (FS.at (fs_setLc (k := 4) (own := [("channel", 5)]) (fk_seq (fe_var 3)) (fg_name 5) (fts_nil) (fe_if (ft_cmpO co_eq (fe_blt b_len ⟨rfl, h.fr_len⟩ (fa_cons (fe_var 5) (fa_nil))) (fe_int)) (fe_var 5) (fe_tup (fa_cons (fe_ixO (fe_var 5) (fe_int)) (fa_cons (fe_ixO (fe_var 5) (fe_int)) (fa_cons (fe_var 2) (fa_nil)))))))) (fba_cons (fsa_super (i := 0) (k := 3) SF hT ⟨by decide, rfl⟩ (fa_cons (fe_var 1) (fa_cons (fe_bty b_tuple ⟨rfl, h.fr_tuple⟩ (fa_cons (fe_blt b_sorted' ⟨rfl, h.fr_sorted⟩ (fa_cons (fe_var 4) (fa_nil))) (fa_nil))) (fa_nil))) (hcd := by show (("self" : Str) == ("__classdict__" : Str)) = false; decide)) (FB.at fb_nil)))))))
theorem c_Pipeline_init : CalD (gm P0 w0 K mg base) 4 (atM "Pipeline" "__init__" K) [] F_Pipeline_init := by
  obtain ⟨oc, od, osl, kV, doc, pm, an, cda, ct, cc, lk, hcd, hcell, hfile⟩ := h.says.sup 19 d_Pipeline_init "Pipeline"
  have SF : SupF P0 K mg (atM "Pipeline" "__init__" K) cda cc (He.ga K "Pipeline") "self" := ⟨fun l => by have z := lk.symm.trans l; cases z; exact ⟨_, rfl, rfl⟩, by rw [h.file]; exact hfile, hcell, bIsc_ok h.ic_Pipeline, h.scp, h.fr_super, He.eqO_ok h.third⟩
  obtain ⟨Dk, u, ek, hn, hu⟩ := bKwd_ok h.kw_Pipeline_init lk
  have ek' : kV = .ref Dk := ek
  subst ek'
  exact cal_sup (ps := ["self", "stages", "capacity", "channels"]) (self := "self") lk hcd ⟨rfl, rfl, rfl, by decide +kernel, rfl, by decide +kernel, by decide +kernel, rfl, by decide +kernel⟩ hcell (dbnd_starK (ps := ["self", "stages"]) (pv := "channels") (kw := "capacity") (kv := .int 1) (kd := .int 1) hn hu (fun _ _ => .int _) fun us rest hl => match us, rest, hl with | [_, _], [], _ => ⟨_, _, _, _, _, _, rfl, rfl, rfl⟩ | [_, _], _ :: _, _ => ⟨_, _, _, _, _, _, rfl, rfl, rfl⟩) (f_Pipeline_init h SF rfl rfl)
theorem m_Pipeline : Nam (gm P0 w0 K mg base) 5 "Pipeline" [] C_Pipeline := ⟨⟨_, h.gl_Pipeline, (He.mkr_ok h.mk_Pipeline).kp, cal_cls (g := (gm P0 w0 K mg base)) (c := 8) (He.mkr_ok h.mk_Pipeline) (c_Pipeline_init h)⟩⟩
theorem f_Pipeline_row : FB (gm P0 w0 K mg base) { N := N_Pipeline_row, sc := defScope s_Pipeline_row, k := 5 } (defBody s_Pipeline_row) b_Pipeline_row := fb_cons (fs_if (ft_cmpO co_ge (fe_blt b_len ⟨rfl, h.fr_len⟩ (fa_cons (fe_var 1) (fa_nil))) (fe_cstV (i := 0) (bCst_ok (h.gl_Pipeline) h.rd_Pipeline h.cs_Pipeline_MOST_STAGES fun _ _ => .int _))) (fb_cons (fs_raise (x_InvalidNet h) ⟨by decide, rfl⟩ (fa_cons (fe_str) (fa_cons (fe_non) (fa_nil)))) (fb_nil)) (fb_nil)) (fb_cons (fs_expr (fe_call (n_check_capacities h) ⟨by decide, rfl⟩ (fa_cons (fe_var 1) (fa_nil)))) (fb_cons (fs_setLc (k := 2) (own := [("stage", 3), ("capacity", 4)]) (fk_enum ⟨rfl, h.fr_enumerate⟩ (fa_cons (fe_var 1) (fa_nil))) (fg_tup (fgs_cons (fg_name 3) (fgs_cons (fg_name 4) (fgs_nil)))) (fts_nil) (fe_tup (fa_cons (fe_var 3) (fa_cons (fe_binO bo_add (fe_var 3) (fe_int)) (fa_cons (fe_var 4) (fa_nil)))))) (fb_cons (fs_ret (fe_callVS (i := 0) (m_Pipeline h) ⟨by decide, rfl⟩ (fa_cons (fe_binO bo_add (fe_blt b_len ⟨rfl, h.fr_len⟩ (fa_cons (fe_var 1) (fa_nil))) (fe_int)) (fa_star (fe_var 2) (fa_nil))))) (fb_nil))))
theorem c_Pipeline_row : CalD (gm P0 w0 K mg base) 6 (atR "classmethod" "Pipeline" "row" K) [] F_Pipeline_row := by
  obtain ⟨oc, od, osl, kV, doc, pm, an, cdv, ct, lk, hcd⟩ := h.says.def_ 20 d_Pipeline_row
  exact cal_def (ps := ["cls", "capacities"]) lk hcd ⟨rfl, rfl, rfl, by decide +kernel, rfl, by decide +kernel, by decide +kernel⟩ (dbnd_star (ps := ["cls"]) (pv := "capacities") fun us rest hl => match us, rest, hl with | [_], [], _ => rfl | [_], _ :: _, _ => rfl) (f_Pipeline_row h)
theorem w_Pipeline_row : CmtOk (gm P0 w0 K mg base) 6 "Pipeline" "row" F_Pipeline_row := bCmt_ok h.gl_Pipeline h.rd_Pipeline h.cm_Pipeline_row (c_Pipeline_row h)
theorem f__law_row_of_39 : FB (gm P0 w0 K mg base) { N := N__law_row_of_39, sc := defScope s__law_row_of_39, k := 6 } (defBody s__law_row_of_39) b__law_row_of_39 := fb_cons (fs_ret (fe_cmethW (w_Pipeline_row h) ⟨by decide, rfl⟩ (fa_cons (fe_ixO (fe_var 0) (fe_int)) (fa_cons (fe_ixO (fe_var 0) (fe_int)) (fa_cons (fe_ixO (fe_var 0) (fe_int)) (fa_cons (fe_ixO (fe_var 0) (fe_int)) (fa_cons (fe_ixO (fe_var 0) (fe_int)) (fa_cons (fe_ixO (fe_var 0) (fe_int)) (fa_cons (fe_ixO (fe_var 0) (fe_int)) (fa_cons (fe_ixO (fe_var 0) (fe_int)) (fa_cons (fe_ixO (fe_var 0) (fe_int)) (fa_cons (fe_ixO (fe_var 0) (fe_int)) (fa_cons (fe_ixO (fe_var 0) (fe_int)) (fa_cons (fe_ixO (fe_var 0) (fe_int)) (fa_cons (fe_ixO (fe_var 0) (fe_int)) (fa_cons (fe_ixO (fe_var 0) (fe_int)) (fa_cons (fe_ixO (fe_var 0) (fe_int)) (fa_cons (fe_ixO (fe_var 0) (fe_int)) (fa_cons (fe_ixO (fe_var 0) (fe_int)) (fa_cons (fe_ixO (fe_var 0) (fe_int)) (fa_cons (fe_ixO (fe_var 0) (fe_int)) (fa_cons (fe_ixO (fe_var 0) (fe_int)) (fa_cons (fe_ixO (fe_var 0) (fe_int)) (fa_cons (fe_ixO (fe_var 0) (fe_int)) (fa_cons (fe_ixO (fe_var 0) (fe_int)) (fa_cons (fe_ixO (fe_var 0) (fe_int)) (fa_cons (fe_ixO (fe_var 0) (fe_int)) (fa_cons (fe_ixO (fe_var 0) (fe_int)) (fa_cons (fe_ixO (fe_var 0) (fe_int)) (fa_cons (fe_ixO (fe_var 0) (fe_int)) (fa_cons (fe_ixO (fe_var 0) (fe_int)) (fa_cons (fe_ixO (fe_var 0) (fe_int)) (fa_cons (fe_ixO (fe_var 0) (fe_int)) (fa_cons (fe_ixO (fe_var 0) (fe_int)) (fa_cons (fe_ixO (fe_var 0) (fe_int)) (fa_cons (fe_ixO (fe_var 0) (fe_int)) (fa_cons (fe_ixO (fe_var 0) (fe_int)) (fa_cons (fe_ixO (fe_var 0) (fe_int)) (fa_cons (fe_ixO (fe_var 0) (fe_int)) (fa_cons (fe_ixO (fe_var 0) (fe_int)) (fa_cons (fe_ixO (fe_var 0) (fe_int)) (fa_nil)))))))))))))))))))))))))))))))))))))))))) (fb_nil)
theorem c__law_row_of_39 : CalD (gm P0 w0 K mg base) 7 (atG "_law_row_of_39" K) [] F__law_row_of_39 := by
  obtain ⟨oc, od, osl, kV, doc, pm, an, cdv, ct, lk, hcd⟩ := h.says.def_ 21 d__law_row_of_39
  exact cal_def (ps := ["_law_c"]) lk hcd ⟨rfl, rfl, rfl, by decide +kernel, rfl, by decide +kernel, by decide +kernel⟩ (dbnd_plain (ps := ["_law_c"]) fun us hl => match us, hl with | [_], _ => rfl) (f__law_row_of_39 h)
theorem n__law_row_of_39 : Nam (gm P0 w0 K mg base) 7 "_law_row_of_39" [] F__law_row_of_39 := ⟨⟨_, h.gl__law_row_of_39, DefAt.keep (h.says.def_ 21 d__law_row_of_39), c__law_row_of_39 h⟩⟩
theorem f__law_row_of_40 : FB (gm P0 w0 K mg base) { N := N__law_row_of_40, sc := defScope s__law_row_of_40, k := 6 } (defBody s__law_row_of_40) b__law_row_of_40 := fb_cons (fs_ret (fe_cmethW (w_Pipeline_row h) ⟨by decide, rfl⟩ (fa_cons (fe_ixO (fe_var 0) (fe_int)) (fa_cons (fe_ixO (fe_var 0) (fe_int)) (fa_cons (fe_ixO (fe_var 0) (fe_int)) (fa_cons (fe_ixO (fe_var 0) (fe_int)) (fa_cons (fe_ixO (fe_var 0) (fe_int)) (fa_cons (fe_ixO (fe_var 0) (fe_int)) (fa_cons (fe_ixO (fe_var 0) (fe_int)) (fa_cons (fe_ixO (fe_var 0) (fe_int)) (fa_cons (fe_ixO (fe_var 0) (fe_int)) (fa_cons (fe_ixO (fe_var 0) (fe_int)) (fa_cons (fe_ixO (fe_var 0) (fe_int)) (fa_cons (fe_ixO (fe_var 0) (fe_int)) (fa_cons (fe_ixO (fe_var 0) (fe_int)) (fa_cons (fe_ixO (fe_var 0) (fe_int)) (fa_cons (fe_ixO (fe_var 0) (fe_int)) (fa_cons (fe_ixO (fe_var 0) (fe_int)) (fa_cons (fe_ixO (fe_var 0) (fe_int)) (fa_cons (fe_ixO (fe_var 0) (fe_int)) (fa_cons (fe_ixO (fe_var 0) (fe_int)) (fa_cons (fe_ixO (fe_var 0) (fe_int)) (fa_cons (fe_ixO (fe_var 0) (fe_int)) (fa_cons (fe_ixO (fe_var 0) (fe_int)) (fa_cons (fe_ixO (fe_var 0) (fe_int)) (fa_cons (fe_ixO (fe_var 0) (fe_int)) (fa_cons (fe_ixO (fe_var 0) (fe_int)) (fa_cons (fe_ixO (fe_var 0) (fe_int)) (fa_cons (fe_ixO (fe_var 0) (fe_int)) (fa_cons (fe_ixO (fe_var 0) (fe_int)) (fa_cons (fe_ixO (fe_var 0) (fe_int)) (fa_cons (fe_ixO (fe_var 0) (fe_int)) (fa_cons (fe_ixO (fe_var 0) (fe_int)) (fa_cons (fe_ixO (fe_var 0) (fe_int)) (fa_cons (fe_ixO (fe_var 0) (fe_int)) (fa_cons (fe_ixO (fe_var 0) (fe_int)) (fa_cons (fe_ixO (fe_var 0) (fe_int)) (fa_cons (fe_ixO (fe_var 0) (fe_int)) (fa_cons (fe_ixO (fe_var 0) (fe_int)) (fa_cons (fe_ixO (fe_var 0) (fe_int)) (fa_cons (fe_ixO (fe_var 0) (fe_int)) (fa_cons (fe_ixO (fe_var 0) (fe_int)) (fa_nil))))))))))))))))))))))))))))))))))))))))))) (fb_nil)
theorem c__law_row_of_40 : CalD (gm P0 w0 K mg base) 7 (atG "_law_row_of_40" K) [] F__law_row_of_40 := by
  obtain ⟨oc, od, osl, kV, doc, pm, an, cdv, ct, lk, hcd⟩ := h.says.def_ 22 d__law_row_of_40
  exact cal_def (ps := ["_law_c"]) lk hcd ⟨rfl, rfl, rfl, by decide +kernel, rfl, by decide +kernel, by decide +kernel⟩ (dbnd_plain (ps := ["_law_c"]) fun us hl => match us, hl with | [_], _ => rfl) (f__law_row_of_40 h)
theorem n__law_row_of_40 : Nam (gm P0 w0 K mg base) 7 "_law_row_of_40" [] F__law_row_of_40 := ⟨⟨_, h.gl__law_row_of_40, DefAt.keep (h.says.def_ 22 d__law_row_of_40), c__law_row_of_40 h⟩⟩
theorem f__law_row : FB (gm P0 w0 K mg base) { N := N__law_row, sc := defScope s__law_row, k := 7 } (defBody s__law_row) b__law_row := fb_cons (fs_if (ft_cmpO co_eq (fe_blt b_len ⟨rfl, h.fr_len⟩ (fa_cons (fe_var 0) (fa_nil))) (fe_int)) (fb_cons (fs_ret (fe_cmeth0 (w_Pipeline_row h) ⟨by decide, rfl⟩)) (fb_nil)) (fb_nil)) (fb_cons (fs_if (ft_cmpO co_eq (fe_blt b_len ⟨rfl, h.fr_len⟩ (fa_cons (fe_var 0) (fa_nil))) (fe_int)) (fb_cons (fs_ret (fe_cmeth (w_Pipeline_row h) ⟨by decide, rfl⟩ (fa_cons (fe_ixO (fe_var 0) (fe_int)) (fa_nil)))) (fb_nil)) (fb_nil)) (fb_cons (fs_if (ft_cmpO co_eq (fe_blt b_len ⟨rfl, h.fr_len⟩ (fa_cons (fe_var 0) (fa_nil))) (fe_int)) (fb_cons (fs_ret (fe_cmeth (w_Pipeline_row h) ⟨by decide, rfl⟩ (fa_cons (fe_ixO (fe_var 0) (fe_int)) (fa_cons (fe_ixO (fe_var 0) (fe_int)) (fa_nil))))) (fb_nil)) (fb_nil)) (fb_cons (fs_if (ft_cmpO co_eq (fe_blt b_len ⟨rfl, h.fr_len⟩ (fa_cons (fe_var 0) (fa_nil))) (fe_int)) (fb_cons (fs_ret (fe_cmeth (w_Pipeline_row h) ⟨by decide, rfl⟩ (fa_cons (fe_ixO (fe_var 0) (fe_int)) (fa_cons (fe_ixO (fe_var 0) (fe_int)) (fa_cons (fe_ixO (fe_var 0) (fe_int)) (fa_nil)))))) (fb_nil)) (fb_nil)) (fb_cons (fs_if (ft_cmpO co_eq (fe_blt b_len ⟨rfl, h.fr_len⟩ (fa_cons (fe_var 0) (fa_nil))) (fe_int)) (fb_cons (fs_ret (fe_cmeth (w_Pipeline_row h) ⟨by decide, rfl⟩ (fa_cons (fe_ixO (fe_var 0) (fe_int)) (fa_cons (fe_ixO (fe_var 0) (fe_int)) (fa_cons (fe_ixO (fe_var 0) (fe_int)) (fa_cons (fe_ixO (fe_var 0) (fe_int)) (fa_nil))))))) (fb_nil)) (fb_nil)) (fb_cons (fs_if (ft_cmpO co_eq (fe_blt b_len ⟨rfl, h.fr_len⟩ (fa_cons (fe_var 0) (fa_nil))) (fe_int)) (fb_cons (fs_ret (fe_cmeth (w_Pipeline_row h) ⟨by decide, rfl⟩ (fa_cons (fe_ixO (fe_var 0) (fe_int)) (fa_cons (fe_ixO (fe_var 0) (fe_int)) (fa_cons (fe_ixO (fe_var 0) (fe_int)) (fa_cons (fe_ixO (fe_var 0) (fe_int)) (fa_cons (fe_ixO (fe_var 0) (fe_int)) (fa_nil)))))))) (fb_nil)) (fb_nil)) (fb_cons (fs_if (ft_cmpO co_eq (fe_blt b_len ⟨rfl, h.fr_len⟩ (fa_cons (fe_var 0) (fa_nil))) (fe_int)) (fb_cons (fs_ret (fe_cmeth (w_Pipeline_row h) ⟨by decide, rfl⟩ (fa_cons (fe_ixO (fe_var 0) (fe_int)) (fa_cons (fe_ixO (fe_var 0) (fe_int)) (fa_cons (fe_ixO (fe_var 0) (fe_int)) (fa_cons (fe_ixO (fe_var 0) (fe_int)) (fa_cons (fe_ixO (fe_var 0) (fe_int)) (fa_cons (fe_ixO (fe_var 0) (fe_int)) (fa_nil))))))))) (fb_nil)) (fb_nil)) (fb_cons (fs_if (ft_cmpO co_eq (fe_blt b_len ⟨rfl, h.fr_len⟩ (fa_cons (fe_var 0) (fa_nil))) (fe_int)) (fb_cons (fs_ret (fe_call (n__law_row_of_39 h) ⟨by decide, rfl⟩ (fa_cons (fe_var 0) (fa_nil)))) (fb_nil)) (fb_nil)) (fb_cons (fs_ret (fe_call (n__law_row_of_40 h) ⟨by decide, rfl⟩ (fa_cons (fe_var 0) (fa_nil)))) (fb_nil)))))))))
theorem c__law_row : CalD (gm P0 w0 K mg base) 8 (atG "_law_row" K) [] F__law_row := by
  obtain ⟨oc, od, osl, kV, doc, pm, an, cdv, ct, lk, hcd⟩ := h.says.def_ 23 d__law_row
  exact cal_def (ps := ["_law_c"]) lk hcd ⟨rfl, rfl, rfl, by decide +kernel, rfl, by decide +kernel, by decide +kernel⟩ (dbnd_plain (ps := ["_law_c"]) fun us hl => match us, hl with | [_], _ => rfl) (f__law_row h)
theorem n__law_row : Nam (gm P0 w0 K mg base) 8 "_law_row" [] F__law_row := ⟨⟨_, h.gl__law_row, DefAt.keep (h.says.def_ 23 d__law_row), c__law_row h⟩⟩
theorem f__law_links : FB (gm P0 w0 K mg base) { N := N__law_links, sc := defScope s__law_links, k := 0 } (defBody s__law_links) b__law_links := fb_cons (fs_asg (fe_if (ft_val (fe_var 1)) (fe_blt b_len ⟨rfl, h.fr_len⟩ (fa_cons (fe_var 0) (fa_nil))) (fe_binO bo_add (fe_blt b_len ⟨rfl, h.fr_len⟩ (fa_cons (fe_var 0) (fa_nil))) (fe_int))) (fg_name 2)) (fb_cons (fs_ret (fe_lc (own := [("_law_k", 3)]) (fk_rng1 ⟨rfl, h.fr_range⟩ (fa_cons (fe_blt b_len ⟨rfl, h.fr_len⟩ (fa_cons (fe_var 0) (fa_nil))) (fa_nil))) (fg_name 3) (fts_nil) (fe_tup (fa_cons (fe_var 3) (fa_cons (fe_binO bo_mod (fe_bty b_int ⟨rfl, h.fr_int⟩ (fa_cons (fe_binO bo_add (fe_var 3) (fe_int)) (fa_nil))) (fe_var 2)) (fa_cons (fe_ixO (fe_var 0) (fe_var 3)) (fa_nil))))))) (fb_nil))
theorem c__law_links : CalD (gm P0 w0 K mg base) 1 (atG "_law_links" K) [] F__law_links := by
  obtain ⟨oc, od, osl, kV, doc, pm, an, cdv, ct, lk, hcd⟩ := h.says.def_ 24 d__law_links
  exact cal_def (ps := ["_law_sizes", "_law_ring_here"]) lk hcd ⟨rfl, rfl, rfl, by decide +kernel, rfl, by decide +kernel, by decide +kernel⟩ (dbnd_plain (ps := ["_law_sizes", "_law_ring_here"]) fun us hl => match us, hl with | [_, _], _ => rfl) (f__law_links h)
theorem n__law_links : Nam (gm P0 w0 K mg base) 1 "_law_links" [] F__law_links := ⟨⟨_, h.gl__law_links, DefAt.keep (h.says.def_ 24 d__law_links), c__law_links h⟩⟩
theorem f__law_same_rows : FB (gm P0 w0 K mg base) { N := N__law_same_rows, sc := defScope s__law_same_rows, k := 2 } (defBody s__law_same_rows) b__law_same_rows := fb_cons (fs_if (FW.ft (fw_or (ft_not (ft_val (fe_blt (b_isi h.kit) ⟨rfl, h.fr_isinstance⟩ (fa_cons (fe_var 0) (fa_cons (fe_ty (n := "tuple") (h.fr_tuple) rfl) (fa_nil)))))) (fw_one (ft_cmpO co_ne (fe_blt b_len ⟨rfl, h.fr_len⟩ (fa_cons (fe_var 0) (fa_nil))) (fe_blt b_len ⟨rfl, h.fr_len⟩ (fa_cons (fe_var 1) (fa_nil))))))) (fb_cons (fs_ret (fe_bl)) (fb_nil)) (fb_nil)) (fb_cons (fs_for (fk_rng1 ⟨rfl, h.fr_range⟩ (fa_cons (fe_blt b_len ⟨rfl, h.fr_len⟩ (fa_cons (fe_var 1) (fa_nil))) (fa_nil))) (fg_name 2) (fb_cons (fs_if (ft_not (ft_val (fe_call (n__law_same_row h) ⟨by decide, rfl⟩ (fa_cons (fe_ixO (fe_var 0) (fe_var 2)) (fa_cons (fe_ixO (fe_var 1) (fe_var 2)) (fa_nil)))))) (fb_cons (fs_ret (fe_bl)) (fb_nil)) (fb_nil)) (fb_nil))) (fb_cons (fs_ret (fe_bl)) (fb_nil)))
theorem c__law_same_rows : CalD (gm P0 w0 K mg base) 3 (atG "_law_same_rows" K) [] F__law_same_rows := by
  obtain ⟨oc, od, osl, kV, doc, pm, an, cdv, ct, lk, hcd⟩ := h.says.def_ 25 d__law_same_rows
  exact cal_def (ps := ["_law_told", "_law_due"]) lk hcd ⟨rfl, rfl, rfl, by decide +kernel, rfl, by decide +kernel, by decide +kernel⟩ (dbnd_plain (ps := ["_law_told", "_law_due"]) fun us hl => match us, hl with | [_, _], _ => rfl) (f__law_same_rows h)
theorem n__law_same_rows : Nam (gm P0 w0 K mg base) 3 "_law_same_rows" [] F__law_same_rows := ⟨⟨_, h.gl__law_same_rows, DefAt.keep (h.says.def_ 25 d__law_same_rows), c__law_same_rows h⟩⟩
theorem f_Pipeline_is_ring : FB (gm P0 w0 K mg base) { N := N_Pipeline_is_ring, sc := defScope s_Pipeline_is_ring, k := 0 } (defBody s_Pipeline_is_ring) b_Pipeline_is_ring := fb_cons (fs_ret (fe_bl)) (fb_nil)
theorem c_Pipeline_is_ring : CalD (gm P0 w0 K mg base) 1 (atM "Pipeline" "is_ring" K) [] F_Pipeline_is_ring := by
  obtain ⟨oc, od, osl, kV, doc, pm, an, cdv, ct, lk, hcd⟩ := h.says.def_ 26 d_Pipeline_is_ring
  exact cal_def (ps := ["self"]) lk hcd ⟨rfl, rfl, rfl, by decide +kernel, rfl, by decide +kernel, by decide +kernel⟩ (dbnd_plain (ps := ["self"]) fun us hl => match us, hl with | [_], _ => rfl) (f_Pipeline_is_ring h)
theorem f_Ring_is_ring : FB (gm P0 w0 K mg base) { N := N_Ring_is_ring, sc := defScope s_Ring_is_ring, k := 0 } (defBody s_Ring_is_ring) b_Ring_is_ring := fb_cons (fs_ret (fe_bl)) (fb_nil)
theorem c_Ring_is_ring : CalD (gm P0 w0 K mg base) 1 (atM "Ring" "is_ring" K) [] F_Ring_is_ring := by
  obtain ⟨oc, od, osl, kV, doc, pm, an, cdv, ct, lk, hcd⟩ := h.says.def_ 27 d_Ring_is_ring
  exact cal_def (ps := ["self"]) lk hcd ⟨rfl, rfl, rfl, by decide +kernel, rfl, by decide +kernel, by decide +kernel⟩ (dbnd_plain (ps := ["self"]) fun us hl => match us, hl with | [_], _ => rfl) (f_Ring_is_ring h)
theorem t_is_ring : MthOk (gm P0 w0 K mg base) 1 "is_ring" [] T_is_ring := ⟨(show ∀ j, j < 50 → fldL.getD j "" ≠ "is_ring" from by decide +kernel), fun c F hc => by
  have hm := lookup_mem hc
  simp only [T_is_ring, List.mem_cons, List.not_mem_nil, or_false, Prod.mk.injEq] at hm
  rcases hm with ⟨rfl, rfl⟩ | ⟨rfl, rfl⟩
  · exact ⟨He.cls_ok h.cl_Pipeline, _, He.meth_ok h.me_Pipeline_is_ring, (c_Pipeline_is_ring h).mono (by decide)⟩
  · exact ⟨He.cls_ok h.cl_Ring, _, He.meth_ok h.me_Ring_is_ring, (c_Ring_is_ring h).mono (by decide)⟩⟩
theorem f_Net_slots : FB (gm P0 w0 K mg base) { N := N_Net_slots, sc := defScope s_Net_slots, k := 0 } (defBody s_Net_slots) b_Net_slots := fb_cons (fs_ret (fe_blt b_sum ⟨rfl, h.fr_sum⟩ (fa_cons (fe_lc (own := [("channel", 1)]) (fk_seq (fe_fld h.fl_channels (fe_var 0))) (fg_name 1) (fts_nil) (fe_ixO (fe_var 1) (fe_int))) (fa_nil)))) (fb_nil)
theorem rT_slots : PrpOkT (gm P0 w0 K mg base) 1 "slots" Tp_slots := ⟨fun cn F hc => by
  obtain ⟨oc, od, osl, kV, doc, pm, an, cdv, ct, lk, hcd⟩ := h.says.def_ 28 d_Net_slots
  have F0 : Fun K "slots" "Net.slots" s_Net_slots ((atR "property" "Net" "slots") K) _ := fun_mk (st := s_Net_slots) lk hcd (DefAt.keep (h.says.def_ 28 d_Net_slots))
  have hm := lookup_mem hc
  simp only [Tp_slots, List.mem_cons, List.not_mem_nil, or_false, Prod.mk.injEq] at hm
  rcases hm with ⟨rfl, rfl⟩ | ⟨rfl, rfl⟩
  · have e : atR "property" "Pipeline" "slots" K = atR "property" "Net" "slots" K := by unfold atR; rw [of_decide_eq_true h.sa_Pipeline_slots]
    exact ⟨He.cls_ok h.cl_Pipeline, _, _, _, (show PropOf K (He.ga K "Pipeline") "slots" _ (atR "property" "Net" "slots" K) from e ▸ bPrp_ok h.pr_Pipeline_slots), fn_def (g := (gm P0 w0 K mg base)) F0 ⟨rfl, rfl, rfl, by decide +kernel, rfl, by decide +kernel, by decide +kernel⟩ (f_Net_slots h), .all fun us hl => match us, hl with | [_], _ => rfl⟩
  · have e : atR "property" "Ring" "slots" K = atR "property" "Net" "slots" K := by unfold atR; rw [of_decide_eq_true h.sa_Ring_slots]
    exact ⟨He.cls_ok h.cl_Ring, _, _, _, (show PropOf K (He.ga K "Ring") "slots" _ (atR "property" "Net" "slots" K) from e ▸ bPrp_ok h.pr_Ring_slots), fn_def (g := (gm P0 w0 K mg base)) F0 ⟨rfl, rfl, rfl, by decide +kernel, rfl, by decide +kernel, by decide +kernel⟩ (f_Net_slots h), .all fun us hl => match us, hl with | [_], _ => rfl⟩⟩
theorem f_Net_summary : FB (gm P0 w0 K mg base) { N := N_Net_summary, sc := defScope s_Net_summary, k := 2 } (defBody s_Net_summary) b_Net_summary := fb_cons (fs_ret (fe_join (FJ.cons (fe_fmt (fe_fld h.fl_stages (fe_var 0))) (FJ.cons (fe_str) (FJ.cons (fe_fmt (fe_blt b_len ⟨rfl, h.fr_len⟩ (fa_cons (fe_fld h.fl_channels (fe_var 0)) (fa_nil)))) (FJ.cons (fe_str) (FJ.cons (fe_fmt (fe_propT (rT_slots h) ⟨by decide, rfl⟩ (fe_var 0))) (FJ.cons (fe_str) (FJ.nil))))))))) (fb_nil)
theorem c_Net_summary : CalD (gm P0 w0 K mg base) 3 (atM "Net" "summary" K) [] F_Net_summary := by
  obtain ⟨oc, od, osl, kV, doc, pm, an, cdv, ct, lk, hcd⟩ := h.says.def_ 29 d_Net_summary
  exact cal_def (ps := ["self"]) lk hcd ⟨rfl, rfl, rfl, by decide +kernel, rfl, by decide +kernel, by decide +kernel⟩ (dbnd_plain (ps := ["self"]) fun us hl => match us, hl with | [_], _ => rfl) (f_Net_summary h)
theorem f_Pipeline_summary {q : SupC} (SF : SupF P0 K mg q.f q.cda q.cc q.D q.self) (hD : q.D = He.ga K "Pipeline") (hs : q.self = "self") : FBa (gm P0 w0 K mg base) { N := N_Pipeline_summary, sc := defScope s_Pipeline_summary, k := 3, ow := fun x => x != clsN } q (defBody s_Pipeline_summary) (defBody s_Pipeline_summary) b_Pipeline_summary := by
  obtain ⟨f0, cda, cc, D0, self⟩ := q
  dsimp only at hD hs SF
  subst hD hs
  have hT : ∀ cn F, [(8, F_Net_summary)].lookup cn = some F → ∃ f2, SupM K ((gm P0 w0 K mg base).cls cn) (He.ga K "Pipeline") "summary" f2 ∧ CalD (gm P0 w0 K mg base) 3 f2 [] F := fun cn F hc => by
    have hm := lookup_mem hc
    simp only [List.mem_cons, List.not_mem_nil, or_false, Prod.mk.injEq] at hm
    rcases hm with ⟨rfl, rfl⟩
    · exact ⟨_, bSupM_ok h.sm_Pipeline_Pipeline_summary, (c_Net_summary h).mono (by decide)⟩
  exact fba_cons (fsa_ret (fea_binO bo_add (FE.at (fe_str)) (fea_sup (i := 0) (k := 3) SF hT ⟨by decide, rfl⟩ (hcd := by show (("self" : Str) == ("__classdict__" : Str)) = false; decide)))) (FB.at fb_nil)
theorem c_Pipeline_summary : CalD (gm P0 w0 K mg base) 4 (atM "Pipeline" "summary" K) [] F_Pipeline_summary := by
  obtain ⟨oc, od, osl, kV, doc, pm, an, cda, ct, cc, lk, hcd, hcell, hfile⟩ := h.says.sup 30 d_Pipeline_summary "Pipeline"
  have SF : SupF P0 K mg (atM "Pipeline" "summary" K) cda cc (He.ga K "Pipeline") "self" := ⟨fun l => by have z := lk.symm.trans l; cases z; exact ⟨_, rfl, rfl⟩, by rw [h.file]; exact hfile, hcell, bIsc_ok h.ic_Pipeline, h.scp, h.fr_super, He.eqO_ok h.third⟩
  exact cal_sup (ps := ["self"]) (self := "self") lk hcd ⟨rfl, rfl, rfl, by decide +kernel, rfl, by decide +kernel, by decide +kernel, rfl, by decide +kernel⟩ hcell (dbnd_plain (ps := ["self"]) fun us hl => match us, hl with | [_], _ => rfl) (f_Pipeline_summary h SF rfl rfl)
theorem f_Ring_summary {q : SupC} (SF : SupF P0 K mg q.f q.cda q.cc q.D q.self) (hD : q.D = He.ga K "Ring") (hs : q.self = "self") : FBa (gm P0 w0 K mg base) { N := N_Ring_summary, sc := defScope s_Ring_summary, k := 3, ow := fun x => x != clsN } q (defBody s_Ring_summary) (defBody s_Ring_summary) b_Ring_summary := by
  obtain ⟨f0, cda, cc, D0, self⟩ := q
  dsimp only at hD hs SF
  subst hD hs
  have hT : ∀ cn F, [(9, F_Net_summary)].lookup cn = some F → ∃ f2, SupM K ((gm P0 w0 K mg base).cls cn) (He.ga K "Ring") "summary" f2 ∧ CalD (gm P0 w0 K mg base) 3 f2 [] F := fun cn F hc => by
    have hm := lookup_mem hc
    simp only [List.mem_cons, List.not_mem_nil, or_false, Prod.mk.injEq] at hm
    rcases hm with ⟨rfl, rfl⟩
    · exact ⟨_, bSupM_ok h.sm_Ring_Ring_summary, (c_Net_summary h).mono (by decide)⟩
  exact fba_cons (fsa_ret (fea_binO bo_add (FE.at (fe_str)) (fea_sup (i := 0) (k := 3) SF hT ⟨by decide, rfl⟩ (hcd := by show (("self" : Str) == ("__classdict__" : Str)) = false; decide)))) (FB.at fb_nil)
theorem c_Ring_summary : CalD (gm P0 w0 K mg base) 4 (atM "Ring" "summary" K) [] F_Ring_summary := by
  obtain ⟨oc, od, osl, kV, doc, pm, an, cda, ct, cc, lk, hcd, hcell, hfile⟩ := h.says.sup 31 d_Ring_summary "Ring"
  have SF : SupF P0 K mg (atM "Ring" "summary" K) cda cc (He.ga K "Ring") "self" := ⟨fun l => by have z := lk.symm.trans l; cases z; exact ⟨_, rfl, rfl⟩, by rw [h.file]; exact hfile, hcell, bIsc_ok h.ic_Ring, h.scp, h.fr_super, He.eqO_ok h.third⟩
  exact cal_sup (ps := ["self"]) (self := "self") lk hcd ⟨rfl, rfl, rfl, by decide +kernel, rfl, by decide +kernel, by decide +kernel, rfl, by decide +kernel⟩ hcell (dbnd_plain (ps := ["self"]) fun us hl => match us, hl with | [_], _ => rfl) (f_Ring_summary h SF rfl rfl)
theorem t_summary : MthOk (gm P0 w0 K mg base) 4 "summary" [] T_summary := ⟨(show ∀ j, j < 50 → fldL.getD j "" ≠ "summary" from by decide +kernel), fun c F hc => by
  have hm := lookup_mem hc
  simp only [T_summary, List.mem_cons, List.not_mem_nil, or_false, Prod.mk.injEq] at hm
  rcases hm with ⟨rfl, rfl⟩ | ⟨rfl, rfl⟩
  · exact ⟨He.cls_ok h.cl_Pipeline, _, He.meth_ok h.me_Pipeline_summary, (c_Pipeline_summary h).mono (by decide)⟩
  · exact ⟨He.cls_ok h.cl_Ring, _, He.meth_ok h.me_Ring_summary, (c_Ring_summary h).mono (by decide)⟩⟩
theorem f__law_good : FB (gm P0 w0 K mg base) { N := N__law_good, sc := defScope s__law_good, k := 4 } (defBody s__law_good) b__law_good := fb_cons (fs_asg (fe_call (n__law_links h) ⟨by decide, rfl⟩ (fa_cons (fe_var 1) (fa_cons (fe_var 2) (fa_nil)))) (fg_name 3)) (fb_cons (fs_asg (fe_if (ft_val (fe_var 2)) (fe_blt b_len ⟨rfl, h.fr_len⟩ (fa_cons (fe_var 1) (fa_nil))) (fe_binO bo_add (fe_blt b_len ⟨rfl, h.fr_len⟩ (fa_cons (fe_var 1) (fa_nil))) (fe_int))) (fg_name 4)) (fb_cons (fs_if (FW.ft (fw_or (ft_not (ft_val (fe_call (n__law_same_rows h) ⟨by decide, rfl⟩ (fa_cons (fe_fld h.fl_channels (fe_var 0)) (fa_cons (fe_bty b_tuple ⟨rfl, h.fr_tuple⟩ (fa_cons (fe_var 3) (fa_nil))) (fa_nil)))))) (fw_one (ft_not (ft_val (fe_call (n__law_same h) ⟨by decide, rfl⟩ (fa_cons (fe_fld h.fl_stages (fe_var 0)) (fa_cons (fe_var 4) (fa_nil))))))))) (fb_cons (fs_ret (fe_bl)) (fb_nil)) (fb_nil)) (fb_cons (fs_if (FW.ft (fw_or (ft_not (ft_val (fe_call (n__law_same h) ⟨by decide, rfl⟩ (fa_cons (fe_meth0 (t_is_ring h) ⟨by decide, rfl⟩ (fe_var 0)) (fa_cons (fe_var 2) (fa_nil)))))) (fw_one (ft_not (ft_val (fe_call (n__law_same h) ⟨by decide, rfl⟩ (fa_cons (fe_propT (rT_slots h) ⟨by decide, rfl⟩ (fe_var 0)) (fa_cons (fe_blt b_sum ⟨rfl, h.fr_sum⟩ (fa_cons (fe_var 1) (fa_nil))) (fa_nil))))))))) (fb_cons (fs_ret (fe_bl)) (fb_nil)) (fb_nil)) (fb_cons (fs_asg (fe_if (ft_val (fe_var 2)) (fe_str) (fe_str)) (fg_name 5)) (fb_cons (fs_asg (fe_binO bo_add (fe_binO bo_add (fe_binO bo_add (fe_binO bo_add (fe_binO bo_add (fe_binO bo_add (fe_var 5) (fe_bty b_str ⟨rfl, h.fr_str⟩ (fa_cons (fe_var 4) (fa_nil)))) (fe_str)) (fe_bty b_str ⟨rfl, h.fr_str⟩ (fa_cons (fe_blt b_len ⟨rfl, h.fr_len⟩ (fa_cons (fe_var 1) (fa_nil))) (fa_nil)))) (fe_str)) (fe_bty b_str ⟨rfl, h.fr_str⟩ (fa_cons (fe_blt b_sum ⟨rfl, h.fr_sum⟩ (fa_cons (fe_var 1) (fa_nil))) (fa_nil)))) (fe_str)) (fg_name 6)) (fb_cons (fs_ret (fe_call (n__law_same h) ⟨by decide, rfl⟩ (fa_cons (fe_meth0 (t_summary h) ⟨by decide, rfl⟩ (fe_var 0)) (fa_cons (fe_var 6) (fa_nil))))) (fb_nil)))))))
theorem c__law_good : CalD (gm P0 w0 K mg base) 5 (atG "_law_good" K) [] F__law_good := by
  obtain ⟨oc, od, osl, kV, doc, pm, an, cdv, ct, lk, hcd⟩ := h.says.def_ 32 d__law_good
  exact cal_def (ps := ["_law_net", "_law_sizes", "_law_ring_here"]) lk hcd ⟨rfl, rfl, rfl, by decide +kernel, rfl, by decide +kernel, by decide +kernel⟩ (dbnd_plain (ps := ["_law_net", "_law_sizes", "_law_ring_here"]) fun us hl => match us, hl with | [_, _, _], _ => rfl) (f__law_good h)
theorem n__law_good : Nam (gm P0 w0 K mg base) 5 "_law_good" [] F__law_good := ⟨⟨_, h.gl__law_good, DefAt.keep (h.says.def_ 32 d__law_good), c__law_good h⟩⟩
theorem f__law_answered : FB (gm P0 w0 K mg base) { N := N__law_answered, sc := defScope s__law_answered, k := 8 } (defBody s__law_answered) b__law_answered := fb_cons (fs_if (ft_val (fe_var 1)) (fb_cons (fs_asg (fe_call (n__law_fault h) ⟨by decide, rfl⟩ (fa_cons (fe_var 0) (fa_cons (fe_int) (fa_cons (fe_int) (fa_nil))))) (fg_name 2)) (fb_nil)) (fb_cons (fs_asg (fe_call (n__law_fault h) ⟨by decide, rfl⟩ (fa_cons (fe_var 0) (fa_cons (fe_int) (fa_cons (fe_int) (fa_nil))))) (fg_name 2)) (fb_nil))) (fb_cons (fs_tryAs (i := 4) h.ca_WithinCallError (fb_cons (fs_if (ft_val (fe_var 1)) (fb_cons (fs_asg (fe_call (n__law_ring h) ⟨by decide, rfl⟩ (fa_cons (fe_bty b_list ⟨rfl, h.fr_list⟩ (fa_cons (fe_var 0) (fa_nil))) (fa_nil))) (fg_name 3)) (fb_nil)) (fb_cons (fs_asg (fe_call (n__law_row h) ⟨by decide, rfl⟩ (fa_cons (fe_bty b_list ⟨rfl, h.fr_list⟩ (fa_cons (fe_var 0) (fa_nil))) (fa_nil))) (fg_name 3)) (fb_nil))) (fb_nil)) (fun a cv d x => fb_cons (fs_if (FW.ft (fw_or (ft_not (ft_val (fe_isX (i := 4) h.xkit rfl (fe_glob (hm := h.gl_InvalidNet)) (hg := ⟨rfl, h.fr_isinstance⟩)))) (fw_one (ft_val (fe_isX (i := 4) h.xkit rfl (fe_glob (hm := h.gl_NotFound)) (hg := ⟨rfl, h.fr_isinstance⟩)))))) (fb_cons (fs_ret (fe_bl)) (fb_nil)) (fb_nil)) (fb_cons (fs_ret (fe_and (fe_cmpO co_isnt (fe_var 2) (fe_non)) (fe_one (fe_callL (l__law_same_row h) (by decide) (fa_cons (fe_tup (fa_cons (fe_xf (i := 4) (h.xf_reason) rfl) (fa_cons (fe_xf (i := 4) (h.xf_position) rfl) (fa_nil)))) (fa_cons (fe_var 2) (fa_nil))))))) (fb_nil)))) (fb_cons (fs_ret (fe_and (fe_cmpO co_is (fe_var 2) (fe_non)) (fe_one (fe_call (n__law_good h) ⟨by decide, rfl⟩ (fa_cons (fe_var 3) (fa_cons (fe_var 0) (fa_cons (fe_var 1) (fa_nil)))))))) (fb_nil)))
theorem c__law_answered : CalD (gm P0 w0 K mg base) 9 (atG "_law_answered" K) [] F__law_answered := by
  obtain ⟨oc, od, osl, kV, doc, pm, an, cdv, ct, lk, hcd⟩ := h.says.def_ 33 d__law_answered
  exact cal_def (ps := ["_law_sizes", "_law_ring_here"]) lk hcd ⟨rfl, rfl, rfl, by decide +kernel, rfl, by decide +kernel, by decide +kernel⟩ (dbnd_plain (ps := ["_law_sizes", "_law_ring_here"]) fun us hl => match us, hl with | [_, _], _ => rfl) (f__law_answered h)
theorem n__law_answered : Nam (gm P0 w0 K mg base) 9 "_law_answered" [] F__law_answered := ⟨⟨_, h.gl__law_answered, DefAt.keep (h.says.def_ 33 d__law_answered), c__law_answered h⟩⟩
theorem f__law_mended : FB (gm P0 w0 K mg base) { N := N__law_mended, sc := defScope s__law_mended, k := 9 } (defBody s__law_mended) b__law_mended := fb_cons (fs_asg (fe_bty b_list ⟨rfl, h.fr_list⟩ (fa_cons (fe_var 0) (fa_nil))) (fg_name 0)) (fb_cons (fs_for (fk_rng1 ⟨rfl, h.fr_range⟩ (fa_cons (fe_int) (fa_nil))) (fg_name 2) (fb_cons (fs_if (ft_not (ft_val (fe_call (n__law_answered h) ⟨by decide, rfl⟩ (fa_cons (fe_var 0) (fa_cons (fe_var 1) (fa_nil)))))) (fb_cons (fs_ret (fe_bl)) (fb_nil)) (fb_nil)) (fb_cons (fs_setLc (k := 3) (own := [("_law_k", 4)]) (fk_rng1 ⟨rfl, h.fr_range⟩ (fa_cons (fe_blt b_len ⟨rfl, h.fr_len⟩ (fa_cons (fe_var 0) (fa_nil))) (fa_nil))) (fg_name 4) (fts_one (ft_not (ft_val (fe_call (n__law_is_capacity h) ⟨by decide, rfl⟩ (fa_cons (fe_ixO (fe_var 0) (fe_var 4)) (fa_nil)))))) (fe_var 4)) (fb_cons (fs_if (ft_cmpO co_eq (fe_blt b_len ⟨rfl, h.fr_len⟩ (fa_cons (fe_var 3) (fa_nil))) (fe_int)) (fb_cons (fs_ret (fe_bl)) (fb_nil)) (fb_nil)) (fb_cons (fs_asg (fe_binO bo_add (fe_int) (fe_var 2)) (fg_sub (fe_var 0) (fe_ixO (fe_var 3) (fe_int)))) (fb_nil)))))) (fb_cons (fs_ret (fe_bl)) (fb_nil)))
theorem c__law_mended : CalD (gm P0 w0 K mg base) 10 (atG "_law_mended" K) [] F__law_mended := by
  obtain ⟨oc, od, osl, kV, doc, pm, an, cdv, ct, lk, hcd⟩ := h.says.def_ 34 d__law_mended
  exact cal_def (ps := ["_law_sizes", "_law_ring_here"]) lk hcd ⟨rfl, rfl, rfl, by decide +kernel, rfl, by decide +kernel, by decide +kernel⟩ (dbnd_plain (ps := ["_law_sizes", "_law_ring_here"]) fun us hl => match us, hl with | [_, _], _ => rfl) (f__law_mended h)
theorem n__law_mended : Nam (gm P0 w0 K mg base) 10 "_law_mended" [] F__law_mended := ⟨⟨_, h.gl__law_mended, DefAt.keep (h.says.def_ 34 d__law_mended), c__law_mended h⟩⟩
theorem f__law_large : FB (gm P0 w0 K mg base) { N := N__law_large, sc := defScope s__law_large, k := 10 } (defBody s__law_large) b__law_large := fb_cons (fs_asg (fe_call (n__law_draw h) ⟨by decide, rfl⟩ (fa_cons (fe_var 0) (fa_cons (fe_int) (fa_nil)))) (fg_name 1)) (fb_cons (fs_asg (fe_call (n__law_draw h) ⟨by decide, rfl⟩ (fa_cons (fe_var 0) (fa_cons (fe_int) (fa_nil)))) (fg_name 2)) (fb_cons (fs_setLc (k := 3) (own := [("_law_k", 4)]) (fk_rng1 ⟨rfl, h.fr_range⟩ (fa_cons (fe_int) (fa_nil))) (fg_name 4) (fts_nil) (fe_binO bo_add (fe_int) (fe_binO bo_mod (fe_bty b_int ⟨rfl, h.fr_int⟩ (fa_cons (fe_binO bo_add (fe_var 1) (fe_binO bo_mul (fe_var 4) (fe_var 2))) (fa_nil))) (fe_int)))) (fb_cons (fs_if (ft_cmpO co_gt (fe_call (n__law_draw h) ⟨by decide, rfl⟩ (fa_cons (fe_var 0) (fa_cons (fe_int) (fa_nil)))) (fe_int)) (fb_cons (fs_asg (fe_ixO (fe_lst (fa_cons (fe_int) (fa_cons (fe_int) (fa_cons (fe_bl) (fa_cons (fe_non) (fa_nil)))))) (fe_call (n__law_draw h) ⟨by decide, rfl⟩ (fa_cons (fe_var 0) (fa_cons (fe_int) (fa_nil))))) (fg_sub (fe_var 3) (fe_call (n__law_draw h) ⟨by decide, rfl⟩ (fa_cons (fe_var 0) (fa_cons (fe_int) (fa_nil)))))) (fb_nil)) (fb_nil)) (fb_cons (fs_for (fk_seq (fe_lst (fa_cons (fe_int) (fa_cons (fe_int) (fa_nil))))) (fg_name 5) (fb_cons (fs_if (FW.ft (fw_or (ft_not (ft_val (fe_call (n__law_mended h) ⟨by decide, rfl⟩ (fa_cons (fe_slice (fe_var 3) (fo_none) (fo_some (fe_var 5))) (fa_cons (fe_bl) (fa_nil)))))) (fw_one (ft_not (ft_val (fe_call (n__law_mended h) ⟨by decide, rfl⟩ (fa_cons (fe_slice (fe_var 3) (fo_some (fe_binO bo_sub (fe_int) (fe_var 5))) (fo_none)) (fa_cons (fe_bl) (fa_nil))))))))) (fb_cons (fs_ret (fe_bl)) (fb_nil)) (fb_nil)) (fb_nil))) (fb_cons (fs_ret (fe_and (fe_call (n__law_mended h) ⟨by decide, rfl⟩ (fa_cons (fe_slice (fe_var 3) (fo_none) (fo_some (fe_int))) (fa_cons (fe_bl) (fa_nil)))) (fe_one (fe_call (n__law_mended h) ⟨by decide, rfl⟩ (fa_cons (fe_slice (fe_var 3) (fo_none) (fo_some (fe_int))) (fa_cons (fe_bl) (fa_nil))))))) (fb_nil))))))
theorem c__law_large : CalD (gm P0 w0 K mg base) 11 (atG "_law_large" K) [] F__law_large := by
  obtain ⟨oc, od, osl, kV, doc, pm, an, cdv, ct, lk, hcd⟩ := h.says.def_ 35 d__law_large
  exact cal_def (ps := ["_law_bag_here"]) lk hcd ⟨rfl, rfl, rfl, by decide +kernel, rfl, by decide +kernel, by decide +kernel⟩ (dbnd_plain (ps := ["_law_bag_here"]) fun us hl => match us, hl with | [_], _ => rfl) (f__law_large h)
theorem n__law_large : Nam (gm P0 w0 K mg base) 11 "_law_large" [] F__law_large := ⟨⟨_, h.gl__law_large, DefAt.keep (h.says.def_ 35 d__law_large), c__law_large h⟩⟩
theorem f__law_size : FB (gm P0 w0 K mg base) { N := N__law_size, sc := defScope s__law_size, k := 1 } (defBody s__law_size) b__law_size := fb_cons (fs_asg (fe_call (n__law_draw h) ⟨by decide, rfl⟩ (fa_cons (fe_var 0) (fa_cons (fe_int) (fa_nil)))) (fg_name 1)) (fb_cons (fs_if (ft_cmpO co_eq (fe_var 1) (fe_int)) (fb_cons (fs_ret (fe_ixO (fe_lst (fa_cons (fe_int) (fa_cons (fe_int) (fa_cons (fe_neg (fe_int)) (fa_cons (fe_binO bo_pow (fe_int) (fe_int)) (fa_cons (fe_bl) (fa_cons (fe_bl) (fa_cons (fe_non) (fa_cons (fe_str) (fa_cons (fe_tup (fa_cons (fe_int) (fa_nil))) (fa_nil))))))))))) (fe_call (n__law_draw h) ⟨by decide, rfl⟩ (fa_cons (fe_var 0) (fa_cons (fe_int) (fa_nil)))))) (fb_nil)) (fb_nil)) (fb_cons (fs_if (ft_cmpO co_eq (fe_var 1) (fe_int)) (fb_cons (fs_ret (fe_binO bo_add (fe_int) (fe_call (n__law_draw h) ⟨by decide, rfl⟩ (fa_cons (fe_var 0) (fa_cons (fe_int) (fa_nil)))))) (fb_nil)) (fb_nil)) (fb_cons (fs_if (ft_cmpO co_eq (fe_var 1) (fe_int)) (fb_cons (fs_ret (fe_int)) (fb_nil)) (fb_nil)) (fb_cons (fs_ret (fe_binO bo_add (fe_int) (fe_call (n__law_draw h) ⟨by decide, rfl⟩ (fa_cons (fe_var 0) (fa_cons (fe_int) (fa_nil)))))) (fb_nil)))))
theorem c__law_size : CalD (gm P0 w0 K mg base) 2 (atG "_law_size" K) [] F__law_size := by
  obtain ⟨oc, od, osl, kV, doc, pm, an, cdv, ct, lk, hcd⟩ := h.says.def_ 36 d__law_size
  exact cal_def (ps := ["_law_bag_here"]) lk hcd ⟨rfl, rfl, rfl, by decide +kernel, rfl, by decide +kernel, by decide +kernel⟩ (dbnd_plain (ps := ["_law_bag_here"]) fun us hl => match us, hl with | [_], _ => rfl) (f__law_size h)
theorem n__law_size : Nam (gm P0 w0 K mg base) 2 "_law_size" [] F__law_size := ⟨⟨_, h.gl__law_size, DefAt.keep (h.says.def_ 36 d__law_size), c__law_size h⟩⟩
theorem f_Net_eq : FB (gm P0 w0 K mg base) { N := N_Net_eq, sc := defScope s_Net_eq, k := 0 } (defBody s_Net_eq) b_Net_eq := fb_cons (fs_ret (fe_and (fe_blt (b_isi h.kit) ⟨rfl, h.fr_isinstance⟩ (fa_cons (fe_var 1) (fa_cons (fe_glob (hm := h.gl_Net)) (fa_nil)))) (fe_and (fe_cmpO co_eq (fe_fld h.fl_stages (fe_var 0)) (fe_fld h.fl_stages (fe_var 1))) (fe_one (fe_cmpO co_eq (fe_fld h.fl_channels (fe_var 0)) (fe_fld h.fl_channels (fe_var 1))))))) (fb_nil)
theorem c_Net_eq : CalD (gm P0 w0 K mg base) 1 (atM "Net" "__eq__" K) [] F_Net_eq := by
  obtain ⟨oc, od, osl, kV, doc, pm, an, cdv, ct, lk, hcd⟩ := h.says.def_ 37 d_Net_eq
  exact cal_def (ps := ["self", "other"]) lk hcd ⟨rfl, rfl, rfl, by decide +kernel, rfl, by decide +kernel, by decide +kernel⟩ (dbnd_plain (ps := ["self", "other"]) fun us hl => match us, hl with | [_, _], _ => rfl) (f_Net_eq h)
theorem eq_T : ∀ cn F, T_eq.lookup cn = some F → ∃ f, PySem.W.findIn K (.ref ((gm P0 w0 K mg base).cls cn)) "__eq__" = some (some (.ref f)) ∧ PySem.W.isFn K (.ref f) = true ∧ CalD (gm P0 w0 K mg base) 1 f [] F := fun cn F hc => by
  have hm := lookup_mem hc
  simp only [T_eq, List.mem_cons, List.not_mem_nil, or_false, Prod.mk.injEq] at hm
  rcases hm with ⟨rfl, rfl⟩ | ⟨rfl, rfl⟩
  · exact ⟨_, (bEqm_ok h.eqm_Pipeline).1, (bEqm_ok h.eqm_Pipeline).2, c_Net_eq h⟩
  · exact ⟨_, (bEqm_ok h.eqm_Ring).1, (bEqm_ok h.eqm_Ring).2, c_Net_eq h⟩
theorem eq_H : ∀ cn t, (cn, t) ∈ ot_eq → (∃ cc b, kt.lookup (t, cc) = some b) ∧ PySem.W.notFirst K ((gm P0 w0 K mg base).cls cn) (tcV (gm P0 w0 K mg base) t) = true := fun cn t hm => by
  simp only [ot_eq, List.mem_cons, List.not_mem_nil, or_false, Prod.mk.injEq] at hm
  rcases hm with ⟨rfl, rfl⟩ | ⟨rfl, rfl⟩ | ⟨rfl, rfl⟩ | ⟨rfl, rfl⟩ | ⟨rfl, rfl⟩ | ⟨rfl, rfl⟩ | ⟨rfl, rfl⟩ | ⟨rfl, rfl⟩ | ⟨rfl, rfl⟩ | ⟨rfl, rfl⟩ | ⟨rfl, rfl⟩ | ⟨rfl, rfl⟩ | ⟨rfl, rfl⟩ | ⟨rfl, rfl⟩ | ⟨rfl, rfl⟩ | ⟨rfl, rfl⟩
  · exact ⟨⟨.gl "Net", _, rfl⟩, h.nf_Pipeline_NoneType⟩
  · exact ⟨⟨.gl "Net", _, rfl⟩, h.nf_Pipeline_bool⟩
  · exact ⟨⟨.gl "Net", _, rfl⟩, h.nf_Pipeline_int⟩
  · exact ⟨⟨.gl "Net", _, rfl⟩, h.nf_Pipeline_str⟩
  · exact ⟨⟨.gl "Net", _, rfl⟩, h.nf_Pipeline_tuple⟩
  · exact ⟨⟨.gl "Net", _, rfl⟩, h.nf_Pipeline_list⟩
  · exact ⟨⟨.gl "Net", _, rfl⟩, h.nf_Pipeline_Pipeline⟩
  · exact ⟨⟨.gl "Net", _, rfl⟩, h.nf_Pipeline_Ring⟩
  · exact ⟨⟨.gl "Net", _, rfl⟩, h.nf_Ring_NoneType⟩
  · exact ⟨⟨.gl "Net", _, rfl⟩, h.nf_Ring_bool⟩
  · exact ⟨⟨.gl "Net", _, rfl⟩, h.nf_Ring_int⟩
  · exact ⟨⟨.gl "Net", _, rfl⟩, h.nf_Ring_str⟩
  · exact ⟨⟨.gl "Net", _, rfl⟩, h.nf_Ring_tuple⟩
  · exact ⟨⟨.gl "Net", _, rfl⟩, h.nf_Ring_list⟩
  · exact ⟨⟨.gl "Net", _, rfl⟩, h.nf_Ring_Pipeline⟩
  · exact ⟨⟨.gl "Net", _, rfl⟩, h.nf_Ring_Ring⟩
theorem f__law_equal : FB (gm P0 w0 K mg base) { N := N__law_equal, sc := defScope s__law_equal, k := 1 } (defBody s__law_equal) b__law_equal := fb_cons (fs_ret (fe_and (fe_call (n__law_same h) ⟨by decide, rfl⟩ (fa_cons (fe_eqO h.kit (eq_T h) (eq_H h) ⟨by decide, rfl⟩ (fe_var 0) (fe_var 1)) (fa_cons (fe_var 2) (fa_nil)))) (fe_one (fe_call (n__law_same h) ⟨by decide, rfl⟩ (fa_cons (fe_eqO h.kit (eq_T h) (eq_H h) ⟨by decide, rfl⟩ (fe_var 1) (fe_var 0)) (fa_cons (fe_var 2) (fa_nil))))))) (fb_nil)
theorem c__law_equal : CalD (gm P0 w0 K mg base) 2 (atG "_law_equal" K) [] F__law_equal := by
  obtain ⟨oc, od, osl, kV, doc, pm, an, cdv, ct, lk, hcd⟩ := h.says.def_ 38 d__law_equal
  exact cal_def (ps := ["_law_one", "_law_other", "_law_due"]) lk hcd ⟨rfl, rfl, rfl, by decide +kernel, rfl, by decide +kernel, by decide +kernel⟩ (dbnd_plain (ps := ["_law_one", "_law_other", "_law_due"]) fun us hl => match us, hl with | [_, _, _], _ => rfl) (f__law_equal h)
theorem n__law_equal : Nam (gm P0 w0 K mg base) 2 "_law_equal" [] F__law_equal := ⟨⟨_, h.gl__law_equal, DefAt.keep (h.says.def_ 38 d__law_equal), c__law_equal h⟩⟩
theorem f__law_pipeline : FB (gm P0 w0 K mg base) { N := N__law_pipeline, sc := defScope s__law_pipeline, k := 5 } (defBody s__law_pipeline) b__law_pipeline := fb_cons (fs_if (ft_cmpO co_eq (fe_blt b_len ⟨rfl, h.fr_len⟩ (fa_cons (fe_var 1) (fa_nil))) (fe_int)) (fb_cons (fs_ret (fe_call (m_Pipeline h) ⟨by decide, rfl⟩ (fa_cons (fe_var 0) (fa_nil)))) (fb_nil)) (fb_nil)) (fb_cons (fs_if (ft_cmpO co_eq (fe_blt b_len ⟨rfl, h.fr_len⟩ (fa_cons (fe_var 1) (fa_nil))) (fe_int)) (fb_cons (fs_ret (fe_call (m_Pipeline h) ⟨by decide, rfl⟩ (fa_cons (fe_var 0) (fa_cons (fe_ixO (fe_var 1) (fe_int)) (fa_nil))))) (fb_nil)) (fb_nil)) (fb_cons (fs_if (ft_cmpO co_eq (fe_blt b_len ⟨rfl, h.fr_len⟩ (fa_cons (fe_var 1) (fa_nil))) (fe_int)) (fb_cons (fs_ret (fe_call (m_Pipeline h) ⟨by decide, rfl⟩ (fa_cons (fe_var 0) (fa_cons (fe_ixO (fe_var 1) (fe_int)) (fa_cons (fe_ixO (fe_var 1) (fe_int)) (fa_nil)))))) (fb_nil)) (fb_nil)) (fb_cons (fs_if (ft_cmpO co_eq (fe_blt b_len ⟨rfl, h.fr_len⟩ (fa_cons (fe_var 1) (fa_nil))) (fe_int)) (fb_cons (fs_ret (fe_call (m_Pipeline h) ⟨by decide, rfl⟩ (fa_cons (fe_var 0) (fa_cons (fe_ixO (fe_var 1) (fe_int)) (fa_cons (fe_ixO (fe_var 1) (fe_int)) (fa_cons (fe_ixO (fe_var 1) (fe_int)) (fa_nil))))))) (fb_nil)) (fb_nil)) (fb_cons (fs_if (ft_cmpO co_eq (fe_blt b_len ⟨rfl, h.fr_len⟩ (fa_cons (fe_var 1) (fa_nil))) (fe_int)) (fb_cons (fs_ret (fe_call (m_Pipeline h) ⟨by decide, rfl⟩ (fa_cons (fe_var 0) (fa_cons (fe_ixO (fe_var 1) (fe_int)) (fa_cons (fe_ixO (fe_var 1) (fe_int)) (fa_cons (fe_ixO (fe_var 1) (fe_int)) (fa_cons (fe_ixO (fe_var 1) (fe_int)) (fa_nil)))))))) (fb_nil)) (fb_nil)) (fb_cons (fs_if (ft_cmpO co_eq (fe_blt b_len ⟨rfl, h.fr_len⟩ (fa_cons (fe_var 1) (fa_nil))) (fe_int)) (fb_cons (fs_ret (fe_call (m_Pipeline h) ⟨by decide, rfl⟩ (fa_cons (fe_var 0) (fa_cons (fe_ixO (fe_var 1) (fe_int)) (fa_cons (fe_ixO (fe_var 1) (fe_int)) (fa_cons (fe_ixO (fe_var 1) (fe_int)) (fa_cons (fe_ixO (fe_var 1) (fe_int)) (fa_cons (fe_ixO (fe_var 1) (fe_int)) (fa_nil))))))))) (fb_nil)) (fb_nil)) (fb_cons (fs_ret (fe_call (m_Pipeline h) ⟨by decide, rfl⟩ (fa_cons (fe_var 0) (fa_cons (fe_ixO (fe_var 1) (fe_int)) (fa_cons (fe_ixO (fe_var 1) (fe_int)) (fa_cons (fe_ixO (fe_var 1) (fe_int)) (fa_cons (fe_ixO (fe_var 1) (fe_int)) (fa_cons (fe_ixO (fe_var 1) (fe_int)) (fa_cons (fe_ixO (fe_var 1) (fe_int)) (fa_nil)))))))))) (fb_nil)))))))
theorem c__law_pipeline : CalD (gm P0 w0 K mg base) 6 (atG "_law_pipeline" K) [] F__law_pipeline := by
  obtain ⟨oc, od, osl, kV, doc, pm, an, cdv, ct, lk, hcd⟩ := h.says.def_ 39 d__law_pipeline
  exact cal_def (ps := ["_law_count", "_law_c"]) lk hcd ⟨rfl, rfl, rfl, by decide +kernel, rfl, by decide +kernel, by decide +kernel⟩ (dbnd_plain (ps := ["_law_count", "_law_c"]) fun us hl => match us, hl with | [_, _], _ => rfl) (f__law_pipeline h)
theorem n__law_pipeline : Nam (gm P0 w0 K mg base) 6 "_law_pipeline" [] F__law_pipeline := ⟨⟨_, h.gl__law_pipeline, DefAt.keep (h.says.def_ 39 d__law_pipeline), c__law_pipeline h⟩⟩
theorem f__law_compared : FB (gm P0 w0 K mg base) { N := N__law_compared, sc := defScope s__law_compared, k := 8 } (defBody s__law_compared) b__law_compared := fb_cons (fs_asg (fe_binO bo_add (fe_blt b_len ⟨rfl, h.fr_len⟩ (fa_cons (fe_var 0) (fa_nil))) (fe_int)) (fg_name 2)) (fb_cons (fs_asg (fe_call (n__law_links h) ⟨by decide, rfl⟩ (fa_cons (fe_var 0) (fa_cons (fe_bl) (fa_nil)))) (fg_name 3)) (fb_cons (fs_asg (fe_call (n__law_row h) ⟨by decide, rfl⟩ (fa_cons (fe_bty b_list ⟨rfl, h.fr_list⟩ (fa_cons (fe_var 0) (fa_nil))) (fa_nil))) (fg_name 4)) (fb_cons (fs_if (ft_not (ft_val (fe_call (n__law_equal h) ⟨by decide, rfl⟩ (fa_cons (fe_var 4) (fa_cons (fe_call (n__law_pipeline h) ⟨by decide, rfl⟩ (fa_cons (fe_var 2) (fa_cons (fe_binO bo_add (fe_slice (fe_var 3) (fo_some (fe_var 1)) (fo_none)) (fe_slice (fe_var 3) (fo_none) (fo_some (fe_var 1)))) (fa_nil)))) (fa_cons (fe_bl) (fa_nil))))))) (fb_cons (fs_ret (fe_bl)) (fb_nil)) (fb_nil)) (fb_cons (fs_if (ft_not (ft_val (fe_call (n__law_equal h) ⟨by decide, rfl⟩ (fa_cons (fe_var 4) (fa_cons (fe_call (n__law_pipeline h) ⟨by decide, rfl⟩ (fa_cons (fe_binO bo_add (fe_var 2) (fe_int)) (fa_cons (fe_var 3) (fa_nil)))) (fa_cons (fe_bl) (fa_nil))))))) (fb_cons (fs_ret (fe_bl)) (fb_nil)) (fb_nil)) (fb_cons (fs_for (fk_seq (fe_lst (fa_cons (fe_non) (fa_cons (fe_int) (fa_cons (fe_str) (fa_cons (fe_bty b_tuple ⟨rfl, h.fr_tuple⟩ (fa_cons (fe_var 3) (fa_nil))) (fa_cons (fe_bty b_list ⟨rfl, h.fr_list⟩ (fa_cons (fe_var 3) (fa_nil))) (fa_nil)))))))) (fg_name 5) (fb_cons (fs_if (ft_not (ft_val (fe_call (n__law_same h) ⟨by decide, rfl⟩ (fa_cons (fe_eqO h.kit (eq_T h) (eq_H h) ⟨by decide, rfl⟩ (fe_var 4) (fe_var 5)) (fa_cons (fe_bl) (fa_nil)))))) (fb_cons (fs_ret (fe_bl)) (fb_nil)) (fb_nil)) (fb_nil))) (fb_cons (fs_if (ft_cmpO co_eq (fe_blt b_len ⟨rfl, h.fr_len⟩ (fa_cons (fe_var 0) (fa_nil))) (fe_int)) (fb_cons (fs_ret (fe_bl)) (fb_nil)) (fb_nil)) (fb_cons (fs_asg (fe_bty b_list ⟨rfl, h.fr_list⟩ (fa_cons (fe_var 0) (fa_nil))) (fg_name 6)) (fb_cons (fs_asg (fe_if (ft_cmpO co_lt (fe_ixO (fe_var 6) (fe_var 1)) (fe_int)) (fe_binO bo_add (fe_int) (fe_ixO (fe_var 6) (fe_var 1))) (fe_int)) (fg_sub (fe_var 6) (fe_var 1))) (fb_cons (fs_if (ft_not (ft_val (fe_call (n__law_equal h) ⟨by decide, rfl⟩ (fa_cons (fe_var 4) (fa_cons (fe_call (n__law_row h) ⟨by decide, rfl⟩ (fa_cons (fe_var 6) (fa_nil))) (fa_cons (fe_bl) (fa_nil))))))) (fb_cons (fs_ret (fe_bl)) (fb_nil)) (fb_nil)) (fb_cons (fs_if (ft_not (ft_val (fe_call (n__law_equal h) ⟨by decide, rfl⟩ (fa_cons (fe_var 4) (fa_cons (fe_call (n__law_pipeline h) ⟨by decide, rfl⟩ (fa_cons (fe_var 2) (fa_cons (fe_binO bo_add (fe_slice (fe_var 3) (fo_none) (fo_some (fe_var 1))) (fe_slice (fe_var 3) (fo_some (fe_binO bo_add (fe_var 1) (fe_int))) (fo_none))) (fa_nil)))) (fa_cons (fe_bl) (fa_nil))))))) (fb_cons (fs_ret (fe_bl)) (fb_nil)) (fb_nil)) (fb_cons (fs_if (ft_cmpO co_lt (fe_blt b_len ⟨rfl, h.fr_len⟩ (fa_cons (fe_var 0) (fa_nil))) (fe_int)) (fb_cons (fs_ret (fe_bl)) (fb_nil)) (fb_nil)) (fb_cons (fs_asg (fe_call (n__law_ring h) ⟨by decide, rfl⟩ (fa_cons (fe_bty b_list ⟨rfl, h.fr_list⟩ (fa_cons (fe_var 0) (fa_nil))) (fa_nil))) (fg_name 7)) (fb_cons (fs_if (ft_not (ft_val (fe_call (n__law_equal h) ⟨by decide, rfl⟩ (fa_cons (fe_var 7) (fa_cons (fe_call (n__law_ring h) ⟨by decide, rfl⟩ (fa_cons (fe_bty b_list ⟨rfl, h.fr_list⟩ (fa_cons (fe_var 0) (fa_nil))) (fa_nil))) (fa_cons (fe_bl) (fa_nil))))))) (fb_cons (fs_ret (fe_bl)) (fb_nil)) (fb_nil)) (fb_cons (fs_if (ft_not (ft_val (fe_call (n__law_equal h) ⟨by decide, rfl⟩ (fa_cons (fe_var 7) (fa_cons (fe_call (n__law_ring h) ⟨by decide, rfl⟩ (fa_cons (fe_var 6) (fa_nil))) (fa_cons (fe_bl) (fa_nil))))))) (fb_cons (fs_ret (fe_bl)) (fb_nil)) (fb_nil)) (fb_cons (fs_if (FW.ft (fw_or (ft_not (ft_val (fe_call (n__law_equal h) ⟨by decide, rfl⟩ (fa_cons (fe_var 7) (fa_cons (fe_var 4) (fa_cons (fe_bl) (fa_nil))))))) (fw_one (ft_not (ft_val (fe_call (n__law_same h) ⟨by decide, rfl⟩ (fa_cons (fe_eqO h.kit (eq_T h) (eq_H h) ⟨by decide, rfl⟩ (fe_var 7) (fe_bty b_tuple ⟨rfl, h.fr_tuple⟩ (fa_cons (fe_call (n__law_links h) ⟨by decide, rfl⟩ (fa_cons (fe_var 0) (fa_cons (fe_bl) (fa_nil)))) (fa_nil)))) (fa_cons (fe_bl) (fa_nil))))))))) (fb_cons (fs_ret (fe_bl)) (fb_nil)) (fb_nil)) (fb_cons (fs_ret (fe_and (fe_call (n__law_good h) ⟨by decide, rfl⟩ (fa_cons (fe_var 7) (fa_cons (fe_var 0) (fa_cons (fe_bl) (fa_nil))))) (fe_one (fe_call (n__law_good h) ⟨by decide, rfl⟩ (fa_cons (fe_var 4) (fa_cons (fe_var 0) (fa_cons (fe_bl) (fa_nil)))))))) (fb_nil)))))))))))))))))
theorem c__law_compared : CalD (gm P0 w0 K mg base) 9 (atG "_law_compared" K) [] F__law_compared := by
  obtain ⟨oc, od, osl, kV, doc, pm, an, cdv, ct, lk, hcd⟩ := h.says.def_ 40 d__law_compared
  exact cal_def (ps := ["_law_sizes", "_law_place"]) lk hcd ⟨rfl, rfl, rfl, by decide +kernel, rfl, by decide +kernel, by decide +kernel⟩ (dbnd_plain (ps := ["_law_sizes", "_law_place"]) fun us hl => match us, hl with | [_, _], _ => rfl) (f__law_compared h)
theorem n__law_compared : Nam (gm P0 w0 K mg base) 9 "_law_compared" [] F__law_compared := ⟨⟨_, h.gl__law_compared, DefAt.keep (h.says.def_ 40 d__law_compared), c__law_compared h⟩⟩
theorem f__law_small : FB (gm P0 w0 K mg base) { N := N__law_small, sc := defScope s__law_small, k := 10 } (defBody s__law_small) b__law_small := fb_cons (fs_asg (fe_lst (fa_nil)) (fg_name 1)) (fb_cons (fs_for (fk_rng1 ⟨rfl, h.fr_range⟩ (fa_cons (fe_call (n__law_draw h) ⟨by decide, rfl⟩ (fa_cons (fe_var 0) (fa_cons (fe_int) (fa_nil)))) (fa_nil))) (fg_name 2) (fb_cons (fs_expr (fe_mtL m_append (fe_var 1) (fa_cons (fe_call (n__law_size h) ⟨by decide, rfl⟩ (fa_cons (fe_var 0) (fa_nil))) (fa_nil)) PySem.F.slot_list_append PySem.F.type_list_append)) (fb_nil))) (fb_cons (fs_if (FW.ft (fw_or (ft_not (ft_val (fe_call (n__law_mended h) ⟨by decide, rfl⟩ (fa_cons (fe_var 1) (fa_cons (fe_bl) (fa_nil)))))) (fw_one (ft_not (ft_val (fe_call (n__law_mended h) ⟨by decide, rfl⟩ (fa_cons (fe_var 1) (fa_cons (fe_bl) (fa_nil))))))))) (fb_cons (fs_ret (fe_bl)) (fb_nil)) (fb_nil)) (fb_cons (fs_asg (fe_lst (fa_cons (fe_int) (fa_cons (fe_int) (fa_cons (fe_int) (fa_cons (fe_int) (fa_cons (fe_bl) (fa_cons (fe_bl) (fa_cons (fe_non) (fa_cons (fe_str) (fa_cons (fe_tup (fa_cons (fe_int) (fa_nil))) (fa_cons (fe_lst (fa_cons (fe_int) (fa_nil))) (fa_cons (fe_binO bo_sub (fe_call (n__law_draw h) ⟨by decide, rfl⟩ (fa_cons (fe_var 0) (fa_cons (fe_int) (fa_nil)))) (fe_int)) (fa_nil))))))))))))) (fg_name 3)) (fb_cons (fs_for (fk_seq (fe_binO bo_add (fe_var 3) (fe_var 1))) (fg_name 4) (fb_cons (fs_if (ft_not (ft_val (fe_call (n__law_same h) ⟨by decide, rfl⟩ (fa_cons (fe_smeth (v_Net_is_capacity h) ⟨by decide, rfl⟩ (fa_cons (fe_var 4) (fa_nil))) (fa_cons (fe_call (n__law_is_capacity h) ⟨by decide, rfl⟩ (fa_cons (fe_var 4) (fa_nil))) (fa_nil)))))) (fb_cons (fs_ret (fe_bl)) (fb_nil)) (fb_nil)) (fb_nil))) (fb_cons (fs_setLc (k := 5) (own := [("_law_one", 6)]) (fk_seq (fe_var 1)) (fg_name 6) (fts_nil) (fe_if (ft_val (fe_call (n__law_is_capacity h) ⟨by decide, rfl⟩ (fa_cons (fe_var 6) (fa_nil)))) (fe_var 6) (fe_int))) (fb_cons (fs_ret (fe_call (n__law_compared h) ⟨by decide, rfl⟩ (fa_cons (fe_var 5) (fa_cons (fe_call (n__law_draw h) ⟨by decide, rfl⟩ (fa_cons (fe_var 0) (fa_cons (fe_blt b_max2 ⟨rfl, h.fr_max⟩ (fa_cons (fe_int) (fa_cons (fe_blt b_len ⟨rfl, h.fr_len⟩ (fa_cons (fe_var 5) (fa_nil))) (fa_nil)))) (fa_nil)))) (fa_nil))))) (fb_nil)))))))
theorem c__law_small : CalD (gm P0 w0 K mg base) 11 (atG "_law_small" K) [] F__law_small := by
  obtain ⟨oc, od, osl, kV, doc, pm, an, cdv, ct, lk, hcd⟩ := h.says.def_ 41 d__law_small
  exact cal_def (ps := ["_law_bag_here"]) lk hcd ⟨rfl, rfl, rfl, by decide +kernel, rfl, by decide +kernel, by decide +kernel⟩ (dbnd_plain (ps := ["_law_bag_here"]) fun us hl => match us, hl with | [_], _ => rfl) (f__law_small h)
theorem n__law_small : Nam (gm P0 w0 K mg base) 11 "_law_small" [] F__law_small := ⟨⟨_, h.gl__law_small, DefAt.keep (h.says.def_ 41 d__law_small), c__law_small h⟩⟩
theorem f_law : FB (gm P0 w0 K mg base) { N := N_law, sc := defScope s_law, k := 11 } (defBody s_law) b_law := fb_cons (fs_asg (fe_tup (fa_cons (fe_cst (bCst_ok (h.gl_Net) h.rd_Net h.cs_Net_MOST_STAGES fun _ _ => .int _)) (fa_cons (fe_cst (bCst_ok (h.gl_Net) h.rd_Net h.cs_Net_MOST_CHANNELS fun _ _ => .int _)) (fa_cons (fe_cst (bCst_ok (h.gl_Net) h.rd_Net h.cs_Net_MOST_CAPACITY fun _ _ => .int _)) (fa_cons (fe_cst (bCst_ok (h.gl_Net) h.rd_Net h.cs_Net_MOST_COUNTER fun _ _ => .int _)) (fa_nil)))))) (fg_name 1)) (fb_cons (fs_if (ft_not (ft_val (fe_call (n__law_same_row h) ⟨by decide, rfl⟩ (fa_cons (fe_var 1) (fa_cons (fe_tup (fa_cons (fe_int) (fa_cons (fe_int) (fa_cons (fe_int) (fa_cons (fe_int) (fa_nil)))))) (fa_nil)))))) (fb_cons (fs_ret (fe_bl)) (fb_nil)) (fb_nil)) (fb_cons (fs_for (fk_rng1 ⟨rfl, h.fr_range⟩ (fa_cons (fe_blt b_max2 ⟨rfl, h.fr_max⟩ (fa_cons (fe_int) (fa_cons (fe_blt b_min2 ⟨rfl, h.fr_min⟩ (fa_cons (fe_blt b_len ⟨rfl, h.fr_len⟩ (fa_cons (fe_var 0) (fa_nil))) (fa_cons (fe_int) (fa_nil)))) (fa_nil)))) (fa_nil))) (fg_name 2) (fb_cons (fs_asg (fe_call (n__law_bag h) ⟨by decide, rfl⟩ (fa_cons (fe_var 0) (fa_cons (fe_var 2) (fa_nil)))) (fg_name 3)) (fb_cons (fs_if (ft_cmpO co_eq (fe_call (n__law_draw h) ⟨by decide, rfl⟩ (fa_cons (fe_var 3) (fa_cons (fe_int) (fa_nil)))) (fe_int)) (fb_cons (fs_asg (fe_call (n__law_large h) ⟨by decide, rfl⟩ (fa_cons (fe_var 3) (fa_nil))) (fg_name 4)) (fb_nil)) (fb_cons (fs_asg (fe_call (n__law_small h) ⟨by decide, rfl⟩ (fa_cons (fe_var 3) (fa_nil))) (fg_name 4)) (fb_nil))) (fb_cons (fs_if (ft_not (ft_val (fe_var 4))) (fb_cons (fs_ret (fe_bl)) (fb_nil)) (fb_nil)) (fb_nil))))) (fb_cons (fs_ret (fe_bl)) (fb_nil))))
end
end FI.K01
set_option maxRecDepth 100000
set_option maxHeartbeats 0
namespace FI.K01
open PySem L2 PySem.Spec PyProof.Rows FI
theorem run (w : World) : HandSHeadRun.RunEq R (PySem.W.view R.prog [41]) hk ob 8000 names w := by
  intro os
  kernel_rfl
end FI.K01
set_option maxRecDepth 100000
set_option maxHeartbeats 0
namespace FI.K01
open PySem L2 PySem.Spec PyProof.Rows FI
theorem law_fn {P0 : Program} {w0 : World} {K : Fr} {mg : Str → Option Value} (h : Hs P0 K mg) {fa : Addr} (hfa : mg "law" = some (.ref fa)) :
    ∃ fd : FuncData, (∀ (s : Shared) (u : Value), BindsTo s fd ⟨[u], []⟩ [(("_law_script" : Str), u)]) ∧ ∀ base : Heap, FnOk P0 w0 K mg base (L2N.CX P0 w0) (11 + 1) fa fd ["_law_script"] (spD (gm P0 w0 K mg base) 1 (mkFn 1 N_law.length b_law)) := by
  have e := hfa.symm.trans h.gl_law
  cases e
  obtain ⟨oc, od, osl, kV, doc, pm, an, cdv, ct, lk, hcd⟩ := h.says.def_ 42 d_law
  have F : Fun K "law" "law" s_law (He.ga K "law") _ := fun_mk (st := s_law) lk hcd (DefAt.keep (h.says.def_ 42 d_law))
  refine ⟨PySem.W.fnOf "law" "law" (defArgs s_law) (defBody s_law) (defScope s_law) .none kV doc pm an cdv ct, fun s u => .of_eq rfl, fun base => ?_⟩
  exact fn_def (g := gm P0 w0 K mg base) F ⟨rfl, rfl, rfl, by decide +kernel, rfl, by decide +kernel, by decide +kernel⟩ (f_law h)
end FI.K01
section
open PySem PySem.W PySem.Calls PyProof.Rows
theorem FI.K01.holds_of (pure : ∀ ns : List Int, ns.length ≤ 63 → ∃ G', FI.K01.F_law [.kl (ns.map .int)] [] = some (.val (.bl true), G')) : PySem.Challenge.rw_withincall_k01_rings_and_kinds.Holds := by
  w_on; o_law
  refine HandSHeadRun.head_any (r := OpenLaw.row PySem.Challenge.rw_withincall_k01_rings_and_kinds) (q := view (OpenLaw.row PySem.Challenge.rw_withincall_k01_rings_and_kinds).prog [41]) (H := FI.K01.hk) (ob := FI.K01.ob) (M := 8000) (loose := FI.K01.names) (d := HandSHeadRun.topDef (OpenLaw.row PySem.Challenge.rw_withincall_k01_rings_and_kinds).prog 41) (kwd := []) FI.K01.ob_eq
    (by kernel_rfl) (fun s => by kernel_rfl) FI.K01.run (by kernel_rfl) (by kernel_rfl) (by kernel_rfl) (by rfl) (by first | assumption | decide +kernel) (by decide +kernel) ⟨rfl, rfl, rfl, rfl, rfl, by decide +kernel⟩ ?hw ?hc
  case hw => w_witness2
  case hc =>
    refine FI.walk_ofW (l := PySem.Challenge.rw_withincall_k01_rings_and_kinds) (n := 63) (k := 12) (x := "_law_script") rfl (by decide) (by kernel_rfl) ⟨rfl, by decide, by decide⟩ ?F
    intro w mg fa h Y G hmg0
    obtain ⟨K, KX, c⟩ := Y
    have hmg : mg ("law" : PySem.Str) = some (.ref fa) := by
      have e : (HandSHeadRun.topDef (OpenLaw.row PySem.Challenge.rw_withincall_k01_rings_and_kinds).prog 41).name = ("law" : PySem.Str) := by kernel_rfl
      rw [← e]
      exact hmg0
    obtain ⟨fd, hb, hF⟩ := FI.K01.law_fn (w0 := w) (P0 := PySem.Challenge.rw_withincall_k01_rings_and_kinds.prog) ⟨by kernel_rfl, by kernel_rfl, ⟨h, KX, G⟩, c⟩ hmg
    exact ⟨K, fd, _, KX, hb, fun H a ns hl hO hS base => FI.sp_law (g := FI.K01.gm _ w K mg base) (F := FI.mkFn 1 FI.K01.N_law.length FI.K01.b_law) hO hS (pure ns hl), hF⟩
end
set_option maxRecDepth 100000
set_option maxHeartbeats 2000000
namespace FI
open PySem L2
def we {α : Type} (m : Option (Rs α × Hh)) (Q : Rs α → Hh → Prop) : Prop := ∃ r G, m = some (r, G) ∧ Q r G
def ws (m : Sm) (Q : Fl → Sg → Hh → Prop) : Prop := ∃ fl gs G, m = some (fl, gs, G) ∧ Q fl gs G
def onR {α : Type} (f : α → Hh → Prop) (x : Exc → Hh → Prop) : Rs α → Hh → Prop
  | .val a, G => f a G
  | .exc e, G => x e G
def onFl (n : Sg → Hh → Prop) (R : Fl → Sg → Hh → Prop) : Fl → Sg → Hh → Prop
  | .nx, gs, G => n gs G
  | fl, gs, G => R fl gs G
def asB (f : Bool → Hh → Prop) : D → Hh → Prop
  | .bl b, G => f b G
  | _, _ => False
def asO {α : Type} (o : Option α) (f : α → Prop) : Prop := match o with
  | some a => f a
  | none => False
section
variable {α β : Type} {Q : Rs α → Hh → Prop} {R : Fl → Sg → Hh → Prop} {f : α → Hh → Prop} {x : Exc → Hh → Prop} {n : Sg → Hh → Prop} {g : Bool → Hh → Prop}
@[simp] theorem onR_val {a : α} {G : Hh} : onR f x (.val a) G ↔ f a G := .rfl
@[simp] theorem onR_exc {e : Exc} {G : Hh} : onR f x (.exc e) G ↔ x e G := .rfl
@[simp] theorem onFl_nx {gs : Sg} {G : Hh} : onFl n R .nx gs G ↔ n gs G := .rfl
@[simp] theorem onFl_rt {d : D} {gs : Sg} {G : Hh} : onFl n R (.rt d) gs G ↔ R (.rt d) gs G := .rfl
@[simp] theorem onFl_bk {gs : Sg} {G : Hh} : onFl n R .bk gs G ↔ R .bk gs G := .rfl
@[simp] theorem onFl_ct {gs : Sg} {G : Hh} : onFl n R .ct gs G ↔ R .ct gs G := .rfl
@[simp] theorem onFl_ex {e : Exc} {gs : Sg} {G : Hh} : onFl n R (.ex e) gs G ↔ R (.ex e) gs G := .rfl
@[simp] theorem asB_bl {b : Bool} {G : Hh} : asB g (.bl b) G ↔ g b G := .rfl
@[simp] theorem asO_some {a : β} {k : β → Prop} : asO (some a) k ↔ k a := .rfl
@[simp] theorem asO_none {k : β → Prop} : asO none k ↔ False := .rfl
@[simp] theorem we_some (r : Rs α) (G : Hh) : we (some (r, G)) Q ↔ Q r G := ⟨fun ⟨_, _, e, q⟩ => by cases e; exact q, fun q => ⟨_, _, rfl, q⟩⟩
@[simp] theorem we_none : we (none : Option (Rs α × Hh)) Q ↔ False := ⟨fun ⟨_, _, e, _⟩ => (by cases e), False.elim⟩
@[simp] theorem ws_some (fl : Fl) (gs : Sg) (G : Hh) : ws (some (fl, gs, G)) R ↔ R fl gs G := ⟨fun ⟨_, _, _, e, q⟩ => by cases e; exact q, fun q => ⟨_, _, _, rfl, q⟩⟩
@[simp] theorem ws_none : ws none R ↔ False := ⟨fun ⟨_, _, _, e, _⟩ => (by cases e), False.elim⟩
theorem we_mono {m : Option (Rs α × Hh)} {Q' : Rs α → Hh → Prop} (h : we m Q') (k : ∀ r G, Q' r G → Q r G) : we m Q := let ⟨r, G, e, q⟩ := h; ⟨r, G, e, k r G q⟩
theorem ws_mono {m : Sm} {R' : Fl → Sg → Hh → Prop} (h : ws m R') (k : ∀ fl gs G, R' fl gs G → R fl gs G) : ws m R := let ⟨fl, gs, G, e, q⟩ := h; ⟨fl, gs, G, e, k fl gs G q⟩
theorem we_cong {m : Option (Rs α × Hh)} {Q' : Rs α → Hh → Prop} (k : ∀ r G, Q' r G ↔ Q r G) : we m Q' ↔ we m Q := ⟨fun h => we_mono h fun r G => (k r G).mp, fun h => we_mono h fun r G => (k r G).mpr⟩
theorem we_eq {m : Option (Rs α × Hh)} {r : Rs α} {G : Hh} (h : we m fun r' G' => r' = r ∧ G' = G) : m = some (r, G) := by
  obtain ⟨_, _, e, rfl, rfl⟩ := h
  exact e
theorem we_of {m : Option (Rs α × Hh)} {r : Rs α} {G : Hh} (h : m = some (r, G)) (q : Q r G) : we m Q := ⟨r, G, h, q⟩
@[simp] theorem we_bnd {m : Option (Rs β × Hh)} {k : β → Mm α} : we (bnd m k) Q ↔ we m (onR (fun a G => we (k a G) Q) fun e G => Q (.exc e) G) := by
  cases m with
  | none => simp [bnd]
  | some p =>
    obtain ⟨r, G⟩ := p
    cases r <;> simp [bnd]
@[simp] theorem ws_onE {m : Option (Rs α × Hh)} {gs : Sg} {k : α → Hh → Sm} : ws (onE m gs k) R ↔ we m (onR (fun a G => ws (k a G) R) fun e G => R (.ex e) gs G) := by
  cases m with
  | none => simp [onE]
  | some p =>
    obtain ⟨r, G⟩ := p
    cases r <;> simp [onE]
@[simp] theorem ws_bSeq {f h : SS} {gs : Sg} {G : Hh} : ws (bSeq f h gs G) R ↔ ws (f gs G) (onFl (fun gs1 G1 => ws (h gs1 G1) R) R) := by
  unfold bSeq
  cases f gs G with
  | none => simp
  | some p =>
    obtain ⟨fl, gs1, G1⟩ := p
    cases fl <;> simp
@[simp] theorem ws_bNil {gs : Sg} {G : Hh} : ws (bNil gs G) R ↔ R .nx gs G := by simp [bNil]
theorem we_sub {m : Option (Rs α × Hh)} {f f' : α → Hh → Prop} {x : Exc → Hh → Prop} (k : ∀ a G, f a G ↔ f' a G) : we m (onR f x) ↔ we m (onR f' x) := we_cong fun r G => by
  cases r with
  | val a => exact k a G
  | exc e => exact .rfl
@[simp] theorem ws_sAsg {f : SE} {t : GT} {gs : Sg} {G : Hh} : ws (sAsg f t gs G) R ↔ we (f gs G) (onR (fun d G1 => asO (t d gs G1) fun p => R .nx p.1 p.2) fun e G1 => R (.ex e) gs G1) := by
  unfold sAsg
  rw [ws_onE]
  refine we_sub fun d G1 => ?_
  cases t d gs G1 <;> simp
@[simp] theorem ws_sRet {f : SE} {gs : Sg} {G : Hh} : ws (sRet f gs G) R ↔ we (f gs G) (onR (fun d G1 => R (.rt d) gs G1) fun e G1 => R (.ex e) gs G1) := by
  unfold sRet; simp
@[simp] theorem ws_sRetN {gs : Sg} {G : Hh} : ws (sRetN gs G) R ↔ R (.rt .non) gs G := by unfold sRetN; simp
@[simp] theorem ws_sDrop {f : SE} {gs : Sg} {G : Hh} : ws (sDrop f gs G) R ↔ we (f gs G) (onR (fun d G1 => R .nx gs G1) fun e G1 => R (.ex e) gs G1) := by
  unfold sDrop; simp
@[simp] theorem ws_sIf {c : ST} {f h : SS} {gs : Sg} {G : Hh} : ws (sIf c f h gs G) R ↔ we (c gs G) (onR (fun b G1 => if b = true then ws (f gs G1) R else ws (h gs G1) R) fun e G1 => R (.ex e) gs G1) := by
  unfold sIf; rw [ws_onE]
  exact we_sub fun b G1 => by cases b <;> simp
@[simp] theorem ws_sPass {gs : Sg} {G : Hh} : ws (sPass gs G) R ↔ R .nx gs G := by simp [sPass]
@[simp] theorem ws_sBreak {gs : Sg} {G : Hh} : ws (sBreak gs G) R ↔ R .bk gs G := by simp [sBreak]
@[simp] theorem ws_sCont {gs : Sg} {G : Hh} : ws (sCont gs G) R ↔ R .ct gs G := by simp [sCont]
end
section
variable {Q : Rs D → Hh → Prop} {B : Rs Bool → Hh → Prop} {A : Rs (List D) → Hh → Prop} {gs : Sg} {G : Hh}
@[simp] theorem we_eC {d : D} : we (eC d gs G) Q ↔ Q (.val d) G := by simp [eC]
theorem we_eVar {i : Nat} : we (eVar i gs G) Q ↔ asO (gs[i]?) fun o => asO o fun d => Q (.val d) G := by
  unfold eVar
  cases gs[i]? with
  | none => simp
  | some o => cases o <;> simp
@[simp] theorem we_aNil : we (aNil gs G) A ↔ A (.val []) G := by simp [aNil]
@[simp] theorem we_aCons {f : SE} {r : SA} : we (aCons f r gs G) A ↔ we (f gs G) (onR (fun d G1 => we (r gs G1) (onR (fun ds G2 => A (.val (d :: ds)) G2) fun e G2 => A (.exc e) G2)) fun e G1 => A (.exc e) G1) := by
  unfold aCons; simp
@[simp] theorem we_eArgs {F : List D → Mm D} {fa : SA} : we (eArgs F fa gs G) Q ↔ we (fa gs G) (onR (fun ds G1 => we (F ds G1) Q) fun e G1 => Q (.exc e) G1) := by unfold eArgs; simp
@[simp] theorem we_eCall {F : Fn} {fa : SA} : we (eCall F fa gs G) Q ↔ we (fa gs G) (onR (fun ds G1 => we (F ds G1) Q) fun e G1 => Q (.exc e) G1) := by unfold eCall; simp
@[simp] theorem we_eOp {F : D → D → Mm D} {fa fb : SE} : we (eOp F fa fb gs G) Q ↔ we (fa gs G) (onR (fun d G1 => we (fb gs G1) (onR (fun e G2 => we (F d e G2) Q) fun e G2 => Q (.exc e) G2)) fun e G1 => Q (.exc e) G1) := by unfold eOp; simp
@[simp] theorem we_eUn {F : D → Mm D} {fa : SE} : we (eUn F fa gs G) Q ↔ we (fa gs G) (onR (fun d G1 => we (F d G1) Q) fun e G1 => Q (.exc e) G1) := by unfold eUn; simp
@[simp] theorem we_tB {fa : SE} : we (tB fa gs G) B ↔ we (fa gs G) (onR (asB fun b G1 => B (.val b) G1) fun e G1 => B (.exc e) G1) := by
  unfold tB; rw [we_bnd]
  exact we_sub fun d G1 => by cases d <;> simp [asB]
@[simp] theorem we_tNot {f : ST} : we (tNot' f gs G) B ↔ we (f gs G) (onR (fun b G1 => B (.val (!b)) G1) fun e G1 => B (.exc e) G1) := by unfold tNot'; simp
@[simp] theorem we_tAnd {f h : ST} : we (tAnd' f h gs G) B ↔ we (f gs G) (onR (fun b G1 => if b = true then we (h gs G1) B else B (.val false) G1) fun e G1 => B (.exc e) G1) := by
  unfold tAnd'; rw [we_bnd]
  exact we_sub fun b G1 => by cases b <;> simp
@[simp] theorem we_tOr {f h : ST} : we (tOr' f h gs G) B ↔ we (f gs G) (onR (fun b G1 => if b = true then B (.val true) G1 else we (h gs G1) B) fun e G1 => B (.exc e) G1) := by
  unfold tOr'; rw [we_bnd]
  exact we_sub fun b G1 => by cases b <;> simp
@[simp] theorem we_eIf {c : ST} {f h : SE} : we (eIf c f h gs G) Q ↔ we (c gs G) (onR (fun b G1 => if b = true then we (f gs G1) Q else we (h gs G1) Q) fun e G1 => Q (.exc e) G1) := by
  unfold eIf; rw [we_bnd]
  exact we_sub fun b G1 => by cases b <;> simp
@[simp] theorem we_eAnd {f h : SE} : we (eAnd f h gs G) Q ↔ we (f gs G) (onR (asB fun b G1 => if b = true then we (h gs G1) Q else Q (.val (.bl false)) G1) fun e G1 => Q (.exc e) G1) := by
  unfold eAnd; rw [we_bnd]
  exact we_sub fun d G1 => by
    cases d with
    | bl b => cases b <;> simp
    | _ => simp [asB]
@[simp] theorem we_eOr {f h : SE} : we (eOr f h gs G) Q ↔ we (f gs G) (onR (asB fun b G1 => if b = true then Q (.val (.bl true)) G1 else we (h gs G1) Q) fun e G1 => Q (.exc e) G1) := by
  unfold eOr; rw [we_bnd]
  exact we_sub fun d G1 => by
    cases d with
    | bl b => cases b <;> simp
    | _ => simp [asB]
@[simp] theorem we_eNot {f : SE} : we (eNot f gs G) Q ↔ we (f gs G) (onR (asB fun b G1 => Q (.val (.bl (!b))) G1) fun e G1 => Q (.exc e) G1) := by
  unfold eNot; rw [we_bnd]
  exact we_sub fun d G1 => by cases d <;> simp [asB]
@[simp] theorem we_eB {f : ST} : we (eB f gs G) Q ↔ we (f gs G) (onR (fun b G1 => Q (.val (.bl b)) G1) fun e G1 => Q (.exc e) G1) := by unfold eB; simp
@[simp] theorem we_eChain {F F' : D → D → Mm D} {fa fb fc : SE} : we (eChain F F' fa fb fc gs G) Q ↔ we (fa gs G) (onR (fun d G1 => we (fb gs G1) (onR (fun e G2 => we (F d e G2) (onR (asB fun b G3 => if b = true then we (fc gs G3) (onR (fun z G4 => we (F' e z G4) Q) fun e G4 => Q (.exc e) G4) else Q (.val (.bl false)) G3)
    fun e G3 => Q (.exc e) G3)) fun e G2 => Q (.exc e) G2)) fun e G1 => Q (.exc e) G1) := by
  unfold eChain; rw [we_bnd]
  refine we_sub fun d G1 => ?_
  rw [we_bnd]
  refine we_sub fun e G2 => ?_
  rw [we_bnd]
  refine we_sub fun k G3 => ?_
  cases k with
  | bl b => cases b <;> simp
  | _ => simp [asB]
@[simp] theorem we_eMtL {F : D → List D → Mm D} {fo : SE} {fa : SA} : we (eMtL F fo fa gs G) Q ↔ we (fo gs G) (onR (fun d G1 => if isLst G1 d = true then we (fa gs G1) (onR (fun ds G2 => we (F d ds G2) Q) fun e G2 => Q (.exc e) G2) else False) fun e G1 => Q (.exc e) G1) := by
  unfold eMtL; rw [we_bnd]
  refine we_sub fun d G1 => ?_
  by_cases h : isLst G1 d = true <;> simp [h]
end
theorem we_fn {n : Nat} {b : SS} {B : List D → Option (List D)} {ds es : List D} {G : Hh} {Q : Rs D → Hh → Prop} (hB : B ds = some es) (h : ws (b (start0 n es) G) fun fl _ G' => match fl with
    | .nx => we (slim G (some (.val .non, G'))) Q | .rt d => we (slim G (some (.val d, G'))) Q | .ex x => we (slim G (some (.exc x, G'))) Q | _ => False) : we (mkFnB B n b ds G) Q := by
  obtain ⟨fl, gs', G', e, q⟩ := h
  unfold mkFnB
  rw [hB]
  dsimp only
  unfold runB
  rw [e]
  cases fl with
  | nx => exact q
  | rt d => exact q
  | ex x => exact q
  | bk => exact q.elim
  | ct => exact q.elim
theorem we_slim {G0 G' : Hh} {d : D} {Q : Rs D → Hh → Prop} (hd : ∀ m, d ≠ .ref m) (hb : d.bw G0.length = true) (ho : Old G0 G') (q : Q (.val d) (G'.take G0.length)) : we (slim G0 (some (.val d, G'))) Q := by
  cases d with
  | ref m => exact absurd rfl (hd m)
  | _ =>
    unfold slim
    dsimp only
    rw [if_pos ⟨ho, hb⟩]
    exact (we_some _ _).mpr q
end FI
namespace FI
open PySem L2
section
variable {G G' : Hh}
theorem slim_len {r : Rs D} (h : G'.length = G.length) : slim G (some (r, G')) = some (r, G') := by
  have ht : G'.take G.length = G' := by rw [← h]; exact List.take_length
  cases r with
  | exc x =>
    unfold slim
    dsimp only
    split
    · rw [ht]
    · rfl
  | val d =>
    cases d with
    | ref m =>
      unfold slim
      dsimp only
      split
      · split
        · rw [ht]
        · rename_i hm
          have e : G'[m]? = none := List.getElem?_eq_none (by omega)
          rw [e]
      · rfl
    | _ =>
      unfold slim
      dsimp only
      split
      · rw [ht]
      · rfl
@[simp] theorem slim_same {r : Rs D} : slim G (some (r, G)) = some (r, G) := slim_len rfl
theorem slim_old {d : D} (hd : ∀ m, d ≠ .ref m) (hb : d.bw G.length = true) (ho : Old G G') : slim G (some (.val d, G')) = some (.val d, G'.take G.length) := we_eq (we_slim hd hb ho ⟨rfl, rfl⟩)
theorem slim_oldX {x : Exc} (hb : x.bw G.length = true) (ho : Old G G') : slim G (some (.exc x, G')) = some (.exc x, G'.take G.length) := by
  unfold slim
  dsimp only
  rw [if_pos ⟨ho, hb⟩]
theorem slim_new {m : Nat} {o : O} (ho : Old G G') (hm : G.length ≤ m) (e : G'[m]? = some o) (hb : o.bw G.length = true) : slim G (some (.val (.ref m), G')) = some (.val (.ref G.length), G'.take G.length ++ [o]) := by
  unfold slim
  dsimp only
  rw [if_pos ho, if_neg (by omega), e]
  dsimp only
  rw [if_pos hb]
end
end FI
namespace FI
open PySem L2
section
variable {G G' : Hh} {Q : Rs D → Hh → Prop} {k : Sg × Hh → Prop} {gs : Sg}
@[simp] theorem dAdd_int {i j : Int} : dAdd (.int i) (.int j) G = some (.val (.int (i + j)), G) := rfl
@[simp] theorem dSub_int {i j : Int} : dSub (.int i) (.int j) G = some (.val (.int (i - j)), G) := rfl
theorem dMul_int {i j : Int} (h : okMul i j = true) : dMul (.int i) (.int j) G = some (.val (.int (i * j)), G) := by
  show dMulI (.int i) (.int j) G = _
  show (if okMul i j = true then some (Rs.val (D.int (i * j)), G) else none) = _
  rw [if_pos h]
theorem dMod_int {i j : Int} (h : 0 < j) : dMod (.int i) (.int j) G = some (.val (.int (i % j)), G) := by
  show (if decide (0 < j) = true then some (Rs.val (D.int (i % j)), G) else none) = _
  rw [if_pos (decide_eq_true h)]
theorem dFdiv_int {i j : Int} (h : okDiv i j = true) : dFdiv (.int i) (.int j) G = some (.val (.int (i / j)), G) := by
  show (if okDiv i j = true then some (Rs.val (D.int (i / j)), G) else none) = _
  rw [if_pos h]
theorem dPow_int {i j : Int} (h : okPow i j = true) : dPow (.int i) (.int j) G = some (.val (.int (i ^ j.toNat)), G) := by
  show (if okPow i j = true then some (Rs.val (D.int (i ^ j.toNat)), G) else none) = _
  rw [if_pos h]
@[simp] theorem dNeg_int {i : Int} : dNeg (.int i) G = some (.val (.int (-i)), G) := rfl
@[simp] theorem dLtA_int {i j : Int} : dLtA (.int i) (.int j) G = some (.val (.bl (decide (i < j))), G) := rfl
@[simp] theorem dLe_int {i j : Int} : dLe (.int i) (.int j) G = some (.val (.bl (decide (i ≤ j))), G) := rfl
@[simp] theorem dGt_int {i j : Int} : dGt (.int i) (.int j) G = some (.val (.bl (decide (j < i))), G) := rfl
@[simp] theorem dGe_int {i j : Int} : dGe (.int i) (.int j) G = some (.val (.bl (decide (j ≤ i))), G) := rfl
@[simp] theorem bInt_int {i : Int} : bInt (.int i) G = some (.val (.int i), G) := rfl
@[simp] theorem bAbs_int {i : Int} : bAbs (.int i) G = some (.val (.int (if i < 0 then -i else i)), G) := rfl
def ixO (o : O) (e : D) : Option D := match o with
  | .lst xs => (match e with
    | .int i => atI xs i
    | _ => none)
  | o => (lookO o e).join
@[simp] theorem ixO_lst {xs : List D} {i : Int} : ixO (.lst xs) (.int i) = atI xs i := rfl
@[simp] theorem we_ixR {n : Nat} {e : D} : we (dIx (.ref n) e G) Q ↔ asO G[n]? fun o => asO (ixO o e) fun z => Q (.val z) G := by
  unfold dIx orF dIxS dIxD dIxT itemsD
  cases h : G[n]? with
  | none => simp [h]
  | some o =>
    cases o with
    | lst xs =>
      cases e with
      | int i =>
        show _ ↔ asO (atI xs i) _
        cases h2 : atI xs i with
        | none => simp [lookO, h, h2]
        | some z => simp [h, h2]
      | _ => simp [ixO, lookO, h]
    | dK kvs =>
      simp only [asO_some, ixO]
      cases h2 : lookO (.dK kvs) e with
      | none => simp [h, h2]
      | some z => cases z <;> simp [h, h2]
    | dT kvs =>
      simp only [asO_some, ixO]
      cases h2 : lookO (.dT kvs) e with
      | none => simp [h, h2]
      | some z => cases z <;> simp [h, h2]
    | dF kvs =>
      simp only [asO_some, ixO]
      cases h2 : lookO (.dF kvs) e with
      | none => simp [h, h2]
      | some z => cases z <;> simp [h, h2]
    | ins c fs => simp [ixO, lookO, h]
@[simp] theorem we_ixT {xs : List D} {i : Int} : we (dIx (.tup xs) (.int i) G) Q ↔ asO (atI xs i) fun z => Q (.val z) G := by
  unfold dIx orF dIxS dIxD dIxT itemsD
  dsimp only
  cases h : atI xs i <;> simp
@[simp] theorem asO_gNm {i : Nat} {d : D} : asO (gNm i d gs G) k ↔ k (gs.set i (some d), G) := .rfl
@[simp] theorem asO_gSb {fo fi : SE} {d : D} : asO (gSb fo fi d gs G) k ↔ we (fo gs G) (onR (fun x G1 => we (fi gs G1) (onR (fun y G2 => asO (dPut x y d G2) fun G3 => k (gs, G3)) fun _ _ => False)) fun _ _ => False) := by
  unfold gSb
  cases fo gs G with
  | none => simp
  | some p =>
    obtain ⟨r, G1⟩ := p
    cases r with
    | exc x => simp
    | val x =>
      dsimp only
      simp only [we_some, onR_val]
      cases fi gs G1 with
      | none => simp
      | some p =>
        obtain ⟨r, G2⟩ := p
        cases r with
        | exc x => simp
        | val y =>
          dsimp only
          simp only [we_some, onR_val]
          cases dPut x y d G2 <;> simp
@[simp] theorem asO_dPut {n : Nat} {e v : D} {k : Hh → Prop} : asO (dPut (.ref n) e v G) k ↔ asO G[n]? fun o => asO (putO o e v) fun o' => k (G.set n o') := by
  unfold dPut
  dsimp only
  cases G[n]? with
  | none => simp
  | some o =>
    dsimp only
    simp only [asO_some]
    cases putO o e v <;> simp
@[simp] theorem putO_lst {xs : List D} {i : Int} {v : D} : putO (.lst xs) (.int i) v = (ixN xs.length i).map fun j => .lst (xs.set j v) := by
  unfold putO
  dsimp only
  cases ixN xs.length i <;> rfl
theorem atI_nat {α : Type} {xs : List α} {i : Int} (h0 : 0 ≤ i) : atI xs i = xs[i.toNat]? := by
  unfold atI ixN
  rw [if_pos h0]
  by_cases h : i < xs.length
  · rw [if_pos h]; rfl
  · rw [if_neg h]
    exact (List.getElem?_eq_none (by omega)).symm
@[simp] theorem asO_map {α β : Type} {o : Option α} {f : α → β} {k : β → Prop} : asO (o.map f) k ↔ asO o fun a => k (f a) := by cases o <;> rfl
@[simp] theorem asO_bind {α β : Type} {o : Option α} {f : α → Option β} {k : β → Prop} : asO (o.bind f) k ↔ asO o fun a => asO (f a) k := by cases o <;> rfl
end
end FI
namespace FI
open PySem L2
theorem set_selfO {α : Type} {l : List α} {n : Nat} {x : α} : (l.set n x)[n]? = (l[n]?).map fun _ => x := by
  rw [List.getElem?_set_self']
  rfl
end FI
namespace FI
open PySem L2
section
variable {G : Hh} {neg : Bool}
theorem pdS_int {i : Int} : pdS G (.int i) = some (.int i) := rfl
theorem dEqv_of {d e : D} {p q : PyData} (h1 : pdS G d = some p) (h2 : pdS G e = some q) : dEqv neg d e G = some (.val (.bl (neg ^^ PyData.eqv p q)), G) := by
  unfold dEqv
  rw [h1, h2]
@[simp] theorem dEqv_int {i j : Int} : dEqv neg (.int i) (.int j) G = some (.val (.bl (neg ^^ decide (i = j))), G) := by
  rw [dEqv_of pdS_int pdS_int]
  have e : PyData.eqv (.int i) (.int j) = decide (i = j) := by
    unfold PyData.eqv
    by_cases h : i = j <;> simp [h]
  rw [e]
theorem okMul_r {i j : Int} (h : -(2 ^ 64) < j ∧ j < 2 ^ 64) : okMul i j = true := by
  unfold okMul
  rw [decide_eq_true h, Bool.or_true]
theorem dMul_r {i j : Int} (h : -(2 ^ 64) < j ∧ j < 2 ^ 64) : dMul (.int i) (.int j) G = some (.val (.int (i * j)), G) := dMul_int (okMul_r h)
end
end FI
namespace FI
open PySem L2
section
variable {G : Hh} {Q : Rs D → Hh → Prop}
def lenO : O → Option Nat
  | .lst xs => some xs.length
  | .dK kvs => some kvs.length
  | .dT kvs => some kvs.length
  | .dF _ => none
  | .ins _ _ => none
@[simp] theorem lenO_lst {xs : List D} : lenO (.lst xs) = some xs.length := rfl
@[simp] theorem we_lenR {n : Nat} : we (bLen (.ref n) G) Q ↔ asO G[n]? fun o => asO (lenO o) fun k => Q (.val (.int k)) G := by
  unfold bLen lenD
  dsimp only
  cases h : G[n]? with
  | none => simp
  | some o => cases o <;> simp [lenO]
@[simp] theorem lenT {xs : List D} : bLen (.tup xs) G = some (.val (.int xs.length), G) := rfl
end
end FI
namespace FI
open PySem L2
theorem okDiv_lt {i j : Int} (h0 : 0 < j) (h1 : j < 2 ^ 64) : okDiv i j = true := by
  unfold okDiv
  rw [decide_eq_true h0, Bool.true_and]
  refine decide_eq_true ?_
  have h3 : j.natAbs ≠ 0 := by omega
  have h4 := (Nat.log2_lt (n := j.natAbs) (k := 64) h3).mpr (by omega)
  omega
theorem dFdiv_lt {i j : Int} {G : Hh} (h0 : 0 < j) (h1 : j < 2 ^ 64) : dFdiv (.int i) (.int j) G = some (.val (.int (i / j)), G) := dFdiv_int (okDiv_lt h0 h1)
end FI
set_option maxRecDepth 100000
set_option maxHeartbeats 2000000
namespace FI
open PySem L2
def onTurn (P : Sg → Hh → Prop) (R : Fl → Sg → Hh → Prop) : Fl → Sg → Hh → Prop
  | .nx, gs, G => P gs G
  | .ct, gs, G => P gs G
  | .bk, gs, G => R .nx gs G
  | .rt d, gs, G => R (.rt d) gs G
  | .ex x, gs, G => R (.ex x) gs G
section
variable {P : Sg → Hh → Prop} {R : Fl → Sg → Hh → Prop} {gs : Sg} {G : Hh}
@[simp] theorem onTurn_nx : onTurn P R .nx gs G ↔ P gs G := .rfl
@[simp] theorem onTurn_ct : onTurn P R .ct gs G ↔ P gs G := .rfl
@[simp] theorem onTurn_bk : onTurn P R .bk gs G ↔ R .nx gs G := .rfl
@[simp] theorem onTurn_rt {d : D} : onTurn P R (.rt d) gs G ↔ R (.rt d) gs G := .rfl
@[simp] theorem onTurn_ex {x : Exc} : onTurn P R (.ex x) gs G ↔ R (.ex x) gs G := .rfl
end
theorem forL_ind {t : GT} {b : SS} {gd : Hh → Prop} {R : Fl → Sg → Hh → Prop} : ∀ (items : List D) (P : Nat → Sg → Hh → Prop) (gs : Sg) (G : Hh), P 0 gs G → (∀ i gs G, i ≤ items.length → P i gs G → gd G) →
    (∀ i (h : i < items.length) gs G, P i gs G → asO (t items[i] gs G) fun p => ws (b p.1 p.2) (onTurn (P (i + 1)) R)) → (∀ gs G, P items.length gs G → R .nx gs G) → ws (forL t b gd items gs G) R
  | [], P, gs, G, h0, hg, _, he => by
    unfold forL
    rw [if_pos (hg 0 gs G (Nat.le_refl _) h0)]
    exact (ws_some _ _ _).mpr (he gs G h0)
  | d :: ds, P, gs, G, h0, hg, hs, he => by
    unfold forL
    rw [if_pos (hg 0 gs G (Nat.zero_le _) h0)]
    have z := hs 0 (Nat.zero_lt_succ _) gs G h0
    have z' : asO (t d gs G) fun p => ws (b p.1 p.2) (onTurn (P 1) R) := z
    cases e : t d gs G with
    | none => rw [e] at z'; exact z'.elim
    | some p =>
      rw [e] at z'
      obtain ⟨fl, gs1, G1, e1, q⟩ : ws (b p.1 p.2) (onTurn (P 1) R) := z'
      have rest : ∀ gs G, P 1 gs G → ws (forL t b gd ds gs G) R := fun gs G h1 =>
        forL_ind ds (fun i => P (i + 1)) gs G h1 (fun i gs G hi h => hg (i + 1) gs G (by simp; omega) h) (fun i hi gs G h => hs (i + 1) (by simp; omega) gs G h) (fun gs G h => he gs G h)
      obtain ⟨p1, p2⟩ := p
      dsimp only at e1 ⊢
      rw [e1]
      cases fl with
      | nx => exact rest _ _ q
      | ct => exact rest _ _ q
      | bk => exact (ws_some _ _ _).mpr q
      | rt d => exact (ws_some _ _ _).mpr q
      | ex x => exact (ws_some _ _ _).mpr q
theorem ws_sFor {fw : SW} {t : GT} {b : SS} {gs : Sg} {G G1 : Hh} {R : Fl → Sg → Hh → Prop} {items : List D} {gd : Hh → Prop} (hw : fw gs G = some (.val (items, gd), G1)) (P : Nat → Sg → Hh → Prop) (h0 : P 0 gs G1) (hg : ∀ i gs G, i ≤ items.length → P i gs G → gd G)
    (hs : ∀ i (h : i < items.length) gs G, P i gs G → asO (t items[i] gs G) fun p => ws (b p.1 p.2) (onTurn (P (i + 1)) R)) (he : ∀ gs G, P items.length gs G → R .nx gs G) : ws (sFor fw t b gs G) R := by
  unfold sFor
  rw [hw, onE_val]
  exact forL_ind items P gs G1 h0 hg hs he
theorem lcL_ind {t : GT} {tt : ST} {fe : SE} {gd : Hh → Prop} {gs0 : Sg} {n : Nat} : ∀ (items : List D) (P : Nat → Hh → Prop) (G : Hh), P 0 G → (∀ i G, i ≤ items.length → P i G → gd G) →
    (∀ i (h : i < items.length) G, P i G → asO (t items[i] gs0 G) fun p => we (tt p.1 p.2) (onR (fun k G2 => if k = true then we (fe p.1 G2) (onR (fun y G3 => ∃ acc, G3[n]? = some (.lst acc) ∧ acc.length < 100000 ∧ P (i + 1) (G3.set n (.lst (acc ++ [y])))) fun _ _ => False) else P (i + 1) G2) fun _ _ => False)) →
    ∃ G', lcL t tt fe gd gs0 n items G = some G' ∧ P items.length G'
  | [], P, G, h0, hg, _ => by
    unfold lcL
    rw [if_pos (hg 0 G (Nat.le_refl _) h0)]
    exact ⟨G, rfl, h0⟩
  | d :: ds, P, G, h0, hg, hs => by
    unfold lcL
    rw [if_pos (hg 0 G (Nat.zero_le _) h0)]
    have z : asO (t d gs0 G) fun p => we (tt p.1 p.2) (onR (fun k G2 => if k = true then we (fe p.1 G2) (onR (fun y G3 => ∃ acc, G3[n]? = some (.lst acc) ∧ acc.length < 100000 ∧ P 1 (G3.set n (.lst (acc ++ [y])))) fun _ _ => False) else P 1 G2) fun _ _ => False) := hs 0 (Nat.zero_lt_succ _) G h0
    have rest : ∀ G, P 1 G → ∃ G', lcL t tt fe gd gs0 n ds G = some G' ∧ P (ds.length + 1) G' := fun G h1 =>
      lcL_ind ds (fun i => P (i + 1)) G h1 (fun i G hi h => hg (i + 1) G (by simp; omega) h) (fun i hi G h => hs (i + 1) (by simp; omega) G h)
    cases e : t d gs0 G with
    | none => rw [e] at z; exact z.elim
    | some p =>
      obtain ⟨p1, p2⟩ := p
      rw [e] at z
      obtain ⟨r, G2, e1, q⟩ := z
      dsimp only at e1 ⊢
      rw [e1]
      cases r with
      | exc x => exact q.elim
      | val k =>
        cases k with
        | false => exact rest _ (by simpa using q)
        | true =>
          rw [onR_val, if_pos rfl] at q
          obtain ⟨r, G3, e2, q2⟩ := q
          dsimp only at e2 ⊢
          rw [e2]
          cases r with
          | exc x => exact q2.elim
          | val y =>
            obtain ⟨acc, e3, hl, h1⟩ := q2
            dsimp only
            rw [e3]
            dsimp only
            rw [if_pos hl]
            exact rest _ h1
theorem we_eLc {fw : SW} {t : GT} {tt : ST} {fe : SE} {own : List Nat} {gs : Sg} {G G1 : Hh} {Q : Rs D → Hh → Prop} {items : List D} {gd : Hh → Prop} (hw : fw gs G = some (.val (items, gd), G1)) (P : Nat → Hh → Prop) (h0 : P 0 (G1 ++ [.lst []])) (hg : ∀ i G, i ≤ items.length → P i G → gd G)
    (hs : ∀ i (h : i < items.length) G, P i G → asO (t items[i] (wipeG gs own) G) fun p => we (tt p.1 p.2) (onR (fun k G2 => if k = true then we (fe p.1 G2) (onR (fun y G3 => ∃ acc, G3[G1.length]? = some (.lst acc) ∧ acc.length < 100000 ∧ P (i + 1) (G3.set G1.length (.lst (acc ++ [y])))) fun _ _ => False) else P (i + 1) G2) fun _ _ => False))
    (he : ∀ G', P items.length G' → Q (.val (.ref G1.length)) G') : we (eLc fw t tt fe own gs G) Q := by
  obtain ⟨G', e, h⟩ := lcL_ind (n := G1.length) (gs0 := wipeG gs own) items P (G1 ++ [.lst []]) h0 hg hs
  unfold eLc
  rw [hw, bnd_val]
  dsimp only
  rw [e]
  exact (we_some _ _).mpr (he G' h)
@[simp] theorem we_tTrue {gs : Sg} {G : Hh} {B : Rs Bool → Hh → Prop} : we (tTrue gs G) B ↔ B (.val true) G := by unfold tTrue; simp
theorem we_eLcP {fw : SW} {t : GT} {tt : ST} {fe : SE} {own : List Nat} {gs : Sg} {G G1 : Hh} {Q : Rs D → Hh → Prop} {items : List D} {gd : Hh → Prop} (hw : fw gs G = some (.val (items, gd), G1)) (f : D → Option D) (hlen : items.length ≤ 100000) (hg : ∀ acc, gd (G1 ++ [.lst acc]))
    (hs : ∀ d ∈ items, ∀ acc, asO (t d (wipeG gs own) (G1 ++ [.lst acc])) fun p => p.2 = G1 ++ [.lst acc] ∧ we (tt p.1 p.2) (onR (fun k G2 => G2 = G1 ++ [.lst acc] ∧ if k = true then we (fe p.1 G2) (onR (fun y G3 => f d = some y ∧ G3 = G1 ++ [.lst acc]) fun _ _ => False) else f d = none) fun _ _ => False))
    (he : Q (.val (.ref G1.length)) (G1 ++ [.lst (items.filterMap f)])) : we (eLc fw t tt fe own gs G) Q := by
  refine we_eLc hw (fun i G' => G' = G1 ++ [.lst ((items.take i).filterMap f)]) (by simp) (fun i G' _ h => by rw [h]; exact hg _) (fun i h G' hP => ?_) (fun G' hP => by rw [hP, List.take_length]; exact he)
  have hP' : G' = G1 ++ [.lst ((items.take i).filterMap f)] := hP
  have z := hs items[i] (List.getElem_mem h) ((items.take i).filterMap f)
  rw [← hP'] at z
  have et : (items.take (i + 1)).filterMap f = (items.take i).filterMap f ++ (match f items[i] with | some y => [y] | none => []) := by
    rw [List.take_succ_eq_append_getElem h, List.filterMap_append]
    cases hf : f items[i] <;> simp [hf]
  cases e : t items[i] (wipeG gs own) G' with
  | none => rw [e] at z; exact z.elim
  | some p =>
    rw [e] at z
    obtain ⟨hp, z⟩ := z
    refine we_mono z fun r G2 q => ?_
    cases r with
    | exc x => exact q.elim
    | val k =>
      obtain ⟨h2, q⟩ := q
      subst h2
      rw [onR_val]
      cases k with
      | false =>
        rw [if_neg Bool.false_ne_true] at q ⊢
        rw [et, q]
        simpa using hP'
      | true =>
        rw [if_pos rfl] at q ⊢
        refine we_mono q fun r3 G3 q3 => ?_
        cases r3 with
        | exc x => exact q3.elim
        | val y =>
          obtain ⟨hy, h3⟩ := q3
          subst h3
          refine ⟨(items.take i).filterMap f, by rw [hP']; simp, ?_, ?_⟩
          · have := List.length_filterMap_le f (items.take i)
            rw [List.length_take] at this
            omega
          · rw [et, hy, hP']
            simp
theorem wSeq_tup {fe : SE} {gs : Sg} {G G1 : Hh} {xs : List D} (h : fe gs G = some (.val (.tup xs), G1)) : wSeq fe gs G = some (.val (xs, anyH), G1) := by unfold wSeq; rw [h]; rfl
theorem wSeq_ref {fe : SE} {gs : Sg} {G G1 : Hh} {n : Nat} {xs : List D} (h : fe gs G = some (.val (.ref n), G1)) (h1 : G1[n]? = some (.lst xs)) : wSeq fe gs G = some (.val (xs, stays n xs), G1) := by
  unfold wSeq seqOf
  rw [h, bnd_val]
  dsimp only
  rw [h1]
end FI
namespace FI
open PySem L2
theorem cutL_map {α β : Type} (f : α → β) (xs : List α) (lo hi : Option Int) : cutL (xs.map f) lo hi = (cutL xs lo hi).map f := by
  unfold cutL
  rw [List.length_map, List.map_take, List.map_drop]
section
variable {G : Hh} {Q : Rs D → Hh → Prop} {gs : Sg}
@[simp] theorem we_eSl {fa : SE} {fl fh : SO} : we (eSl fa fl fh gs G) Q ↔ we (fa gs G) (onR (fun d G1 => we (fl gs G1) (onR (fun l G2 => we (fh gs G2) (onR (fun h G3 => we (dSl d l h G3) Q) fun e G3 => Q (.exc e) G3)) fun e G2 => Q (.exc e) G2)) fun e G1 => Q (.exc e) G1) := by unfold eSl; simp
@[simp] theorem we_oNone {B : Rs (Option Int) → Hh → Prop} : we (oNone gs G) B ↔ B (.val none) G := by unfold oNone; simp
def asI (f : Int → Hh → Prop) : D → Hh → Prop
  | .int i, G => f i G
  | _, _ => False
@[simp] theorem asI_int {f : Int → Hh → Prop} {i : Int} : asI f (.int i) G ↔ f i G := .rfl
@[simp] theorem we_oSome {fe : SE} {B : Rs (Option Int) → Hh → Prop} : we (oSome fe gs G) B ↔ we (fe gs G) (onR (asI fun i G1 => B (.val (some i)) G1) fun e G1 => B (.exc e) G1) := by
  unfold oSome; rw [we_bnd]
  exact we_sub fun d G1 => by cases d <;> simp [asI]
@[simp] theorem dSl_tup {xs : List D} {lo hi : Option Int} : dSl (.tup xs) lo hi G = some (.val (.tup (cutL xs lo hi)), G) := rfl
@[simp] theorem dSl_kl {xs : List D} {lo hi : Option Int} : dSl (.kl xs) lo hi G = some (.val (.ref G.length), G ++ [.lst (cutL xs lo hi)]) := rfl
def lstO : O → Option (List D)
  | .lst xs => some xs
  | _ => none
@[simp] theorem lstO_lst {xs : List D} : lstO (.lst xs) = some xs := rfl
@[simp] theorem dSl_ref {n : Nat} {lo hi : Option Int} : we (dSl (.ref n) lo hi G) Q ↔ asO G[n]? fun o => asO (lstO o) fun xs => Q (.val (.ref G.length)) (G ++ [.lst (cutL xs lo hi)]) := by
  unfold dSl
  dsimp only
  cases G[n]? with
  | none => simp
  | some o => cases o <;> simp [lstO]
@[simp] theorem dTup_eq {ds : List D} (h : ds.length ≤ 100000) : dTup ds G = some (.val (.tup ds), G) := if_pos h
@[simp] theorem dLst_eq {ds : List D} (h : ds.length ≤ 100000) : dLst ds G = some (.val (.ref G.length), G ++ [.lst ds]) := if_pos h
end
end FI
namespace FI
open PySem L2
@[simp] theorem we_addR {G : Hh} {Q : Rs D → Hh → Prop} {n m : Nat} : we (dAdd (.ref n) (.ref m) G) Q ↔ asO G[n]? fun o => asO (lstO o) fun xs => asO G[m]? fun o2 => asO (lstO o2) fun ys => xs.length + ys.length ≤ 100000 ∧ Q (.val (.ref G.length)) (G ++ [.lst (xs ++ ys)]) := by
  unfold dAdd dCatL
  dsimp only
  cases h1 : G[n]? with
  | none => simp
  | some o =>
    cases o with
    | lst xs =>
      cases h2 : G[m]? with
      | none => simp
      | some o2 =>
        cases o2 with
        | lst ys =>
          by_cases hl : xs.length + ys.length ≤ 100000
          · simp [hl]
          · simp [hl]
        | _ => simp [lstO]
    | _ => simp [lstO]
@[simp] theorem addT {G : Hh} {xs ys : List D} : dAdd (.tup xs) (.tup ys) G = dCatT (.tup xs) (.tup ys) G := rfl
end FI
namespace FI
open PySem L2
def onI (f : Int → D) : D → Option D
  | .int i => some (f i)
  | _ => none
@[simp] theorem onI_int {f : Int → D} {i : Int} : onI f (.int i) = some (f i) := rfl
end FI
namespace FI
open PySem L2
theorem ixN_nat {n : Nat} {i : Int} (h : 0 ≤ i) (h2 : i.toNat < n) : ixN n i = some i.toNat := by
  unfold ixN
  rw [if_pos h, if_pos (by omega)]
end FI
set_option maxRecDepth 100000
set_option maxHeartbeats 2000000
namespace FI
open PySem L2
def Rp (G : Hh) (k : Nat) (d : D) (p : PyData) : Prop := pd G k d = some p ∧ p.canLay0 = true ∧ p.depth < k
inductive RpAll (G : Hh) (k : Nat) : List D → List PyData → Prop
  | nil : RpAll G k [] []
  | cons {d : D} {p : PyData} {ds : List D} {ps : List PyData} : Rp G k d p → RpAll G k ds ps → RpAll G k (d :: ds) (p :: ps)
section
variable {G : Hh} {k : Nat}
theorem Rp.int (i : Int) : Rp G (k + 1) (.int i) (.int i) := ⟨rfl, rfl, Nat.zero_lt_succ _⟩
theorem Rp.bl (i : Bool) : Rp G (k + 1) (.bl i) (.bool i) := ⟨rfl, rfl, Nat.zero_lt_succ _⟩
theorem Rp.non : Rp G (k + 1) .non .none := ⟨rfl, rfl, Nat.zero_lt_succ _⟩
theorem Rp.str {s : Str} (h : PyData.canLay0 (.str s) = true) : Rp G (k + 1) (.str s) (.str s) := ⟨rfl, h, Nat.zero_lt_succ _⟩
theorem RpAll.all : ∀ {ds : List D} {ps : List PyData}, RpAll G k ds ps → optAll (ds.map (pd G k)) = some ps ∧ PyData.canLayAll0 ps = true ∧ (PyData.depthAll ps < k ∨ ds = [])
  | _, _, .nil => ⟨rfl, rfl, .inr rfl⟩
  | _, _, .cons (ds := ds) (ps := ps) h t => by
    obtain ⟨h1, h2, h3⟩ := h
    obtain ⟨t1, t2, t3⟩ := RpAll.all t
    refine ⟨?_, ?_, .inl ?_⟩
    · rw [List.map_cons, h1]
      show (optAll (ds.map (pd G k))).map _ = _
      rw [t1]
      rfl
    · unfold PyData.canLayAll0
      rw [h2, t2]
      rfl
    · unfold PyData.depthAll
      rcases t3 with t3 | t3
      · omega
      · subst t3
        cases t
        unfold PyData.depthAll
        omega
theorem Rp.tup {ds : List D} {ps : List PyData} (h : RpAll G (k + 1) ds ps) : Rp G (k + 2) (.tup ds) (.tuple ps) := by
  obtain ⟨h1, h2, h3⟩ := h.all
  refine ⟨?_, h2, ?_⟩
  · show (optAll (ds.map (pd G (k + 1)))).map _ = _
    rw [h1]
    rfl
  · show PyData.depthAll ps + 1 < k + 2
    rcases h3 with h3 | h3
    · omega
    · subst h3
      cases h
      show 0 + 1 < k + 2
      omega
theorem Rp.kt {ds : List D} {ps : List PyData} (h : RpAll G (k + 1) ds ps) : Rp G (k + 2) (.kt ds) (.tuple ps) := Rp.tup h
theorem Rp.lst {n : Nat} {ds : List D} {ps : List PyData} (hn : G[n]? = some (.lst ds)) (h : RpAll G (k + 1) ds ps) : Rp G (k + 2) (.ref n) (.list ps) := by
  obtain ⟨h1, h2, h3⟩ := h.all
  refine ⟨?_, h2, ?_⟩
  · unfold pd
    rw [hn]
    dsimp only
    rw [h1]
    rfl
  · show PyData.depthAll ps + 1 < k + 2
    rcases h3 with h3 | h3
    · omega
    · subst h3
      cases h
      show 0 + 1 < k + 2
      omega
theorem Rp.pdS {d : D} {p : PyData} (h : Rp G 8 d p) : pdS G d = some p := by
  obtain ⟨h1, h2, h3⟩ := h
  unfold FI.pdS
  rw [h1]
  dsimp only
  rw [if_pos]
  unfold SeqAt.shaped
  rw [h2, Bool.true_and]
  exact decide_eq_true (by omega)
theorem eqv_rp {neg : Bool} {d e : D} {p q : PyData} (h1 : Rp G 8 d p) (h2 : Rp G 8 e q) : dEqv neg d e G = some (.val (.bl (neg ^^ PyData.eqv p q)), G) := dEqv_of h1.pdS h2.pdS
theorem in_rpT {neg : Bool} {d e : D} {p : PyData} {ps : List PyData} (h1 : Rp G 8 d p) (h2 : Rp G 8 e (.tuple ps)) : dIn neg d e G = some (.val (.bl (neg ^^ ps.any fun z => PyData.eqv z p)), G) := by
  unfold dIn orF dInS
  rw [h1.pdS, h2.pdS]
theorem RpAll.map {α : Type} {f : α → D} {g : α → PyData} : ∀ {xs : List α}, (∀ x ∈ xs, Rp G k (f x) (g x)) → RpAll G k (xs.map f) (xs.map g)
  | [], _ => .nil
  | x :: r, h => .cons (h x (List.mem_cons_self ..)) (RpAll.map fun y hy => h y (List.mem_cons_of_mem _ hy))
end
end FI
namespace FI
open PySem L2
section
variable {G : Hh} {Q : Rs D → Hh → Prop}
@[simp] theorem isLst_ref {n : Nat} : (isLst G (.ref n) = true) ↔ asO G[n]? fun o => (lstO o).isSome = true := by
  unfold isLst
  dsimp only
  cases G[n]? with
  | none => simp
  | some o => cases o <;> simp [lstO]
@[simp] theorem we_append {n : Nat} {d : D} : we (mLst fAppend (.ref n) [d] G) Q ↔ asO G[n]? fun o => asO (lstO o) fun xs => xs.length < 100000 ∧ Q (.val .non) (G.set n (.lst (xs ++ [d]))) := by
  unfold mLst
  dsimp only
  cases G[n]? with
  | none => simp
  | some o =>
    cases o with
    | lst xs =>
      dsimp only [fAppend]
      by_cases h : xs.length < 100000 <;> simp [h]
    | _ => simp [lstO]
@[simp] theorem bMin2_int {i j : Int} : bMin2 (.int i) (.int j) G = some (.val (.int (if j < i then j else i)), G) := rfl
@[simp] theorem bMax2_int {i j : Int} : bMax2 (.int i) (.int j) G = some (.val (.int (if i < j then j else i)), G) := rfl
end
end FI
namespace FI
open PySem L2
theorem ws_cut {f h : SS} {gs : Sg} {G : Hh} {R : Fl → Sg → Hh → Prop} (St : Sg → Hh → Prop) (h1 : ws (f gs G) fun fl gs' G' => fl = .nx ∧ St gs' G') (h2 : ∀ gs' G', St gs' G' → ws (h gs' G') R) : ws (bSeq f h gs G) R := by
  rw [ws_bSeq]
  refine ws_mono h1 fun fl gs' G' ⟨e, s⟩ => ?_
  subst e
  exact h2 gs' G' s
end FI
namespace FI
open PySem L2
@[simp] theorem lstD_ref {G : Hh} {n : Nat} {xs : List D} (h : G[n]? = some (.lst xs)) : lstD G (.ref n) = some xs := by
  unfold lstD
  dsimp only
  rw [h]
theorem tupsOf_map : ∀ nss : List (List Int), (∀ ns ∈ nss, ns ≠ []) → tupsOf (nss.map tupI') = some nss
  | [], _ => rfl
  | ns :: r, h => by
    cases ns with
    | nil => exact absurd rfl (h [] (List.mem_cons_self ..))
    | cons a t =>
      have ih := tupsOf_map r fun x hx => h x (List.mem_cons_of_mem _ hx)
      show (match intsOf ((a :: t).map D.int) with | some ns => (tupsOf (r.map tupI')).map (ns :: ·) | none => none) = _
      rw [intsOf_map, ih]
      rfl
theorem sorted_tups {G : Hh} {n : Nat} {nss : List (List Int)} (h : G[n]? = some (.lst (nss.map tupI'))) (hne : ∀ ns ∈ nss, ns ≠ []) : bSorted [.ref n] G = some (.val (.ref G.length), G ++ [.lst ((sortT nss).map tupI')]) := by
  unfold bSorted
  have e : bSortL (.ref n) G = some (.val (.ref G.length), G ++ [.lst ((sortT nss).map tupI')]) := by
    unfold bSortL
    rw [lstD_ref h]
    dsimp only
    cases nss with
    | nil =>
      show some (Rs.val (D.ref G.length), G ++ [O.lst ((sortI []).map D.int)]) = _
      have h1 : sortI [] = [] := (sortI_perm []).length_eq |> fun h => List.eq_nil_of_length_eq_zero h
      have h2 : sortT [] = [] := (sortT_perm []).length_eq |> fun h => List.eq_nil_of_length_eq_zero h
      rw [h1, h2]
      rfl
    | cons ns r =>
      have hi : intsOf ((ns :: r).map tupI') = none := rfl
      rw [hi, tupsOf_map _ hne]
  show (match bSortL (.ref n) G with | some z => some z | none => _) = _
  rw [e]
end FI
namespace FI
open PySem L2
section
variable {t : GT} {b : SS} {gd : Hh → Prop} {R : Fl → Sg → Hh → Prop} {gs : Sg} {G : Hh}
theorem forL_nil_iff : ws (forL t b gd [] gs G) R ↔ gd G ∧ R .nx gs G := by
  unfold forL
  by_cases h : gd G
  · rw [if_pos h]; simp [h]
  · rw [if_neg h]; simp [h]
theorem forL_cons_iff {d : D} {ds : List D} : ws (forL t b gd (d :: ds) gs G) R ↔ gd G ∧ asO (t d gs G) fun p => ws (b p.1 p.2) (onTurn (fun gs G => ws (forL t b gd ds gs G) R) R) := by
  conv => lhs; unfold forL
  by_cases h : gd G
  · rw [if_pos h]
    simp only [h, true_and]
    cases t d gs G with
    | none => simp
    | some p =>
      obtain ⟨p1, p2⟩ := p
      dsimp only
      simp only [asO_some]
      cases b p1 p2 with
      | none => simp
      | some q =>
        obtain ⟨fl, gs1, G1⟩ := q
        cases fl <;> simp
  · rw [if_neg h]
    simp [h]
theorem ws_sFor_iff {fw : SW} : ws (sFor fw t b gs G) R ↔ we (fw gs G) (onR (fun p G1 => ws (forL t b p.2 p.1 gs G1) R) fun e G1 => R (.ex e) gs G1) := by
  unfold sFor; simp
theorem we_wSeq {fe : SE} {B : Rs (List D × (Hh → Prop)) → Hh → Prop} : we (wSeq fe gs G) B ↔ we (fe gs G) (onR (fun d G1 => asO (seqOf G1 d) fun p => B (.val p) G1) fun e G1 => B (.exc e) G1) := by
  unfold wSeq
  rw [we_bnd]
  exact we_sub fun d G1 => by cases seqOf G1 d <;> simp
@[simp] theorem seqOf_tup {xs : List D} : seqOf G (.tup xs) = some (xs, anyH) := rfl
@[simp] theorem anyH_true : anyH G ↔ True := .rfl
end
end FI
namespace FI
open PySem L2
section
variable {κ : Type} [DecidableEq κ]
theorem getK_setK_ne {kvs : List (κ × D)} {k l : κ} {d : D} (h : k ≠ l) (hl : getK kvs l = none) : getK (setK kvs k d) l = none := by
  unfold getK at hl ⊢
  unfold setK
  have hf : kvs.find? (fun kv => decide (kv.1 = l)) = none := by
    cases e : kvs.find? (fun kv => decide (kv.1 = l)) with
    | none => rfl
    | some x => rw [e] at hl; cases hl
  rw [List.find?_eq_none] at hf
  have hg : ∀ ys : List (κ × D), (∀ x ∈ ys, ¬ decide (x.1 = l) = true) → (ys.find? fun kv => decide (kv.1 = l)).map (·.2) = none := fun ys hy => by
    rw [List.find?_eq_none.mpr hy]
    rfl
  split
  · refine hg _ fun x hx => ?_
    obtain ⟨y, hy, rfl⟩ := List.mem_map.mp hx
    have := hf y hy
    split <;> exact this
  · refine hg _ fun x hx => ?_
    rcases List.mem_append.mp hx with hx | hx
    · exact hf x hx
    · have : x = (k, d) := by simpa using hx
      subst this
      simpa using h
theorem setK_len {kvs : List (κ × D)} {k : κ} {d : D} : (setK kvs k d).length ≤ kvs.length + 1 := by
  unfold setK
  split <;> simp
end
end FI
namespace FI
open PySem L2
section
variable {gs : Sg} {G : Hh} {R : Fl → Sg → Hh → Prop}
@[simp] theorem ws_sAugN {k : Nat} {F : Int → Int → Int} {fe : SE} : ws (sAugN k F fe gs G) R ↔ asO gs[k]? fun o => asO o fun d => asI (fun a G => we (fe gs G) (onR (asI fun b G1 => R .nx (gs.set k (some (.int (F a b)))) G1) fun e G1 => R (.ex e) gs G1)) d G := by
  unfold sAugN
  cases gs[k]? with
  | none => simp
  | some o =>
    cases o with
    | none => simp
    | some d =>
      cases d with
      | int a =>
        simp only [asO_some, asI_int]
        rw [ws_onE]
        exact we_sub fun d G1 => by cases d <;> simp [asI]
      | _ => simp [asI]
end
end FI
set_option maxRecDepth 100000
set_option maxHeartbeats 2000000
namespace FI
open PySem L2
inductive U where
  | non
  | bl (b : Bool)
  | int (i : Int)
  | str (s : Str)
  | tup (us : List U)
  | lst (us : List U)
structure Xc where
  c : Nat
  fs : List (Nat × U)
inductive Ro (A : Type) where
  | val (a : A)
  | exc (x : Xc)
inductive Nul where
  | a
  | b
abbrev TM (σ A : Type) := σ → Option (Ro A × σ)
section
variable {σ A B C : Type}
def pureT (a : A) : TM σ A := fun s => some (.val a, s)
def failT : TM σ A := fun _ => none
def raiseT (x : Xc) : TM σ A := fun s => some (.exc x, s)
def bindT (t : TM σ A) (k : A → TM σ B) : TM σ B := fun s => match t s with
  | some (.val a, s') => k a s'
  | some (.exc x, s') => some (.exc x, s')
  | none => none
def optT : Option A → TM σ A
  | some a => pureT a
  | none => failT
def liftT (t : TM Nul A) : TM σ A := fun s => match t .a with
  | some (r, _) => some (r, s)
  | none => none
theorem bindT_pure {a : A} {k : A → TM σ B} : bindT (pureT a) k = k a := rfl
theorem bindT_assoc {t : TM σ A} {k : A → TM σ B} {l : B → TM σ C} : bindT (bindT t k) l = bindT t fun a => bindT (k a) l := by
  funext s
  unfold bindT
  cases t s with
  | none => rfl
  | some p =>
    obtain ⟨r, s'⟩ := p
    cases r <;> rfl
theorem bindT_ret {t : TM σ A} : bindT t pureT = t := by
  funext s
  unfold bindT pureT
  cases t s with
  | none => rfl
  | some p =>
    obtain ⟨r, s'⟩ := p
    cases r <;> rfl
end
mutual
inductive RpU (W : List Nat) (G : Hh) : U → D → Prop
  | non : RpU W G .non .non
  | bl (b : Bool) : RpU W G (.bl b) (.bl b)
  | int (i : Int) : RpU W G (.int i) (.int i)
  | str (s : Str) : RpU W G (.str s) (.str s)
  | tup {us : List U} {ds : List D} : RpUs W G us ds → RpU W G (.tup us) (.tup ds)
  | lst {us : List U} {ds : List D} {r : Nat} : r ∉ W → G[r]? = some (.lst ds) → RpUs W G us ds → RpU W G (.lst us) (.ref r)
inductive RpUs (W : List Nat) (G : Hh) : List U → List D → Prop
  | nil : RpUs W G [] []
  | cons {u : U} {d : D} {us : List U} {ds : List D} : RpU W G u d → RpUs W G us ds → RpUs W G (u :: us) (d :: ds)
end
def Keep (W : List Nat) (G G' : Hh) : Prop := G.length ≤ G'.length ∧ ∀ i, i < G.length → i ∉ W → G'[i]? = G[i]?
theorem Keep.refl {W : List Nat} {G : Hh} : Keep W G G := ⟨Nat.le_refl _, fun _ _ _ => rfl⟩
theorem Keep.trans {W : List Nat} {G G1 G2 : Hh} (a : Keep W G G1) (b : Keep W G1 G2) : Keep W G G2 := ⟨Nat.le_trans a.1 b.1, fun i h1 h2 => (b.2 i (Nat.lt_of_lt_of_le h1 a.1) h2).trans (a.2 i h1 h2)⟩
theorem Keep.app {W : List Nat} {G J : Hh} : Keep W G (G ++ J) := ⟨by simp, fun i h _ => List.getElem?_append_left h⟩
theorem Keep.get {W : List Nat} {G G' : Hh} (k : Keep W G G') {i : Nat} {o : O} (h : G[i]? = some o) (hi : i ∉ W) : G'[i]? = some o := by
  rw [k.2 i (List.getElem?_eq_some_iff.mp h).1 hi]
  exact h
theorem Keep.more {W W' : List Nat} {G G' : Hh} (k : Keep W G G') (h : ∀ x ∈ W, x ∈ W') : Keep W' G G' := ⟨k.1, fun i h1 h2 => k.2 i h1 fun h3 => h2 (h i h3)⟩
mutual
theorem RpU.mono {W : List Nat} {G G' : Hh} (k : Keep W G G') : ∀ {u : U} {d : D}, RpU W G u d → RpU W G' u d
  | _, _, .non => .non
  | _, _, .bl b => .bl b
  | _, _, .int i => .int i
  | _, _, .str s => .str s
  | _, _, .tup h => .tup (RpUs.mono k h)
  | _, _, .lst h1 h2 h3 => .lst h1 (k.get h2 h1) (RpUs.mono k h3)
theorem RpUs.mono {W : List Nat} {G G' : Hh} (k : Keep W G G') : ∀ {us : List U} {ds : List D}, RpUs W G us ds → RpUs W G' us ds
  | _, _, .nil => .nil
  | _, _, .cons a b => .cons (RpU.mono k a) (RpUs.mono k b)
end
mutual
theorem RpU.sub {W W' : List Nat} {G : Hh} (k : ∀ x ∈ W', x ∈ W) : ∀ {u : U} {d : D}, RpU W G u d → RpU W' G u d
  | _, _, .non => .non
  | _, _, .bl b => .bl b
  | _, _, .int i => .int i
  | _, _, .str s => .str s
  | _, _, .tup h => .tup (RpUs.sub k h)
  | _, _, .lst h1 h2 h3 => .lst (fun h => h1 (k _ h)) h2 (RpUs.sub k h3)
theorem RpUs.sub {W W' : List Nat} {G : Hh} (k : ∀ x ∈ W', x ∈ W) : ∀ {us : List U} {ds : List D}, RpUs W G us ds → RpUs W' G us ds
  | _, _, .nil => .nil
  | _, _, .cons a b => .cons (RpU.sub k a) (RpUs.sub k b)
end
mutual
/-- its datum, if no list is in it -/
def U.toD : U → Option D
  | .non => some .non
  | .bl b => some (.bl b)
  | .int i => some (.int i)
  | .str s => some (.str s)
  | .tup us => match U.toDs us with
    | some ds => some (.tup ds)
    | none => none
  | .lst _ => none
def U.toDs : List U → Option (List D)
  | [] => some []
  | u :: us => match U.toD u, U.toDs us with
    | some d, some ds => some (d :: ds)
    | _, _ => none
end
mutual
theorem RpU.toD {W : List Nat} {G : Hh} : ∀ {u : U} {d d' : D}, RpU W G u d → u.toD = some d' → d = d'
  | _, _, _, .non, e => by cases e; rfl
  | _, _, _, .bl b, e => by cases e; rfl
  | _, _, _, .int i, e => by cases e; rfl
  | _, _, _, .str s, e => by cases e; rfl
  | .tup us, _, _, .tup h, e => by
    unfold U.toD at e
    cases h2 : U.toDs us with
    | none => rw [h2] at e; cases e
    | some ds => rw [h2] at e; cases e; rw [RpUs.toDs h h2]
  | _, _, _, .lst _ _ _, e => by cases e
theorem RpUs.toDs {W : List Nat} {G : Hh} : ∀ {us : List U} {ds ds' : List D}, RpUs W G us ds → U.toDs us = some ds' → ds = ds'
  | _, _, _, .nil, e => by cases e; rfl
  | u :: us, _, _, .cons a b, e => by
    unfold U.toDs at e
    cases h1 : U.toD u with
    | none => rw [h1] at e; cases e
    | some d =>
      cases h2 : U.toDs us with
      | none => rw [h1, h2] at e; cases e
      | some ds => rw [h1, h2] at e; cases e; rw [RpU.toD a h1, RpUs.toDs b h2]
end
def RpFd (u : U) (d : D) : Prop := ∀ d', u.toD = some d' → d = d'
inductive RpFs : List (Nat × U) → List (Nat × D) → Prop
  | nil : RpFs [] []
  | cons {n : Nat} {u : U} {d : D} {us : List (Nat × U)} {ds : List (Nat × D)} : RpFd u d → RpFs us ds → RpFs ((n, u) :: us) ((n, d) :: ds)
def RpX (x : Xc) (e : Exc) : Prop := e.c = x.c ∧ RpFs x.fs e.fs
structure Kd (A : Type) where
  rel : A → D → List (Nat × O) → List Nat → Hh → Prop
  mono : ∀ {a d os W G G'}, rel a d os W G → Keep W G G' → rel a d os W G'
  sub : ∀ {a d os W W' G}, rel a d os W G → (∀ x ∈ W', x ∈ W) → rel a d os W' G
section
variable {A B : Type}
def kV (enc : A → D) : Kd A := ⟨fun a d os _ _ => d = enc a ∧ os = [], fun h _ => h, fun h _ => h⟩
def kL (enc : A → D) : Kd (List A) := ⟨fun l d os _ _ => ∃ r, d = .ref r ∧ os = [(r, .lst (l.map enc))], fun h _ => h, fun h _ => h⟩
def kR (enc : A → D) : Kd (List A) := ⟨fun l d _ W G => ∃ r, d = .ref r ∧ r ∉ W ∧ G[r]? = some (.lst (l.map enc)), fun ⟨r, e, h1, h2⟩ k => ⟨r, e, h1, k.get h2 h1⟩, fun ⟨r, e, h1, h2⟩ k => ⟨r, e, fun h => h1 (k _ h), h2⟩⟩
end
theorem nd_inj {loc : List (Nat × O)} (hn : (loc.map (·.1)).Nodup) {i j : Nat} {p q : Nat × O} (hi : loc[i]? = some p) (hj : loc[j]? = some q) (e : p.1 = q.1) : i = j := by
  obtain ⟨li, ei⟩ := List.getElem?_eq_some_iff.mp hi
  obtain ⟨lj, ej⟩ := List.getElem?_eq_some_iff.mp hj
  have z := List.pairwise_iff_getElem.mp (show (loc.map (·.1)).Pairwise (· ≠ ·) from hn)
  rcases Nat.lt_trichotomy i j with h | h | h
  · exact (z i j (by simpa using li) (by simpa using lj) h (by rw [List.getElem_map, List.getElem_map, ei, ej, e])).elim
  · exact h
  · exact (z j i (by simpa using lj) (by simpa using li) h (by rw [List.getElem_map, List.getElem_map, ei, ej, e])).elim
structure Tc (σ : Type) where
  G0 : Hh
  W : List Nat
  V : List Nat
  io : σ → List (Nat × O)
structure Hq {σ : Type} (C : Tc σ) (loc : List (Nat × O)) (s : σ) (G : Hh) : Prop where
  keep : Keep C.W C.G0 G
  atL : ∀ p ∈ loc, G[p.1]? = some p.2
  atI : ∀ p ∈ C.io s, G[p.1]? = some p.2
  nd : (loc.map (·.1)).Nodup
  fr : ∀ p ∈ loc, C.G0.length ≤ p.1
  ioW : (C.io s).map (·.1) = C.W
  lt : ∀ w ∈ C.V, w < C.G0.length
  wv : ∀ w ∈ C.W, w ∈ C.V
section
variable {σ A B E : Type} {C : Tc σ} {loc os : List (Nat × O)} {s s' : σ} {G G' : Hh} {p : Nat × O}
theorem Hq.outW (h : Hq C loc s G) (hp : p ∈ loc) : p.1 ∉ C.W := fun hw => by
  have := h.lt _ (h.wv _ hw)
  have := h.fr _ hp
  omega
theorem Hq.kv (h : Hq C loc s G) {G1 G2 : Hh} (k : Keep C.W G1 G2) : Keep C.V G1 G2 := k.more h.wv
theorem Hq.out (h : Hq C loc s G) (hp : p ∈ loc) : p.1 ∉ C.V := fun hw => by
  have := h.lt _ hw
  have := h.fr _ hp
  omega
theorem Hq.lt_ (h : Hq C loc s G) (hp : p ∈ loc) : p.1 < G.length := (List.getElem?_eq_some_iff.mp (h.atL p hp)).1
theorem Hq.drop (h : Hq C (os ++ loc) s G) : Hq C loc s G := ⟨h.keep, fun p hp => h.atL p (List.mem_append_right _ hp), h.atI, by
  have := h.nd
  rw [List.map_append] at this
  exact (List.nodup_append.mp this).2.1, fun p hp => h.fr p (List.mem_append_right _ hp), h.ioW, h.lt, h.wv⟩
theorem Hq.tail (h : Hq C (p :: loc) s G) : Hq C loc s G := h.drop (os := [p])
theorem Hq.pick (h : Hq C loc s G) (ix : List Nat) (hx : ix.Nodup) : Hq C (ix.filterMap (loc[·]?)) s G := by
  have hm : ∀ p ∈ ix.filterMap (loc[·]?), p ∈ loc := fun p hp => by
    obtain ⟨i, _, e⟩ := List.mem_filterMap.mp hp
    exact List.mem_of_getElem? e
  refine ⟨h.keep, fun p hp => h.atL p (hm p hp), h.atI, ?_, fun p hp => h.fr p (hm p hp), h.ioW, h.lt, h.wv⟩
  have hn := h.nd
  clear h hm
  induction ix with
  | nil => exact List.nodup_nil
  | cons i r ih =>
    rw [List.filterMap_cons]
    have hir := List.nodup_cons.mp hx
    cases e : loc[i]? with
    | none => exact ih hir.2
    | some p =>
      dsimp only
      rw [List.map_cons, List.nodup_cons]
      refine ⟨fun hp => ?_, ih hir.2⟩
      obtain ⟨q, hq, e1⟩ := List.mem_map.mp hp
      obtain ⟨j, hj, e2⟩ := List.mem_filterMap.mp hq
      have hij : i ≠ j := fun z => hir.1 (z ▸ hj)
      exact hij (nd_inj hn e e2 e1.symm)
theorem Hq.step (h : Hq C loc s G) (k : Keep [] G G') : Hq C loc s G' := ⟨h.keep.trans (k.more fun _ z => by cases z), fun p hp => k.get (h.atL p hp) (fun z => by cases z), fun p hp => k.get (h.atI p hp) (fun z => by cases z), h.nd, h.fr, h.ioW, h.lt, h.wv⟩
theorem Hq.own {G1 : Hh} (h : Hq C loc s G') (h1 : ∀ p ∈ loc, p.1 < G1.length) (h2 : ∀ p ∈ os, G1.length ≤ p.1 ∧ G'[p.1]? = some p.2) (h3 : (os.map (·.1)).Nodup) (h4 : C.G0.length ≤ G1.length) : Hq C (os ++ loc) s G' := by
  refine ⟨h.keep, fun p hp => ?_, h.atI, ?_, fun p hp => ?_, h.ioW, h.lt, h.wv⟩
  · rcases List.mem_append.mp hp with hp | hp
    · exact (h2 p hp).2
    · exact h.atL p hp
  · rw [List.map_append]
    refine List.nodup_append.mpr ⟨h3, h.nd, fun a ha b hb e => ?_⟩
    obtain ⟨p, hp, rfl⟩ := List.mem_map.mp ha
    obtain ⟨q, hq, rfl⟩ := List.mem_map.mp hb
    have := (h2 p hp).1
    have := h1 q hq
    omega
  · rcases List.mem_append.mp hp with hp | hp
    · exact Nat.le_trans h4 (h2 p hp).1
    · exact h.fr p hp
theorem Hq.new {o : O} (h : Hq C loc s G) : Hq C ((G.length, o) :: loc) s (G ++ [o]) :=
  (h.step (G' := G ++ [o]) .app).own (os := [(G.length, o)]) (G1 := G) (fun p hp => h.lt_ hp) (fun p hp => by
    have : p = (G.length, o) := by simpa using hp
    subst this
    exact ⟨Nat.le_refl _, by simp⟩) (by simp) h.keep.1
theorem Hq.set {r j : Nat} {o o' : O} (h : Hq C loc s G) (hj : loc[j]? = some (r, o)) : Hq C (loc.set j (r, o')) s (G.set r o') := by
  obtain ⟨lj, ej⟩ := List.getElem?_eq_some_iff.mp hj
  have hmem : (r, o) ∈ loc := List.mem_of_getElem? hj
  have hrl := h.lt_ hmem
  have hfr := h.fr _ hmem
  have hmap : (loc.set j (r, o')).map (·.1) = loc.map (·.1) := by
    rw [List.map_set]
    apply List.ext_getElem?
    intro i
    by_cases hi : j = i
    · subst hi
      rw [List.getElem?_set_self (by simpa using lj), List.getElem?_map, hj]
      rfl
    · rw [List.getElem?_set_ne hi]
  refine ⟨⟨by rw [List.length_set]; exact h.keep.1, fun i h1 h2 => ?_⟩, fun p hp => ?_, fun p hp => ?_, by rw [hmap]; exact h.nd, fun p hp => ?_, h.ioW, h.lt, h.wv⟩
  · have : r ≠ i := by
      have : C.G0.length ≤ r := hfr
      omega
    rw [List.getElem?_set_ne this]
    exact h.keep.2 i h1 h2
  · obtain ⟨i, hi⟩ := List.getElem?_of_mem hp
    by_cases hij : j = i
    · subst hij
      rw [List.getElem?_set_self lj] at hi
      cases hi
      exact List.getElem?_set_self hrl
    · rw [List.getElem?_set_ne hij] at hi
      have hne : r ≠ p.1 := fun e => hij (nd_inj h.nd hj hi e)
      rw [List.getElem?_set_ne hne]
      exact h.atL p (List.mem_of_getElem? hi)
  · have hne : r ≠ p.1 := fun e => by
      have hw : p.1 ∈ C.W := by rw [← h.ioW]; exact List.mem_map_of_mem hp
      have h1 := h.lt _ (h.wv _ hw)
      have h2 : C.G0.length ≤ r := hfr
      omega
    rw [List.getElem?_set_ne hne]
    exact h.atI p hp
  · rcases List.mem_or_eq_of_mem_set hp with h1 | h1
    · exact h.fr p h1
    · subst h1; exact hfr
theorem Hq.base {C' : Tc σ} (h : Hq C' loc s G) (k : Keep C.W C.G0 C'.G0) (hw : C'.W = C.W) (hi : C'.io = C.io) (hl : ∀ w ∈ C.V, w < C.G0.length) (hv : ∀ w ∈ C.W, w ∈ C.V) : Hq C loc s G :=
  ⟨k.trans (hw ▸ h.keep), h.atL, hi ▸ h.atI, h.nd, fun p hp => Nat.le_trans k.1 (h.fr p hp), hw ▸ hi ▸ h.ioW, hl, hv⟩
def RM (C : Tc σ) (loc : List (Nat × O)) (K : Kd A) (G : Hh) (m : Option (Rs D × Hh)) (o : Option (Ro A × σ)) : Prop := match o with
  | none => True
  | some (.val a, s') => ∃ d os G', m = some (.val d, G') ∧ Keep C.W G G' ∧ Hq C (os ++ loc) s' G' ∧ K.rel a d os C.V G'
  | some (.exc x, s') => ∃ e G', m = some (.exc e, G') ∧ Keep C.W G G' ∧ Hq C loc s' G' ∧ RpX x e
def EV (C : Tc σ) (loc : List (Nat × O)) (gs : Sg) (f : SE) (K : Kd A) (t : TM σ A) : Prop := ∀ s G, Hq C loc s G → RM C loc K G (f gs G) (t s)
theorem RM.val {K : Kd A} {a : A} {d : D} {os : List (Nat × O)} (k : Keep C.W G G') (h : Hq C (os ++ loc) s' G') (r : K.rel a d os C.V G') : RM C loc K G (some (.val d, G')) (some (.val a, s')) := ⟨d, os, G', rfl, k, h, r⟩
theorem RM.here {K : Kd A} {a : A} {d : D} (h : Hq C loc s G) (r : K.rel a d [] C.V G) : RM C loc K G (some (.val d, G)) (some (.val a, s)) := ⟨d, [], G, rfl, .refl, h, r⟩
theorem RM.from {K : Kd A} {G1 : Hh} {m : Option (Rs D × Hh)} {o : Option (Ro A × σ)} (k : Keep C.W G G1) (h : RM C loc K G1 m o) : RM C loc K G m o := by
  match o, h with
  | none, _ => exact True.intro
  | some (.val a, s'), ⟨d, os, G', e, k2, r⟩ => exact ⟨d, os, G', e, k.trans k2, r⟩
  | some (.exc x, s'), ⟨d, G', e, k2, r⟩ => exact ⟨d, G', e, k.trans k2, r⟩
theorem RM.bnd {K1 : Kd A} {K : Kd B} {m : Option (Rs D × Hh)} {t : TM σ A} {k : D → Mm D} {u : A → TM σ B} (h : RM C loc K1 G m (t s)) (hk : ∀ a d os s' G', Hq C (os ++ loc) s' G' → K1.rel a d os C.V G' → Keep C.W G G' → RM C loc K G' (k d G') (u a s')) : RM C loc K G (bnd m k) (bindT t u s) := by
  unfold bindT
  cases e : t s with
  | none => exact True.intro
  | some p =>
    obtain ⟨r, s'⟩ := p
    rw [e] at h
    cases r with
    | val a =>
      obtain ⟨d, os, G', rfl, k1, h1, h2⟩ := h
      rw [bnd_val]
      exact (hk a d os s' G' h1 h2 k1).from k1
    | exc x =>
      obtain ⟨e, G', rfl, k1, h1, h2⟩ := h
      exact ⟨e, G', rfl, k1, h1, h2⟩
end
end FI
set_option maxRecDepth 100000
set_option maxHeartbeats 2000000
namespace FI
open PySem L2
def andT {σ : Type} (t u : TM σ Bool) : TM σ Bool := bindT t fun b => if b = true then u else pureT false
def orT {σ : Type} (t u : TM σ Bool) : TM σ Bool := bindT t fun b => if b = true then pureT true else u
def iteT {σ A : Type} (c : TM σ Bool) (t u : TM σ A) : TM σ A := bindT c fun b => if b = true then t else u
section
variable {σ A B E X : Type} {C : Tc σ} {loc os : List (Nat × O)} {s s' : σ} {G G' : Hh} {gs : Sg} {f g h : SE} {K : Kd A} {K1 : Kd A} {K2 : Kd B} {K3 : Kd E}
theorem ev_var {enc : A → D} {a : A} {i : Nat} (h : gs[i]? = some (some (enc a))) : EV C loc gs (eVar i) (kV enc) (pureT a) := fun s G hq => by
  unfold eVar
  rw [h]
  exact .here hq ⟨rfl, rfl⟩
theorem ev_lst {enc : A → D} {l : List A} {i r j : Nat} (h : gs[i]? = some (some (.ref r))) (hl : loc[j]? = some (r, .lst (l.map enc))) : EV C loc gs (eVar i) (kR enc) (pureT l) := fun s G hq => by
  unfold eVar
  rw [h]
  have hm := List.mem_of_getElem? hl
  exact .here hq ⟨r, rfl, hq.out hm, hq.atL _ hm⟩
theorem ev_c {enc : A → D} {a : A} : EV C loc gs (eC (enc a)) (kV enc) (pureT a) := fun s G hq => .here hq ⟨rfl, rfl⟩
theorem ev_LR {enc : A → D} {t : TM σ (List A)} (h : EV C loc gs f (kL enc) t) : EV C loc gs f (kR enc) t := fun s G hq => by
  have z := h s G hq
  cases e : t s with
  | none => exact True.intro
  | some p =>
    obtain ⟨r, s'⟩ := p
    rw [e] at z
    cases r with
    | val a =>
      obtain ⟨d, os, G', e, k, q, r, rfl, rfl⟩ := z
      exact ⟨_, _, G', e, k, q, r, rfl, q.out (List.mem_cons_self ..), q.atL _ (List.mem_cons_self ..)⟩
    | exc x => exact z
def O1 (σ : Type) {A B : Type} (F : D → Mm D) (K1 : Kd A) (K : Kd B) (u : A → TM σ B) : Prop := ∀ (C : Tc σ) (loc : List (Nat × O)) (a : A) (d : D) (os1 : List (Nat × O)) (s : σ) (G : Hh), Hq C loc s G → K1.rel a d os1 C.V G → RM C loc K G (F d G) (u a s)
def O2 (σ : Type) {A B E : Type} (F : D → D → Mm D) (K1 : Kd A) (K2 : Kd B) (K : Kd E) (u : A → B → TM σ E) : Prop := ∀ (C : Tc σ) (loc : List (Nat × O)) (a : A) (b : B) (d e : D) (os1 os2 : List (Nat × O)) (s : σ) (G : Hh), Hq C loc s G → K1.rel a d os1 C.V G → K2.rel b e os2 C.V G → RM C loc K G (F d e G) (u a b s)
theorem ev_un {F : D → Mm D} {K' : Kd B} {u : A → TM σ B} {t : TM σ A} (op : O1 σ F K K' u) (h1 : EV C loc gs f K t) : EV C loc gs (eUn F f) K' (bindT t u) := fun s G hq =>
  (h1 s G hq).bnd fun a d os s' G' q r k => op C loc a d os s' G' q.drop r
theorem ev_op {F : D → D → Mm D} {u : A → B → TM σ E} {t1 : TM σ A} {t2 : TM σ B} (op : O2 σ F K1 K2 K3 u) (h1 : EV C loc gs f K1 t1) (h2 : EV C loc gs g K2 t2) : EV C loc gs (eOp F f g) K3 (bindT t1 fun a => bindT t2 fun b => u a b) := fun s G hq =>
  (h1 s G hq).bnd fun a d os s' G' q r k => (h2 s' G' q.drop).bnd fun b e os2 s2 G2 q2 r2 k2 => op C loc a b d e os os2 s2 G2 q2.drop (K1.mono r (hq.kv k2)) r2
theorem ev_b1 {F : D → Mm D} {K' : Kd B} {u : A → TM σ B} {t : TM σ A} (op : O1 σ F K K' u) (h1 : EV C loc gs f K t) : EV C loc gs (eArgs (d1 F) (aCons f aNil)) K' (bindT t u) := fun s G hq => by
  have e : eArgs (d1 F) (aCons f aNil) gs G = eUn F f gs G := by
    unfold eArgs aCons aNil eUn
    cases f gs G with
    | none => rfl
    | some p => obtain ⟨r, G1⟩ := p; cases r <;> rfl
  rw [e]
  exact ev_un op h1 s G hq
theorem o2v {F : D → D → Mm D} {e1 : A → D} {e2 : B → D} {e3 : E → D} {u : A → B → E} (h : ∀ a b G, F (e1 a) (e2 b) G = some (.val (e3 (u a b)), G)) : O2 σ F (kV e1) (kV e2) (kV e3) fun a b => pureT (u a b) := fun C loc a b d e os1 os2 s G hq r1 r2 => by
  obtain ⟨rfl, rfl⟩ := r1
  obtain ⟨rfl, rfl⟩ := r2
  rw [h]
  exact .here hq ⟨rfl, rfl⟩
end
def RB {σ : Type} (C : Tc σ) (loc : List (Nat × O)) (G : Hh) (m : Option (Rs Bool × Hh)) (o : Option (Ro Bool × σ)) : Prop := match o with
  | none => True
  | some (.val a, s') => ∃ G', m = some (.val a, G') ∧ Keep C.W G G' ∧ Hq C loc s' G'
  | some (.exc x, s') => ∃ e G', m = some (.exc e, G') ∧ Keep C.W G G' ∧ Hq C loc s' G' ∧ RpX x e
def ET {σ : Type} (C : Tc σ) (loc : List (Nat × O)) (gs : Sg) (f : ST) (t : TM σ Bool) : Prop := ∀ s G, Hq C loc s G → RB C loc G (f gs G) (t s)
section
variable {σ A B E X : Type} {C : Tc σ} {loc os : List (Nat × O)} {s s' : σ} {G G' : Hh} {gs : Sg} {f g h : SE} {K : Kd A} {K1 : Kd A} {K2 : Kd B} {K3 : Kd E} {c c' : ST} {t u : TM σ Bool} {a b : Bool}
theorem RB.from {G1 : Hh} {m : Option (Rs Bool × Hh)} {o : Option (Ro Bool × σ)} (k : Keep C.W G G1) (h : RB C loc G1 m o) : RB C loc G m o := by
  match o, h with
  | none, _ => exact True.intro
  | some (.val a, s'), ⟨G', e, k2, r⟩ => exact ⟨G', e, k.trans k2, r⟩
  | some (.exc x, s'), ⟨d, G', e, k2, r⟩ => exact ⟨d, G', e, k.trans k2, r⟩
theorem et_B (h : EV C loc gs f (kV .bl) t) : ET C loc gs (tB f) t := fun s G hq => by
  have z := h s G hq
  unfold tB
  cases e : t s with
  | none => exact True.intro
  | some p =>
    obtain ⟨r, s'⟩ := p
    rw [e] at z
    cases r with
    | val a =>
      obtain ⟨d, os, G', e, k, q, rfl, rfl⟩ := z
      rw [e]
      exact ⟨G', rfl, k, q⟩
    | exc x =>
      obtain ⟨d, G', e, k, q, r⟩ := z
      rw [e]
      exact ⟨d, G', rfl, k, q, r⟩
theorem RB.here (hq : Hq C loc s G) : RB C loc G (some (.val a, G)) (some (.val a, s)) := ⟨G, rfl, .refl, hq⟩
end
structure KdA (X : Type) where
  rel : X → List D → List Nat → Hh → Prop
  sub : ∀ {x ds W W' G}, rel x ds W G → (∀ x ∈ W', x ∈ W) → rel x ds W' G
def kA0 : KdA Unit := ⟨fun _ ds _ _ => ds = [], fun h _ => h⟩
def kAc {A X : Type} (K : Kd A) (R : KdA X) : KdA (A × X) := ⟨fun x ds W G => ∃ d ds' os, ds = d :: ds' ∧ K.rel x.1 d os W G ∧ R.rel x.2 ds' W G, fun ⟨d, ds', os, e, h1, h2⟩ k => ⟨d, ds', os, e, K.sub h1 k, R.sub h2 k⟩⟩
section
variable {σ A B E X : Type} {C : Tc σ} {loc os : List (Nat × O)} {s s' : σ} {G G' : Hh} {gs : Sg} {f g h : SE} {K : Kd A} {K' : Kd B} {R : KdA X}
def EA (C : Tc σ) (loc : List (Nat × O)) (gs : Sg) (fa : SA) (R : KdA X) (k : X → TM σ B) (t : TM σ B) : Prop := ∀ (K : Kd B) (F : List D → Mm D) (s : σ) (G : Hh), Hq C loc s G →
  (∀ x ds s' G', Keep C.W G G' → Hq C loc s' G' → R.rel x ds C.V G' → RM C loc K G' (F ds G') (k x s')) → RM C loc K G (bnd (fa gs G) F) (t s)
theorem ea_nil {k : Unit → TM σ B} : EA C loc gs aNil kA0 k (k ()) := fun K F s G hq hk => hk () [] s G .refl hq rfl
theorem ea_cons {fa : SA} {t1 : TM σ A} {k : A × X → TM σ B} {u : A → TM σ B} (h1 : EV C loc gs f K t1) (h2 : ∀ a, EA C loc gs fa R (fun x => k (a, x)) (u a)) : EA C loc gs (aCons f fa) (kAc K R) k (bindT t1 u) := fun K2 F s G hq hk => by
  have e : bnd (aCons f fa gs G) F = bnd (f gs G) fun d G1 => bnd (fa gs G1) fun ds => F (d :: ds) := by
    unfold aCons
    cases f gs G with
    | none => rfl
    | some p =>
      obtain ⟨r, G1⟩ := p
      cases r with
      | exc x => rfl
      | val d =>
        simp only [bnd_val]
        cases fa gs G1 with
        | none => rfl
        | some p => obtain ⟨r, G2⟩ := p; cases r <;> rfl
  rw [e]
  exact (h1 s G hq).bnd fun a d os s' G' q r k1 => h2 a K2 (fun ds => F (d :: ds)) s' G' q.drop fun x ds s2 G2 k2 q2 r2 => hk (a, x) (d :: ds) s2 G2 (k1.trans k2) q2 ⟨d, ds, os, rfl, K.mono r (hq.kv k2), r2⟩
def FnC (W : List Nat) (io : σ → List (Nat × O)) (F : Fn) (R : KdA X) (K : Kd B) (foo : X → TM σ B) : Prop := ∀ (V : List Nat) (x : X) (ds : List D) (s : σ) (G : Hh), R.rel x ds V G → Hq ⟨G, W, V, io⟩ [] s G → RM ⟨G, W, V, io⟩ [] K G (F ds G) (foo x s)
def io0 : Nul → List (Nat × O) := fun _ => []
abbrev Fn0 (F : Fn) (R : KdA X) (K : Kd B) (foo : X → TM Nul B) : Prop := FnC [] io0 F R K foo
end
end FI
set_option maxRecDepth 100000
set_option maxHeartbeats 2000000
namespace FI
open PySem L2
abbrev As (σ : Type) := Sg → σ → Hh → Prop
abbrev Ps (σ Out : Type) := Out → Fl → Sg → σ → Hh → Prop
def RS {σ Out : Type} (C : Tc σ) (post : Ps σ Out) (m : Sm) (o : Option (Ro Out × σ)) : Prop := match o with
  | none => True
  | some (.val a, s') => ∃ fl gs' G', m = some (fl, gs', G') ∧ post a fl gs' s' G'
  | some (.exc x, s') => ∃ e gs' G', m = some (.ex e, gs', G') ∧ Hq C [] s' G' ∧ RpX x e
def SV {σ Out : Type} (C : Tc σ) (A : As σ) (b : SS) (t : TM σ Out) (post : Ps σ Out) : Prop := ∀ gs s G, A gs s G → RS C post (b gs G) (t s)
def Aq {σ : Type} (C : Tc σ) (loc : List (Nat × O)) (gs0 : Sg) : As σ := fun gs s G => gs = gs0 ∧ Hq C loc s G
inductive LO (S B : Type) where
  | nx (s : S)
  | bk (s : S)
  | rt (b : B)
def LO.on {S B R : Type} (o : LO S B) (k : S → R) (r : B → R) : R := match o with
  | .nx s => k s
  | .bk s => k s
  | .rt b => r b
def noX {σ A : Type} (t : TM σ A) : TM σ A := fun s => match t s with
  | some (.exc _, _) => none
  | o => o
section
variable {σ A B E S X Y Out : Type} {C : Tc σ} {loc os lo : List (Nat × O)} {s s' : σ} {G G' : Hh} {gs : Sg} {f g h : SE} {K : Kd A} {post : Ps σ Out} {rest : SS} {AA : As σ}
theorem hq_nil (h : Hq C loc s G) : Hq C [] s G := (show Hq C (loc ++ []) s G by rw [List.append_nil]; exact h).drop
theorem RM.onE {m : Option (Rs D × Hh)} {t : TM σ A} {k : D → Hh → Sm} {u : A → TM σ Out} (h : RM C loc K G m (t s)) (hk : ∀ a d os s' G', Hq C (os ++ loc) s' G' → K.rel a d os C.V G' → Keep C.W G G' → RS C post (k d G') (u a s')) : RS C post (onE m gs k) (bindT t u s) := by
  unfold bindT
  cases e : t s with
  | none => exact True.intro
  | some p =>
    obtain ⟨r, s'⟩ := p
    rw [e] at h
    cases r with
    | val a =>
      obtain ⟨d, os, G', rfl, k1, h1, h2⟩ := h
      rw [onE_val]
      exact hk a d os s' G' h1 h2 k1
    | exc x =>
      obtain ⟨e, G', rfl, k1, h1, h2⟩ := h
      exact ⟨e, gs, G', rfl, hq_nil h1, h2⟩
theorem RB.onE {m : Option (Rs Bool × Hh)} {t : TM σ Bool} {k : Bool → Hh → Sm} {u : Bool → TM σ Out} (h : RB C loc G m (t s)) (hk : ∀ a s' G', Hq C loc s' G' → Keep C.W G G' → RS C post (k a G') (u a s')) : RS C post (onE m gs k) (bindT t u s) := by
  unfold bindT
  cases e : t s with
  | none => exact True.intro
  | some p =>
    obtain ⟨r, s'⟩ := p
    rw [e] at h
    cases r with
    | val a =>
      obtain ⟨G', rfl, k1, h1⟩ := h
      rw [onE_val]
      exact hk a s' G' h1 k1
    | exc x =>
      obtain ⟨e, G', rfl, k1, h1, h2⟩ := h
      exact ⟨e, gs, G', rfl, hq_nil h1, h2⟩
theorem RS.seq {m : Sm} {fl : Fl} {gs1 : Sg} {G1 : Hh} {st : SS} {o} (e : st gs G = some (.nx, gs1, G1)) (h : RS C post (rest gs1 G1) o) : RS C post (bSeq st rest gs G) o := by
  unfold bSeq
  rw [e]
  exact h
theorem sv_end {o : Out} (h : ∀ s G, Hq C loc s G → post o .nx gs s G) : SV C (Aq C loc gs) bNil (pureT o) post := fun gs' s G ⟨e, hq⟩ => by
  subst e
  exact ⟨.nx, gs', G, rfl, h s G hq⟩
theorem sv_ret {t : TM σ A} {ρ : A → Out} (h : EV C loc gs f K t) (hr : ∀ a d os s G, Hq C (os ++ loc) s G → K.rel a d os C.V G → post (ρ a) (.rt d) gs s G) : SV C (Aq C loc gs) (bSeq (sRet f) rest) (bindT t fun a => pureT (ρ a)) post := fun gs' s G ⟨e, hq⟩ => by
  subst e
  have e : bSeq (sRet f) rest gs' G = onE (f gs' G) gs' fun d G1 => some (.rt d, gs', G1) := by
    unfold bSeq sRet
    cases f gs' G with
    | none => rfl
    | some p => obtain ⟨r, G1⟩ := p; cases r <;> rfl
  rw [e]
  exact (h s G hq).onE fun a d os s' G' q r k => ⟨_, _, _, rfl, hr a d os s' G' q r⟩
theorem sv_asg {enc : A → D} {tg : GT} {gs1 : A → Sg} {t : TM σ A} {k : A → TM σ Out} (h : EV C loc gs f (kV enc) t) (hg : ∀ a G, tg (enc a) gs G = some (gs1 a, G)) (hk : ∀ a, SV C (Aq C loc (gs1 a)) rest (k a) post) : SV C (Aq C loc gs) (bSeq (sAsg f tg) rest) (bindT t k) post := fun gs' s G ⟨e, hq⟩ => by
  subst e
  have e : bSeq (sAsg f tg) rest gs' G = onE (f gs' G) gs' fun d G1 => match tg d gs' G1 with
      | some (gs1, G2) => rest gs1 G2
      | none => none := by
    unfold bSeq sAsg
    cases f gs' G with
    | none => rfl
    | some p =>
      obtain ⟨r, G1⟩ := p
      cases r with
      | exc x => rfl
      | val d =>
        simp only [onE_val]
        cases tg d gs' G1 with
        | none => rfl
        | some q => rfl
  rw [e]
  exact (h s G hq).onE fun a d os s' G' q r _ => by
    obtain ⟨rfl, rfl⟩ := r
    rw [hg]
    exact hk a _ s' G' ⟨rfl, q⟩
theorem sv_asgL {enc : A → D} {i : Nat} {t : TM σ (List A)} {k : List A → TM σ Out} (h : EV C loc gs f (kL enc) t) (hk : ∀ l r, SV C (Aq C ((r, .lst (l.map enc)) :: loc) (gs.set i (some (.ref r)))) rest (k l) post) : SV C (Aq C loc gs) (bSeq (sAsg f (gNm i)) rest) (bindT t k) post := fun gs' s G ⟨e, hq⟩ => by
  subst e
  have e : bSeq (sAsg f (gNm i)) rest gs' G = onE (f gs' G) gs' fun d G1 => rest (gs'.set i (some d)) G1 := by
    unfold bSeq sAsg
    cases f gs' G with
    | none => rfl
    | some p => obtain ⟨r, G1⟩ := p; cases r <;> rfl
  rw [e]
  exact (h s G hq).onE fun a d os s' G' q r _ => by
    obtain ⟨r, rfl, rfl⟩ := r
    exact hk a r _ s' G' ⟨rfl, q⟩
theorem bSeq_assoc {a b c : SS} : bSeq (bSeq a b) c = bSeq a (bSeq b c) := by
  funext gs G
  unfold bSeq
  cases a gs G with
  | none => rfl
  | some p =>
    obtain ⟨fl, gs1, G1⟩ := p
    cases fl <;> rfl
theorem sv_asc {a b : SS} {t : TM σ Out} (h : SV C AA (bSeq a (bSeq b rest)) t post) : SV C AA (bSeq (bSeq a b) rest) t post := by
  rw [bSeq_assoc]
  exact h
theorem sv_nil {t : TM σ Out} (h : SV C AA rest t post) : SV C AA (bSeq bNil rest) t post := fun gs s G ha => h gs s G ha
theorem sv_if {c : ST} {f h : SS} {t : TM σ Bool} {u v : TM σ Out} (hc : ET C loc gs c t) (h1 : SV C (Aq C loc gs) (bSeq f rest) u post) (h2 : SV C (Aq C loc gs) (bSeq h rest) v post) : SV C (Aq C loc gs) (bSeq (sIf c f h) rest) (iteT t u v) post := fun gs' s G ⟨e, hq⟩ => by
  subst e
  have e : bSeq (sIf c f h) rest gs' G = onE (c gs' G) gs' fun b G1 => if b = true then bSeq f rest gs' G1 else bSeq h rest gs' G1 := by
    unfold bSeq sIf
    cases c gs' G with
    | none => rfl
    | some p =>
      obtain ⟨r, G1⟩ := p
      cases r with
      | exc x => rfl
      | val b => cases b <;> rfl
  rw [e]
  exact (hc s G hq).onE fun a s' G' q _ => by
    cases a
    · exact h2 _ s' G' ⟨rfl, q⟩
    · exact h1 _ s' G' ⟨rfl, q⟩
theorem sv_ex {J : Type} {Rl : J → As σ} {st : SS} {u : TM σ Out} (h : ∀ j, SV C (Rl j) st u post) : SV C (fun gs s G => ∃ j, Rl j gs s G) st u post := fun gs s G ⟨j, ha⟩ => h j gs s G ha
theorem sv_at {b : SS} {t : TM σ Out} (h : SV C (Aq C loc gs) b t post) (hq : Hq C loc s G) : RS C post (b gs G) (t s) := h gs s G ⟨rfl, hq⟩
theorem Hq.sub (h : Hq C loc s G) {loc' : List (Nat × O)} (hs : List.Sublist loc' loc) : Hq C loc' s G := ⟨h.keep, fun p hp => h.atL p (hs.subset hp), h.atI, h.nd.sublist (hs.map _), fun p hp => h.fr p (hs.subset hp), h.ioW, h.lt, h.wv⟩
theorem Hq.perm (h : Hq C loc s G) {loc' : List (Nat × O)} (hs : List.Perm loc' loc) : Hq C loc' s G := ⟨h.keep, fun p hp => h.atL p (hs.mem_iff.mp hp), h.atI, (hs.map _).nodup_iff.mpr h.nd, fun p hp => h.fr p (hs.mem_iff.mp hp), h.ioW, h.lt, h.wv⟩
theorem Hq.inn {lit T : List (Nat × O)} (h : Hq C (os ++ (lit ++ T)) s G) : Hq C (lit ++ (os ++ T)) s G := h.perm (by
  rw [← List.append_assoc, ← List.append_assoc]
  exact (List.perm_append_comm).append_right T)
theorem Hq.fin {lit T T' : List (Nat × O)} (h : Hq C (lit ++ T) s G) (ix : List Nat) (hx : ix.Nodup) (hT : List.Sublist T' T) : Hq C (ix.filterMap (lit[·]?) ++ T') s G := by
  have h1 : Hq C lit s G := h.sub (List.sublist_append_left _ _)
  have h2 := h1.pick ix hx
  refine ⟨h.keep, fun p hp => ?_, h.atI, ?_, fun p hp => ?_, h.ioW, h.lt, h.wv⟩
  · rcases List.mem_append.mp hp with hp | hp
    · exact h2.atL p hp
    · exact h.atL p (List.mem_append_right _ (hT.subset hp))
  · have hn := h.nd
    rw [List.map_append] at hn ⊢
    obtain ⟨n1, n2, n3⟩ := List.nodup_append.mp hn
    refine List.nodup_append.mpr ⟨h2.nd, n2.sublist (hT.map _), fun a ha b hb => n3 a ?_ b ((hT.map _).subset hb)⟩
    obtain ⟨p, hp, rfl⟩ := List.mem_map.mp ha
    obtain ⟨i, _, e⟩ := List.mem_filterMap.mp hp
    exact List.mem_map_of_mem (List.mem_of_getElem? e)
  · rcases List.mem_append.mp hp with hp | hp
    · exact h2.fr p hp
    · exact h.fr p (List.mem_append_right _ (hT.subset hp))
def appT (l : List A) (a : A) : TM σ (List A) := if l.length < 100000 then pureT (l ++ [a]) else failT
theorem sv_app {enc : A → D} {i j r : Nat} {l : List A} {t : TM σ A} {k : List A → TM σ Out} (hi : gs[i]? = some (some (.ref r))) (hj : loc[j]? = some (r, .lst (l.map enc))) (h : EV C loc gs f (kV enc) t) (hk : ∀ l', SV C (Aq C (loc.set j (r, .lst (l'.map enc))) gs) rest (k l') post) :
    SV C (Aq C loc gs) (bSeq (sDrop (eMtL (mLst fAppend) (eVar i) (aCons f aNil))) rest) (bindT t fun a => bindT (appT l a) k) post := fun gs' s G ⟨e, hq⟩ => by
  subst e
  have hm := List.mem_of_getElem? hj
  have hr : G[r]? = some (.lst (l.map enc)) := hq.atL _ hm
  have e : bSeq (sDrop (eMtL (mLst fAppend) (eVar i) (aCons f aNil))) rest gs' G = onE (f gs' G) gs' fun d G1 => match mLst fAppend (.ref r) [d] G1 with
      | some (.val _, G2) => rest gs' G2
      | some (.exc x, G2) => some (.ex x, gs', G2)
      | none => none := by
    unfold bSeq sDrop eMtL aCons aNil eVar
    rw [hi]
    simp only [bnd_val]
    have hl : isLst G (.ref r) = true := by unfold isLst; dsimp only; rw [hr]
    rw [if_pos hl]
    cases f gs' G with
    | none => rfl
    | some p =>
      obtain ⟨x, G1⟩ := p
      cases x with
      | exc x => rfl
      | val d =>
        simp only [bnd_val, onE_val]
        cases mLst fAppend (.ref r) [d] G1 with
        | none => rfl
        | some q => obtain ⟨y, G2⟩ := q; cases y <;> rfl
  rw [e]
  exact (h s G hq).onE fun a d os s' G' q rr _ => by
    obtain ⟨rfl, rfl⟩ := rr
    have q' : Hq C loc s' G' := q
    have hr' : G'[r]? = some (.lst (l.map enc)) := q'.atL _ hm
    show RS C post _ (bindT (appT l a) k s')
    unfold appT mLst fAppend
    dsimp only
    rw [hr']
    dsimp only
    by_cases hl : l.length < 100000
    · rw [if_pos hl, if_pos (by simpa using hl)]
      refine hk (l ++ [a]) _ s' _ ⟨rfl, ?_⟩
      have := q'.set (o' := .lst ((l ++ [a]).map enc)) hj
      rw [List.map_append] at this ⊢
      exact this
    · rw [if_neg hl]; exact True.intro
def setI (l : List A) (i : Int) (a : A) : Option (List A) := (ixN l.length i).map fun j => l.set j a
theorem map_set {enc : A → D} {l : List A} {j : Nat} {a : A} : (l.map enc).set j (enc a) = (l.set j a).map enc := by rw [List.map_set]
theorem sv_augS {F : Int → Int → Int} {v j r : Nat} {l : List Int} {t ti : TM σ Int} {k : List Int → TM σ Out} (hi : gs[v]? = some (some (.ref r))) (hj : loc[j]? = some (r, .lst (l.map .int))) (hx : EV C loc gs g (kV .int) ti) (h : EV C loc gs f (kV .int) t) (hk : ∀ l', SV C (Aq C (loc.set j (r, .lst (l'.map .int))) gs) rest (k l') post) :
    SV C (Aq C loc gs) (bSeq (sAugS F (eVar v) g f) rest) (bindT ti fun i => bindT (optT (atI l i)) fun a => bindT t fun b => bindT (optT (setI l i (F a b))) k) post := fun gs' s G ⟨e, hq⟩ => by
  subst e
  have hm := List.mem_of_getElem? hj
  have zx := hx s G hq
  unfold bindT
  cases ei : ti s with
  | none => exact True.intro
  | some p =>
    obtain ⟨o, s1⟩ := p
    rw [ei] at zx
    cases o with
    | exc x =>
      obtain ⟨e, G', e1, k1, q, rx⟩ := zx
      refine ⟨e, gs', G', ?_, hq_nil q, rx⟩
      unfold bSeq sAugS eVar
      rw [hi]
      simp only [onE_val, e1]
      rfl
    | val i =>
      obtain ⟨d2, os2, G2, e2, k2, q2, rfl, rfl⟩ := zx
      have q2' : Hq C loc s1 G2 := q2
      have hr : G2[r]? = some (.lst (l.map .int)) := q2'.atL _ hm
      have hat : atI (l.map D.int) i = (atI l i).map .int := by
        unfold atI
        rw [List.length_map]
        cases ixN l.length i with
        | none => rfl
        | some n => simp
      dsimp only
      cases ea : atI l i with
      | none => exact True.intro
      | some a =>
        have e : bSeq (sAugS F (eVar v) g f) rest gs' G = onE (f gs' G2) gs' fun w G4 => match w with
            | .int b => (match dPut (.ref r) (.int i) (.int (F a b)) G4 with
              | some G5 => rest gs' G5
              | none => none)
            | _ => none := by
          have hget : dGetR (.ref r) (.int i) G2 = some (.int a) := by
            unfold dGetR
            dsimp only
            rw [hr]
            dsimp only
            rw [hat, ea]
            rfl
          unfold bSeq sAugS eVar
          rw [hi]
          simp only [onE_val, e2, hget]
          cases f gs' G2 with
          | none => rfl
          | some p =>
            obtain ⟨x, G1⟩ := p
            cases x with
            | exc x => rfl
            | val d =>
              simp only [onE_val]
              cases d with
              | int b =>
                dsimp only
                cases dPut (.ref r) (.int i) (.int (F a b)) G1 with
                | none => rfl
                | some q => rfl
              | _ => rfl
        rw [e]
        show RS C post _ (bindT t (fun b => bindT (optT (setI l i (F a b))) k) s1)
        exact (h s1 G2 q2').onE fun b d os s' G' q rr _ => by
          obtain ⟨rfl, rfl⟩ := rr
          have q' : Hq C loc s' G' := q
          have hr' : G'[r]? = some (.lst (l.map .int)) := q'.atL _ hm
          show RS C post _ (bindT (optT (setI l i (F a b))) k s')
          unfold dPut setI
          dsimp only
          rw [hr']
          dsimp only
          rw [putO_lst, List.length_map]
          cases ixN l.length i with
          | none => exact True.intro
          | some n =>
            dsimp only [Option.map_some]
            rw [map_set]
            exact hk _ _ s' _ ⟨rfl, q'.set hj⟩
theorem sv_augN {F : Int → Int → Int} {i : Nat} {a : Int} {t : TM σ Int} {k : Int → TM σ Out} (hi : gs[i]? = some (some (.int a))) (h : EV C loc gs f (kV .int) t) (hk : ∀ b, SV C (Aq C loc (gs.set i (some (.int (F a b))))) rest (k b) post) : SV C (Aq C loc gs) (bSeq (sAugN i F f) rest) (bindT t k) post := fun gs' s G ⟨e, hq⟩ => by
  subst e
  have e : bSeq (sAugN i F f) rest gs' G = onE (f gs' G) gs' fun w G1 => match w with
      | .int b => rest (gs'.set i (some (.int (F a b)))) G1
      | _ => none := by
    unfold bSeq sAugN
    rw [hi]
    dsimp only
    cases f gs' G with
    | none => rfl
    | some p =>
      obtain ⟨x, G1⟩ := p
      cases x with
      | exc x => rfl
      | val d => cases d <;> rfl
  rw [e]
  exact (h s G hq).onE fun b d os s' G' q rr _ => by
    obtain ⟨rfl, rfl⟩ := rr
    exact hk b _ s' G' ⟨rfl, q⟩
def popT (l : List A) : TM σ (A × List A) := match l[l.length - 1]? with
  | some a => pureT (a, l.dropLast)
  | none => failT
theorem sv_pop {enc : A → D} {i n j r : Nat} {l : List A} {k : A × List A → TM σ Out} (hi : gs[i]? = some (some (.ref r))) (hj : loc[j]? = some (r, .lst (l.map enc))) (hk : ∀ p : A × List A, SV C (Aq C (loc.set j (r, .lst (p.2.map enc))) (gs.set n (some (enc p.1)))) rest (k p) post) :
    SV C (Aq C loc gs) (bSeq (sAsg (eMtL (mLst fPop) (eVar i) aNil) (gNm n)) rest) (bindT (popT l) k) post := fun gs' s G ⟨e, hq⟩ => by
  subst e
  have hm := List.mem_of_getElem? hj
  have hr : G[r]? = some (.lst (l.map enc)) := hq.atL _ hm
  unfold popT
  cases el : l[l.length - 1]? with
  | none => exact True.intro
  | some a =>
    have hp : mLst fPop (.ref r) [] G = some (.val (enc a), G.set r (.lst (l.dropLast.map enc))) := by
      unfold mLst fPop
      dsimp only
      rw [hr]
      dsimp only
      rw [List.getElem?_map, List.length_map, el]
      simp
    have e : bSeq (sAsg (eMtL (mLst fPop) (eVar i) aNil) (gNm n)) rest gs' G = rest (gs'.set n (some (enc a))) (G.set r (.lst (l.dropLast.map enc))) := by
      unfold bSeq sAsg eMtL aNil eVar
      rw [hi]
      have hl : isLst G (.ref r) = true := by unfold isLst; dsimp only; rw [hr]
      simp only [bnd_val]
      rw [if_pos hl, hp]
      rfl
    rw [e]
    exact hk (a, _) _ s _ ⟨rfl, hq.set hj⟩
end
end FI
set_option maxRecDepth 100000
set_option maxHeartbeats 2000000
namespace FI
open PySem L2
inductive All2 {X : Type} (R : X → D → Prop) : List X → List D → Prop
  | nil : All2 R [] []
  | cons {x : X} {d : D} {xs : List X} {ds : List D} : R x d → All2 R xs ds → All2 R (x :: xs) (d :: ds)
def rV {X : Type} (enc : X → D) : X → D → Prop := fun x d => d = enc x
theorem All2.map {X : Type} {enc : X → D} : ∀ xs : List X, All2 (rV enc) xs (xs.map enc)
  | [] => .nil
  | _ :: r => .cons rfl (All2.map r)
theorem All2.length {X : Type} {R : X → D → Prop} : ∀ {xs : List X} {ds : List D}, All2 R xs ds → xs.length = ds.length
  | _, _, .nil => rfl
  | _, _, .cons _ t => by simp [All2.length t]
def RWk {σ X : Type} (C : Tc σ) (loc lo : List (Nat × O)) (R : X → D → Prop) (G : Hh) (m : Option (Rs (List D × (Hh → Prop)) × Hh)) (o : Option (Ro (List X) × σ)) : Prop := match o with
  | none => True
  | some (.val xs, s') => ∃ (ds : List D) (gd : Hh → Prop) (os pins : List (Nat × O)) (G' : Hh), m = some (.val (ds, gd), G') ∧ All2 R xs ds ∧ Keep C.W G G' ∧ Hq C (os ++ loc) s' G' ∧ (∀ p ∈ pins, (p ∈ os ∨ p ∈ lo ∨ p.1 < C.G0.length) ∧ p.1 ∉ C.V ∧ G'[p.1]? = some p.2) ∧ ∀ G2, (∀ p ∈ pins, G2[p.1]? = some p.2) → gd G2
  | some (.exc x, s') => ∃ e G', m = some (.exc e, G') ∧ Keep C.W G G' ∧ Hq C loc s' G' ∧ RpX x e
def EW {σ X : Type} (C : Tc σ) (loc lo : List (Nat × O)) (gs : Sg) (fw : SW) (R : X → D → Prop) (t : TM σ (List X)) : Prop := ∀ s G, Hq C loc s G → RWk C loc lo R G (fw gs G) (t s)
@[irreducible] def rngT {σ : Type} (lo hi : Int) : TM σ (List Int) := if okR lo = true ∧ okR hi = true then pureT ((List.range (hi - lo).toNat).map fun i : Nat => lo + i) else failT
def enumT {X : Type} (xs : List X) : List (Int × X) := xs.zipIdx.map fun p => ((p.2 : Int), p.1)
section
variable {σ A B E S X Y Out : Type} {C : Tc σ} {loc os lo : List (Nat × O)} {s s' : σ} {G G' : Hh} {gs : Sg} {f g h : SE} {K : Kd A} {post : Ps σ Out} {rest : SS} {AA : As σ}
theorem ew_tup {enc : X → D} {t : TM σ (List X)} (h : EV C loc gs f (kV fun l : List X => .tup (l.map enc)) t) : EW C loc [] gs (wSeq f) (rV enc) t := fun s G hq => by
  have z := h s G hq
  unfold wSeq
  cases e : t s with
  | none => exact True.intro
  | some p =>
    obtain ⟨r, s'⟩ := p
    rw [e] at z
    cases r with
    | val xs =>
      obtain ⟨d, os, G', e, k, q, rfl, rfl⟩ := z
      rw [e]
      exact ⟨_, anyH, [], [], G', rfl, .map xs, k, q, (fun _ h => nomatch h), fun _ _ => trivial⟩
    | exc x =>
      obtain ⟨d, G', e, k, q⟩ := z
      rw [e]
      exact ⟨d, G', rfl, k, q⟩
def U.items : U → Option (List U)
  | .tup us => some us
  | _ => none
def rU (V : List Nat) (G0 : Hh) : U → D → Prop := RpU V G0
theorem all2_rng {lo : Int} : ∀ l : List Nat, All2 (rV D.int) (l.map fun i : Nat => lo + (i : Int)) (l.map fun i : Nat => D.int (lo + (i : Int)))
  | [] => .nil
  | _ :: r => .cons rfl (all2_rng r)
theorem ew_rng1 {t : TM σ Int} (h : EV C loc gs f (kV .int) t) : EW C loc [] gs (wRng1 (aCons f aNil)) (rV .int) (bindT t fun j => rngT 0 j) := fun s G hq => by
  have z := h s G hq
  show RWk C loc _ _ G _ (bindT t (fun j => rngT 0 j) s)
  unfold wRng1 bindT aCons aNil
  cases e : t s with
  | none => exact True.intro
  | some p =>
    obtain ⟨r, s'⟩ := p
    rw [e] at z
    cases r with
    | val j =>
      obtain ⟨d, os, G', e, k, q, rfl, rfl⟩ := z
      rw [e]
      dsimp only
      unfold rngT
      by_cases hj : okR j = true
      · rw [if_pos ⟨by decide, hj⟩]
        refine ⟨rngD 0 j.toNat, anyH, [], [], G', ?_, ?_, k, q, (fun _ h => nomatch h), fun _ _ => trivial⟩
        · simp only [bnd_val, if_pos hj]
        · unfold rngD
          rw [Int.sub_zero]
          exact all2_rng _
      · rw [if_neg fun h => hj h.2]
        exact True.intro
    | exc x =>
      obtain ⟨d, G', e, k, q⟩ := z
      rw [e]
      exact ⟨d, G', rfl, k, q⟩
end
def forT {σ X S B : Type} (body : X → S → TM σ (LO S B)) : List X → S → TM σ (LO S B)
  | [], st => pureT (.nx st)
  | x :: xs, st => bindT (body x st) fun o => match o with
    | .nx st' => forT body xs st'
    | .bk st' => pureT (.nx st')
    | .rt b => pureT (.rt b)
def forS {σ X S : Type} (body : X → S → TM σ S) : List X → S → TM σ S
  | [], st => pureT st
  | x :: xs, st => bindT (body x st) fun st' => forS body xs st'
section
variable {σ A B E S X Y Out : Type} {C : Tc σ} {loc os lo : List (Nat × O)} {s s' : σ} {G G' : Hh} {gs : Sg} {f g h : SE} {K : Kd A} {post : Ps σ Out} {rest : SS} {AA : As σ} {R : X → D → Prop} {tg : GT} {b : SS} {gd : Hh → Prop} {ρ : B → Out}
def postT (Rl : S → As σ) (post : Ps σ Out) (ρ : B → Out) : Ps σ (LO S B) := fun o fl gs s G => match o with
  | .nx st => (fl = .nx ∨ fl = .ct) ∧ Rl st gs s G
  | .bk st => fl = .bk ∧ Rl st gs s G
  | .rt b => (∃ d, fl = .rt d) ∧ post (ρ b) fl gs s G
def postE (Rl : S → As σ) (post : Ps σ Out) (ρ : B → Out) : Ps σ (LO S B) := fun o fl gs s G => o.on (fun st => fl = .nx ∧ Rl st gs s G) fun b => (∃ d, fl = .rt d) ∧ post (ρ b) fl gs s G
theorem forL_T {Rl : S → As σ} {body : X → S → TM σ (LO S B)} (hg : ∀ st gs s G, Rl st gs s G → gd G)
    (hb : ∀ x d st gs s G, R x d → Rl st gs s G → ∃ gs1, tg d gs G = some (gs1, G) ∧ RS C (postT Rl post ρ) (b gs1 G) (body x st s)) : ∀ {xs : List X} {ds : List D}, All2 R xs ds → ∀ st gs s G, Rl st gs s G → RS C (postE Rl post ρ) (forL tg b gd ds gs G) (forT body xs st s)
  | _, _, .nil, st, gs, s, G, hr => by
    unfold forL
    rw [if_pos (hg st gs s G hr)]
    exact ⟨.nx, gs, G, rfl, rfl, hr⟩
  | _, _, .cons (x := x) (xs := xs) a r, st, gs, s, G, hr => by
    unfold forL
    rw [if_pos (hg st gs s G hr)]
    obtain ⟨gs1, e1, z⟩ := hb _ _ st gs s G a hr
    rw [e1]
    unfold forT bindT
    dsimp only
    cases e : body x st s with
    | none => exact True.intro
    | some p =>
      obtain ⟨o, s'⟩ := p
      rw [e] at z
      cases o with
      | exc y =>
        obtain ⟨e, gs', G', e2, q⟩ := z
        rw [e2]
        exact ⟨e, gs', G', rfl, q⟩
      | val o =>
        obtain ⟨fl, gs', G', e2, q⟩ := z
        rw [e2]
        cases o with
        | nx st' =>
          obtain ⟨h1, h2⟩ := q
          rcases h1 with rfl | rfl
          · exact forL_T hg hb r st' gs' s' G' h2
          · exact forL_T hg hb r st' gs' s' G' h2
        | bk st' =>
          obtain ⟨rfl, h2⟩ := q
          exact ⟨.nx, gs', G', rfl, rfl, h2⟩
        | rt v =>
          obtain ⟨⟨d, rfl⟩, h2⟩ := q
          exact ⟨.rt d, gs', G', rfl, ⟨d, rfl⟩, h2⟩
theorem hg_of {Rl : S → As σ} {pins : List (Nat × O)} (q : ∀ p ∈ pins, (p ∈ os ∨ p ∈ lo ∨ p.1 < C.G0.length) ∧ p.1 ∉ C.V ∧ G'[p.1]? = some p.2) (hq : Hq C (os ++ loc) s' G') (hgd : ∀ G2, (∀ p ∈ pins, G2[p.1]? = some p.2) → gd G2) (hRl : ∀ st gs s G, Rl st gs s G → ∃ loc2, Hq C loc2 s G ∧ (∀ p ∈ os, p ∈ loc2) ∧ ∀ p ∈ lo, p ∈ loc2) : ∀ st gs s G, Rl st gs s G → gd G := fun st gs s G hr => by
  obtain ⟨loc2, h1, h2, h3⟩ := hRl st gs s G hr
  refine hgd G fun p hp => ?_
  obtain ⟨a, b, c⟩ := q p hp
  rcases a with a | a | a
  · exact h1.atL p (h2 p a)
  · exact h1.atL p (h3 p a)
  · have e1 := (hq.kv hq.keep).2 _ a b
    have e2 := (h1.kv h1.keep).2 _ a b
    rw [e2, ← e1]
    exact c
theorem sv_for {fw : SW} {Rl : List (Nat × O) → S → As σ} {t : TM σ (List X)} {body : X → S → TM σ (LO S B)} {k : S → TM σ Out} {st0 : S} (hw : EW C loc lo gs fw R t) (h0 : ∀ os s G, Hq C (os ++ loc) s G → Rl os st0 gs s G)
    (hRl : ∀ os st gs s G, Rl os st gs s G → ∃ loc2, Hq C loc2 s G ∧ (∀ p ∈ os, p ∈ loc2) ∧ ∀ p ∈ lo, p ∈ loc2)
    (hb : ∀ os x d st gs s G, R x d → Rl os st gs s G → ∃ gs1, tg d gs G = some (gs1, G) ∧ RS C (postT (Rl os) post ρ) (b gs1 G) (body x st s))
    (hk : ∀ os st, SV C (Rl os st) rest (k st) post) : SV C (Aq C loc gs) (bSeq (sFor fw tg b) rest) (bindT t fun xs => bindT (forT body xs st0) fun o => o.on k fun v => pureT (ρ v)) post := fun gs' s G ⟨e, hq⟩ => by
  subst e
  have z := hw s G hq
  show RS C post _ (bindT t (fun xs => bindT (forT body xs st0) fun o => o.on k fun v => pureT (ρ v)) s)
  unfold bindT bSeq sFor
  cases e : t s with
  | none => exact True.intro
  | some p =>
    obtain ⟨r, s'⟩ := p
    rw [e] at z
    cases r with
    | exc x =>
      obtain ⟨d, G', e, k, q, r⟩ := z
      rw [e]
      exact ⟨d, gs', G', rfl, hq_nil q, r⟩
    | val xs =>
      obtain ⟨ds, gd, os, pins, G', e, a, k, q, hp, hgd⟩ := z
      rw [e]
      simp only [onE_val]
      have y := forL_T (b := b) (tg := tg) (gd := gd) (hg_of hp q hgd (hRl os)) (fun x d st gs s G => hb os x d st gs s G) a st0 gs' s' G' (h0 os s' G' q)
      cases e2 : forT body xs st0 s' with
      | none => exact True.intro
      | some p =>
        obtain ⟨o, s2⟩ := p
        rw [e2] at y
        cases o with
        | exc x =>
          obtain ⟨d, gs2, G2, e3, q⟩ := y
          rw [e3]
          exact ⟨d, gs2, G2, rfl, q⟩
        | val o =>
          obtain ⟨fl, gs2, G2, e3, q⟩ := y
          rw [e3]
          cases o with
          | nx st =>
            obtain ⟨rfl, q⟩ := q
            exact hk os st gs2 s2 G2 q
          | bk st =>
            obtain ⟨rfl, q⟩ := q
            exact hk os st gs2 s2 G2 q
          | rt v =>
            obtain ⟨⟨d, rfl⟩, q⟩ := q
            exact ⟨_, gs2, G2, rfl, q⟩
def postS (Rl : S → As σ) : Ps σ S := fun st fl gs s G => (fl = .nx ∨ fl = .ct) ∧ Rl st gs s G
theorem forS_T {body : X → S → TM σ S} : ∀ (xs : List X) (st : S), forT (B := Empty) (fun x st => bindT (body x st) fun st' => pureT (.nx st')) xs st = bindT (forS body xs st) fun st' => pureT (.nx st')
  | [], st => rfl
  | x :: xs, st => by
    unfold forT forS
    rw [bindT_assoc, bindT_assoc]
    congr 1
    funext st'
    exact forS_T xs st'
theorem sv_forS {fw : SW} {Rl : List (Nat × O) → S → As σ} {t : TM σ (List X)} {body : X → S → TM σ S} {k : S → TM σ Out} {st0 : S} (hw : EW C loc lo gs fw R t) (h0 : ∀ os s G, Hq C (os ++ loc) s G → Rl os st0 gs s G)
    (hRl : ∀ os st gs s G, Rl os st gs s G → ∃ loc2, Hq C loc2 s G ∧ (∀ p ∈ os, p ∈ loc2) ∧ ∀ p ∈ lo, p ∈ loc2)
    (hb : ∀ os x d st gs s G, R x d → Rl os st gs s G → ∃ gs1, tg d gs G = some (gs1, G) ∧ RS C (postS (Rl os)) (b gs1 G) (body x st s))
    (hk : ∀ os st, SV C (Rl os st) rest (k st) post) : SV C (Aq C loc gs) (bSeq (sFor fw tg b) rest) (bindT t fun xs => bindT (forS body xs st0) k) post := by
  have z := sv_for (ρ := (Empty.elim : Empty → Out)) (post := post) (rest := rest) (b := b) (tg := tg) (body := fun x st => bindT (body x st) fun st' => pureT (.nx st')) hw h0 hRl (fun os x d st gs s G h1 h2 => by
    obtain ⟨gs1, e1, y⟩ := hb os x d st gs s G h1 h2
    refine ⟨gs1, e1, ?_⟩
    show RS C _ _ (bindT (body x st) (fun st' => pureT (LO.nx st')) s)
    unfold bindT
    cases e : body x st s with
    | none => exact True.intro
    | some p =>
      obtain ⟨o, s'⟩ := p
      rw [e] at y
      cases o with
      | exc x => exact y
      | val st' =>
        obtain ⟨fl, gs2, G2, e2, q⟩ := y
        exact ⟨fl, gs2, G2, e2, q⟩) hk
  have e : (bindT t fun xs => bindT (forT (B := Empty) (fun x st => bindT (body x st) fun st' => pureT (.nx st')) xs st0) fun o => o.on k fun v => pureT (Empty.elim v)) = bindT t fun xs => bindT (forS body xs st0) k := by
    congr 1
    funext xs
    rw [forS_T, bindT_assoc]
    rfl
  rw [e] at z
  exact z
end
end FI
set_option maxRecDepth 100000
set_option maxHeartbeats 2000000
namespace FI
open PySem L2
def lcA {σ X Y : Type} (p : X → TM σ Bool) (e : X → TM σ Y) : List X → List Y → TM σ (List Y)
  | [], acc => pureT acc
  | x :: xs, acc => bindT (noX (p x)) fun k => if k = true then bindT (noX (e x)) fun y => (if acc.length < 100000 then lcA p e xs (acc ++ [y]) else failT) else lcA p e xs acc
def lcT {σ X Y : Type} (p : X → TM σ Bool) (e : X → TM σ Y) (xs : List X) : TM σ (List Y) := lcA p e xs []
section
variable {σ A B E S X Y Out : Type} {C : Tc σ} {loc os lo : List (Nat × O)} {s s' : σ} {G G' : Hh} {gs : Sg} {f g h : SE} {K : Kd A} {post : Ps σ Out} {rest : SS} {AA : As σ} {R : X → D → Prop} {tg : GT} {b : SS} {gd : Hh → Prop} {ρ : B → Out}
theorem Hq.again {p : Nat × O} (h : Hq C (p :: loc) s G) (k : Keep C.W G G') (h' : Hq C loc s' G') : Hq C (p :: loc) s' G' :=
  ⟨h'.keep, fun q hq => k.get (h.atL q hq) (h.outW hq), h'.atI, h.nd, h.fr, h'.ioW, h'.lt, h'.wv⟩
theorem lcL_T {n : Nat} {enc : Y → D} {tt : ST} {fe : SE} {gs0 : Sg} {p : X → TM σ Bool} {e : X → TM σ Y} {G1 : Hh} (hgd : ∀ G2, Keep C.W G1 G2 → gd G2) (hn : G1.length ≤ n)
    (hb : ∀ x d, R x d → ∃ gs1, (∀ G, tg d gs0 G = some (gs1, G)) ∧ ET C loc gs1 tt (p x) ∧ EV C loc gs1 fe (kV enc) (e x)) : ∀ {xs : List X} {ds : List D}, All2 R xs ds → ∀ acc s G, Keep C.W G1 G → Hq C ((n, .lst (acc.map enc)) :: loc) s G → match lcA p e xs acc s with
      | none => True
      | some (.val ys, s') => ∃ G', lcL tg tt fe gd gs0 n ds G = some G' ∧ Keep C.W G1 G' ∧ Hq C ((n, .lst (ys.map enc)) :: loc) s' G'
      | some (.exc _, _) => False
  | _, _, .nil, acc, s, G, k, hq => by
    unfold lcL
    rw [if_pos (hgd G k)]
    exact ⟨G, rfl, k, hq⟩
  | _, _, .cons (x := x) (xs := xs) (d := d) a r, acc, s, G, k, hq => by
    obtain ⟨gs1, e1, e2, e3⟩ := hb x _ a
    unfold lcL
    rw [if_pos (hgd G k), e1]
    have z := e2 s G hq.tail
    unfold lcA bindT noX
    dsimp only
    cases ep : p x s with
    | none => exact True.intro
    | some q =>
      obtain ⟨o, s1⟩ := q
      rw [ep] at z
      cases o with
      | exc y => exact True.intro
      | val kb =>
        obtain ⟨G2, e4, k2, q2⟩ := z
        rw [e4]
        have hq2 := hq.again k2 q2
        have kk2 : Keep C.W G1 G2 := k.trans k2
        cases kb with
        | false => exact lcL_T hgd hn hb r acc s1 G2 kk2 hq2
        | true =>
          dsimp only
          rw [if_pos rfl]
          have z2 := e3 s1 G2 q2
          cases ee : e x s1 with
          | none => exact True.intro
          | some q =>
            obtain ⟨o, s2⟩ := q
            rw [ee] at z2
            cases o with
            | exc y => exact True.intro
            | val y =>
              obtain ⟨d3, os3, G3, e5, k3, q3, rfl, rfl⟩ := z2
              rw [e5]
              have hq3 := hq2.again k3 q3
              have hr : G3[n]? = some (.lst (acc.map enc)) := hq3.atL (n, .lst (acc.map enc)) (List.mem_cons_self ..)
              dsimp only
              rw [hr]
              dsimp only
              by_cases hl : acc.length < 100000
              · rw [if_pos hl, if_pos (by simpa using hl)]
                have hq4 := hq3.set (j := 0) (r := n) (o := .lst (acc.map enc)) (o' := .lst ((acc ++ [y]).map enc)) rfl
                rw [List.map_append] at hq4
                have kk3 := kk2.trans k3
                refine lcL_T hgd hn hb r (acc ++ [y]) s2 _ ⟨by rw [List.length_set]; exact kk3.1, fun i h1 h2 => ?_⟩ (by rw [List.map_append]; exact hq4)
                rw [List.getElem?_set_ne (by omega)]
                exact kk3.2 i h1 h2
              · rw [if_neg hl]
                exact True.intro
theorem ev_lc {fw : SW} {tt : ST} {fe : SE} {own : List Nat} {enc : Y → D} {p : X → TM σ Bool} {e : X → TM σ Y} {t : TM σ (List X)} (hw : EW C loc lo gs fw R t) (hb : ∀ x d, R x d → ∃ gs1, (∀ G, tg d (wipeG gs own) G = some (gs1, G)) ∧ ET C loc gs1 tt (p x) ∧ EV C loc gs1 fe (kV enc) (e x)) :
    EV C loc gs (eLc fw tg tt fe own) (kL enc) (bindT t fun xs => lcT p e xs) := fun s G hq => by
  have z := hw s G hq
  show RM C loc (kL enc) G _ (bindT t (fun xs => lcT p e xs) s)
  unfold bindT eLc lcT
  cases et : t s with
  | none => exact True.intro
  | some q =>
    obtain ⟨o, s1⟩ := q
    rw [et] at z
    cases o with
    | exc x =>
      obtain ⟨d, G', e, k, q⟩ := z
      rw [e]
      exact ⟨d, G', rfl, k, q⟩
    | val xs =>
      obtain ⟨ds, gd, os, pins, G1, e1, a, k, q, hp, hg⟩ := z
      rw [e1, bnd_val]
      have q0 : Hq C loc s1 G1 := q.drop
      have y := lcL_T (gd := gd) (n := G1.length) (enc := enc) (gs0 := wipeG gs own) (G1 := G1) (fun G2 k2 => hg G2 fun p hp2 => (q.kv k2).get (hp p hp2).2.2 (hp p hp2).2.1) (Nat.le_refl _) hb a [] s1 (G1 ++ [.lst []]) .app q0.new
      dsimp only
      cases el : lcA p e xs [] s1 with
      | none => exact True.intro
      | some q =>
        obtain ⟨o, s2⟩ := q
        rw [el] at y
        cases o with
        | exc x => exact y.elim
        | val ys =>
          obtain ⟨G2, e2, k2, q2⟩ := y
          rw [e2]
          exact ⟨_, _, G2, rfl, k.trans k2, q2, _, rfl, rfl⟩
def whN (c : S → TM σ Bool) (body : S → TM σ (LO S B)) : Nat → S → TM σ (LO S B)
  | 0, _ => failT
  | n + 1, st => bindT (c st) fun k => if k = true then bindT (body st) fun o => (match o with
    | .nx st' => whN c body n st'
    | .bk st' => pureT (.nx st')
    | .rt b => pureT (.rt b)) else pureT (.nx st)
open Classical in
noncomputable def whT (c : S → TM σ Bool) (body : S → TM σ (LO S B)) (st : S) : TM σ (LO S B) := fun s => if h : ∃ r n, whN c body n st s = some r then some h.choose else none
theorem whN_succ {c : S → TM σ Bool} {body : S → TM σ (LO S B)} : ∀ {n : Nat} {st : S} {s : σ} {r}, whN c body n st s = some r → whN c body (n + 1) st s = some r
  | 0, st, s, r, h => by cases h
  | n + 1, st, s, r, h => by
    unfold whN bindT at h ⊢
    cases ec : c st s with
    | none => rw [ec] at h; cases h
    | some p =>
      obtain ⟨o, s1⟩ := p
      rw [ec] at h
      cases o with
      | exc x => exact h
      | val k =>
        cases k with
        | false => exact h
        | true =>
          dsimp only at h ⊢
          rw [if_pos rfl] at h ⊢
          cases eb : body st s1 with
          | none => rw [eb] at h; cases h
          | some p =>
            obtain ⟨o, s2⟩ := p
            rw [eb] at h
            cases o with
            | exc x => exact h
            | val o =>
              cases o with
              | nx st' => exact whN_succ h
              | bk st' => exact h
              | rt b => exact h
theorem whN_le {c : S → TM σ Bool} {body : S → TM σ (LO S B)} {n m : Nat} (hnm : n ≤ m) {st : S} {s : σ} {r} (h : whN c body n st s = some r) : whN c body m st s = some r := by
  induction hnm with
  | refl => exact h
  | step _ ih => exact whN_succ ih
theorem whT_eq {c : S → TM σ Bool} {body : S → TM σ (LO S B)} {n : Nat} {st : S} {s : σ} {r} (h : whN c body n st s = some r) : whT c body st s = some r := by
  have hx : ∃ r n, whN c body n st s = some r := ⟨r, n, h⟩
  unfold whT
  rw [dif_pos hx]
  obtain ⟨m, e⟩ := hx.choose_spec
  have a := whN_le (Nat.le_max_left n m) h
  have b' := whN_le (Nat.le_max_right n m) e
  rw [a] at b'
  rw [Option.some.inj b']
theorem whT_some {c : S → TM σ Bool} {body : S → TM σ (LO S B)} {st : S} {s : σ} {r} (h : whT c body st s = some r) : ∃ n, whN c body n st s = some r := by
  unfold whT at h
  split at h
  · rename_i hx
    obtain ⟨m, e⟩ := hx.choose_spec
    cases h
    exact ⟨m, e⟩
  · cases h
theorem whT_step {c : S → TM σ Bool} {body : S → TM σ (LO S B)} {st : S} {s : σ} : whT c body st s = (bindT (c st) fun k => if k = true then bindT (body st) fun o => (match o with
    | .nx st' => whT c body st'
    | .bk st' => pureT (.nx st')
    | .rt b => pureT (.rt b)) else pureT (.nx st)) s := by
  have key : ∀ r, (∃ n, whN c body n st s = some r) ↔ (bindT (c st) fun k => if k = true then bindT (body st) fun o => (match o with
    | .nx st' => whT c body st'
    | .bk st' => pureT (.nx st')
    | .rt b => pureT (.rt b)) else pureT (.nx st)) s = some r := fun r => by
    constructor
    · rintro ⟨n, h⟩
      cases n with
      | zero => cases h
      | succ n =>
        unfold whN at h
        unfold bindT at h ⊢
        cases ec : c st s with
        | none => rw [ec] at h; cases h
        | some p =>
          obtain ⟨o, s1⟩ := p
          rw [ec] at h
          cases o with
          | exc x => exact h
          | val k =>
            cases k with
            | false => exact h
            | true =>
              dsimp only at h ⊢
              rw [if_pos rfl] at h ⊢
              cases eb : body st s1 with
              | none => rw [eb] at h; cases h
              | some p =>
                obtain ⟨o, s2⟩ := p
                rw [eb] at h
                cases o with
                | exc x => exact h
                | val o =>
                  cases o with
                  | nx st' => exact whT_eq h
                  | bk st' => exact h
                  | rt b => exact h
    · intro h
      unfold bindT at h
      cases ec : c st s with
      | none => rw [ec] at h; cases h
      | some p =>
        obtain ⟨o, s1⟩ := p
        rw [ec] at h
        cases o with
        | exc x => exact ⟨1, by unfold whN bindT; rw [ec]; exact h⟩
        | val k =>
          cases k with
          | false => exact ⟨1, by unfold whN bindT; rw [ec]; exact h⟩
          | true =>
            dsimp only at h
            rw [if_pos rfl] at h
            cases eb : body st s1 with
            | none => rw [eb] at h; cases h
            | some p =>
              obtain ⟨o, s2⟩ := p
              rw [eb] at h
              cases o with
              | exc x => exact ⟨1, by unfold whN bindT; rw [ec]; dsimp only; rw [if_pos rfl, eb]; exact h⟩
              | val o =>
                cases o with
                | nx st' =>
                  obtain ⟨n, e⟩ := whT_some h
                  exact ⟨n + 1, by unfold whN bindT; rw [ec]; dsimp only; rw [if_pos rfl, eb]; exact e⟩
                | bk st' => exact ⟨1, by unfold whN bindT; rw [ec]; dsimp only; rw [if_pos rfl, eb]; exact h⟩
                | rt b => exact ⟨1, by unfold whN bindT; rw [ec]; dsimp only; rw [if_pos rfl, eb]; exact h⟩
  cases e : whT c body st s with
  | some r => exact ((key r).mp (whT_some e)).symm
  | none =>
    cases e2 : (bindT (c st) fun k => if k = true then bindT (body st) fun o => (match o with
    | .nx st' => whT c body st'
    | .bk st' => pureT (.nx st')
    | .rt b => pureT (.rt b)) else pureT (.nx st)) s with
    | none => rfl
    | some r =>
      obtain ⟨n, h⟩ := (key r).mpr e2
      rw [whT_eq h] at e
      cases e
theorem whileN_T {fc : ST} {b : SS} {Rl : S → As σ} {c : S → TM σ Bool} {body : S → TM σ (LO S B)} (hc : ∀ st gs s G, Rl st gs s G → match c st s with
      | none => True
      | some (.val k, s') => ∃ G', fc gs G = some (.val k, G') ∧ (k = false → Rl st gs s' G') ∧ (k = true → RS C (postT Rl post ρ) (b gs G') (body st s'))
      | some (.exc x, s') => ∃ e G', fc gs G = some (.exc e, G') ∧ Hq C [] s' G' ∧ RpX x e) : ∀ n st gs s G, Rl st gs s G → match whN c body n st s with
      | none => True
      | some r => ∃ z, whileN n fc b gs G = some z ∧ RS C (postE Rl post ρ) (some z) (some r)
  | 0, st, gs, s, G, hr => True.intro
  | n + 1, st, gs, s, G, hr => by
    have z := hc st gs s G hr
    unfold whN bindT
    cases ec : c st s with
    | none => exact True.intro
    | some p =>
      obtain ⟨o, s1⟩ := p
      rw [ec] at z
      cases o with
      | exc x =>
        obtain ⟨e, G', e1, q⟩ := z
        exact ⟨(.ex e, gs, G'), by unfold whileN; rw [e1]; rfl, e, gs, G', rfl, q⟩
      | val k =>
        obtain ⟨G', e1, z1, z2⟩ := z
        cases k with
        | false => exact ⟨(.nx, gs, G'), by unfold whileN; rw [e1]; rfl, .nx, gs, G', rfl, rfl, z1 rfl⟩
        | true =>
          have y := z2 rfl
          dsimp only
          rw [if_pos rfl]
          cases eb : body st s1 with
          | none => exact True.intro
          | some p =>
            obtain ⟨o, s2⟩ := p
            rw [eb] at y
            cases o with
            | exc x =>
              obtain ⟨e, gs2, G2, e2, q⟩ := y
              exact ⟨(.ex e, gs2, G2), by unfold whileN; rw [e1, onE_val, if_pos rfl, e2], e, gs2, G2, rfl, q⟩
            | val o =>
              obtain ⟨fl, gs2, G2, e2, q⟩ := y
              cases o with
              | nx st' =>
                obtain ⟨h1, h2⟩ := q
                have w := whileN_T hc n st' gs2 s2 G2 h2
                dsimp only
                cases en : whN c body n st' s2 with
                | none => exact True.intro
                | some r =>
                  rw [en] at w
                  obtain ⟨z, e3, q3⟩ := w
                  refine ⟨z, ?_, q3⟩
                  unfold whileN
                  rw [e1, onE_val, if_pos rfl, e2]
                  rcases h1 with rfl | rfl <;> exact e3
              | bk st' =>
                obtain ⟨rfl, h2⟩ := q
                exact ⟨(.nx, gs2, G2), by unfold whileN; rw [e1, onE_val, if_pos rfl, e2], .nx, gs2, G2, rfl, rfl, h2⟩
              | rt v =>
                obtain ⟨⟨d, rfl⟩, h2⟩ := q
                exact ⟨(.rt d, gs2, G2), by unfold whileN; rw [e1, onE_val, if_pos rfl, e2], .rt d, gs2, G2, rfl, ⟨d, rfl⟩, h2⟩
def WhC (C : Tc σ) (fc : ST) (b : SS) (Rl : S → As σ) (post : Ps σ Out) (ρ : B → Out) (t : TM σ Bool) (u : TM σ (LO S B)) (st : S) (gs : Sg) (s : σ) (G : Hh) : Prop := match t s with
  | none => True
  | some (.val k, s') => ∃ G', fc gs G = some (.val k, G') ∧ (k = false → Rl st gs s' G') ∧ (k = true → RS C (postT Rl post ρ) (b gs G') (u s'))
  | some (.exc x, s') => ∃ e G', fc gs G = some (.exc e, G') ∧ Hq C [] s' G' ∧ RpX x e
theorem sv_while {fc : ST} {b : SS} {Rl : S → As σ} {c : S → TM σ Bool} {body : S → TM σ (LO S B)} {k : S → TM σ Out} {st0 : S} (h0 : ∀ s G, Hq C loc s G → Rl st0 gs s G)
    (hc : ∀ st gs s G, Rl st gs s G → WhC C fc b Rl post ρ (c st) (body st) st gs s G)
    (hk : ∀ st, SV C (Rl st) rest (k st) post) : SV C (Aq C loc gs) (bSeq (sWhile fc b) rest) (bindT (whT c body st0) fun o => o.on k fun v => pureT (ρ v)) post := fun gs' s G ⟨e, hq⟩ => by
  subst e
  unfold bindT bSeq
  cases e : whT c body st0 s with
  | none => exact True.intro
  | some r =>
    obtain ⟨n, en⟩ := whT_some e
    have w := whileN_T (C := C) (post := post) (ρ := ρ) (fun st gs s G h => hc st gs s G h) n st0 gs' s G (h0 s G hq)
    rw [en] at w
    obtain ⟨z, e3, q3⟩ := w
    rw [sWhile_eq e3]
    obtain ⟨o, s2⟩ := r
    cases o with
    | exc x =>
      obtain ⟨e, gs2, G2, e4, q⟩ := q3
      cases e4
      exact ⟨e, gs2, G2, rfl, q⟩
    | val o =>
      obtain ⟨fl, gs2, G2, e4, q⟩ := q3
      cases e4
      cases o with
      | nx st =>
        obtain ⟨rfl, q⟩ := q
        exact hk st gs2 s2 G2 q
      | bk st =>
        obtain ⟨rfl, q⟩ := q
        exact hk st gs2 s2 G2 q
      | rt v =>
        obtain ⟨⟨d, rfl⟩, q⟩ := q
        exact ⟨_, gs2, G2, rfl, q⟩
theorem wh_turn {fc : ST} {b : SS} {Rl : S → As σ} {t : TM σ Bool} {st : S} {u : TM σ (LO S B)} (hq : Hq C loc s G) (hc : ET C loc gs fc t) (hf : ∀ s G, Hq C loc s G → Rl st gs s G) (hb : SV C (Aq C loc gs) b u (postT Rl post ρ)) : WhC C fc b Rl post ρ t u st gs s G := by
  unfold WhC
  have z := hc s G hq
  cases e : t s with
  | none => exact True.intro
  | some p =>
    obtain ⟨o, s1⟩ := p
    rw [e] at z
    cases o with
    | exc x =>
      obtain ⟨e, G', e1, k, q, r⟩ := z
      exact ⟨e, G', e1, hq_nil q, r⟩
    | val k =>
      obtain ⟨G', e1, k1, q⟩ := z
      exact ⟨G', e1, fun _ => hf s1 G' q, fun _ => hb gs s1 G' ⟨rfl, q⟩⟩
def postF (C : Tc σ) (P : B → D → List (Nat × O) → List Nat → Hh → Hh → Prop) : Ps σ B := fun b fl gs s G => ∃ d os loc, (fl = .rt d ∨ (fl = .nx ∧ d = .non)) ∧ Hq C (os ++ loc) s G ∧ P b d os C.V C.G0 G
def RetOk (K : Kd B) (P : B → D → List (Nat × O) → List Nat → Hh → Hh → Prop) : Prop := ∀ (σ : Type) (C : Tc σ) (b : B) (d : D) (os loc : List (Nat × O)) (s : σ) (G : Hh), Hq C (os ++ loc) s G → P b d os C.V C.G0 G → ∃ d' os' G', slim C.G0 (some (.val d, G)) = some (.val d', G') ∧ Keep C.W C.G0 G' ∧ Hq C (os' ++ []) s G' ∧ K.rel b d' os' C.V G'
theorem Hq.take (h : Hq C loc s G) : Hq C [] s (G.take C.G0.length) := by
  have hk : ∀ i, i < C.G0.length → (G.take C.G0.length)[i]? = G[i]? := fun i hi => List.getElem?_take_of_lt hi
  refine ⟨⟨by rw [List.length_take]; have := h.keep.1; omega, fun i h1 h2 => by rw [hk i h1]; exact h.keep.2 i h1 h2⟩, (fun _ h => nomatch h), fun p hp => ?_, List.nodup_nil, (fun _ h => nomatch h), h.ioW, h.lt, h.wv⟩
  have hw : p.1 ∈ C.W := by rw [← h.ioW]; exact List.mem_map_of_mem hp
  rw [hk _ (h.lt _ (h.wv _ hw))]
  exact h.atI p hp
theorem retV {enc : B → D} (hne : ∀ b m, enc b ≠ .ref m) : RetOk (kV enc) fun b d os _ _ _ => d = enc b ∧ os = [] := fun σ C b d os loc s G hq ⟨e1, e2⟩ => by
  subst e1 e2
  have hq' : Hq C loc s G := hq
  have h : ∀ d : D, (∀ m, d ≠ .ref m) → slim C.G0 (some (.val d, G)) = some (.val d, G.take C.G0.length) ∨ slim C.G0 (some (.val d, G)) = some (.val d, G) := fun d hd => by
    cases d with
    | ref m => exact absurd rfl (hd m)
    | _ =>
      unfold slim
      dsimp only
      split
      · exact .inl rfl
      · exact .inr rfl
  rcases h (enc b) (hne b) with e | e
  · exact ⟨enc b, [], _, e, hq'.take.keep, hq'.take, rfl, rfl⟩
  · exact ⟨enc b, [], _, e, hq'.keep, hq_nil hq', rfl, rfl⟩
theorem FnC.of {F : Fn} {W : List Nat} {io : σ → List (Nat × O)} {R : KdA X} {K : Kd B} {foo : X → TM σ B} {P : B → D → List (Nat × O) → List Nat → Hh → Hh → Prop} {n : Nat} {b : SS} {Bd : List D → Option (List D)} (hP : RetOk K P) (hF : F = mkFnB Bd n b)
    (h : ∀ V x ds G, R.rel x ds V G → ∃ es, Bd ds = some es ∧ SV ⟨G, W, V, io⟩ (Aq ⟨G, W, V, io⟩ [] (start0 n es)) b (foo x) (postF ⟨G, W, V, io⟩ P)) : FnC W io F R K foo := fun V x ds s G hr hq => by
  obtain ⟨es, e1, hb⟩ := h V x ds G hr
  have z := hb _ s G ⟨rfl, hq⟩
  subst hF
  unfold mkFnB
  rw [e1]
  dsimp only
  unfold runB
  cases e : foo x s with
  | none => exact True.intro
  | some p =>
    obtain ⟨o, s1⟩ := p
    rw [e] at z
    cases o with
    | exc y =>
      obtain ⟨e, gs', G', e2, q, r⟩ := z
      rw [e2]
      have h : slim G (some (.exc e, G')) = some (.exc e, G'.take G.length) ∨ slim G (some (.exc e, G')) = some (.exc e, G') := by
        unfold slim
        dsimp only
        split
        · exact .inl rfl
        · exact .inr rfl
      rcases h with h | h
      · exact ⟨e, _, h, q.take.keep, q.take, r⟩
      · exact ⟨e, _, h, q.keep, q, r⟩
    | val v =>
      obtain ⟨fl, gs', G', e2, d, os, loc, hfl, q, hp⟩ := z
      obtain ⟨d', os', G'', e3, k, q3, r3⟩ := hP σ ⟨G, W, V, io⟩ v d os loc s1 G' q hp
      rw [e2]
      rcases hfl with rfl | ⟨rfl, rfl⟩
      · exact ⟨d', os', G'', e3, k, q3, r3⟩
      · exact ⟨d', os', G'', e3, k, q3, r3⟩
def mkXc (c : Nat) (fln : List (Nat × Nat)) (us : List U) : Xc := ⟨c, (fln.map fun p => (p.1, us.getD (p.2 - 1) .non)).reverse⟩
inductive AllU : List U → List D → Prop
  | nil : AllU [] []
  | cons {u : U} {d : D} {us : List U} {ds : List D} : RpFd u d → AllU us ds → AllU (u :: us) (d :: ds)
theorem AllU.getD : ∀ {us : List U} {ds : List D}, AllU us ds → ∀ i, RpFd (us.getD i .non) (ds.getD i .non)
  | _, _, .nil, i => by
    rw [List.getD_nil, List.getD_nil]
    exact fun d' e => by cases e; rfl
  | _, _, .cons a b, 0 => a
  | _, _, .cons a b, i + 1 => by simpa using b.getD i
theorem RpFs.append : ∀ {us vs : List (Nat × U)} {ds es : List (Nat × D)}, RpFs us ds → RpFs vs es → RpFs (us ++ vs) (ds ++ es)
  | _, _, _, _, .nil, h => h
  | _, _, _, _, .cons a b, h => .cons a (RpFs.append b h)
theorem RpFs.reverse : ∀ {us : List (Nat × U)} {ds : List (Nat × D)}, RpFs us ds → RpFs us.reverse ds.reverse
  | _, _, .nil => .nil
  | _, _, .cons a b => by
    rw [List.reverse_cons, List.reverse_cons]
    exact (RpFs.reverse b).append (.cons a .nil)
theorem RpX.mk {c : Nat} {fln : List (Nat × Nat)} {us : List U} {ds : List D} (h : AllU us ds) : RpX (mkXc c fln us) (mkEx c fln ds) := by
  refine ⟨rfl, RpFs.reverse ?_⟩
  induction fln with
  | nil => exact .nil
  | cons p r ih => exact .cons (h.getD _) ih
end
end FI
set_option maxRecDepth 100000
set_option maxHeartbeats 2000000
namespace FI
open PySem L2
abbrev eN : Unit → D := fun _ => .non
abbrev eO {A : Type} (e : A → D) : Option A → D := fun o => match o with
  | none => .non
  | some a => e a
abbrev eT {A : Type} (e : A → D) : List A → D := fun l => .tup (l.map e)
abbrev e1 {A : Type} (a : A → D) : A → D := fun p => .tup [a p]
abbrev e2 {A B : Type} (a : A → D) (b : B → D) : A × B → D := fun p => .tup [a p.1, b p.2]
abbrev e3 {A B E : Type} (a : A → D) (b : B → D) (c : E → D) : A × B × E → D := fun p => .tup [a p.1, b p.2.1, c p.2.2]
abbrev e4 {A B E F : Type} (a : A → D) (b : B → D) (c : E → D) (d : F → D) : A × B × E × F → D := fun p => .tup [a p.1, b p.2.1, c p.2.2.1, d p.2.2.2]
abbrev uN : Unit → U := fun _ => .non
abbrev uO {A : Type} (u : A → U) : Option A → U := fun o => match o with
  | none => .non
  | some a => u a
abbrev uT {A : Type} (u : A → U) : List A → U := fun l => .tup (l.map u)
abbrev u1 {A : Type} (a : A → U) : A → U := fun p => .tup [a p]
abbrev u2 {A B : Type} (a : A → U) (b : B → U) : A × B → U := fun p => .tup [a p.1, b p.2]
abbrev u3 {A B E : Type} (a : A → U) (b : B → U) (c : E → U) : A × B × E → U := fun p => .tup [a p.1, b p.2.1, c p.2.2]
abbrev u4 {A B E F : Type} (a : A → U) (b : B → U) (c : E → U) (d : F → U) : A × B × E × F → U := fun p => .tup [a p.1, b p.2.1, c p.2.2.1, d p.2.2.2]
def UE {A : Type} (u : A → U) (e : A → D) : Prop := ∀ W G a, RpU W G (u a) (e a)
section
variable {A B E F : Type} {a : A → U} {b : B → U} {c : E → U} {d : F → U} {x : A → D} {y : B → D} {z : E → D} {w : F → D}
theorem UE.n : UE uN eN := fun _ _ _ => .non
theorem UE.i : UE U.int D.int := fun _ _ i => .int i
theorem UE.s : UE U.str D.str := fun _ _ i => .str i
theorem UE.o (h : UE a x) : UE (uO a) (eO x) := fun W G o => by
  cases o with
  | none => exact .non
  | some v => exact h W G v
theorem UE.ts (h : UE a x) {W : List Nat} {G : Hh} : ∀ l : List A, RpUs W G (l.map a) (l.map x)
  | [] => .nil
  | v :: r => .cons (h W G v) (UE.ts h r)
theorem UE.t (h : UE a x) : UE (uT a) (eT x) := fun W G l => .tup (h.ts l)
theorem UE.t1 (h : UE a x) : UE (u1 a) (e1 x) := fun W G p => .tup (.cons (h W G _) .nil)
theorem UE.t2 (h : UE a x) (h2 : UE b y) : UE (u2 a b) (e2 x y) := fun W G p => .tup (.cons (h W G _) (.cons (h2 W G _) .nil))
theorem UE.t3 (h : UE a x) (h2 : UE b y) (h3 : UE c z) : UE (u3 a b c) (e3 x y z) := fun W G p => .tup (.cons (h W G _) (.cons (h2 W G _) (.cons (h3 W G _) .nil)))
theorem UE.t4 (h : UE a x) (h2 : UE b y) (h3 : UE c z) (h4 : UE d w) : UE (u4 a b c d) (e4 x y z w) := fun W G p => .tup (.cons (h W G _) (.cons (h2 W G _) (.cons (h3 W G _) (.cons (h4 W G _) .nil))))
end
def cI : U → Option Int
  | .int i => some i
  | _ => none
def cS : U → Option Str
  | .str i => some i
  | _ => none
def optAllO {A : Type} : List (Option A) → Option (List A)
  | [] => some []
  | some a :: r => (optAllO r).map (a :: ·)
  | none :: _ => none
def cT {A : Type} (c : U → Option A) : U → Option (List A)
  | .tup us => optAllO (us.map c)
  | _ => none
def c2 {A B : Type} (a : U → Option A) (b : U → Option B) : U → Option (A × B)
  | .tup [u, v] => match a u, b v with
    | some x, some y => some (x, y)
    | _, _ => none
  | _ => none
def c3 {A B E : Type} (a : U → Option A) (b : U → Option B) (c : U → Option E) : U → Option (A × B × E)
  | .tup [u, v, w] => match a u, b v, c w with
    | some x, some y, some z => some (x, y, z)
    | _, _, _ => none
  | _ => none
def CE {A : Type} (c : U → Option A) (e : A → D) : Prop := ∀ W G u d a, c u = some a → RpU W G u d → d = e a
section
variable {A B E : Type} {a : U → Option A} {b : U → Option B} {c : U → Option E} {x : A → D} {y : B → D} {z : E → D}
theorem CE.i : CE cI D.int := fun W G u d a h r => by
  cases r <;> first | (cases h; rfl) | cases h
theorem CE.s : CE cS D.str := fun W G u d a h r => by
  cases r <;> first | (cases h; rfl) | cases h
theorem CE.ts (h : CE a x) {W : List Nat} {G : Hh} : ∀ {us : List U} {ds : List D} {l : List A}, optAllO (us.map a) = some l → RpUs W G us ds → ds = l.map x
  | _, _, _, e, .nil => by cases e; rfl
  | u :: us, _, l, e, .cons r t => by
    rw [List.map_cons] at e
    cases e1 : a u with
    | none => rw [e1] at e; cases e
    | some v =>
      rw [e1] at e
      have e' : (optAllO (us.map a)).map (v :: ·) = some l := e
      cases e2 : optAllO (us.map a) with
      | none => rw [e2] at e'; cases e'
      | some l2 =>
        rw [e2] at e'
        cases e'
        rw [h W G u _ v e1 r, CE.ts h e2 t]
        rfl
theorem CE.t (h : CE a x) : CE (cT a) (eT x) := fun W G u d l e r => by
  cases r with
  | tup rs => rw [CE.ts h e rs]
  | _ => cases e
theorem CE.t2 (h : CE a x) (h2 : CE b y) : CE (c2 a b) (e2 x y) := fun W G u d l e r => by
  cases r with
  | @tup us ds rs =>
    unfold c2 at e
    split at e
    · rename_i u v heq
      cases heq
      cases rs with
      | cons r1 t =>
        cases t with
        | cons r2 t =>
          cases t
          split at e
          · rename_i p q h3 h4
            cases e
            rw [h W G _ _ _ h3 r1, h2 W G _ _ _ h4 r2]
          · cases e
    · cases e
  | _ => cases e
theorem CE.t3 (h : CE a x) (h2 : CE b y) (h3 : CE c z) : CE (c3 a b c) (e3 x y z) := fun W G u d l e r => by
  cases r with
  | @tup us ds rs =>
    unfold c3 at e
    split at e
    · rename_i u v heq
      cases heq
      cases rs with
      | cons r1 t =>
        cases t with
        | cons r2 t =>
          cases t with
          | cons r3 t =>
            cases t
            split at e
            · rename_i p q o h4 h5 h6
              cases e
              rw [h W G _ _ _ h4 r1, h2 W G _ _ _ h5 r2, h3 W G _ _ _ h6 r3]
            · cases e
    · cases e
  | _ => cases e
end
section
variable {σ A B E S X Y Out : Type} {C : Tc σ} {loc os lo : List (Nat × O)} {s s' : σ} {G G' : Hh} {gs : Sg} {f g h : SE} {K : Kd A} {post : Ps σ Out} {rest : SS}
theorem o_lt : O2 σ dLtA (kV .int) (kV .int) (kV .bl) fun a b => pureT (decide (a < b)) := o2v fun _ _ _ => rfl
theorem o_gt : O2 σ dGt (kV .int) (kV .int) (kV .bl) fun a b => pureT (decide (b < a)) := o2v fun _ _ _ => rfl
theorem RM.newL {e : A → D} {l : List A} (hq : Hq C loc s G) : RM C loc (kL e) G (some (.val (.ref G.length), G ++ [.lst (l.map e)])) (some (.val l, s)) := ⟨_, [(G.length, .lst (l.map e))], _, rfl, .app, hq.new, _, rfl, rfl⟩
theorem atI_map {e : A → D} {l : List A} {i : Int} : atI (l.map e) i = (atI l i).map e := by
  unfold atI
  rw [List.length_map]
  cases ixN l.length i with
  | none => rfl
  | some n => simp
theorem o_ixL {e : A → D} : O2 σ dIx (kR e) (kV .int) (kV e) fun l i => optT (atI l i) := fun C loc a b d e' os1 os2 s G hq ⟨r, e1, h1, h2⟩ ⟨e3, e4⟩ => by
  subst e1 e3 e4
  show RM C loc (kV e) G _ (optT (atI a b) s)
  cases h : atI a b with
  | none => exact True.intro
  | some v =>
    have z : dIx (.ref r) (.int b) G = some (.val (e v), G) := by
      unfold dIx orF dIxS itemsD
      dsimp only
      rw [h2]
      dsimp only
      rw [atI_map, h]
      rfl
    rw [z]
    exact RM.here (K := kV e) hq ⟨rfl, rfl⟩
theorem ev_ixc {e : A → D} {e' : B → D} {i : Int} (pr : A → B) {t : TM σ A} (hp : ∀ a G, dIx (e a) (.int i) G = some (.val (e' (pr a)), G)) (h : EV C loc gs f (kV e) t) (hg : EV C loc gs g (kV .int) (pureT i)) : EV C loc gs (eOp dIx f g) (kV e') (bindT t fun a => pureT (pr a)) := fun s G hq =>
  (h s G hq).bnd fun a d os s' G' q r k => by
    obtain ⟨rfl, rfl⟩ := r
    obtain ⟨d2, os2, G2, e2, k2, q2, rfl, rfl⟩ := hg s' G' q
    rw [e2, bnd_val, hp]
    exact RM.from k2 (RM.here (K := kV e') q2 ⟨rfl, rfl⟩)
theorem o_lenL {e : A → D} : O1 σ bLen (kR e) (kV .int) fun l => pureT (l.length : Int) := fun C loc a d os1 s G hq ⟨r, e1, h1, h2⟩ => by
  subst e1
  have z : bLen (.ref r) G = some (.val (.int a.length), G) := by
    unfold bLen lenD
    dsimp only
    rw [h2]
    simp
  rw [z]
  exact RM.here (K := kV .int) hq ⟨rfl, rfl⟩
def srtK (k : A → List Int) (l : List A) : List A := l.mergeSort fun a b => leT (k a) (k b)
theorem srtK_map {k : A → List Int} {l : List A} : (srtK k l).map k = sortT (l.map k) := by
  unfold srtK sortT
  exact List.map_mergeSort fun a _ b _ => rfl
theorem srtK_perm {k : A → List Int} {l : List A} : (srtK k l).Perm l := List.mergeSort_perm _ _
def RO (C : Tc σ) (loc : List (Nat × O)) (G : Hh) (m : Option (Rs (Option Int) × Hh)) (o : Option (Ro (Option Int) × σ)) : Prop := match o with
  | none => True
  | some (.val a, s') => ∃ G', m = some (.val a, G') ∧ Keep C.W G G' ∧ Hq C loc s' G'
  | some (.exc x, s') => ∃ e G', m = some (.exc e, G') ∧ Keep C.W G G' ∧ Hq C loc s' G' ∧ RpX x e
theorem RO.bnd {K' : Kd B} {m : Option (Rs (Option Int) × Hh)} {t : TM σ (Option Int)} {k : Option Int → Mm D} {u : Option Int → TM σ B} (h : RO C loc G m (t s)) (hk : ∀ a s' G', Hq C loc s' G' → Keep C.W G G' → RM C loc K' G' (k a G') (u a s')) : RM C loc K' G (bnd m k) (bindT t u s) := by
  unfold bindT
  cases e : t s with
  | none => exact True.intro
  | some p =>
    obtain ⟨r, s'⟩ := p
    rw [e] at h
    cases r with
    | val a =>
      obtain ⟨G', rfl, k1, h1⟩ := h
      rw [bnd_val]
      exact (hk a s' G' h1 k1).from k1
    | exc x =>
      obtain ⟨e, G', rfl, k1, h1, h2⟩ := h
      exact ⟨e, G', rfl, k1, h1, h2⟩
def U.cut : U → Option Int → Option Int → Option U
  | .tup us, lo, hi => some (.tup (cutL us lo hi))
  | _, _, _ => none
theorem RpUs.length {V : List Nat} {G0 : Hh} : ∀ {us : List U} {ds : List D}, RpUs V G0 us ds → us.length = ds.length
  | _, _, .nil => rfl
  | _, _, .cons _ t => by simp [RpUs.length t]
theorem RpUs.drop {V : List Nat} {G0 : Hh} : ∀ {us : List U} {ds : List D} (n : Nat), RpUs V G0 us ds → RpUs V G0 (us.drop n) (ds.drop n)
  | _, _, 0, h => h
  | _, _, _ + 1, .nil => .nil
  | _, _, n + 1, .cons _ t => RpUs.drop n t
theorem RpUs.take {V : List Nat} {G0 : Hh} : ∀ {us : List U} {ds : List D} (n : Nat), RpUs V G0 us ds → RpUs V G0 (us.take n) (ds.take n)
  | _, _, 0, _ => .nil
  | _, _, _ + 1, .nil => .nil
  | _, _, n + 1, .cons a t => .cons a (RpUs.take n t)
theorem RpUs.cut {V : List Nat} {G0 : Hh} {us : List U} {ds : List D} (lo hi : Option Int) (h : RpUs V G0 us ds) : RpUs V G0 (cutL us lo hi) (cutL ds lo hi) := by
  unfold cutL
  rw [h.length]
  exact (h.drop _).take _
end
end FI
set_option maxRecDepth 100000
set_option maxHeartbeats 2000000
namespace FI
open PySem L2
structure QE {A : Type} [DecidableEq A] (e : A → D) (p : A → PyData) (ok : A → Bool) (n : Nat) : Prop where
  rp : ∀ a G k, ok a = true → n ≤ k → Rp G k (e a) (p a)
  eq : ∀ a b, PyData.eqv (p a) (p b) = decide (a = b)
  pos : 1 ≤ n
def sOk (s : Str) : Bool := PyData.canLay0 (.str s)
def yes {A : Type} : A → Bool := fun _ => true
section
variable {A B E : Type} [DecidableEq A] [DecidableEq B] [DecidableEq E] {e : A → D} {p : A → PyData} {ok : A → Bool} {n m l : Nat} {e' : B → D} {p' : B → PyData} {ok' : B → Bool} {e'' : E → D} {p'' : E → PyData} {ok'' : E → Bool}
theorem QE.int : QE D.int PyData.int yes 1 := ⟨fun a G k _ h => by
  obtain ⟨j, rfl⟩ := Nat.exists_eq_add_of_le' h
  exact Rp.int a, fun a b => by
  unfold PyData.eqv
  by_cases h : a = b <;> simp [h], Nat.le_refl _⟩
theorem QE.bl : QE D.bl PyData.bool yes 1 := ⟨fun a G k _ h => by
  obtain ⟨j, rfl⟩ := Nat.exists_eq_add_of_le' h
  exact Rp.bl a, fun a b => by
  unfold PyData.eqv
  cases a <;> cases b <;> rfl, Nat.le_refl _⟩
theorem QE.str : QE D.str PyData.str sOk 1 := ⟨fun a G k hk h => by
  obtain ⟨j, rfl⟩ := Nat.exists_eq_add_of_le' h
  exact Rp.str hk, fun a b => by
  unfold PyData.eqv
  by_cases h : a = b <;> simp [h], Nat.le_refl _⟩
theorem QE.non : QE eN (fun _ => PyData.none) yes 1 := ⟨fun a G k _ h => by
  obtain ⟨j, rfl⟩ := Nat.exists_eq_add_of_le' h
  exact Rp.non, fun a b => by simp [PyData.eqv], Nat.le_refl _⟩
theorem RpAll.mapQ (q : QE e p ok n) {G : Hh} {k : Nat} (hk : n ≤ k) : ∀ {xs : List A}, xs.all ok = true → RpAll G k (xs.map e) (xs.map p)
  | [], _ => .nil
  | x :: r, h => by
    rw [List.all_cons, Bool.and_eq_true] at h
    exact .cons (q.rp x G k h.1 hk) (RpAll.mapQ q hk h.2)
theorem eqvAll_map (q : QE e p ok n) : ∀ (xs ys : List A), PyData.eqvAll (xs.map p) (ys.map p) = decide (xs = ys)
  | [], [] => rfl
  | [], _ :: _ => rfl
  | _ :: _, [] => rfl
  | x :: xs, y :: ys => by
    show (PyData.eqv (p x) (p y) && PyData.eqvAll (xs.map p) (ys.map p)) = _
    rw [q.eq, eqvAll_map q xs ys]
    by_cases h : x = y <;> simp [h]
theorem QE.t (q : QE e p ok n) : QE (eT e) (fun l => PyData.tuple (l.map p)) (fun l => l.all ok) (n + 1) := ⟨fun a G k hk h => by
  obtain ⟨j, rfl⟩ := Nat.exists_eq_add_of_le' (Nat.le_trans (Nat.succ_le_succ q.pos) h)
  exact Rp.tup (RpAll.mapQ q (by have := q.pos; omega) hk), fun a b => eqvAll_map q a b, by omega⟩
theorem QE.t1 (q : QE e p ok n) : QE (e1 e) (fun a => PyData.tuple [p a]) ok (n + 1) := ⟨fun a G k hk h => by
  obtain ⟨j, rfl⟩ := Nat.exists_eq_add_of_le' (Nat.le_trans (Nat.succ_le_succ q.pos) h)
  exact Rp.tup (.cons (q.rp a G _ hk (by have := q.pos; omega)) .nil), fun a b => by
  show (PyData.eqv (p a) (p b) && true) = _
  rw [q.eq, Bool.and_true], by omega⟩
theorem QE.t2 (q : QE e p ok n) (q' : QE e' p' ok' m) : QE (e2 e e') (fun a => PyData.tuple [p a.1, p' a.2]) (fun a => ok a.1 && ok' a.2) (n + m) := ⟨fun a G k hk h => by
  have h1 := q.pos
  have h2 := q'.pos
  obtain ⟨j, rfl⟩ := Nat.exists_eq_add_of_le' (show 2 ≤ k by omega)
  rw [Bool.and_eq_true] at hk
  exact Rp.tup (.cons (q.rp _ G _ hk.1 (by omega)) (.cons (q'.rp _ G _ hk.2 (by omega)) .nil)), fun a b => by
  show (PyData.eqv (p a.1) (p b.1) && (PyData.eqv (p' a.2) (p' b.2) && true)) = _
  rw [q.eq, q'.eq, Bool.and_true]
  obtain ⟨a1, a2⟩ := a
  obtain ⟨b1, b2⟩ := b
  by_cases h1 : a1 = b1 <;> by_cases h2 : a2 = b2 <;> simp [h1, h2], by have := q.pos; omega⟩
theorem QE.t3 (q : QE e p ok n) (q' : QE e' p' ok' m) (q'' : QE e'' p'' ok'' l) : QE (e3 e e' e'') (fun a => PyData.tuple [p a.1, p' a.2.1, p'' a.2.2]) (fun a => ok a.1 && (ok' a.2.1 && ok'' a.2.2)) (n + m + l) := ⟨fun a G k hk h => by
  have h1 := q.pos
  have h2 := q'.pos
  have h3 := q''.pos
  obtain ⟨j, rfl⟩ := Nat.exists_eq_add_of_le' (show 2 ≤ k by omega)
  rw [Bool.and_eq_true, Bool.and_eq_true] at hk
  exact Rp.tup (.cons (q.rp _ G _ hk.1 (by omega)) (.cons (q'.rp _ G _ hk.2.1 (by omega)) (.cons (q''.rp _ G _ hk.2.2 (by omega)) .nil))), fun a b => by
  show (PyData.eqv (p a.1) (p b.1) && (PyData.eqv (p' a.2.1) (p' b.2.1) && (PyData.eqv (p'' a.2.2) (p'' b.2.2) && true))) = _
  rw [q.eq, q'.eq, q''.eq, Bool.and_true]
  obtain ⟨a1, a2, a3⟩ := a
  obtain ⟨b1, b2, b3⟩ := b
  by_cases h1 : a1 = b1 <;> by_cases h2 : a2 = b2 <;> by_cases h3 : a3 = b3 <;> simp [h1, h2, h3], by have := q.pos; omega⟩
theorem QE.o (q : QE e p ok n) (hn : ∀ a, PyData.eqv .none (p a) = false ∧ PyData.eqv (p a) .none = false) : QE (eO e) (fun o => match o with | none => PyData.none | some a => p a) (fun o => match o with | none => true | some a => ok a) n := ⟨fun a G k hk h => by
  cases a with
  | none =>
    obtain ⟨j, rfl⟩ := Nat.exists_eq_add_of_le' (Nat.le_trans q.pos h)
    exact Rp.non
  | some a => exact q.rp a G k hk h, fun a b => by
  cases a with
  | none => cases b with
    | none => rfl
    | some b => simpa using (hn b).1
  | some a => cases b with
    | none => simpa using (hn a).2
    | some b => simpa using q.eq a b, q.pos⟩
end
section
variable {σ A B E S X Y Out : Type} {C : Tc σ} {loc os lo : List (Nat × O)} {s s' : σ} {G G' : Hh} {gs : Sg} {f g h : SE} {K : Kd A} {post : Ps σ Out} {rest : SS} {fa : SA} {R : KdA X}
section
variable [DecidableEq A] {e : A → D} {p : A → PyData} {ok : A → Bool} {n : Nat}
theorem o_eq (q : QE e p ok n) (hn : n ≤ 8) (hok : ∀ a, ok a = true) : O2 σ (dEqv false) (kV e) (kV e) (kV .bl) fun a b => pureT (decide (a = b)) := o2v fun a b G => by
  rw [eqv_rp (q.rp a G 8 (hok a) hn) (q.rp b G 8 (hok b) hn), q.eq, Bool.false_xor]
def eqO (ok : A → Bool) (a b : A) : Option Bool := if (ok a && ok b) = true then some (decide (a = b)) else none
end
theorem ev_ls {mk : X → List A} {enc : A → D} {t : TM σ (List A)} (hR : ∀ x ds V G, R.rel x ds V G → ds.length ≤ 100000 ∧ ds = (mk x).map enc) (ha : EA C loc gs fa R (fun x => pureT (mk x)) t) : EV C loc gs (eArgs dLst fa) (kL enc) t := fun s G hq =>
  ha (kL enc) dLst s G hq fun x ds s' G' k q r => by
    obtain ⟨hl, e⟩ := hR x ds _ _ r
    unfold dLst
    rw [if_pos hl, e]
    exact .newL q
def repT (l : List A) (n : Int) : Option (List A) := if 0 ≤ n ∧ n ≤ 100000 ∧ l.length * n.toNat ≤ 100000 then some (List.replicate n.toNat l).flatten else none
theorem o_repL {e : A → D} : O2 σ dMul (kR e) (kV .int) (kL e) fun l n => optT (repT l n) := fun C loc l n d e' os1 os2 s G hq ⟨r, e1, h1, h2⟩ ⟨e3, e4⟩ => by
  subst e1 e3 e4
  show RM C loc (kL e) G _ (optT (repT l n) s)
  unfold repT
  by_cases hc : 0 ≤ n ∧ n ≤ 100000 ∧ l.length * n.toNat ≤ 100000
  · rw [if_pos hc]
    have z : dMul (.ref r) (.int n) G = some (.val (.ref G.length), G ++ [.lst ((List.replicate n.toNat l).flatten.map e)]) := by
      show dMulL (.ref r) (.int n) G = _
      unfold dMulL
      dsimp only
      rw [h2]
      dsimp only
      rw [List.length_map, if_pos hc, List.map_flatten, List.map_replicate]
    rw [z]
    exact .newL hq
  · rw [if_neg hc]
    exact True.intro
def U.at : U → Int → Option U
  | .tup us, i => atI us i
  | _, _ => none
def U.len : U → Option Int
  | .tup us => some us.length
  | .lst us => some us.length
  | .str s => if s.length ≤ 100000 then some (s.length : Int) else none
  | _ => none
theorem RpUs.get {V : List Nat} {G0 : Hh} : ∀ {us : List U} {ds : List D} {i : Nat} {u : U}, RpUs V G0 us ds → us[i]? = some u → ∃ d, ds[i]? = some d ∧ RpU V G0 u d
  | _, _, _, _, .nil, h => by simp at h
  | _, _, 0, _, .cons a _, h => by cases h; exact ⟨_, rfl, a⟩
  | _, _, i + 1, _, .cons _ t, h => by simpa using t.get (i := i) (by simpa using h)
def U.isB : U → Bool
  | .bl _ => true
  | _ => false
def Kp (b : SS) : Prop := ∀ gs G fl gs' G', b gs G = some (fl, gs', G') → gs' = gs
theorem RpFs.lookup {k : Nat} : ∀ {us : List (Nat × U)} {ds : List (Nat × D)}, RpFs us ds → ∀ {u}, us.lookup k = some u → ∃ d, ds.lookup k = some d ∧ RpFd u d
  | _, _, .nil, _, h => by cases h
  | _, _, .cons (n := n) a b, u, h => by
    rw [List.lookup_cons] at h ⊢
    cases hk : k == n with
    | true => rw [hk] at h; cases h; exact ⟨_, rfl, a⟩
    | false => rw [hk] at h; exact b.lookup h
end
end FI
set_option maxRecDepth 100000
set_option maxHeartbeats 2000000
namespace FI
open PySem L2
theorem UE.fd {A : Type} {u : A → U} {e : A → D} (h : UE u e) (a : A) : RpFd (u a) (e a) := fun _ z => RpU.toD (h [] [] a) z
theorem RpU.fd {W : List Nat} {G : Hh} {u : U} {d : D} (h : RpU W G u d) : RpFd u d := fun _ z => RpU.toD h z
end FI
set_option maxRecDepth 100000
set_option maxHeartbeats 2000000
namespace FI
open PySem L2
section
variable {σ A B E S X Y : Type}
@[simp] theorem bindT_pure_ {a : A} {k : A → TM σ B} : bindT (pureT a) k = k a := id rfl
@[simp] theorem bindT_raise_ {x : Xc} {k : A → TM σ B} : bindT (raiseT x) k = raiseT x := id rfl
@[simp] theorem bindT_fail_ {k : A → TM σ B} : bindT failT k = failT := id rfl
@[simp] theorem bindT_assoc_ {t : TM σ A} {k : A → TM σ B} {l : B → TM σ E} : bindT (bindT t k) l = bindT t fun a => bindT (k a) l := bindT_assoc
@[simp] theorem bindT_ret_ {t : TM σ A} : (bindT t fun a => pureT a) = t := bindT_ret
@[simp] theorem optT_some {a : A} : (optT (some a) : TM σ A) = pureT a := id rfl
@[simp] theorem optT_none : (optT none : TM σ A) = failT := id rfl
@[simp] theorem liftT_pure_ {a : A} : liftT (pureT a) = (pureT a : TM σ A) := id rfl
@[simp] theorem liftT_raise_ {x : Xc} : liftT (raiseT x) = (raiseT x : TM σ A) := id rfl
@[simp] theorem andT_pure {b : Bool} {u : TM σ Bool} : andT (pureT b) u = if b = true then u else pureT false := id rfl
@[simp] theorem orT_pure {b : Bool} {u : TM σ Bool} : orT (pureT b) u = if b = true then pureT true else u := id rfl
@[simp] theorem iteT_pure {b : Bool} {t u : TM σ A} : iteT (pureT b) t u = if b = true then t else u := id rfl
@[simp] theorem andT_ite {p : Prop} [Decidable p] {c d u : TM σ Bool} : andT (if p then c else d) u = if p then andT c u else andT d u := by split <;> rfl
@[simp] theorem orT_ite {p : Prop} [Decidable p] {c d u : TM σ Bool} : orT (if p then c else d) u = if p then orT c u else orT d u := by split <;> rfl
@[simp] theorem noX_pure {a : A} : noX (pureT a) = (pureT a : TM σ A) := id rfl
@[simp] theorem LO_on_nx {S B R : Type} {st : S} {k : S → R} {r : B → R} : (LO.nx st : LO S B).on k r = k st := id rfl
@[simp] theorem LO_on_rt {S B R : Type} {b : B} {k : S → R} {r : B → R} : (LO.rt b : LO S B).on k r = r b := id rfl
@[simp] theorem pure_ite {p : Prop} [Decidable p] {a b : A} : (if p then pureT a else pureT b) = (pureT (if p then a else b) : TM σ A) := by split <;> rfl
@[simp] theorem forT_nil {body : X → S → TM σ (LO S B)} {st : S} : forT body [] st = pureT (.nx st) := id rfl
@[simp] theorem forS_nil {body : X → S → TM σ S} {st : S} : forS body [] st = pureT st := id rfl
theorem forS_cons {body : X → S → TM σ S} {x : X} {xs : List X} {st : S} : forS body (x :: xs) st = bindT (body x st) fun st' => forS body xs st' := rfl
theorem lcA_pure {p : X → TM σ Bool} {e : X → TM σ Y} {q : X → Bool} {f : X → Y} : ∀ (xs : List X) (acc : List Y), (∀ x ∈ xs, p x = pureT (q x)) → (∀ x ∈ xs, q x = true → e x = pureT (f x)) → acc.length + xs.length ≤ 100000 → lcA p e xs acc = pureT (acc ++ (xs.filter q).map f)
  | [], acc, _, _, _ => by simp [lcA]
  | x :: xs, acc, hp, he, hl => by
    have hl' : acc.length + xs.length + 1 ≤ 100000 := by simpa [Nat.add_assoc] using hl
    unfold lcA
    rw [hp x (List.mem_cons_self ..), noX_pure, bindT_pure]
    by_cases hq : q x = true
    · rw [if_pos hq, he x (List.mem_cons_self ..) hq, noX_pure, bindT_pure, if_pos (by omega), lcA_pure xs _ (fun y hy => hp y (List.mem_cons_of_mem _ hy)) (fun y hy => he y (List.mem_cons_of_mem _ hy)) (by simp; omega), List.filter_cons_of_pos hq]
      simp
    · rw [if_neg hq, lcA_pure xs _ (fun y hy => hp y (List.mem_cons_of_mem _ hy)) (fun y hy => he y (List.mem_cons_of_mem _ hy)) (by omega), List.filter_cons_of_neg hq]
theorem lcT_pure {p : X → TM σ Bool} {e : X → TM σ Y} {q : X → Bool} {f : X → Y} {xs : List X} (hp : ∀ x ∈ xs, p x = pureT (q x)) (he : ∀ x ∈ xs, q x = true → e x = pureT (f x)) (hl : xs.length ≤ 100000) : lcT p e xs = pureT ((xs.filter q).map f) := by
  unfold lcT
  rw [lcA_pure xs [] hp he (by simpa using hl), List.nil_append]
def rngI (lo hi : Int) : List Int := (List.range (hi - lo).toNat).map fun i : Nat => lo + i
theorem rngT_ok {lo hi : Int} (h1 : -100000 ≤ lo ∧ lo ≤ 100000) (h2 : -100000 ≤ hi ∧ hi ≤ 100000) : (rngT lo hi : TM σ (List Int)) = pureT (rngI lo hi) := by
  unfold rngT rngI
  rw [if_pos ⟨decide_eq_true (by omega), decide_eq_true (by omega)⟩]
theorem rngI_len {lo hi : Int} : (rngI lo hi).length = (hi - lo).toNat := by simp [rngI]
theorem mem_rngI {lo hi x : Int} : x ∈ rngI lo hi ↔ lo ≤ x ∧ x < hi := by
  unfold rngI
  rw [List.mem_map]
  constructor
  · rintro ⟨i, hi, rfl⟩
    have := List.mem_range.mp hi
    omega
  · rintro ⟨h1, h2⟩
    exact ⟨(x - lo).toNat, List.mem_range.mpr (by omega), by omega⟩
def wb (t : TM σ A) (s : σ) (Q : A → σ → Prop) : Prop := ∃ a s', t s = some (.val a, s') ∧ Q a s'
variable {s s' : σ} {Q : A → σ → Prop}
@[simp] theorem wb_pure {a : A} : wb (pureT a) s Q ↔ Q a s := ⟨fun ⟨_, _, e, q⟩ => by cases e; exact q, fun q => ⟨a, s, rfl, q⟩⟩
@[simp] theorem wb_fail : wb (failT : TM σ A) s Q ↔ False := ⟨fun ⟨_, _, e, _⟩ => (by cases e), False.elim⟩
@[simp] theorem wb_bind {t : TM σ B} {k : B → TM σ A} : wb (bindT t k) s Q ↔ wb t s fun b s' => wb (k b) s' Q := by
  constructor
  · rintro ⟨a, s2, e, q⟩
    unfold bindT at e
    cases e1 : t s with
    | none => rw [e1] at e; cases e
    | some p =>
      obtain ⟨r, s1⟩ := p
      rw [e1] at e
      cases r with
      | exc x => cases e
      | val b => exact ⟨b, s1, e1, a, s2, e, q⟩
  · rintro ⟨b, s1, e1, a, s2, e2, q⟩
    refine ⟨a, s2, ?_, q⟩
    unfold bindT
    rw [e1]
    exact e2
theorem wb_mono {t : TM σ A} {Q' : A → σ → Prop} (h : wb t s Q') (k : ∀ a s, Q' a s → Q a s) : wb t s Q := let ⟨a, s', e, q⟩ := h; ⟨a, s', e, k a s' q⟩
@[simp] theorem wb_noX {t : TM σ A} : wb (noX t) s Q ↔ wb t s Q := by
  constructor
  · rintro ⟨a, s', e, q⟩
    unfold noX at e
    cases e1 : t s with
    | none => rw [e1] at e; cases e
    | some p =>
      obtain ⟨r, s1⟩ := p
      rw [e1] at e
      cases r with
      | exc x => cases e
      | val b => cases e; exact ⟨a, s', e1, q⟩
  · rintro ⟨a, s', e, q⟩
    refine ⟨a, s', ?_, q⟩
    unfold noX
    rw [e]
theorem wb_ite {p : Prop} [Decidable p] {t u : TM σ A} : wb (if p then t else u) s Q ↔ if p then wb t s Q else wb u s Q := by split <;> rfl
@[simp] theorem wb_iteT {c : TM σ Bool} {t u : TM σ A} : wb (iteT c t u) s Q ↔ wb c s fun b s' => if b = true then wb t s' Q else wb u s' Q := by
  unfold iteT
  rw [wb_bind]
  simp only [wb_ite]
@[simp] theorem wb_andT {t u : TM σ Bool} {Q : Bool → σ → Prop} : wb (andT t u) s Q ↔ wb t s fun b s' => if b = true then wb u s' Q else Q false s' := by
  unfold andT
  rw [wb_bind]
  simp only [wb_ite, wb_pure]
@[simp] theorem wb_orT {t u : TM σ Bool} {Q : Bool → σ → Prop} : wb (orT t u) s Q ↔ wb t s fun b s' => if b = true then Q true s' else wb u s' Q := by
  unfold orT
  rw [wb_bind]
  simp only [wb_ite, wb_pure]
@[simp] theorem wb_app {l : List B} {a : B} {Q : List B → σ → Prop} : wb (appT l a) s Q ↔ l.length < 100000 ∧ Q (l ++ [a]) s := by
  unfold appT
  by_cases h : l.length < 100000 <;> simp [h]
theorem wb_forS {body : X → A → TM σ A} (P : Nat → A → σ → Prop) : ∀ (xs : List X) (st : A) (s : σ), P 0 st s → (∀ i (h : i < xs.length) st s, P i st s → wb (body xs[i] st) s (P (i + 1))) → (∀ st s, P xs.length st s → Q st s) → wb (forS body xs st) s Q
  | [], st, s, h0, _, hq => (wb_pure).mpr (hq _ _ h0)
  | x :: xs, st, s, h0, hs, hq => by
    rw [forS_cons, wb_bind]
    refine wb_mono (hs 0 (Nat.zero_lt_succ _) st s h0) fun st' s' h1 => ?_
    exact wb_forS (fun i => P (i + 1)) xs st' s' h1 (fun i h st s hp => hs (i + 1) (Nat.succ_lt_succ h) st s hp) hq
end
theorem setI_ok {A : Type} {l : List A} {i : Int} {a : A} (h0 : 0 ≤ i) (h : i.toNat < l.length) : setI l i a = some (l.set i.toNat a) := by
  unfold setI
  rw [ixN_nat h0 h]
  rfl
end FI
set_option maxRecDepth 100000
set_option maxHeartbeats 2000000
namespace FI
open PySem L2
section
variable {σ A B E S X Y : Type}
theorem wb_whT {c : S → TM σ Bool} {body : S → TM σ (LO S B)} {Q : LO S B → σ → Prop} (P : S → σ → Prop) (μ : S → Nat) (hs : ∀ st s, P st s → wb (c st) s fun k s' => if k = true then wb (body st) s' (fun o s2 => match o with
      | .nx st' => P st' s2 ∧ μ st' < μ st
      | .bk st' => Q (.nx st') s2
      | .rt b => Q (.rt b) s2) else Q (.nx st) s') : ∀ (n : Nat) (st : S) (s : σ), μ st ≤ n → P st s → wb (whT c body st) s Q
  | n, st, s, hn, hp => by
    have z := hs st s hp
    have e : wb (bindT (c st) fun k => if k = true then bindT (body st) fun o => (match o with
        | .nx st' => whT c body st'
        | .bk st' => pureT (.nx st')
        | .rt b => pureT (.rt b)) else pureT (.nx st)) s Q := by
      rw [wb_bind]
      refine wb_mono z fun k s' h => ?_
      by_cases hk : k = true
      · rw [if_pos hk] at h ⊢
        rw [wb_bind]
        refine wb_mono h fun o s2 h => ?_
        cases o with
        | nx st' =>
          match n with
          | 0 => have := h.2; omega
          | n + 1 => exact wb_whT P μ hs n st' s2 (by have := h.2; omega) h.1
        | bk st' => exact (wb_pure).mpr h
        | rt b => exact (wb_pure).mpr h
      · rw [if_neg hk] at h ⊢
        exact (wb_pure).mpr h
    obtain ⟨a, s', e, q⟩ := e
    exact ⟨a, s', by rw [whT_step]; exact e, q⟩
end
theorem slim_exact {G G' : Hh} {m : Option (Rs D × Hh)} {d : D} (h : slim G m = some (.val d, G')) (k : Keep [] G G') (hd : ∀ n, d ≠ .ref n) (hb : d.bw G.length = true) : G' = G := by
  have hk : ∀ i, i < G.length → G'[i]? = G[i]? := fun i hi => k.2 i hi (fun z => nomatch z)
  have cut : ∀ G1 : Hh, G' = G1.take G.length → G' = G := fun G1 e => by
    apply List.ext_getElem?
    intro i
    by_cases hi : i < G.length
    · exact hk i hi
    · rw [List.getElem?_eq_none (by rw [e, List.length_take]; omega), List.getElem?_eq_none (by omega)]
  have old : Old G G' := ⟨k.1, fun i hi => .inl (hk i hi)⟩
  unfold slim at h
  split at h
  · exfalso
    split at h
    · split at h
      · cases h; exact hd _ rfl
      · split at h
        · split at h
          · cases h; exact hd _ rfl
          · cases h; exact hd _ rfl
        · cases h; exact hd _ rfl
    · cases h; exact hd _ rfl
  · split at h
    · cases h
      exact cut _ rfl
    · rename_i hn
      cases h
      exact absurd ⟨old, hb⟩ hn
  · split at h
    · cases h
    · cases h
  · cases h
theorem fn_exact {F : Fn} {Bd : List D → Option (List D)} {n : Nat} {b : SS} (hF : F = mkFnB Bd n b) {ds : List D} {G G' : Hh} {d : D} (h : F ds G = some (.val d, G')) (k : Keep [] G G') (hd : ∀ n, d ≠ .ref n) (hb : d.bw G.length = true) : G' = G := by
  subst hF
  unfold mkFnB at h
  cases e : Bd ds with
  | none => rw [e] at h; cases h
  | some es =>
    rw [e] at h
    exact slim_exact h k hd hb
theorem fn0_run {X B : Type} {F : Fn} {R : KdA X} {K : Kd B} {foo : X → TM Nul B} (hF : Fn0 F R K foo) {x : X} {b : B} {s : Nul} (e : foo x .a = some (.val b, s)) {ds : List D} {V : List Nat} {G : Hh} (hr : R.rel x ds V G) (hV : ∀ w ∈ V, w < G.length) : ∃ d os G', F ds G = some (.val d, G') ∧ Keep [] G G' ∧ Hq (⟨G, [], V, io0⟩ : Tc Nul) (os ++ []) s G' ∧ K.rel b d os V G' := by
  have z := hF V x ds .a G hr ⟨.refl, (fun _ h => nomatch h), (fun _ h => nomatch h), List.nodup_nil, (fun _ h => nomatch h), rfl, hV, (fun _ h => nomatch h)⟩
  rw [e] at z
  exact z
theorem fn0_exact {X B : Type} {F : Fn} {R : KdA X} {enc : B → D} {foo : X → TM Nul B} (hF : Fn0 F R (kV enc) foo) {x : X} {b : B} {s : Nul} (e : foo x .a = some (.val b, s)) {Bd : List D → Option (List D)} {n : Nat} {bb : SS} (hm : F = mkFnB Bd n bb) (hd : ∀ n, enc b ≠ .ref n) {ds : List D} {G : Hh} (hb : (enc b).bw G.length = true) (hr : R.rel x ds [] G) : F ds G = some (.val (enc b), G) := by
  obtain ⟨d, os, G', e1, k, q, rfl, rfl⟩ := fn0_run hF e (V := []) hr (fun _ h => nomatch h)
  have := fn_exact hm e1 k hd hb
  rw [this] at e1
  exact e1
end FI
set_option maxRecDepth 100000
set_option maxHeartbeats 2000000
set_option maxRecDepth 100000
set_option maxHeartbeats 2000000
namespace FI
open PySem L2
section
variable {σ A B S X Y Out : Type} {C : Tc σ} {loc : List (Nat × O)} {s s' : σ} {G G' : Hh} {gs : Sg} {post : Ps σ Out} {rest : SS}
def KpX (b : SS) : Prop := ∀ gs G x gs' G', b gs G = some (.ex x, gs', G') → gs' = gs
theorem Kp.x {b : SS} (h : Kp b) : KpX b := fun gs G x gs' G' e => h gs G _ gs' G' e
end
end FI
set_option maxRecDepth 100000
set_option maxHeartbeats 2000000
set_option maxRecDepth 100000
set_option maxHeartbeats 2000000
set_option maxRecDepth 100000
set_option maxHeartbeats 2000000
set_option maxRecDepth 100000
set_option maxHeartbeats 2000000
set_option maxRecDepth 100000
set_option maxHeartbeats 2000000
set_option maxRecDepth 100000
set_option maxHeartbeats 4000000
namespace FI.K01
open PySem L2 PySem.Spec PyProof.Rows FI
theorem okR_small {i : Int} (h : -100000 ≤ i ∧ i ≤ 100000) : okR i = true := decide_eq_true (by omega)
theorem wRng1_eq {fa : SA} {gs : Sg} {G G1 : Hh} {j : Int} (h : fa gs G = some (.val [.int j], G1)) (hj : -100000 ≤ j ∧ j ≤ 100000) : wRng1 fa gs G = some (.val (rngD 0 j.toNat, anyH), G1) := by
  unfold wRng1
  rw [h, bnd_val]
  show (if okR j = true then _ else _) = _
  rw [if_pos (okR_small hj)]
theorem rngD_get {lo : Int} {n i : Nat} (h : i < (rngD lo n).length) : (rngD lo n)[i] = .int (lo + i) := by
  have e : (rngD lo n)[i]? = some (.int (lo + i)) := by
    have h' : i < n := by rw [rngD_length] at h; exact h
    unfold rngD
    rw [List.getElem?_map, List.getElem?_range h']
    rfl
  exact Option.some.inj ((List.getElem?_eq_getElem h).symm.trans e)
theorem bwL_int {k : Nat} : ∀ l : List Int, D.bwL k (l.map D.int) = true
  | [] => rfl
  | i :: r => by simp [D.bwL, D.bw, bwL_int r]
@[simp] theorem d1_one {F : D → Mm D} {x : D} {G : Hh} : d1 F [x] G = F x G := rfl
@[simp] theorem d2_two {F : D → D → Mm D} {x y : D} {G : Hh} : d2 F [x, y] G = F x y G := rfl
@[simp] theorem at2_0 {x y : D} : atI [x, y] 0 = some x := rfl
@[simp] theorem at2_1 {x y : D} : atI [x, y] 1 = some y := rfl
def bgO (a m : Int) : O := .lst [.int a, .int m]
def BoxS (X : List Nat) (n c : Nat) (G : Hh) : Prop := (∀ x ∈ X, x < G.length) ∧ ∃ a m : Int, G[n]? = some (bgO a m)
theorem BoxS.lt {X : List Nat} {n c : Nat} {G : Hh} (h : BoxS X n c G) : n < G.length := let ⟨_, _, _, e⟩ := h; (List.getElem?_eq_some_iff.mp e).1
theorem BoxS.keep {X : List Nat} {n c : Nat} {G G' : Hh} (h : BoxS X n c G) (k : Keep [] G G') : BoxS X n c G' := by
  obtain ⟨hx, a, m, h1⟩ := h
  exact ⟨fun x hm => Nat.lt_of_lt_of_le (hx x hm) k.1, a, m, k.get h1 (List.not_mem_nil)⟩
theorem BoxS.up {X : List Nat} {n c c' : Nat} {G : Hh} (h : BoxS X n c G) (_hc : c ≤ c') : BoxS X n c' G := h
theorem BoxS.set {X : List Nat} {n c r : Nat} {o : O} {G : Hh} (h : BoxS X n c G) (_hr : r ∈ X) (hn : r ≠ n) : BoxS X n c (G.set r o) := by
  obtain ⟨hx, a, m, h1⟩ := h
  exact ⟨fun x hm => by rw [List.length_set]; exact hx x hm, a, m, by rw [List.getElem?_set_ne hn]; exact h1⟩
theorem BoxS.own {X : List Nat} {n c : Nat} {o : O} {G : Hh} (h : BoxS X n c G) : BoxS (G.length :: X) n c (G ++ [o]) := by
  obtain ⟨hx, a, m, h1⟩ := h.keep (G' := G ++ [o]) .app
  refine ⟨fun x hm => ?_, a, m, h1⟩
  rcases List.mem_cons.mp hm with rfl | hm
  · simp
  · exact hx x hm
theorem Keep.setN {G : Hh} {n : Nat} {o : O} : Keep [n] G (G.set n o) := ⟨by simp, fun i _ h => List.getElem?_set_ne fun e => h (by rw [e]; exact List.mem_cons_self ..)⟩
theorem Keep.setNew {W : List Nat} {r : Nat} {o : O} {G G' : Hh} (k : Keep W G G') (h : G.length ≤ r) : Keep W G (G'.set r o) := ⟨by rw [List.length_set]; exact k.1, fun x h1 h2 => by rw [List.getElem?_set_ne (by omega)]; exact k.2 x h1 h2⟩
theorem cutK {X : List Nat} {n c c0 : Nat} {G G3 J : Hh} (h0 : BoxS X n c0 G) (h3 : BoxS X n c G3) (k : Keep [n] G G3) : BoxS X n c (G3.take G.length ++ J) ∧ Keep [n] G (G3.take G.length ++ J) := by
  have ln := h0.lt
  have hl := k.1
  have ht : (G3.take G.length).length = G.length := by rw [List.length_take]; omega
  have hk : ∀ i, i < G.length → (G3.take G.length ++ J)[i]? = G3[i]? := fun i hi => by rw [List.getElem?_append_left (by omega), List.getElem?_take_of_lt hi]
  obtain ⟨hx, a, m, h1⟩ := h3
  exact ⟨⟨fun x hm => by have := h0.1 x hm; simp; omega, a, m, (hk n ln).trans h1⟩, by simp; omega, fun i q1 q2 => (hk i q1).trans (k.2 i q1 q2)⟩
theorem okMul_l {i j : Int} (h : -(2 ^ 64) < i ∧ i < 2 ^ 64) : okMul i j = true := by
  unfold okMul
  rw [Bool.or_eq_true]
  exact .inl (decide_eq_true h)
theorem draw {X : List Nat} {n c : Nat} {z : Int} {G : Hh} (h : BoxS X n c G) (hc : c < 1000000000000000000) (z1 : 1 ≤ z) (z2 : z ≤ 100000) : ∃ v G', F__law_draw [.ref n, .int z] G = some (.val (.int v), G') ∧ 0 ≤ v ∧ v < z ∧ BoxS X n (c + 1) G' ∧ Keep [n] G G' := by
  obtain ⟨hx, a, m, h1⟩ := h
  have hn := (List.getElem?_eq_some_iff.mp h1).1
  have hz0 : 0 < z := by omega
  have z0 : z ≠ 0 := by omega
  have hz64 : z < 18446744073709551616 := by omega
  have hV : ∀ V : Int, 0 ≤ V % z ∧ V % z < z := fun V => ⟨Int.emod_nonneg _ z0, Int.emod_lt_of_pos _ hz0⟩
  have fin : ∀ a' m', BoxS X n (c + 1) (G.set n (bgO a' m')) ∧ Keep [n] G (G.set n (bgO a' m')) := fun a' m' => ⟨⟨fun x hm => by rw [List.length_set]; exact hx x hm, a', m', List.getElem?_set_self hn⟩, Keep.setN⟩
  have out : ∀ {v : Int} {a' m' : Int} {o : Option (Rs D × Hh)}, (we o fun r G' => r = .val (.int v) ∧ G' = G.set n (bgO a' m')) → o = some (.val (.int v), G.set n (bgO a' m')) := fun {v a' m' o} h => by
    obtain ⟨r, G', e, rfl, rfl⟩ := h
    exact e
  unfold bgO at h1
  by_cases hm : m = 0
  · subst hm
    refine ⟨a % z, G.set n (bgO (a / z) 0), out (we_fn rfl ?_), (hV _).1, (hV _).2, fin _ _⟩
    simp [b__law_draw, start0, N__law_draw, we_eVar, h1, atI_nat, ixN, set_selfO, dMod_int, dFdiv_lt, hz0, hz64]
    rw [slim_len (by simp)]
    exact (we_some _ _).mpr ⟨rfl, rfl⟩
  · obtain ⟨A, hA⟩ : ∃ A : Int, (a * 48271 + m * 69621 + 13) % 2147483629 = A := ⟨_, rfl⟩
    have hA0 : 0 ≤ A := by rw [← hA]; exact Int.emod_nonneg _ (by decide)
    have hA1 : A < 2147483629 := by rw [← hA]; exact Int.emod_lt_of_pos _ (by decide)
    have hAm : ∀ (X : Int) (H : Hh), dMul (.int A) (.int X) H = some (.val (.int (A * X)), H) := fun X H => dMul_int (okMul_l ⟨by omega, by omega⟩)
    obtain ⟨B, hB⟩ : ∃ B : Int, (A * A + m * 16807 + 5) % 2147483587 = B := ⟨_, rfl⟩
    have hB0 : 0 ≤ B := by rw [← hB]; exact Int.emod_nonneg _ (by decide)
    have hB1 : B < 2147483587 := by rw [← hB]; exact Int.emod_lt_of_pos _ (by decide)
    have hBm : ∀ (X : Int) (H : Hh), dMul (.int B) (.int X) H = some (.val (.int (B * X)), H) := fun X H => dMul_int (okMul_l ⟨by omega, by omega⟩)
    obtain ⟨C, hC⟩ : ∃ C : Int, (B * B + a + 3) % 2147483579 = C := ⟨_, rfl⟩
    refine ⟨C / 16 % z, G.set n (bgO a (m + 1)), out (we_fn rfl ?_), (hV _).1, (hV _).2, fin _ _⟩
    unfold b__law_draw
    refine ws_cut (fun gs G' => gs = [some (.ref n), some (.int z), none, none] ∧ G' = G) (by simp [start0, N__law_draw, we_eVar, h1, atI_nat, hm]) ?_
    rintro gs0 G0 ⟨rfl, rfl⟩
    refine ws_cut (fun gs G' => gs = [some (.ref n), some (.int z), none, some (.int A)] ∧ G' = G0) (by simp [we_eVar, h1, atI_nat, dMod_int, dMul_r, hA]) ?_
    rintro gs0 G0 ⟨rfl, rfl⟩
    refine ws_cut (fun gs G' => gs = [some (.ref n), some (.int z), none, some (.int B)] ∧ G' = G0) (by simp [we_eVar, h1, atI_nat, dMod_int, dMul_r, hAm, hB]) ?_
    rintro gs0 G0 ⟨rfl, rfl⟩
    refine ws_cut (fun gs G' => gs = [some (.ref n), some (.int z), none, some (.int C)] ∧ G' = G0) (by simp [we_eVar, h1, atI_nat, dMod_int, dMul_r, hBm, hC]) ?_
    rintro gs0 G0 ⟨rfl, rfl⟩
    simp [we_eVar, h1, atI_nat, ixN, set_selfO, dMod_int, dFdiv_lt, hz0, hz64]
    rw [slim_len (by simp)]
    exact (we_some _ _).mpr ⟨rfl, rfl⟩
@[simp] theorem isi_int_int (i : Int) (G : Hh) : bIsi kt (.int i) (.ty "int") G = some (.val (.bl true), G) := rfl
@[simp] theorem isi_int_bool (i : Int) (G : Hh) : bIsi kt (.int i) (.ty "bool") G = some (.val (.bl false), G) := rfl
@[simp] theorem isi_int_tup (i : Int) (G : Hh) : bIsi kt (.int i) (.ty "tuple") G = some (.val (.bl false), G) := rfl
@[simp] theorem isi_bl_int (i : Bool) (G : Hh) : bIsi kt (.bl i) (.ty "int") G = some (.val (.bl true), G) := rfl
@[simp] theorem isi_bl_bool (i : Bool) (G : Hh) : bIsi kt (.bl i) (.ty "bool") G = some (.val (.bl true), G) := rfl
@[simp] theorem isi_bl_tup (i : Bool) (G : Hh) : bIsi kt (.bl i) (.ty "tuple") G = some (.val (.bl false), G) := rfl
@[simp] theorem isi_str_int (i : Str) (G : Hh) : bIsi kt (.str i) (.ty "int") G = some (.val (.bl false), G) := rfl
@[simp] theorem isi_str_tup (i : Str) (G : Hh) : bIsi kt (.str i) (.ty "tuple") G = some (.val (.bl false), G) := rfl
@[simp] theorem isi_non_int (G : Hh) : bIsi kt .non (.ty "int") G = some (.val (.bl false), G) := rfl
@[simp] theorem isi_non_tup (G : Hh) : bIsi kt .non (.ty "tuple") G = some (.val (.bl false), G) := rfl
@[simp] theorem isi_tup_int (xs : List D) (G : Hh) : bIsi kt (.tup xs) (.ty "int") G = some (.val (.bl false), G) := rfl
@[simp] theorem isi_tup_tup (xs : List D) (G : Hh) : bIsi kt (.tup xs) (.ty "tuple") G = some (.val (.bl true), G) := rfl
@[simp] theorem is_integer_int (i : Int) (G : Hh) : F_is_integer [.int i] G = some (.val (.bl true), G) := by
  refine we_eq (we_fn rfl ?_)
  simp [b_is_integer, start0, N_is_integer, we_eVar]
@[simp] theorem is_integer_bl (i : Bool) (G : Hh) : F_is_integer [.bl i] G = some (.val (.bl false), G) := by
  refine we_eq (we_fn rfl ?_)
  simp [b_is_integer, start0, N_is_integer, we_eVar]
@[simp] theorem is_integer_str (i : Str) (G : Hh) : F_is_integer [.str i] G = some (.val (.bl false), G) := by
  refine we_eq (we_fn rfl ?_)
  simp [b_is_integer, start0, N_is_integer, we_eVar]
@[simp] theorem is_integer_non (G : Hh) : F_is_integer [.non] G = some (.val (.bl false), G) := by
  refine we_eq (we_fn rfl ?_)
  simp [b_is_integer, start0, N_is_integer, we_eVar]
@[simp] theorem is_integer_tup (xs : List D) (G : Hh) : F_is_integer [.tup xs] G = some (.val (.bl false), G) := by
  refine we_eq (we_fn rfl ?_)
  simp [b_is_integer, start0, N_is_integer, we_eVar]
theorem is_capacity_int (i : Int) (h : 1 ≤ i ∧ i ≤ 999) (G : Hh) : F_Net_is_capacity [.int i] G = some (.val (.bl true), G) := by
  refine we_eq (we_fn rfl ?_)
  simp [b_Net_is_capacity, start0, N_Net_is_capacity, we_eVar, dLe, dII, h.1, h.2]
end FI.K01
set_option maxRecDepth 100000
set_option maxHeartbeats 4000000
namespace FI.K01
open PySem L2 PySem.Spec PyProof.Rows FI
abbrev Tr := Int × Int × Int
abbrev tT (c : Tr) : D := .tup [.int c.1, .int c.2.1, .int c.2.2]
def OkC (s : Int) (c : Tr) : Prop := 0 ≤ c.1 ∧ c.1 < s ∧ 0 ≤ c.2.1 ∧ c.2.1 < s ∧ c.1 ≠ c.2.1 ∧ 1 ≤ c.2.2 ∧ c.2.2 ≤ 999
theorem cut2 (a b c : D) : cutL [a, b, c] none (some 2) = [a, b] := rfl
theorem is_channel_ok {s : Int} {c : Tr} (h : OkC s c) (G : Hh) : F_is_channel [tT c, .int s] G = some (.val (.bl true), G) := by
  obtain ⟨h1, h2, h3, h4, h5, _, _⟩ := h
  refine we_eq (we_fn rfl ?_)
  have e : dIn true (.int 3) (.tup [.int 2, .int 3]) G = some (.val (.bl false), G) := by
    rw [in_rpT (Rp.int 3) (Rp.tup (.cons (.int 2) (.cons (.int 3) .nil)))]
    rfl
  simp [b_is_channel, start0, N_is_channel, we_eVar, e, ws_sFor_iff, we_wSeq, cut2, forL_nil_iff, forL_cons_iff, h1, h2, h3, h4, atI, ixN, h5]
abbrev kT (c : Tr) : List Key := [.inl c.1, .inl c.2.1]
theorem kT_inj {c d : Tr} (h : kT c = kT d) : c.1 = d.1 ∧ c.2.1 = d.2.1 := by
  simp only [kT, List.cons.injEq, Sum.inl.injEq] at h
  exact ⟨h.1, h.2.1⟩
theorem in_dT {G : Hh} {r : Nat} {kvs : List (List Key × D)} {c : Tr} (h : G[r]? = some (.dT kvs)) : dIn false (.tup [.int c.1, .int c.2.1]) (.ref r) G = some (.val (.bl (getK kvs (kT c)).isSome), G) := by
  unfold dIn orF dInS dInD
  have e : pdS G (.ref r) = none := by
    unfold pdS pd
    rw [h]
  rw [e]
  dsimp only
  rw [h]
  dsimp only
  cases pdS G (.tup [.int c.1, .int c.2.1]) <;> simp [lookO, keysD]
def Dis (cs : List Tr) : Prop := cs.Pairwise fun c d => kT c ≠ kT d
theorem enumD_map {α : Type} (f : α → D) (xs : List α) {i : Nat} (h : i < (enumD (xs.map f)).length) (h2 : i < xs.length) : (enumD (xs.map f))[i] = .tup [.int i, f xs[i]] := by
  have e : (enumD (xs.map f))[i]? = some (.tup [.int i, f xs[i]]) := by
    unfold enumD
    rw [List.getElem?_map, List.getElem?_zipIdx, List.getElem?_map, List.getElem?_eq_getElem h2]
    simp
  exact Option.some.inj ((List.getElem?_eq_getElem h).symm.trans e)
theorem check_channels_ok {s : Int} {cs : List Tr} (hc : ∀ c ∈ cs, OkC s c) (hd : Dis cs) (hl : cs.length ≤ 1000) (G : Hh) : F_check_channels [.tup (cs.map tT), .int s] G = some (.val .non, G) := by
  refine we_eq ?_
  have key : ∀ Q : Rs D → Hh → Prop, Q (.val .non) G → we (F_check_channels [.tup (cs.map tT), .int s] G) Q := fun Q hQ => by
    refine we_fn rfl ?_
    have len : (enumD (cs.map tT)).length = cs.length := by simp [enumD]
    refine ws_cut (fun gs G1 => gs = [some (.tup (cs.map tT)), some (.int s), some (.ref G.length), none, none] ∧ G1 = G ++ [.dT []]) (by simp [start0, N_check_channels, dNewT]) ?_
    rintro gs0 G0 ⟨rfl, rfl⟩
    rw [ws_bSeq]
    refine ws_sFor (items := enumD (cs.map tT)) (gd := anyH) (G1 := G ++ [.dT []]) (by unfold wEnum; rfl) (fun i gs G2 => ∃ (kvs : List (List Key × D)) (o3 o4 : Option D), gs = [some (.tup (cs.map tT)), some (.int s), some (.ref G.length), o3, o4] ∧ G2 = G ++ [.dT kvs] ∧ kvs.length ≤ i ∧ ∀ j (h : j < cs.length), i ≤ j → getK kvs (kT cs[j]) = none)
      ⟨[], none, none, rfl, rfl, by simp, fun _ _ _ => rfl⟩ (fun _ _ _ _ _ => trivial) ?_ ?_
    · rintro i hi gs G2 ⟨kvs, o3, o4, rfl, rfl, hkl, hk⟩
      have hi2 : i < cs.length := by rw [← len]; exact hi
      rw [enumD_map tT cs hi hi2]
      have hci := hc _ (List.getElem_mem hi2)
      have hr : (G ++ [O.dT kvs])[G.length]? = some (.dT kvs) := by simp
      have hin := in_dT (c := cs[i]) hr
      rw [hk i hi2 (Nat.le_refl _)] at hin
      have hcap := is_capacity_int cs[i].2.2 ⟨hci.2.2.2.2.2.1, hci.2.2.2.2.2.2⟩ (G ++ [O.dT kvs])
      simp [gTp, gsCons, gsNil, gNm, we_eVar, is_channel_ok hci, atI, ixN, hcap, cut2, hin]
      have ep : putO (O.dT kvs) (D.tup [D.int cs[i].1, D.int cs[i].2.1]) (D.bl true) = some (.dT (setK kvs (kT cs[i]) (.bl true))) := by
        show (if kvs.length < 100000 then some (O.dT (setK kvs (kT cs[i]) (.bl true))) else none) = _
        rw [if_pos (by omega)]
      rw [ep]
      refine ⟨_, rfl, Nat.le_trans setK_len (by omega), fun j hj hij => getK_setK_ne ?_ (hk j hj (by omega))⟩
      exact List.pairwise_iff_getElem.mp hd i j hi2 hj (by omega)
    · rintro gs G2 ⟨kvs, o3, o4, rfl, rfl, hkl, hk⟩
      simp
      rw [slim_old (by simp) rfl Old.app]
      simpa using hQ
  exact key _ ⟨rfl, rfl⟩
def wt (cs : List Tr) (dn : List Int) (b : Int) : Nat := cs.countP fun c => decide (c.2.1 = b) && !decide (c.1 ∈ dn)
theorem wt_zero {cs : List Tr} {dn : List Int} {b : Int} : wt cs dn b = 0 ↔ ∀ c ∈ cs, c.2.1 = b → c.1 ∈ dn := by
  unfold wt
  rw [List.countP_eq_zero]
  constructor
  · intro h c hc e
    have := h c hc
    simp [e] at this
    exact this
  · intro h c hc
    by_cases e : c.2.1 = b
    · simp [e, h c hc e]
    · simp [e]
theorem all_done {s : Nat} {cs : List Tr} {rk : Int → Nat} (hc : ∀ c ∈ cs, OkC s c) (hr : ∀ c ∈ cs, rk c.1 < rk c.2.1) {dn : List Int} (h : ∀ b : Int, 0 ≤ b → b < s → wt cs dn b = 0 → b ∈ dn) : ∀ b : Int, 0 ≤ b → b < s → b ∈ dn := by
  have key : ∀ (k : Nat) (b : Int), rk b = k → 0 ≤ b → b < s → b ∈ dn := fun k => by
    induction k using Nat.strongRecOn with
    | _ k ih =>
      intro b hb h0 h1
      refine h b h0 h1 (wt_zero.mpr fun c hcm e => ?_)
      have hlt := hr c hcm
      rw [e, hb] at hlt
      exact ih _ hlt c.1 rfl (hc c hcm).1 (hc c hcm).2.1
  exact fun b => key _ b rfl
theorem wt_cons {c : Tr} {cs : List Tr} {dn : List Int} {b : Int} : wt (c :: cs) dn b = wt cs dn b + if c.2.1 = b ∧ c.1 ∉ dn then 1 else 0 := by
  unfold wt
  rw [List.countP_cons]
  congr 1
  by_cases h1 : c.2.1 = b <;> by_cases h2 : c.1 ∈ dn <;> simp [h1, h2]
theorem wt_app {cs ds : List Tr} {dn : List Int} {b : Int} : wt (cs ++ ds) dn b = wt cs dn b + wt ds dn b := List.countP_append
def wtP (cs : List Tr) (dn : List Int) (x : Int) (i : Nat) (b : Int) : Nat := wt (cs.take i) (x :: dn) b + wt (cs.drop i) dn b
theorem wtP_zero {cs : List Tr} {dn : List Int} {x b : Int} : wtP cs dn x 0 b = wt cs dn b := by
  unfold wtP
  rw [List.take_zero, List.drop_zero]
  show 0 + _ = _
  omega
theorem wtP_all {cs : List Tr} {dn : List Int} {x b : Int} : wtP cs dn x cs.length b = wt cs (x :: dn) b := by
  unfold wtP
  rw [List.take_length, List.drop_length]
  show _ + 0 = _
  omega
theorem wtP_step {cs : List Tr} {dn : List Int} {x : Int} {i : Nat} (h : i < cs.length) (hx : x ∉ dn) (b : Int) : wtP cs dn x i b = wtP cs dn x (i + 1) b + if cs[i].2.1 = b ∧ cs[i].1 = x then 1 else 0 := by
  unfold wtP
  rw [List.take_succ_eq_append_getElem h, wt_app, List.drop_eq_getElem_cons h, wt_cons, wt_cons]
  have e0 : wt [] (x :: dn) b = 0 := rfl
  rw [e0]
  by_cases h1 : cs[i].2.1 = b
  · by_cases h2 : cs[i].1 = x
    · simp [h1, h2, hx]; omega
    · by_cases h3 : cs[i].1 ∈ dn <;> simp [h1, h2, h3] <;> omega
  · simp [h1]
section
variable {G : Hh} {a b c x : O}
theorem at1 : (G ++ [a, b, c])[G.length + 1]? = some b := by
  rw [List.getElem?_append_right (by omega), show G.length + 1 - G.length = 1 from by omega]; rfl
theorem at2 : (G ++ [a, b, c])[G.length + 1 + 1]? = some c := by
  rw [List.getElem?_append_right (by omega), show G.length + 1 + 1 - G.length = 2 from by omega]; rfl
end
def nbe (e : Tr → Int) (cs : List Tr) (b : Int) : List Int := ((enumT cs).filter fun p => decide (e p.2 = b)).map (·.1)
def hbe (G : Hh) (s : Nat) (f : Nat → List Int) : Hh := G ++ O.lst ((List.range s).map fun b : Nat => D.ref (G.length + 1 + b)) :: (List.range s).map fun b : Nat => O.lst ((f b).map D.int)
theorem hbe_0 {G : Hh} {s : Nat} {f : Nat → List Int} : (hbe G s f)[G.length]? = some (.lst ((List.range s).map fun b : Nat => D.ref (G.length + 1 + b))) := by simp [hbe]
theorem hbe_get {G : Hh} {s : Nat} {f : Nat → List Int} {b : Nat} (h : b < s) : (hbe G s f)[G.length + 1 + b]? = some (.lst ((f b).map D.int)) := by
  unfold hbe
  rw [List.getElem?_append_right (by omega), show G.length + 1 + b - G.length = b + 1 from by omega, List.getElem?_cons_succ, List.getElem?_map, List.getElem?_range h]
  rfl
theorem hbe_set {G : Hh} {s : Nat} {f g : Nat → List Int} {b : Nat} (h : b < s) {x : List D} (hx : x = (g b).map D.int) (hg : ∀ c, c ≠ b → g c = f c) : (hbe G s f).set (G.length + 1 + b) (.lst x) = hbe G s g := by
  unfold hbe
  rw [List.set_append_right _ _ (by omega), show G.length + 1 + b - G.length = b + 1 from by omega, List.set_cons_succ]
  congr 2
  apply List.ext_getElem?
  intro i
  by_cases hi : b = i
  · subst hi
    rw [List.getElem?_set_self (by simpa using h), List.getElem?_map, List.getElem?_range h, hx]
    rfl
  · rw [List.getElem?_set_ne hi]
    by_cases hs : i < s
    · rw [List.getElem?_map, List.getElem?_map, List.getElem?_range hs]
      show some (O.lst ((f i).map D.int)) = some (O.lst ((g i).map D.int))
      rw [hg i (Ne.symm hi)]
    · rw [List.getElem?_eq_none (by simpa using hs), List.getElem?_eq_none (by simpa using hs)]
theorem hbe_len {G : Hh} {s : Nat} {f : Nat → List Int} : (hbe G s f).length = G.length + 1 + s := by simp [hbe]; omega
theorem hbe_take {G : Hh} {s : Nat} {f : Nat → List Int} {J : Hh} : (hbe G s f ++ J).take G.length = G := by simp [hbe]
theorem nbe_snoc {e : Tr → Int} {cs : List Tr} {i : Nat} (h : i < cs.length) (b : Int) : nbe e (cs.take (i + 1)) b = nbe e (cs.take i) b ++ if e cs[i] = b then [(i : Int)] else [] := by
  unfold nbe enumT
  rw [← List.take_append_getElem h, List.zipIdx_append]
  simp only [List.map_append, List.filter_append]
  congr 1
  rw [List.length_take, Nat.min_eq_left (Nat.le_of_lt h)]
  by_cases hb : e cs[i] = b <;> simp [hb]
theorem bwL_eT {k : Nat} : ∀ l : List (List Int), D.bwL k (l.map fun a => D.tup (a.map D.int)) = true
  | [] => rfl
  | a :: r => by
    show (D.bw k (.tup (a.map D.int)) && D.bwL k _) = true
    rw [bwL_eT r, Bool.and_true]
    exact bwL_int a
def endOf (k : Int) (c : Tr) : Int := if k = 1 then c.2.1 else c.1
theorem numbers_by_end_ok {s k : Int} {cs : List Tr} (hs : 1 ≤ s) (hs2 : s ≤ 1000) (hk : k = 0 ∨ k = 1) (hc : ∀ c ∈ cs, OkC s c) (hl : cs.length ≤ 1000) (G : Hh) : F_numbers_by_end [.tup (cs.map tT), .int s, .int k] G = some (.val (eT (eT D.int) ((List.range s.toNat).map fun b : Nat => nbe (endOf k) cs (b : Int))), G) := by
  refine we_eq ?_
  have key : ∀ Q : Rs D → Hh → Prop, Q (.val (eT (eT D.int) ((List.range s.toNat).map fun b : Nat => nbe (endOf k) cs (b : Int)))) G → we (F_numbers_by_end [.tup (cs.map tT), .int s, .int k] G) Q := fun Q hQ => by
    refine we_fn rfl ?_
    refine ws_cut (fun gs G1 => gs = [some (.tup (cs.map tT)), some (.int s), some (.int k), some (.ref G.length), none, none, none, none] ∧ G1 = hbe G s.toNat fun _ => []) ?_ ?_
    · simp [start0, N_numbers_by_end]
      refine we_eLc (wRng1_eq (j := s) (G1 := G) (we_eq (by simp [we_eVar])) (by omega)) (fun i G2 => i ≤ s.toNat ∧ G2 = G ++ O.lst ((List.range i).map fun b : Nat => D.ref (G.length + 1 + b)) :: (List.range i).map fun b : Nat => O.lst [])
        ⟨Nat.zero_le _, rfl⟩ (fun _ _ _ _ => trivial) ?_ ?_
      · rintro i hi G2 ⟨hi2, rfl⟩
        rw [rngD_length] at hi
        rw [rngD_get]
        have e1 : ∀ o : O, (G ++ O.lst ((List.range i).map fun b : Nat => D.ref (G.length + 1 + b)) :: ((List.range i).map fun b : Nat => O.lst []) ++ [o])[G.length]? = some (O.lst ((List.range i).map fun b : Nat => D.ref (G.length + 1 + b))) := fun o => by simp
        simp [wipeG]
        refine ⟨by omega, by omega, ?_⟩
        rw [show G.length + (i + 1) = G.length + 1 + i from by omega]
        simp [List.range_succ]
      · rintro G' ⟨-, rfl⟩
        rw [rngD_length]
        simp [hbe]
    · rintro gs0 G0 ⟨rfl, rfl⟩
      rw [ws_bSeq]
      have len : (enumD (cs.map tT)).length = cs.length := by simp [enumD]
      refine ws_sFor (items := enumD (cs.map tT)) (gd := anyH) (G1 := hbe G s.toNat fun _ => []) (by unfold wEnum; rfl) (fun i gs G2 => ∃ (o4 o5 o6 : Option D), gs = [some (.tup (cs.map tT)), some (.int s), some (.int k), some (.ref G.length), o4, o5, o6, none] ∧ G2 = hbe G s.toNat fun b : Nat => nbe (endOf k) (cs.take i) (b : Int))
        ⟨none, none, none, rfl, rfl⟩ (fun _ _ _ _ _ => trivial) ?_ ?_
      · rintro i hi gs G2 ⟨o4, o5, o6, rfl, rfl⟩
        have hi2 : i < cs.length := by rw [← len]; exact hi
        rw [enumD_map tT cs hi hi2]
        have hci := hc _ (List.getElem_mem hi2)
        have ek : atI [D.int cs[i].1, .int cs[i].2.1, .int cs[i].2.2] k = some (.int (endOf k cs[i])) := by
          rcases hk with rfl | rfl <;> rfl
        have hb : 0 ≤ endOf k cs[i] ∧ endOf k cs[i] < s := by
          rcases hk with rfl | rfl
          · exact ⟨hci.1, hci.2.1⟩
          · exact ⟨hci.2.2.1, hci.2.2.2.1⟩
        have hbn : (endOf k cs[i]).toNat < s.toNat := by omega
        have e0 : ∀ f : Nat → List Int, (hbe G s.toNat f)[G.length]? = _ := fun f => hbe_0
        have e1 : ∀ f : Nat → List Int, (hbe G s.toNat f)[G.length + 1 + (endOf k cs[i]).toNat]? = _ := fun f => hbe_get hbn
        have er : atI ((List.range s.toNat).map fun b : Nat => D.ref (G.length + 1 + b)) (endOf k cs[i]) = some (.ref (G.length + 1 + (endOf k cs[i]).toNat)) := by
          rw [atI_nat hb.1, List.getElem?_map, List.getElem?_range hbn]
          rfl
        have hlen : (nbe (endOf k) (cs.take i) (endOf k cs[i])).length < 100000 := by
          unfold nbe
          rw [List.length_map]
          refine Nat.lt_of_le_of_lt (List.length_filter_le _ _) ?_
          unfold enumT
          simp
          omega
        simp [gTp, gsCons, gsNil, gNm, we_eVar, ek, e0, er, e1, Int.toNat_of_nonneg hb.1, hlen]
        refine hbe_set hbn ?_ ?_
        · rw [nbe_snoc hi2, Int.toNat_of_nonneg hb.1, if_pos rfl]
          simp
        · intro c hne
          rw [nbe_snoc hi2, if_neg (by omega), List.append_nil]
      · rintro gs G2 ⟨o4, o5, o6, rfl, rfl⟩
        rw [len, List.take_length]
        generalize hH : (hbe G s.toNat fun b : Nat => nbe (endOf k) cs (b : Int)) = H
        have h0 : H[G.length]? = some (.lst ((List.range s.toNat).map fun b : Nat => D.ref (G.length + 1 + b))) := by rw [← hH]; exact hbe_0
        have h1 : ∀ b, b < s.toNat → H[G.length + 1 + b]? = some (.lst ((nbe (endOf k) cs (b : Int)).map D.int)) := fun b hb => by rw [← hH]; exact hbe_get hb
        have hlt : G.length < H.length := by rw [← hH, hbe_len]; omega
        simp
        refine we_eLc (wSeq_ref (n := G.length) (G1 := H) (we_eq (by simp [we_eVar])) h0) (fun i G2 => i ≤ s.toNat ∧ G2 = H ++ [.lst ((List.range i).map fun b : Nat => eT D.int (nbe (endOf k) cs (b : Int)))]) ⟨Nat.zero_le _, by simp⟩ ?_ ?_ ?_
        · rintro i G2 _ ⟨_, rfl⟩
          unfold stays
          rw [List.getElem?_append_left hlt]
          exact h0
        · rintro i hi G2 ⟨hi2, rfl⟩
          have hi3 : i < s.toNat := by simpa using hi
          have e2 : ∀ J, (H ++ J)[G.length + 1 + i]? = some (.lst ((nbe (endOf k) cs (i : Int)).map D.int)) := fun J => by
            rw [List.getElem?_append_left (List.getElem?_eq_some_iff.mp (h1 i hi3)).1]
            exact h1 i hi3
          have e3 : ∀ J, bTuple (.ref (G.length + 1 + i)) (H ++ J) = some (.val (eT D.int (nbe (endOf k) cs (i : Int))), H ++ J) := fun J => by
            unfold bTuple itemsD
            dsimp only
            rw [e2]
          simp [wipeG, gNm, we_eVar, e3]
          refine ⟨by omega, by omega, ?_⟩
          simp [List.range_succ]
        · rintro G' ⟨-, rfl⟩
          have e5 : ∀ o : O, (H ++ [o])[H.length]? = some o := fun o => by simp
          have e4 : ∀ ds : List D, bTuple (.ref H.length) (H ++ [.lst ds]) = some (.val (.tup ds), H ++ [.lst ds]) := fun ds => by
            unfold bTuple itemsD
            dsimp only
            rw [e5]
          rw [List.length_map, List.length_range]
          simp [e4]
          rw [slim_old (by intro m; simp) ?_ ?_]
          · rw [← hH, hbe_take]
            refine (we_some _ _).mpr ?_
            have e6 : eT (eT D.int) ((List.range s.toNat).map fun b : Nat => nbe (endOf k) cs (b : Int)) = D.tup ((List.range s.toNat).map fun b : Nat => eT D.int (nbe (endOf k) cs (b : Int))) := by
              simp [eT, Function.comp_def]
            rw [e6] at hQ
            exact hQ
          · have := bwL_eT (k := G.length) ((List.range s.toNat).map fun b : Nat => nbe (endOf k) cs (b : Int))
            rw [List.map_map] at this
            exact this
          · rw [← hH]
            unfold hbe
            rw [List.append_assoc]
            exact Old.app
  exact key _ ⟨rfl, rfl⟩
def netFs (s : Int) (cs : List Tr) : List (Nat × D) := [(7, .int s), (5, .tup (cs.map tT)), (8, eT (eT D.int) ((List.range s.toNat).map fun b : Nat => nbe (endOf 1) cs (b : Int))), (9, eT (eT D.int) ((List.range s.toNat).map fun b : Nat => nbe (endOf 0) cs (b : Int)))]
theorem ws_sFld {cs : List Nat} {k : Nat} {fo fv : SE} {gs : Sg} {G : Hh} {R : Fl → Sg → Hh → Prop} {n c : Nat} {d : D} {fs : List (Nat × D)} (hv : fv gs G = some (.val d, G)) (ho : fo gs G = some (.val (.ref n), G)) (hn : G[n]? = some (.ins c fs)) (hc : c ∈ cs) (hl : fs.length < 900) (h : R .nx gs (G.set n (.ins c (putN k d fs)))) : ws (sFld' cs k fo fv gs G) R := by
  unfold sFld'
  rw [hv, onE_val, ho, onE_val]
  dsimp only
  rw [hn]
  dsimp only
  rw [if_pos ⟨hc, hl⟩]
  exact (ws_some _ _ _).mpr h
theorem ws_sSup {i : Nat} {tab : List (Nat × Fn)} {fa : SA} {gs : Sg} {G : Hh} {R : Fl → Sg → Hh → Prop} {n cn : Nat} {fs : List (Nat × D)} {F : Fn} (h1 : gs[i]? = some (some (.ref n))) (h2 : G[n]? = some (.ins cn fs)) (h3 : tab.lookup cn = some F) : ws (sSup i tab fa gs G) R ↔ we (fa gs G) (onR (fun ds G1 => we (F (.ref n :: ds) G1) (onR (fun _ G2 => R .nx gs G2) fun e G2 => R (.ex e) gs G2)) fun e G1 => R (.ex e) gs G1) := by
  unfold sSup
  rw [h1]
  dsimp only
  rw [h2]
  dsimp only
  rw [h3]
  simp
theorem Net_init_ok {s : Int} {cs : List Tr} {c n : Nat} (hs : 1 ≤ s) (hs2 : s ≤ 1000) (hc : ∀ c ∈ cs, OkC s c) (hl : cs.length ≤ 1000) (hcn : c = 8 ∨ c = 9) (G : Hh) (hn : G[n]? = some (.ins c [])) : F_Net_init [.ref n, .int s, .tup (cs.map tT)] G = some (.val .non, G.set n (.ins c (netFs s cs))) := by
  have hlt : n < G.length := (List.getElem?_eq_some_iff.mp hn).1
  have hci : c ∈ cIns := by rcases hcn with rfl | rfl <;> decide
  have hg : ∀ o : O, (G.set n o)[n]? = some o := fun o => List.getElem?_set_self hlt
  have n1 := fun G => numbers_by_end_ok (k := 1) hs hs2 (.inr rfl) hc hl G
  have n0 := fun G => numbers_by_end_ok (k := 0) hs hs2 (.inl rfl) hc hl G
  refine we_eq (we_fn rfl ?_)
  unfold b_Net_init
  rw [ws_bSeq]
  refine ws_sFld (d := .int s) (n := n) rfl rfl hn hci (by simp) ?_
  rw [onFl_nx, ws_bSeq]
  refine ws_sFld (d := .tup (cs.map tT)) (n := n) rfl rfl (hg _) hci (by simp [putN]) ?_
  rw [onFl_nx, ws_bSeq, List.set_set]
  refine ws_sFld (n := n) (d := eT (eT D.int) ((List.range s.toNat).map fun b : Nat => nbe (endOf 1) cs (b : Int))) (we_eq (by simp [we_eVar, start0, N_Net_init, n1])) rfl (hg _) hci (by simp [putN]) ?_
  rw [onFl_nx, ws_bSeq, List.set_set]
  refine ws_sFld (n := n) (d := eT (eT D.int) ((List.range s.toNat).map fun b : Nat => nbe (endOf 0) cs (b : Int))) (we_eq (by simp [we_eVar, start0, N_Net_init, n0])) rfl (hg _) hci (by simp [putN]) ?_
  rw [List.set_set]
  simp [putN]
  rw [slim_len (by simp)]
  exact (we_some _ _).mpr ⟨rfl, rfl⟩
theorem bwL_tT {k : Nat} : ∀ cs : List Tr, D.bwL k (cs.map tT) = true
  | [] => rfl
  | a :: r => by
    show (D.bw k (tT a) && D.bwL k _) = true
    rw [bwL_tT r]
    rfl
theorem netFs_bw {k c : Nat} {s : Int} {cs : List Tr} : (O.ins c (netFs s cs)).bw k = true := by
  have h1 := bwL_tT (k := k) cs
  have h2 := bwL_eT (k := k) ((List.range s.toNat).map fun b : Nat => nbe (endOf 1) cs (b : Int))
  have h3 := bwL_eT (k := k) ((List.range s.toNat).map fun b : Nat => nbe (endOf 0) cs (b : Int))
  show (true && (D.bwL k (cs.map tT) && (D.bwL k _ && (D.bwL k _ && true)))) = true
  rw [h1, h2, h3]
  rfl
theorem net_slim {c : Nat} {s : Int} {cs : List Tr} {G : Hh} {J : Hh} : we (slim (G ++ [O.ins c []]) (some (.val .non, G ++ O.ins c (netFs s cs) :: J))) fun r' G' => r' = Rs.val D.non ∧ G' = G ++ [O.ins c (netFs s cs)] := by
  rw [slim_old (by simp) rfl]
  · exact (we_some _ _).mpr ⟨rfl, by rw [show G ++ O.ins c (netFs s cs) :: J = (G ++ [O.ins c (netFs s cs)]) ++ J from by simp, List.take_left' (by simp)]⟩
  · refine ⟨by simp, fun i hi => ?_⟩
    by_cases h : i < G.length
    · rw [List.getElem?_append_left h, List.getElem?_append_left h]
      exact .inl rfl
    · have : i = G.length := by simp at hi; omega
      subst this
      exact .inr ⟨.ins c (netFs s cs), by simp, netFs_bw⟩
theorem check_capacities_ok {rs : List Int} (h : ∀ r ∈ rs, 1 ≤ r ∧ r ≤ 999) (G : Hh) : F_check_capacities [.tup (rs.map D.int)] G = some (.val .non, G) := by
  refine we_eq (we_fn rfl ?_)
  unfold b_check_capacities
  rw [ws_bSeq]
  have len : (enumD (rs.map D.int)).length = rs.length := by simp [enumD]
  refine ws_sFor (items := enumD (rs.map D.int)) (gd := anyH) (G1 := G) (by unfold wEnum; rfl) (fun i gs G2 => G2 = G ∧ ∃ o1 o2, gs = [some (.tup (rs.map D.int)), o1, o2]) ⟨rfl, none, none, rfl⟩ (fun _ _ _ _ _ => trivial) ?_ ?_
  · rintro i hi gs G2 ⟨rfl, o1, o2, rfl⟩
    have hi2 : i < rs.length := by rw [← len]; exact hi
    rw [enumD_map D.int rs hi hi2]
    have hcap := is_capacity_int rs[i] (h _ (List.getElem_mem hi2)) G2
    simp [gTp, gsCons, gsNil, gNm, we_eVar, hcap]
  · rintro gs G2 ⟨rfl, o1, o2, rfl⟩
    simp
def ringCs (rs : List Int) : List Tr := (enumT rs).map fun p => (p.1, (p.1 + 1) % (rs.length : Int), p.2)
theorem ringCs_ok {rs : List Int} (h : ∀ r ∈ rs, 1 ≤ r ∧ r ≤ 999) (hl : 3 ≤ rs.length) : ∀ c ∈ ringCs rs, OkC rs.length c := by
  intro c hc
  obtain ⟨p, hp, rfl⟩ := List.mem_map.mp hc
  unfold enumT at hp
  obtain ⟨q, hq, rfl⟩ := List.mem_map.mp hp
  obtain ⟨a, i⟩ := q
  have hq' := List.mem_zipIdx hq
  have ha := h a (by rw [hq'.2.2]; exact List.getElem_mem _)
  have hi : i < rs.length := by omega
  have hm : 0 ≤ ((i : Int) + 1) % (rs.length : Int) ∧ ((i : Int) + 1) % (rs.length : Int) < rs.length := ⟨Int.emod_nonneg _ (by omega), Int.emod_lt_of_pos _ (by omega)⟩
  refine ⟨by dsimp only; omega, by dsimp only; omega, hm.1, hm.2, ?_, ha.1, ha.2⟩
  dsimp only
  rcases Nat.lt_or_ge (i + 1) rs.length with h1 | h1
  · rw [Int.emod_eq_of_lt (by omega) (by omega)]
    omega
  · have : (i : Int) + 1 = rs.length := by omega
    rw [this, Int.emod_self]
    omega
theorem ring_lc {rs : List Int} {G : Hh} {n : Nat} {o3 o4 o5 : Option D} (hl : 3 ≤ rs.length) (hl2 : rs.length ≤ 40) : eLc (wEnum (aCons (eVar 1) aNil)) (gTp 2 (gsCons (gNm 4) (gsCons (gNm 5) gsNil))) tTrue (eArgs dTup (aCons (eVar 4) (aCons (eOp dMod (eOp dAdd (eVar 4) (eC (.int 1))) (eVar 2)) (aCons (eVar 5) aNil)))) [4, 5] [some (.ref n), some (.tup (rs.map D.int)), some (.int rs.length), o3, o4, o5] G = some (.val (.ref G.length), G ++ [.lst ((ringCs rs).map tT)]) := by
  refine we_eq ?_
  have len : (enumD (rs.map D.int)).length = rs.length := by simp [enumD]
  refine we_eLc (items := enumD (rs.map D.int)) (gd := anyH) (G1 := G) (by unfold wEnum; rfl) (fun i G2 => i ≤ rs.length ∧ G2 = G ++ [.lst (((ringCs rs).take i).map tT)]) ⟨Nat.zero_le _, by simp⟩ (fun _ _ _ _ => trivial) ?_ ?_
  · rintro i hi G2 ⟨_, rfl⟩
    have hi2 : i < rs.length := by rw [← len]; exact hi
    have hi3 : i < (ringCs rs).length := by simpa [ringCs, enumT] using hi2
    have e0 : (0 : Int) < rs.length := by omega
    have ec : (ringCs rs)[i] = ((i : Int), ((i : Int) + 1) % (rs.length : Int), rs[i]) := by simp [ringCs, enumT]
    rw [enumD_map D.int rs hi hi2]
    simp [gTp, gsCons, gsNil, gNm, we_eVar, wipeG, dMod_int e0]
    refine ⟨by rw [Nat.min_eq_left (by omega)]; omega, by omega, ?_⟩
    rw [List.take_succ_eq_append_getElem (by simpa using hi3)]
    simp [ec]
  · rintro G' ⟨_, rfl⟩
    have : (enumD (rs.map D.int)).length = (ringCs rs).length := by rw [len]; simp [ringCs, enumT]
    rw [this, List.take_length]
    exact ⟨rfl, rfl⟩
theorem C_Ring_ok {rs : List Int} (h : ∀ r ∈ rs, 1 ≤ r ∧ r ≤ 999) (hl : 3 ≤ rs.length) (hl2 : rs.length ≤ 40) (G : Hh) : C_Ring (rs.map D.int) G = some (.val (.ref G.length), G ++ [.ins 9 (netFs rs.length (ringCs rs))]) := by
  have hn : (G ++ [O.ins 9 []])[G.length]? = some (.ins 9 []) := by simp
  have hrl : (ringCs rs).length ≤ 1000 := by simp [ringCs, enumT]; omega
  have key : F_Ring_init (.ref G.length :: rs.map D.int) (G ++ [.ins 9 []]) = some (.val .non, G ++ [.ins 9 (netFs rs.length (ringCs rs))]) := by
    have hb : bStar 1 (.ref G.length :: rs.map D.int) = some [.ref G.length, .tup (rs.map D.int)] := by
      unfold bStar
      rw [if_pos (by simp; omega)]
      rfl
    refine we_eq (we_fn hb ?_)
    have cc := fun G => check_capacities_ok h G
    have lc := fun G n o3 o4 o5 => ring_lc (G := G) (n := n) (o3 := o3) (o4 := o4) (o5 := o5) hl hl2
    have hl' : (3 : Int) ≤ rs.length := by omega
    have hl2' : (rs.length : Int) ≤ 40 := by omega
    simp [b_Ring_init, start0, N_Ring_init, we_eVar, hl', hl2', cc]
    rw [lc]
    simp
    have hn2 : (G ++ [O.ins 9 [], O.lst ((ringCs rs).map tT)])[G.length]? = some (.ins 9 []) := by simp
    have e5 : (G ++ [O.ins 9 [], O.lst ((ringCs rs).map tT)])[G.length + 1]? = some (O.lst ((ringCs rs).map tT)) := by simp
    have e6 : bTuple (.ref (G.length + 1)) (G ++ [O.ins 9 [], O.lst ((ringCs rs).map tT)]) = some (.val (.tup ((ringCs rs).map tT)), G ++ [O.ins 9 [], O.lst ((ringCs rs).map tT)]) := by
      unfold bTuple itemsD
      dsimp only
      rw [e5]
    have ni := Net_init_ok (c := 9) (n := G.length) (by omega) (by omega) (ringCs_ok h hl) hrl (.inr rfl) _ hn2
    rw [ws_sSup (n := G.length) (cn := 9) (fs := []) (F := F_Net_init) rfl hn2 rfl]
    simp [we_eVar, e6, ni]
    exact net_slim
  unfold C_Ring mkCls
  rw [key]
  rfl
def k3 (zk : Int × Int × Int) : List Int := [zk.1, zk.2.1, zk.2.2]
def srt3 (cs : List Tr) : List Tr := srtK k3 cs
theorem srt3_perm {cs : List Tr} : (srt3 cs).Perm cs := srtK_perm
theorem sorted3 {G : Hh} {n : Nat} {cs : List Tr} (h : G[n]? = some (.lst (cs.map tT))) : bSorted [.ref n] G = some (.val (.ref G.length), G ++ [.lst ((srt3 cs).map tT)]) := by
  have hee : tT = tupI' ∘ k3 := rfl
  have h2' : G[n]? = some (.lst ((cs.map k3).map tupI')) := by rw [h, hee, List.map_map]
  have := sorted_tups h2' fun ns hn => by
    obtain ⟨v, _, rfl⟩ := List.mem_map.mp hn
    exact fun h => nomatch h
  rw [this, ← srtK_map, List.map_map]
  rfl
theorem pipe_lc {cs : List Tr} {G : Hh} {o0 o1 o2 o4 o5 : Option D} (hl : cs.length ≤ 1000) : eLc (wSeq (eVar 3)) (gNm 5) tTrue (eIf (tB (eOp (dEqv false) (eArgs (d1 bLen) (aCons (eVar 5) aNil)) (eC (.int 3)))) (eVar 5) (eArgs dTup (aCons (eOp dIx (eVar 5) (eC (.int 0))) (aCons (eOp dIx (eVar 5) (eC (.int 1))) (aCons (eVar 2) aNil))))) [5] [o0, o1, o2, some (.tup (cs.map tT)), o4, o5] G = some (.val (.ref G.length), G ++ [.lst (cs.map tT)]) := by
  refine we_eq ?_
  refine we_eLc (items := cs.map tT) (gd := anyH) (G1 := G) (wSeq_tup (we_eq (by simp [we_eVar]))) (fun i G2 => i ≤ cs.length ∧ G2 = G ++ [.lst ((cs.take i).map tT)]) ⟨Nat.zero_le _, by simp⟩ (fun _ _ _ _ => trivial) ?_ ?_
  · rintro i hi G2 ⟨_, rfl⟩
    have hi2 : i < cs.length := by simpa using hi
    simp [gNm, we_eVar, wipeG]
    refine ⟨by rw [Nat.min_eq_left (by omega)]; omega, by omega, ?_⟩
    rw [List.take_succ_eq_append_getElem hi]
    simp
  · rintro G' ⟨_, rfl⟩
    simp
theorem C_Pipeline_ok {s : Int} {cs : List Tr} (hs : 1 ≤ s) (hs2 : s ≤ 40) (hc : ∀ c ∈ cs, OkC s c) (hd : Dis cs) (hl : cs.length ≤ 120) (hci : ∀ G, F_has_circle [.tup (cs.map tT), .int s] G = some (.val (.bl false), G)) (G : Hh) : C_Pipeline (.int s :: cs.map tT) G = some (.val (.ref G.length), G ++ [.ins 8 (netFs s (srt3 cs))]) := by
  have hn : (G ++ [O.ins 8 []])[G.length]? = some (.ins 8 []) := by simp
  have hsl : (srt3 cs).length = cs.length := srt3_perm.length_eq
  have key : F_Pipeline_init (.ref G.length :: .int s :: cs.map tT) (G ++ [.ins 8 []]) = some (.val .non, G ++ [.ins 8 (netFs s (srt3 cs))]) := by
    have hb : bStarK 2 (.int 1) (.ref G.length :: .int s :: cs.map tT) = some [.ref G.length, .int s, .int 1, .tup (cs.map tT)] := by
      unfold bStarK
      rw [if_pos (by simp; omega)]
      rfl
    refine we_eq (we_fn hb ?_)
    have cc := fun G => check_channels_ok hc hd (by omega) G
    have c1 := is_capacity_int 1 (by omega)
    have lc := fun G o0 o1 o2 o4 o5 => pipe_lc (cs := cs) (G := G) (o0 := o0) (o1 := o1) (o2 := o2) (o4 := o4) (o5 := o5) (by omega)
    have hl' : ¬ (120 : Int) < cs.length := by omega
    simp [b_Pipeline_init, start0, N_Pipeline_init, we_eVar, hs, hs2, hl', cc, c1, hci]
    rw [lc]
    simp
    have hn2 : (G ++ [O.ins 8 [], O.lst (cs.map tT), O.lst ((srt3 cs).map tT)])[G.length]? = some (.ins 8 []) := by simp
    have hn3 : (G ++ [O.ins 8 [], O.lst (cs.map tT)])[G.length]? = some (.ins 8 []) := by simp
    have e4 : bSorted [.ref (G.length + 1)] (G ++ [O.ins 8 [], O.lst (cs.map tT)]) = some (.val (.ref (G.length + 1 + 1)), G ++ [O.ins 8 [], O.lst (cs.map tT), O.lst ((srt3 cs).map tT)]) := by
      rw [sorted3 (cs := cs) (by simp)]
      simp
    have e5 : (G ++ [O.ins 8 [], O.lst (cs.map tT), O.lst ((srt3 cs).map tT)])[G.length + 1 + 1]? = some (O.lst ((srt3 cs).map tT)) := by
      rw [List.getElem?_append_right (by omega), show G.length + 1 + 1 - G.length = 2 from by omega]
      rfl
    have e6 : bTuple (.ref (G.length + 1 + 1)) (G ++ [O.ins 8 [], O.lst (cs.map tT), O.lst ((srt3 cs).map tT)]) = some (.val (.tup ((srt3 cs).map tT)), G ++ [O.ins 8 [], O.lst (cs.map tT), O.lst ((srt3 cs).map tT)]) := by
      unfold bTuple itemsD
      dsimp only
      rw [e5]
    have ni := Net_init_ok (c := 8) (n := G.length) (s := s) (cs := srt3 cs) (by omega) (by omega) (fun c h => hc c (srt3_perm.mem_iff.mp h)) (by omega) (.inl rfl) _ hn2
    rw [ws_sSup (n := G.length) (cn := 8) (fs := []) (F := F_Net_init) rfl hn3 rfl]
    simp [we_eVar, e4, e6, ni]
    exact net_slim
  unfold C_Pipeline mkCls
  rw [key]
  rfl
end FI.K01
set_option maxRecDepth 100000
set_option maxHeartbeats 4000000
namespace FI.K01
open PySem L2 PySem.Spec PyProof.Rows FI
theorem ixN_lt {k n : Nat} (h : k < n) : ixN n (k : Int) = some k := by
  unfold ixN
  rw [if_pos (by omega), if_pos (by omega)]
  rfl
theorem mLst_of {f : List D → List D → Option (List D × D)} {n : Nat} {ds xs ys : List D} {z : D} {G : Hh} (h : G[n]? = some (.lst xs)) (hf : f xs ds = some (ys, z)) : mLst f (.ref n) ds G = some (.val z, G.set n (.lst ys)) := by
  unfold mLst
  dsimp only
  rw [h]
  dsimp only
  rw [hf]
theorem app_ok {G : Hh} {n : Nat} {d : D} {xs : List D} (h : G[n]? = some (.lst xs)) (hl : xs.length < 100000) : mLst fAppend (.ref n) [d] G = some (.val .non, G.set n (.lst (xs ++ [d]))) :=
  mLst_of h (show (if xs.length < 100000 then some (xs ++ [d], D.non) else none) = _ from if_pos hl)
@[simp] theorem at3_0 {x y z : D} : atI [x, y, z] 0 = some x := rfl
@[simp] theorem at3_1 {x y z : D} : atI [x, y, z] 1 = some y := rfl
@[simp] theorem at3_2 {x y z : D} : atI [x, y, z] 2 = some z := rfl
def gt (st : List Int) (i : Int) : Int := st.getD i.toNat 0
theorem gt_at {st : List Int} {i : Int} (h0 : 0 ≤ i) (h1 : i < st.length) : atI (st.map D.int) i = some (.int (gt st i)) := by
  rw [atI_nat h0, List.getElem?_map, List.getElem?_eq_getElem (by omega)]
  unfold gt
  rw [List.getD_eq_getElem?_getD, List.getElem?_eq_getElem (by omega)]
  rfl
theorem gt_mem {l : List Int} {i : Int} (h0 : 0 ≤ i) (h1 : i < l.length) : gt l i ∈ l := by
  unfold gt
  rw [List.getD_eq_getElem?_getD, List.getElem?_eq_getElem (by omega)]
  exact List.getElem_mem _
def rngK (lo : Int) (k : Nat) : List Int := (List.range k).map fun i : Nat => lo + (i : Int)
theorem rngK_len {lo : Int} {k : Nat} : (rngK lo k).length = k := by simp [rngK]
theorem rngK_D {lo : Int} {k : Nat} : rngD lo k = (rngK lo k).map D.int := by
  unfold rngD rngK
  rw [List.map_map]
  rfl
theorem mem_rngK {lo x : Int} {k : Nat} : x ∈ rngK lo k ↔ lo ≤ x ∧ x < lo + k := by
  unfold rngK
  rw [List.mem_map]
  constructor
  · rintro ⟨i, hi, rfl⟩
    have := List.mem_range.mp hi
    omega
  · rintro ⟨h1, h2⟩
    exact ⟨(x - lo).toNat, List.mem_range.mpr (by omega), by omega⟩
def onF (q : Int → Bool) (f : Int → D) : D → Option D
  | .int i => if q i = true then some (f i) else none
  | _ => none
theorem filterMap_onF {q : Int → Bool} {f : Int → D} : ∀ l : List Int, (l.map D.int).filterMap (onF q f) = (l.filter q).map f
  | [] => rfl
  | x :: l => by
    rw [List.map_cons, List.filterMap_cons, List.filter_cons]
    by_cases h : q x = true
    · rw [if_pos h, show onF q f (.int x) = some (f x) from if_pos h, List.map_cons, filterMap_onF l]
    · rw [if_neg h, show onF q f (.int x) = none from if_neg h, filterMap_onF l]
theorem we_lcI {fw : SW} {t : GT} {tt : ST} {fe : SE} {own : List Nat} {gs : Sg} {G G1 : Hh} {Q : Rs D → Hh → Prop} {lo : Int} {k : Nat} (hw : fw gs G = some (.val (rngD lo k, anyH), G1)) (hk : k ≤ 100000) (q : Int → Bool) (f : Int → D)
    (hs : ∀ x : Int, lo ≤ x → x < lo + k → ∀ acc, asO (t (.int x) (wipeG gs own) (G1 ++ [.lst acc])) fun p => p.2 = G1 ++ [.lst acc] ∧ we (tt p.1 (G1 ++ [.lst acc])) fun r G2 => r = .val (q x) ∧ G2 = G1 ++ [.lst acc] ∧ (q x = true → fe p.1 (G1 ++ [.lst acc]) = some (.val (f x), G1 ++ [.lst acc])))
    (he : Q (.val (.ref G1.length)) (G1 ++ [.lst (((rngK lo k).filter q).map f)])) : we (eLc fw t tt fe own gs G) Q := by
  refine we_eLcP hw (onF q f) (by rw [rngD_length]; exact hk) (fun _ => trivial) ?_ (by rw [rngK_D, filterMap_onF]; exact he)
  intro d hd acc
  rw [rngK_D] at hd
  obtain ⟨x, hx, rfl⟩ := List.mem_map.mp hd
  obtain ⟨h1, h2⟩ := mem_rngK.mp hx
  have z := hs x h1 h2 acc
  cases e : t (.int x) (wipeG gs own) (G1 ++ [.lst acc]) with
  | none => rw [e] at z; exact z.elim
  | some p =>
    rw [e] at z
    obtain ⟨hp, z⟩ := z
    refine ⟨hp, ?_⟩
    rw [hp]
    refine we_mono z fun r G2 q3 => ?_
    obtain ⟨rfl, rfl, q4⟩ := q3
    refine ⟨rfl, ?_⟩
    split
    · rename_i hq
      exact we_of (q4 hq) ⟨if_pos hq, rfl⟩
    · rename_i hq
      show (if q x = true then _ else none) = none
      rw [if_neg hq]
theorem ws_ifY {c : ST} {A B rest : SS} {gs : Sg} {G G1 : Hh} {R : Fl → Sg → Hh → Prop} (hc : c gs G = some (.val true, G1)) (h : ws (A gs G1) (onFl (fun gs G => ws (rest gs G) R) R)) : ws (bSeq (sIf c A B) rest gs G) R := by
  rw [ws_bSeq, ws_sIf]
  exact we_of hc h
theorem ws_ifN {c : ST} {A rest : SS} {gs : Sg} {G G1 : Hh} {R : Fl → Sg → Hh → Prop} (hc : c gs G = some (.val false, G1)) (h : ws (rest gs G1) R) : ws (bSeq (sIf c A bNil) rest gs G) R := by
  rw [ws_bSeq, ws_sIf]
  refine we_of hc ?_
  simpa using h
theorem ws_retE {f : SE} {rest : SS} {gs : Sg} {G : Hh} {R : Fl → Sg → Hh → Prop} (h : we (f gs G) (onR (fun d G1 => R (.rt d) gs G1) fun e G1 => R (.ex e) gs G1)) : ws (bSeq (sRet f) rest gs G) R := by
  rw [ws_bSeq, ws_sRet]
  refine we_mono h fun r G1 q => ?_
  cases r <;> exact q
end FI.K01
set_option maxRecDepth 100000
set_option maxHeartbeats 4000000
namespace FI.K01
open PySem L2 PySem.Spec PyProof.Rows FI
noncomputable def t_has_circle (channels : List (Int × Int × Int)) (stages : Int) : TM Nul Bool := bindT (bindT (bindT (pureT (0 : Int)) fun x1 => pureT ([x1] : List Int)) fun a2 => bindT (pureT stages) fun b3 => optT (repT a2 b3)) fun missing4 => bindT (pureT channels) fun xs62 => bindT (forS (fun x8 (st7 : List Int) => bindT (bindT (pureT x8) fun a11 => pureT a11.2.1) fun i12 => bindT (optT (atI st7 i12)) fun a13 => bindT (pureT (1 : Int)) fun b14 => bindT (optT (setI st7 i12 (a13 + b14))) fun l15 => pureT l15) xs62 missing4) fun st7 => bindT (bindT (bindT (pureT stages) fun a16 => rngT 0 a16) fun xs23 => lcT (fun x17 => bindT (bindT (pureT st7) fun a19 => bindT (pureT x17) fun b20 => optT (atI a19 b20)) fun a21 => bindT (pureT (0 : Int)) fun b22 => pureT (decide (a21 = b22))) (fun x17 => pureT x17) xs23) fun free24 => bindT (pureT (0 : Int)) fun removed26 => bindT (whT (B := Bool) (fun (st27 : Int × (List Int) × (List Int)) => bindT (bindT (pureT st27.2.1) fun a30 => pureT (a30.length : Int)) fun a31 => bindT (pureT (0 : Int)) fun b32 => pureT (decide (b32 < a31))) (fun (st27 : Int × (List Int) × (List Int)) => bindT (popT st27.2.1) fun p35 => bindT (pureT (1 : Int)) fun b36 => bindT (pureT channels) fun xs58 => bindT (forS (fun x39 (st38 : (List Int) × (List Int)) => iteT (bindT (bindT (pureT x39) fun a42 => pureT a42.1) fun a43 => bindT (pureT p35.1) fun b44 => pureT (decide (a43 = b44))) (bindT (bindT (pureT x39) fun a45 => pureT a45.2.1) fun i46 => bindT (optT (atI st38.1 i46)) fun a47 => bindT (pureT (1 : Int)) fun b48 => bindT (optT (setI st38.1 i46 (a47 - b48))) fun l49 => iteT (bindT (bindT (pureT l49) fun a51 => bindT (bindT (pureT x39) fun a50 => pureT a50.2.1) fun b52 => optT (atI a51 b52)) fun a53 => bindT (pureT (0 : Int)) fun b54 => pureT (decide (a53 = b54))) (bindT (bindT (pureT x39) fun a55 => pureT a55.2.1) fun a56 => bindT (appT st38.2 a56) fun l57 => pureT (l49, l57)) (pureT (l49, st38.2))) (pureT (st38.1, st38.2))) xs58 (st27.2.2, p35.2)) fun st38 => pureT (.nx ((st27.1 + b36), st38.2, st38.1))) (removed26, free24, st7)) fun o => o.on (fun st27 => bindT (bindT (pureT st27.1) fun a59 => bindT (pureT stages) fun b60 => pureT (decide (a59 < b60))) fun a61 => pureT a61) fun v => pureT v
theorem ok_has_circle : FnC [] io0 F_has_circle (kAc (kV (eT (e3 D.int D.int D.int))) (kAc (kV D.int) kA0)) (kV D.bl) (fun x => t_has_circle x.1 x.2.1) :=
  @FnC.of _ _ _ F_has_circle [] io0 (kAc (kV (eT (e3 D.int D.int D.int))) (kAc (kV D.int) kA0)) (kV D.bl) (fun x => t_has_circle x.1 x.2.1) _ N_has_circle.length b_has_circle _ (retV fun b m h => by cases h) rfl fun zV x ds zG h => by
    obtain ⟨channels, stages, _⟩ := x
    obtain ⟨_, _, _, rfl, ⟨rfl, rfl⟩, _, _, _, rfl, ⟨rfl, rfl⟩, rfl⟩ := h
    refine ⟨_, rfl, ?_⟩
    show SV (⟨zG, [], zV, io0⟩ : Tc Nul) (Aq (⟨zG, [], zV, io0⟩ : Tc Nul) ([] ++ []) [some ((eT (e3 D.int D.int D.int)) channels), some (D.int stages), none, none, none, none, none]) b_has_circle (t_has_circle channels stages) (postF (⟨zG, [], zV, io0⟩ : Tc Nul) _)
    unfold b_has_circle t_has_circle
    exact sv_asgL (enc := D.int) (ev_op o_repL (ev_LR (ev_ls (mk := fun y => ([y.1] : List Int)) (enc := D.int) (fun y ds V G h => by obtain ⟨y0, _⟩ := y; obtain ⟨_, _, _, rfl, ⟨rfl, rfl⟩, rfl⟩ := h; exact ⟨by show (1 : Nat) ≤ 100000; omega, rfl⟩) (ea_cons (ev_c (enc := D.int) (a := 0)) fun x1 => ea_nil))) (ev_var (enc := D.int) (a := stages) rfl)) fun missing4 r5 => sv_forS (Rl := fun (os6 : List (Nat × O)) (st7 : List Int) gs s G => ∃ g10 : Option D, gs = [some ((eT (e3 D.int D.int D.int)) channels), some (D.int stages), some (.ref r5), g10, none, none, none] ∧ Hq (⟨zG, [], zV, io0⟩ : Tc Nul) ([(r5, O.lst (st7.map D.int))] ++ (os6 ++ [])) s G) (lo := []) (ew_tup (enc := (e3 D.int D.int D.int)) (ev_var (enc := (eT (e3 D.int D.int D.int))) (a := channels) rfl)) (fun os6 s G h => by have h := Hq.inn (lit := [(r5, O.lst (missing4.map D.int))]) (T := []) h; exact ⟨_, rfl, Hq.fin (lit := [(r5, O.lst (missing4.map D.int))]) (show Hq _ ([(r5, O.lst (missing4.map D.int))] ++ (os6 ++ [])) _ _ from h) [0] (by decide) (.refl _)⟩) (fun os6 st7 gs s G hr => by obtain ⟨_, _, h⟩ := hr; exact ⟨_, h, fun p hp => List.mem_append_right _ (List.mem_append_left _ hp), (fun p hp => nomatch hp)⟩) (fun os6 x8 d9 st7 gs s G hx hr => by obtain ⟨g10, rfl, h⟩ := hr; have hx : d9 = _ := hx; subst hx; exact ⟨_, rfl, sv_at (sv_augS (F := fun i j => i + j) (l := st7) (j := 0) rfl rfl (ev_ixc (e := (e3 D.int D.int D.int)) (e' := D.int) (i := 1) (·.2.1) (fun _ _ => rfl) (ev_var (enc := (e3 D.int D.int D.int)) (a := x8) rfl) (ev_c (enc := D.int) (a := 1))) (ev_c (enc := D.int) (a := 1)) fun l15 => sv_end (fun s G h => ⟨.inl rfl, _, rfl, Hq.fin (lit := [(r5, O.lst (l15.map D.int))]) (show Hq _ ([(r5, O.lst (l15.map D.int))] ++ (os6 ++ [])) _ _ from h) [0] (by decide) (.refl _)⟩)) h⟩) fun os6 st7 => sv_ex fun g10 => sv_asgL (enc := D.int) (ev_lc (enc := D.int) (ew_rng1 (ev_var (enc := D.int) (a := stages) rfl)) (fun x17 d18 hx => by have hx : d18 = _ := hx; subst hx; exact ⟨_, fun _ => rfl, et_B (ev_op (o_eq QE.int (by decide) (fun _ => rfl)) (ev_op o_ixL (ev_lst (enc := D.int) (l := st7) (j := 0) rfl rfl) (ev_var (enc := D.int) (a := x17) rfl)) (ev_c (enc := D.int) (a := 0))), ev_var (enc := D.int) (a := x17) rfl⟩)) fun free24 r25 => sv_asg (enc := D.int) (ev_c (enc := D.int) (a := 0)) (fun _ _ => rfl) fun removed26 => sv_while (Rl := fun (st27 : Int × (List Int) × (List Int)) gs s G => ∃ g28 : Option D, ∃ g29 : Option D, gs = [some ((eT (e3 D.int D.int D.int)) channels), some (D.int stages), some (.ref r5), g29, some (.ref r25), g28, some (D.int st27.1)] ∧ Hq (⟨zG, [], zV, io0⟩ : Tc Nul) ([(r25, O.lst (st27.2.1.map D.int)), (r5, O.lst (st27.2.2.map D.int))] ++ (os6 ++ [])) s G) (fun s G h => ⟨_, _, rfl, Hq.fin (lit := [(r25, O.lst (free24.map D.int)), (r5, O.lst (st7.map D.int))]) (show Hq _ ([(r25, O.lst (free24.map D.int)), (r5, O.lst (st7.map D.int))] ++ (os6 ++ [])) _ _ from h) [0, 1] (by decide) (.refl _)⟩) (fun st27 gs s G hr => by obtain ⟨g28, g29, rfl, h⟩ := hr; exact wh_turn h (et_B (ev_op o_gt (ev_b1 o_lenL (ev_lst (enc := D.int) (l := st27.2.1) (j := 0) rfl rfl)) (ev_c (enc := D.int) (a := 0)))) (fun s G h => ⟨g28, g29, rfl, h⟩) (sv_pop (enc := D.int) (l := st27.2.1) (j := 0) rfl rfl fun p35 => sv_augN (F := fun i j => i + j) (a := st27.1) rfl (ev_c (enc := D.int) (a := 1)) fun b36 => sv_forS (Rl := fun (os37 : List (Nat × O)) (st38 : (List Int) × (List Int)) gs s G => ∃ g41 : Option D, gs = [some ((eT (e3 D.int D.int D.int)) channels), some (D.int stages), some (.ref r5), g41, some (.ref r25), some (D.int p35.1), some (D.int (st27.1 + b36))] ∧ Hq (⟨zG, [], zV, io0⟩ : Tc Nul) ([(r25, O.lst (st38.2.map D.int)), (r5, O.lst (st38.1.map D.int))] ++ (os37 ++ (os6 ++ []))) s G) (lo := []) (ew_tup (enc := (e3 D.int D.int D.int)) (ev_var (enc := (eT (e3 D.int D.int D.int))) (a := channels) rfl)) (fun os37 s G h => by have h := Hq.inn (lit := [(r25, O.lst (p35.2.map D.int)), (r5, O.lst (st27.2.2.map D.int))]) (T := (os6 ++ [])) h; exact ⟨_, rfl, Hq.fin (lit := [(r25, O.lst (p35.2.map D.int)), (r5, O.lst (st27.2.2.map D.int))]) (show Hq _ ([(r25, O.lst (p35.2.map D.int)), (r5, O.lst (st27.2.2.map D.int))] ++ (os37 ++ (os6 ++ []))) _ _ from h) [0, 1] (by decide) (.refl _)⟩) (fun os37 st38 gs s G hr => by obtain ⟨_, _, h⟩ := hr; exact ⟨_, h, fun p hp => List.mem_append_right _ (List.mem_append_left _ hp), (fun p hp => nomatch hp)⟩) (fun os37 x39 d40 st38 gs s G hx hr => by obtain ⟨g41, rfl, h⟩ := hr; have hx : d40 = _ := hx; subst hx; exact ⟨_, rfl, sv_at (sv_if (et_B (ev_op (o_eq QE.int (by decide) (fun _ => rfl)) (ev_ixc (e := (e3 D.int D.int D.int)) (e' := D.int) (i := 0) (·.1) (fun _ _ => rfl) (ev_var (enc := (e3 D.int D.int D.int)) (a := x39) rfl) (ev_c (enc := D.int) (a := 0))) (ev_var (enc := D.int) (a := p35.1) rfl))) (sv_asc (sv_augS (F := fun i j => i - j) (l := st38.1) (j := 1) rfl rfl (ev_ixc (e := (e3 D.int D.int D.int)) (e' := D.int) (i := 1) (·.2.1) (fun _ _ => rfl) (ev_var (enc := (e3 D.int D.int D.int)) (a := x39) rfl) (ev_c (enc := D.int) (a := 1))) (ev_c (enc := D.int) (a := 1)) fun l49 => sv_asc (sv_if (et_B (ev_op (o_eq QE.int (by decide) (fun _ => rfl)) (ev_op o_ixL (ev_lst (enc := D.int) (l := l49) (j := 1) rfl rfl) (ev_ixc (e := (e3 D.int D.int D.int)) (e' := D.int) (i := 1) (·.2.1) (fun _ _ => rfl) (ev_var (enc := (e3 D.int D.int D.int)) (a := x39) rfl) (ev_c (enc := D.int) (a := 1)))) (ev_c (enc := D.int) (a := 0)))) (sv_asc (sv_app (enc := D.int) (l := st38.2) (j := 0) rfl rfl (ev_ixc (e := (e3 D.int D.int D.int)) (e' := D.int) (i := 1) (·.2.1) (fun _ _ => rfl) (ev_var (enc := (e3 D.int D.int D.int)) (a := x39) rfl) (ev_c (enc := D.int) (a := 1))) fun l57 => sv_nil (sv_nil (sv_end (fun s G h => ⟨.inl rfl, _, rfl, Hq.fin (lit := [(r25, O.lst (l57.map D.int)), (r5, O.lst (l49.map D.int))]) (show Hq _ ([(r25, O.lst (l57.map D.int)), (r5, O.lst (l49.map D.int))] ++ (os37 ++ (os6 ++ []))) _ _ from h) [0, 1] (by decide) (.refl _)⟩))))) (sv_nil (sv_nil (sv_end (fun s G h => ⟨.inl rfl, _, rfl, Hq.fin (lit := [(r25, O.lst (st38.2.map D.int)), (r5, O.lst (l49.map D.int))]) (show Hq _ ([(r25, O.lst (st38.2.map D.int)), (r5, O.lst (l49.map D.int))] ++ (os37 ++ (os6 ++ []))) _ _ from h) [0, 1] (by decide) (.refl _)⟩))))))) (sv_nil (sv_end (fun s G h => ⟨.inl rfl, _, rfl, Hq.fin (lit := [(r25, O.lst (st38.2.map D.int)), (r5, O.lst (st38.1.map D.int))]) (show Hq _ ([(r25, O.lst (st38.2.map D.int)), (r5, O.lst (st38.1.map D.int))] ++ (os37 ++ (os6 ++ []))) _ _ from h) [0, 1] (by decide) (.refl _)⟩)))) h⟩) fun os37 st38 => sv_ex fun g41 => sv_end (fun s G h => ⟨.inl rfl, _, _, rfl, Hq.fin (lit := [(r25, O.lst (st38.2.map D.int)), (r5, O.lst (st38.1.map D.int))]) (show Hq _ ([(r25, O.lst (st38.2.map D.int)), (r5, O.lst (st38.1.map D.int))] ++ (os37 ++ (os6 ++ []))) _ _ from h) [0, 1] (by decide) (List.sublist_append_right _ _)⟩))) fun st27 => sv_ex fun g28 => sv_ex fun g29 => sv_ret (ev_op o_lt (ev_var (enc := D.int) (a := st27.1) rfl) (ev_var (enc := D.int) (a := stages) rfl)) (fun a d os s G hq r => ⟨d, os, _, .inl rfl, hq, r⟩)
end FI.K01
set_option maxRecDepth 100000
set_option maxHeartbeats 4000000
namespace FI.K01
open PySem L2 PySem.Spec PyProof.Rows FI
def mi (s : Nat) (f : Int → Nat) : List Int := (List.range s).map fun b : Nat => (f (b : Int) : Int)
theorem mi_len {s : Nat} {f : Int → Nat} : (mi s f).length = s := by simp [mi]
theorem mi_at {s : Nat} {f : Int → Nat} {b : Int} (h0 : 0 ≤ b) (h1 : b < s) : atI (mi s f) b = some (f b : Int) := by
  unfold mi
  rw [atI_nat h0, List.getElem?_map, List.getElem?_range (by omega)]
  show some ((f (b.toNat : Nat) : Int)) = _
  rw [Int.toNat_of_nonneg h0]
theorem mi_set {s : Nat} {f g : Int → Nat} {b v : Int} (h0 : 0 ≤ b) (h1 : b < s) (hb : (g b : Int) = v) (hg : ∀ x, x ≠ b → g x = f x) : setI (mi s f) b v = some (mi s g) := by
  rw [setI_ok h0 (by rw [mi_len]; omega)]
  congr 1
  apply List.ext_getElem?
  intro i
  unfold mi
  by_cases hi : i < s
  · by_cases e : b.toNat = i
    · subst e
      rw [List.getElem?_set_self (by simpa using hi), List.getElem?_map, List.getElem?_range hi]
      show _ = some ((g (b.toNat : Nat) : Int))
      rw [Int.toNat_of_nonneg h0, hb]
    · rw [List.getElem?_set_ne e, List.getElem?_map, List.getElem?_map, List.getElem?_range hi]
      show some ((f (i : Nat) : Int)) = some ((g (i : Nat) : Int))
      rw [hg _ (by omega)]
  · rw [List.getElem?_eq_none (by simp; omega), List.getElem?_eq_none (by simp; omega)]
theorem rep0 {s : Int} (h0 : 0 ≤ s) (h1 : s ≤ 1000) : repT [(0 : Int)] s = some (mi s.toNat fun _ => 0) := by
  unfold repT
  rw [if_pos ⟨h0, by omega, by simp; omega⟩]
  congr 1
  unfold mi
  apply List.ext_getElem
  · simp
  · intro i h1 h2
    simp
theorem nodup_rng {s : Int} : (rngI 0 s).Nodup := by
  unfold List.Nodup rngI
  rw [List.pairwise_map]
  exact List.nodup_range.imp fun {a b} hab e => hab (by omega)
structure HcI (s : Int) (cs : List Tr) (dn free : List Int) : Prop where
  nd : dn.Nodup
  rg : ∀ b ∈ dn, 0 ≤ b ∧ b < s
  dz : ∀ b ∈ dn, wt cs dn b = 0
  fn : free.Nodup
  fr : ∀ b ∈ free, (0 ≤ b ∧ b < s) ∧ b ∉ dn ∧ wt cs dn b = 0
  all : ∀ b : Int, 0 ≤ b → b < s → wt cs dn b = 0 → b ∉ dn → b ∈ free
theorem wt_nil_step {cs : List Tr} {i : Nat} (h : i < cs.length) (b : Int) : wt (cs.take (i + 1)) [] b = wt (cs.take i) [] b + if cs[i].2.1 = b then 1 else 0 := by
  rw [List.take_succ_eq_append_getElem h, wt_app]
  congr 1
  rw [wt_cons]
  simp [show wt [] [] b = 0 from rfl]
theorem wt_sub {cs : List Tr} {dn dn' : List Int} {b : Int} (h : ∀ x ∈ dn, x ∈ dn') : wt cs dn' b ≤ wt cs dn b := by
  unfold wt
  refine List.countP_mono_left fun c _ => ?_
  intro h1
  simp at h1 ⊢
  exact ⟨h1.1, fun h2 => h1.2 (h _ h2)⟩
theorem wtP_le {cs : List Tr} {dn : List Int} {x : Int} {i : Nat} {b : Int} : wtP cs dn x i b ≤ wt cs dn b := by
  unfold wtP
  have h1 : wt (cs.take i) (x :: dn) b ≤ wt (cs.take i) dn b := wt_sub fun y hy => List.mem_cons_of_mem _ hy
  have h2 : wt cs dn b = wt (cs.take i) dn b + wt (cs.drop i) dn b := by rw [← wt_app, List.take_append_drop]
  omega
theorem has_circle_t {s : Int} {cs : List Tr} {rk : Int → Nat} (h0 : 0 ≤ s) (h1 : s ≤ 1000) (hc : ∀ c ∈ cs, OkC s c) (hr : ∀ c ∈ cs, rk c.1 < rk c.2.1) (z : Nul) : wb (t_has_circle cs s) z fun r _ => r = false := by
  obtain ⟨S, rfl⟩ : ∃ S : Nat, s = S := ⟨s.toNat, by omega⟩
  unfold t_has_circle
  simp only [bindT_pure_, rep0 h0 h1, optT_some, Int.toNat_natCast]
  rw [wb_bind]
  refine wb_forS (fun i (st : List Int) _ => st = mi S (wt (cs.take i) [])) _ _ _ (by simp [mi, show ∀ b, wt [] [] b = 0 from fun _ => rfl]) ?_ ?_
  · rintro i hi st z rfl
    obtain ⟨a1, a2, a3, a4, _⟩ := hc _ (List.getElem_mem hi)
    simp only [mi_at a3 a4, optT_some, bindT_pure_]
    rw [mi_set (g := wt (cs.take (i + 1)) []) a3 a4 (by rw [wt_nil_step hi]; simp) (fun x hx => by rw [wt_nil_step hi, if_neg (fun e => hx e.symm)]; rfl)]
    simp
  rintro st z rfl
  rw [List.take_length]
  have e1 : (rngT 0 (S : Int) : TM Nul (List Int)) = pureT (rngI 0 S) := rngT_ok (by omega) (by omega)
  have e2 : (lcT (fun x17 : Int => bindT (optT (atI (mi S (wt cs [])) x17)) fun a21 => pureT (decide (a21 = 0))) (fun x17 => pureT x17) (rngI 0 S) : TM Nul (List Int)) = pureT ((rngI 0 S).filter fun b => decide (wt cs [] b = 0)) := by
    rw [lcT_pure (q := fun b => decide (wt cs [] b = 0)) (f := fun b => b) (fun b hb => by
      obtain ⟨b0, b1⟩ := mem_rngI.mp hb
      rw [mi_at b0 b1]
      simp) (fun _ _ _ => rfl) (by rw [rngI_len]; omega), List.map_id']
  simp only [e1, bindT_pure_, e2]
  rw [wb_bind]
  refine wb_whT (fun (st : Int × List Int × List Int) _ => ∃ dn, st.1 = (dn.length : Int) ∧ st.2.2 = mi S (wt cs dn) ∧ HcI S cs dn st.2.1) (fun st => S - st.1.toNat) ?_ S _ z (by simp) ?_
  · rintro ⟨rm, free, ms⟩ z ⟨dn, h2, h3, I⟩
    dsimp only at h2 h3 I
    subst h2 h3
    have hfl : free.length ≤ S := by
      have := I.fn.length_le_of_subset (l₂ := rngI 0 S) fun b hb => mem_rngI.mpr (I.fr b hb).1
      rw [rngI_len] at this
      omega
    simp only [bindT_pure_]
    rw [wb_pure]
    by_cases hf : (0 : Int) < (free.length : Int)
    · rw [decide_eq_true hf, if_pos rfl]
      obtain ⟨fs, x, rfl⟩ : ∃ fs x, free = fs ++ [x] := by
        rcases List.eq_nil_or_concat free with h | ⟨fs, x, h⟩
        · subst h; simp at hf
        · exact ⟨fs, x, by rw [h, List.concat_eq_append]⟩
      have hpop : (popT (fs ++ [x]) : TM Nul (Int × List Int)) = pureT (x, fs) := by
        unfold popT
        simp
      rw [hpop]
      simp only [bindT_pure_]
      obtain ⟨⟨x0, x1⟩, xd, xz⟩ := I.fr x (by simp)
      have fnd := List.nodup_append.mp I.fn
      have hxf : x ∉ fs := fun h => fnd.2.2 x h x (by simp) rfl
      rw [wb_bind]
      refine wb_forS (fun i (st : List Int × List Int) _ => st.1 = mi S (wtP cs dn x i) ∧ st.2.Nodup ∧ (∀ b ∈ st.2, (0 ≤ b ∧ b < (S : Int)) ∧ b ∉ x :: dn ∧ wtP cs dn x i b = 0) ∧ ∀ b : Int, 0 ≤ b → b < S → wtP cs dn x i b = 0 → b ∉ x :: dn → b ∈ st.2) _ _ _ ⟨?_, fnd.1, fun b hb => ?_, fun b b0 b1 b2 b3 => ?_⟩ ?_ ?_
      · show mi S (wt cs dn) = _
        congr 1
        funext b
        exact wtP_zero.symm
      · obtain ⟨p1, p2, p3⟩ := I.fr b (List.mem_append_left _ hb)
        refine ⟨p1, fun h => ?_, by rw [wtP_zero]; exact p3⟩
        rcases List.mem_cons.mp h with rfl | h
        · exact hxf hb
        · exact p2 h
      · rw [wtP_zero] at b2
        have := I.all b b0 b1 b2 fun h => b3 (List.mem_cons_of_mem _ h)
        rcases List.mem_append.mp this with h | h
        · exact h
        · exact absurd (List.mem_singleton.mp h) fun e => b3 (by rw [e]; exact List.mem_cons_self ..)
      · rintro i hi ⟨ms, fr⟩ z ⟨h2, h3, h4, h5⟩
        dsimp only at h2 h3 h4 h5
        subst h2
        obtain ⟨a1, a2, a3, a4, a5, _⟩ := hc _ (List.getElem_mem hi)
        have st := fun b => wtP_step hi xd b
        by_cases hcx : cs[i].1 = x
        · have hw : wtP cs dn x i cs[i].2.1 = wtP cs dn x (i + 1) cs[i].2.1 + 1 := by rw [st, if_pos ⟨rfl, hcx⟩]
          have hset : setI (mi S (wtP cs dn x i)) cs[i].2.1 ((wtP cs dn x i cs[i].2.1 : Int) - 1) = some (mi S (wtP cs dn x (i + 1))) := mi_set a3 a4 (by rw [hw]; omega) fun b hb => by
            rw [st, if_neg fun h => hb h.1.symm]
            rfl
          have hcb : cs[i].2.1 ∉ x :: dn := fun h => by
            rcases List.mem_cons.mp h with h | h
            · exact a5 (hcx.trans h.symm)
            · have := I.dz _ h
              have := wtP_le (cs := cs) (dn := dn) (x := x) (i := i) (b := cs[i].2.1)
              omega
          have hnf : cs[i].2.1 ∉ fr := fun h => by
            have := (h4 _ h).2.2
            omega
          have hne : ∀ b, b ≠ cs[i].2.1 → wtP cs dn x (i + 1) b = wtP cs dn x i b := fun b hb => by
            rw [st b, if_neg fun h => hb h.1.symm]
            rfl
          simp only [bindT_pure_, hcx, decide_true, iteT_pure, if_true, mi_at a3 a4, optT_some, hset]
          by_cases hz : wtP cs dn x (i + 1) cs[i].2.1 = 0
          · have hfl2 : fr.length ≤ S := by
              have := h3.length_le_of_subset (l₂ := rngI 0 S) fun b hb => mem_rngI.mpr (h4 b hb).1
              rw [rngI_len] at this
              omega
            simp only [hz]
            simp
            refine ⟨by omega, List.nodup_append.mpr ⟨h3, by simp, fun a ha b hb e => ?_⟩, fun b hb => ?_, fun b b0 b1 b2 b3 b4 => ?_⟩
            · rw [List.mem_singleton.mp hb] at e
              exact hnf (e ▸ ha)
            · rcases hb with hb | rfl
              · obtain ⟨p1, p2, p3⟩ := h4 b hb
                exact ⟨p1, by simpa using p2, by rw [hne b fun e => hnf (e ▸ hb)]; exact p3⟩
              · exact ⟨⟨a3, a4⟩, by simpa using hcb, hz⟩
            · by_cases e : b = cs[i].2.1
              · exact .inr e
              · exact .inl (h5 b b0 b1 (by rw [← hne b e]; exact b2) (by simp [b3, b4]))
          · have hz' : ¬ ((wtP cs dn x (i + 1) cs[i].2.1 : Int) = 0) := by omega
            simp only [hz', decide_false]
            simp
            refine ⟨h3, fun b hb => ?_, fun b b0 b1 b2 b3 b4 => ?_⟩
            · obtain ⟨p1, p2, p3⟩ := h4 b hb
              exact ⟨p1, by simpa using p2, by rw [hne b fun e => hnf (e ▸ hb)]; exact p3⟩
            · have e : b ≠ cs[i].2.1 := fun e => hz (e ▸ b2)
              exact h5 b b0 b1 (by rw [← hne b e]; exact b2) (by simp [b3, b4])
        · have hw : ∀ b, wtP cs dn x i b = wtP cs dn x (i + 1) b := fun b => by
            rw [st b, if_neg fun h => hcx h.2]
            rfl
          have hw' : wtP cs dn x i = wtP cs dn x (i + 1) := funext hw
          simp only [bindT_pure_, hcx, decide_false, iteT_pure]
          simp
          rw [← hw']
          exact ⟨rfl, h3, fun b hb => by simpa using h4 b hb, fun b b0 b1 b2 b3 b4 => h5 b b0 b1 b2 (by simp [b3, b4])⟩
      · rintro ⟨ms, fr⟩ z ⟨h2, h3, h4, h5⟩
        dsimp only at h2 h3 h4 h5
        have hall : wtP cs dn x cs.length = wt cs (x :: dn) := funext fun b => wtP_all
        rw [hall] at h2 h4 h5
        have nd2 : (x :: dn).Nodup := List.nodup_cons.mpr ⟨xd, I.nd⟩
        have rg2 : ∀ b ∈ x :: dn, 0 ≤ b ∧ b < (S : Int) := fun b hb => by
          rcases List.mem_cons.mp hb with rfl | hb
          · exact ⟨x0, x1⟩
          · exact I.rg b hb
        rw [wb_pure]
        refine ⟨⟨x :: dn, by simp, h2, nd2, rg2, fun b hb => ?_, h3, h4, h5⟩, ?_⟩
        · have hle : wt cs (x :: dn) b ≤ wt cs dn b := wt_sub fun y hy => List.mem_cons_of_mem _ hy
          rcases List.mem_cons.mp hb with rfl | hb
          · omega
          · have := I.dz b hb
            omega
        · have := nd2.length_le_of_subset (l₂ := rngI 0 S) fun b hb => mem_rngI.mpr (rg2 b hb)
          rw [rngI_len] at this
          simp at this ⊢
          omega
    · rw [decide_eq_false hf, if_neg (by simp)]
      have hf0 : free = [] := List.length_eq_zero_iff.mp (by omega)
      subst hf0
      simp
      have hd := all_done (dn := dn) (s := S) hc hr fun b b0 b1 b2 => by
        by_cases hb : b ∈ dn
        · exact hb
        · exact absurd (I.all b b0 b1 b2 hb) (by simp)
      have := nodup_rng.length_le_of_subset (l₁ := rngI 0 S) (l₂ := dn) fun b hb => hd b (mem_rngI.mp hb).1 (mem_rngI.mp hb).2
      rw [rngI_len] at this
      omega
  · refine ⟨[], rfl, rfl, List.nodup_nil, (fun _ h => nomatch h), (fun _ h => nomatch h), (nodup_rng.filter _), fun b hb => ?_, fun b b0 b1 b2 _ => ?_⟩
    · obtain ⟨h1, h2⟩ := List.mem_filter.mp hb
      exact ⟨mem_rngI.mp h1, by simp, by simpa using h2⟩
    · exact List.mem_filter.mpr ⟨mem_rngI.mpr ⟨b0, b1⟩, by simpa using b2⟩
def noCirc (s : Int) (cs : List Tr) : Prop := ∀ G, F_has_circle [.tup (cs.map tT), .int s] G = some (.val (.bl false), G)
theorem noCirc_of {s : Int} {cs : List Tr} {rk : Int → Nat} (h0 : 0 ≤ s) (h1 : s ≤ 1000) (hc : ∀ c ∈ cs, OkC s c) (hr : ∀ c ∈ cs, rk c.1 < rk c.2.1) : noCirc s cs := fun G => by
  obtain ⟨r, z, e, rfl⟩ := has_circle_t h0 h1 hc hr .a
  exact fn0_exact ok_has_circle (x := (cs, s, ())) e rfl (fun _ h => nomatch h) rfl ⟨_, _, _, rfl, ⟨rfl, rfl⟩, _, _, _, rfl, ⟨rfl, rfl⟩, rfl⟩
theorem srt3_congr {l m : List Tr} (p : l.Perm m) : srt3 l = srt3 m := by
  have h : (srt3 l).map k3 = (srt3 m).map k3 := by
    show (srtK k3 l).map k3 = (srtK k3 m).map k3
    rw [srtK_map, srtK_map]
    exact sortT_uniq ((sortT_perm _).trans (p.map k3)) (sortT_srt _)
  refine List.map_inj_right (fun a b hab => ?_) |>.mp h
  have : [a.1, a.2.1, a.2.2] = [b.1, b.2.1, b.2.2] := hab
  simp at this
  exact Prod.ext this.1 (Prod.ext this.2.1 this.2.2)
def rowCs (rs : List Int) : List Tr := (enumT rs).map fun p => (p.1, p.1 + 1, p.2)
theorem ringCs_len {rs : List Int} : (ringCs rs).length = rs.length := by simp [ringCs, enumT]
theorem rowCs_len {rs : List Int} : (rowCs rs).length = rs.length := by simp [rowCs, enumT]
theorem gt_get {l : List Int} {i : Nat} (h : i < l.length) : gt l (i : Int) = l[i] := by
  unfold gt
  rw [List.getD_eq_getElem?_getD, show ((i : Int)).toNat = i from rfl, List.getElem?_eq_getElem h]
  rfl
theorem ringCs_gt {rs : List Int} {m : Int} (h : (rs.length : Int) = m) : (rngK 0 m.toNat).map (fun x => ((x, (x + 1) % m, gt rs x) : Tr)) = ringCs rs := by
  refine List.ext_getElem (by rw [List.length_map, rngK_len, ringCs_len]; omega) fun i h1 h2 => ?_
  have hi : i < rs.length := by rw [ringCs_len] at h2; exact h2
  simp [ringCs, enumT, rngK, ← h, gt_get hi]
theorem rowCs_gt {rs : List Int} {k : Nat} (h : rs.length = k) : (rngK 0 k).map (fun x => ((x, x + 1, gt rs x) : Tr)) = rowCs rs := by
  refine List.ext_getElem (by rw [List.length_map, rngK_len, rowCs_len]; omega) fun i h1 h2 => ?_
  have hi : i < rs.length := by rw [rowCs_len] at h2; exact h2
  simp [rowCs, enumT, rngK, gt_get hi]
theorem rowCs_mem {rs : List Int} {c : Tr} (h : c ∈ rowCs rs) : 0 ≤ c.1 ∧ c.2.1 = c.1 + 1 ∧ c.1 < rs.length ∧ c.2.2 ∈ rs := by
  rw [← rowCs_gt rfl] at h
  obtain ⟨x, hx, rfl⟩ := List.mem_map.mp h
  obtain ⟨q1, q2⟩ := mem_rngK.mp hx
  exact ⟨q1, rfl, by dsimp only; omega, gt_mem q1 (by omega)⟩
theorem rowCs_ok {rs : List Int} (h : ∀ r ∈ rs, 1 ≤ r ∧ r ≤ 999) : ∀ c ∈ rowCs rs, OkC ((rs.length : Int) + 1) c := fun c hc => by
  obtain ⟨q1, q2, q3, q4⟩ := rowCs_mem hc
  obtain ⟨q5, q6⟩ := h _ q4
  exact ⟨q1, by omega, by omega, by omega, by omega, q5, q6⟩
theorem rowCs_pw {rs : List Int} : (rowCs rs).Pairwise fun c d => c.1 < d.1 := by
  unfold rowCs enumT
  rw [List.map_map, List.pairwise_map]
  exact List.pairwise_iff_getElem.mpr fun i j h1 h2 hij => by simp; omega
theorem row_sorted {rs : List Int} : srt3 (rowCs rs) = rowCs rs := by
  have h : (srt3 (rowCs rs)).map k3 = (rowCs rs).map k3 := by
    show (srtK k3 (rowCs rs)).map k3 = _
    rw [srtK_map]
    refine (sortT_uniq (List.Perm.refl _) ?_).symm
    refine List.pairwise_map.mpr (rowCs_pw.imp fun {a b} hab => ?_)
    have h1 : ¬ b.1 < a.1 := by omega
    have h2 : ¬ b.1 = a.1 := by omega
    simp [leT, SrtO.lexI, k3, h1, h2]
  refine List.map_inj_right (fun a b hab => ?_) |>.mp h
  have : [a.1, a.2.1, a.2.2] = [b.1, b.2.1, b.2.2] := hab
  simp at this
  exact Prod.ext this.1 (Prod.ext this.2.1 this.2.2)
theorem fin_net {c : Nat} {s : Int} {cs : List Tr} {G : Hh} {Q : Rs D → Hh → Prop} (h : Q (.val (.ref G.length)) (G ++ [.ins c (netFs s cs)])) : we (slim G (some (.val (.ref G.length), G ++ [.ins c (netFs s cs)]))) Q := by
  rw [slim_new (o := .ins c (netFs s cs)) .app (Nat.le_refl _) (by simp) netFs_bw, List.take_left' rfl]
  exact (we_some _ _).mpr h
theorem ws_lenIf {i n : Nat} {k : Int} {xs : List D} {A rest : SS} {gs : Sg} {G : Hh} {R : Fl → Sg → Hh → Prop} (hg : gs[i]? = some (some (.ref n))) (hn : G[n]? = some (.lst xs)) : ws (bSeq (sIf (tB (eOp (dEqv false) (eArgs (d1 bLen) (aCons (eVar i) aNil)) (eC (.int k)))) A bNil) rest gs G) R ↔ if (xs.length : Int) = k then ws (A gs G) (onFl (fun gs G => ws (rest gs G) R) R) else ws (rest gs G) R := by
  by_cases h : (xs.length : Int) = k
  · simp [we_eVar, hg, hn, h]
  · simp [we_eVar, hg, hn, h]
theorem fa_nil {gs : Sg} {G : Hh} : aNil gs G = some (.val [], G) := rfl
theorem fa_cons {fe : SE} {fa : SA} {gs : Sg} {G : Hh} {d : D} {ds : List D} (he : fe gs G = some (.val d, G)) (ha : fa gs G = some (.val ds, G)) : aCons fe fa gs G = some (.val (d :: ds), G) := by
  unfold aCons
  rw [he, bnd_val, ha, bnd_val]
theorem row_lc {rs : List Int} {G : Hh} {o0 o2 o3 o4 : Option D} (hl2 : rs.length ≤ 40) : eLc (wEnum (aCons (eVar 1) aNil)) (gTp 2 (gsCons (gNm 3) (gsCons (gNm 4) gsNil))) tTrue (eArgs dTup (aCons (eVar 3) (aCons (eOp dAdd (eVar 3) (eC (.int 1))) (aCons (eVar 4) aNil)))) [3, 4] [o0, some (.tup (rs.map D.int)), o2, o3, o4] G = some (.val (.ref G.length), G ++ [.lst ((rowCs rs).map tT)]) := by
  refine we_eq ?_
  have len : (enumD (rs.map D.int)).length = rs.length := by simp [enumD]
  refine we_eLc (items := enumD (rs.map D.int)) (gd := anyH) (G1 := G) (by unfold wEnum; rfl) (fun i G2 => i ≤ rs.length ∧ G2 = G ++ [.lst (((rowCs rs).take i).map tT)]) ⟨Nat.zero_le _, by simp⟩ (fun _ _ _ _ => trivial) ?_ ?_
  · rintro i hi G2 ⟨_, rfl⟩
    have hi2 : i < rs.length := by rw [← len]; exact hi
    have hi3 : i < (rowCs rs).length := by rw [rowCs_len]; exact hi2
    have ec : (rowCs rs)[i] = ((i : Int), (i : Int) + 1, rs[i]) := by simp [rowCs, enumT]
    rw [enumD_map D.int rs hi hi2]
    simp [gTp, gsCons, gsNil, gNm, we_eVar, wipeG]
    refine ⟨by rw [Nat.min_eq_left (by omega)]; omega, by omega, ?_⟩
    rw [List.take_succ_eq_append_getElem (by simpa using hi3)]
    simp [ec]
  · rintro G' ⟨_, rfl⟩
    have : (enumD (rs.map D.int)).length = (rowCs rs).length := by rw [len, rowCs_len]
    rw [this, List.take_length]
    exact ⟨rfl, rfl⟩
theorem fin_net2 {c : Nat} {s : Int} {cs : List Tr} {G J : Hh} {Q : Rs D → Hh → Prop} (h : Q (.val (.ref G.length)) (G ++ [.ins c (netFs s cs)])) : we (slim G (some (.val (.ref (G ++ J).length), (G ++ J) ++ [.ins c (netFs s cs)]))) Q := by
  rw [slim_new (o := .ins c (netFs s cs)) (by rw [List.append_assoc]; exact .app) (by simp) (by simp) netFs_bw, List.append_assoc, List.take_left' rfl]
  exact (we_some _ _).mpr h
end FI.K01
set_option maxRecDepth 100000
set_option maxHeartbeats 4000000
namespace FI.K01
open PySem L2 PySem.Spec PyProof.Rows FI
theorem fld_at {G : Hh} {n c k : Nat} {cs : List Nat} {fs : List (Nat × D)} {d : D} (h : G[n]? = some (.ins c fs)) (hc : c ∈ cs) (hk : fs.lookup k = some d) : dFld cs k (.ref n) G = some (.val d, G) := by
  unfold dFld
  dsimp only
  rw [h]
  dsimp only
  rw [if_pos hc, hk]
theorem meth_at {tab : List (Nat × Fn)} {F : Fn} {fo : SE} {fa : SA} {gs : Sg} {G : Hh} {n c : Nat} {fs : List (Nat × D)} {ds : List D} (ho : fo gs G = some (.val (.ref n), G)) (hn : G[n]? = some (.ins c fs)) (ht : tab.lookup c = some F) (ha : fa gs G = some (.val ds, G)) : eMeth tab fo fa gs G = F (.ref n :: ds) G := by
  unfold eMeth
  rw [ho, bnd_val]
  dsimp only
  rw [hn]
  dsimp only
  rw [ht]
  dsimp only
  rw [ha, bnd_val]
theorem eOp_of {f : D → D → Mm D} {fa fb : SE} {gs : Sg} {G G1 G2 : Hh} {d e : D} {r : Option (Rs D × Hh)} (h1 : fa gs G = some (.val d, G1)) (h2 : fb gs G1 = some (.val e, G2)) (h3 : f d e G2 = r) : eOp f fa fb gs G = r := by
  unfold eOp
  rw [h1, bnd_val, h2, bnd_val, h3]
theorem eUn_of {f : D → Mm D} {fa : SE} {gs : Sg} {G G1 : Hh} {d : D} {r : Option (Rs D × Hh)} (h1 : fa gs G = some (.val d, G1)) (h3 : f d G1 = r) : eUn f fa gs G = r := by
  unfold eUn
  rw [h1, bnd_val, h3]
theorem var_of {i : Nat} {gs : Sg} {G : Hh} {d : D} (h : gs[i]? = some (some d)) : eVar i gs G = some (.val d, G) := we_eq (by simp [we_eVar, h])
theorem ws_tryN {ct : List (Nat × Bool)} {i : Nat} {fb : SS} {fsu : Exc → SS} {gs gs1 : Sg} {G G1 : Hh} {R : Fl → Sg → Hh → Prop} (h : ws (fb gs G) fun fl gs' G' => fl = .nx ∧ gs' = gs1 ∧ G' = G1) (k : R .nx gs1 G1) : ws (sTryAs ct i fb fsu gs G) R := by
  obtain ⟨fl, gs', G', e, rfl, rfl, rfl⟩ := h
  unfold sTryAs
  rw [e]
  exact (ws_some _ _ _).mpr k
theorem ws_tryX {ct : List (Nat × Bool)} {i : Nat} {fb : SS} {fsu : Exc → SS} {gs gs1 : Sg} {G G1 : Hh} {x : Exc} {R : Fl → Sg → Hh → Prop} (h : ws (fb gs G) fun fl gs' G' => fl = .ex x ∧ gs' = gs1 ∧ G' = G1) (hc : ct.lookup x.c = some true) (hi : i < gs1.length) (k : ws (fsu x (gs1.set i none) G1) fun fl gs' G' => match fl with
    | .ex _ => False
    | fl => R fl (gs'.set i none) G') : ws (sTryAs ct i fb fsu gs G) R := by
  obtain ⟨fl, gs', G', e, rfl, rfl, rfl⟩ := h
  unfold sTryAs
  rw [e]
  dsimp only
  rw [hc]
  dsimp only
  rw [if_pos hi]
  obtain ⟨fl, gs2, G2, e2, q⟩ := k
  rw [e2]
  cases fl with
  | ex x => exact q.elim
  | nx => exact ⟨_, _, _, rfl, q⟩
  | rt d => exact ⟨_, _, _, rfl, q⟩
  | bk => exact ⟨_, _, _, rfl, q⟩
  | ct => exact ⟨_, _, _, rfl, q⟩
theorem isx_of {gs : Sg} {G : Hh} {x : Exc} {d : D} {n : Nat} {cc : CC} {b : Bool} (hx : x.c = n) (hm : n ∈ xkt.map (·.1.1)) (h : ccD d = some cc) (hl : xkt.lookup (n, cc) = some b) : eIsX xkt x (eC d) gs G = some (.val (.bl b), G) := by
  subst hx
  unfold eIsX
  rw [if_pos hm]
  show bnd (some (.val d, G)) _ = _
  rw [bnd_val, h]
  dsimp only
  rw [hl]
theorem xf_of {gs : Sg} {G : Hh} {x : Exc} {cs : List Nat} {k n : Nat} {d : D} (hx : x.c = n) (hm : n ∈ cs) (hl : x.fs.lookup k = some d) : eXf cs k x gs G = some (.val d, G) := by
  subst hx
  unfold eXf
  rw [if_pos hm, hl]
theorem call_of {F : Fn} {fa : SA} {ds : List D} {gs : Sg} {G G1 : Hh} {r : Option (Rs D × Hh)} (ha : fa gs G = some (.val ds, G1)) (hF : F ds G1 = r) : eCall F fa gs G = r := by
  unfold eCall eArgs
  rw [ha, bnd_val, hF]
theorem fa_consG {fe : SE} {fa : SA} {gs : Sg} {G G1 G2 : Hh} {d : D} {ds : List D} (he : fe gs G = some (.val d, G1)) (ha : fa gs G1 = some (.val ds, G2)) : aCons fe fa gs G = some (.val (d :: ds), G2) := by
  unfold aCons
  rw [he, bnd_val, ha, bnd_val]
theorem tb_of {f : SE} {gs : Sg} {G G1 : Hh} {b : Bool} (h : f gs G = some (.val (.bl b), G1)) : tB f gs G = some (.val b, G1) := we_eq (by rw [we_tB]; refine we_of h ?_; rw [onR_val, asB_bl]; exact ⟨rfl, rfl⟩)
theorem tn_of {f : ST} {gs : Sg} {G G1 : Hh} {b : Bool} (h : f gs G = some (.val b, G1)) : tNot' f gs G = some (.val (!b), G1) := we_eq (by rw [we_tNot]; refine we_of h ?_; rw [onR_val]; exact ⟨rfl, rfl⟩)
theorem tor_of {f h : ST} {gs : Sg} {G G1 G2 : Hh} {b : Bool} (h1 : f gs G = some (.val false, G1)) (h2 : h gs G1 = some (.val b, G2)) : tOr' f h gs G = some (.val b, G2) := we_eq (by rw [we_tOr]; refine we_of h1 ?_; rw [onR_val, if_neg Bool.false_ne_true]; exact we_of h2 ⟨rfl, rfl⟩)
def Plain : D → Prop
  | .int _ => True
  | .bl _ => True
  | .non => True
  | .str x => PyData.canLay0 (.str x) = true
  | _ => False
theorem eqv_str {x y : Str} : PyData.eqv (.str x) (.str y) = decide (x = y) := by
  unfold PyData.eqv
  by_cases h : x = y <;> simp [h]
theorem same_ok {d : D} (h : Plain d) (G : Hh) : F__law_same [d, d] G = some (.val (.bl true), G) := by
  refine we_eq (we_fn rfl ?_)
  cases d with
  | int i => simp [b__law_same, start0, N__law_same, we_eVar, dIs, D.isN, D.isB]
  | bl b => cases b <;> simp [b__law_same, start0, N__law_same, we_eVar, dIs, D.isN, D.isB]
  | non => simp [b__law_same, start0, N__law_same, we_eVar, dIs, D.isN, D.isB]
  | str x =>
    have w1 : PyData.canLay0 (.str x) = true := h
    have e1 : bIsi kt (.str x) (.ty "str") G = some (.val (.bl true), G) := rfl
    have e2 : dEqv false (.str x) (.str x) G = some (.val (.bl true), G) := by
      rw [eqv_rp (neg := false) (Rp.str w1) (Rp.str w1), eqv_str]
      simp
    simp [b__law_same, start0, N__law_same, we_eVar, dIs, D.isN, D.isB, e1, e2]
  | _ => exact h.elim
structure SeqAt (G : Hh) (d : D) (ds : List D) : Prop where
  len : bLen d G = some (.val (.int ds.length), G)
  ix : ∀ (i : Nat) (h : i < ds.length), dIx d (.int (i : Int)) G = some (.val ds[i], G)
theorem seq_ref {G : Hh} {r : Nat} {ds : List D} (h : G[r]? = some (.lst ds)) : SeqAt G (.ref r) ds := ⟨we_eq (by simp [h]), fun i hi => we_eq (by rw [we_ixR, h, asO_some, ixO_lst, atI_nat (by omega), show ((i : Int)).toNat = i from rfl, List.getElem?_eq_getElem hi]; exact ⟨rfl, rfl⟩)⟩
theorem seq_tup {G : Hh} {ds : List D} : SeqAt G (.tup ds) ds := ⟨rfl, fun i hi => we_eq (by rw [we_ixT, atI_nat (by omega), show ((i : Int)).toNat = i from rfl, List.getElem?_eq_getElem hi]; exact ⟨rfl, rfl⟩)⟩
theorem rows_ok {F : Fn} {b : SS} {ds es : List D} {due : D} {G : Hh} {fs : SA} (hs : SeqAt G due es) (hl : ds.length ≤ 1000) (hle : ds.length = es.length) (hF : ∀ i (h : i < ds.length) (h2 : i < es.length), F [ds[i], es[i]] G = some (.val (.bl true), G)) :
    ws (bSeq (sIf (tOr' (tNot' (tB (eArgs (d2 (bIsi kt)) (aCons (eVar 0) (aCons (eC (.ty "tuple")) aNil))))) (tB (eOp (dEqv true) (eArgs (d1 bLen) (aCons (eVar 0) aNil)) (eArgs (d1 bLen) (aCons (eVar 1) aNil))))) (bSeq (sRet (eC (.bl false))) bNil) bNil) (bSeq (sFor (wRng1 (aCons (eArgs (d1 bLen) (aCons (eVar 1) aNil)) aNil)) (gNm 2) (bSeq (sIf (tNot' (tB (eCall F (aCons (eOp dIx (eVar 0) (eVar 2)) (aCons (eOp dIx (eVar 1) (eVar 2)) aNil))))) (bSeq (sRet (eC (.bl false))) bNil) bNil) bNil)) (bSeq (sRet (eC (.bl true))) bNil)) [some (.tup ds), some due, none] G) fun fl gs G' => fl = .rt (.bl true) ∧ G' = G := by
  have hlen := hs.len
  refine ws_cut (fun gs G' => gs = [some (.tup ds), some due, none] ∧ G' = G) (by simp [we_eVar, hlen, hle]) ?_
  rintro gs0 G0 ⟨rfl, rfl⟩
  refine ws_cut (fun gs G' => ∃ o : Option D, gs = [some (.tup ds), some due, o] ∧ G' = G0) ?_ ?_
  · refine ws_sFor (wRng1_eq (j := (es.length : Int)) (G1 := G0) (we_eq (by simp [we_eVar, hlen])) (by omega)) (fun i gs G' => ∃ o : Option D, gs = [some (.tup ds), some due, o] ∧ G' = G0) ⟨none, rfl, rfl⟩ (fun _ _ _ _ _ => trivial) ?_ ?_
    · rintro i hi gs G' ⟨o, rfl, rfl⟩
      have hi' : i < es.length := by rw [rngD_length] at hi; omega
      rw [rngD_get hi]
      simp only [Int.zero_add]
      rw [asO_gNm]
      have hx1 := (seq_tup (G := G') (ds := ds)).ix i (by omega)
      have hx2 := hs.ix i hi'
      have hf := hF i (by omega) hi'
      refine ws_mono (R' := fun fl gs G'' => fl = .nx ∧ gs = [some (.tup ds), some due, some (.int (i : Int))] ∧ G'' = G') (by simp [we_eVar, hx1, hx2, hf, -we_ixT, -we_ixR]) ?_
      rintro _ _ _ ⟨rfl, rfl, rfl⟩
      exact ⟨_, rfl, rfl⟩
    · rintro gs G' ⟨o, rfl, rfl⟩
      exact ⟨rfl, o, rfl, rfl⟩
  rintro gs0 G1 ⟨o, rfl, rfl⟩
  simp
theorem same_row_ok {ds : List D} {due : D} {G : Hh} (hs : SeqAt G due ds) (hl : ds.length ≤ 1000) (hp : ∀ d ∈ ds, Plain d) : F__law_same_row [.tup ds, due] G = some (.val (.bl true), G) := by
  refine we_eq (we_fn rfl ?_)
  refine ws_mono (rows_ok (b := b__law_same_row) (fs := aNil) hs hl rfl fun i h h2 => same_ok (hp _ (List.getElem_mem h)) G) ?_
  rintro _ gs G' ⟨rfl, rfl⟩
  show we (slim G' _) _
  rw [slim_same]
  exact (we_some _ _).mpr ⟨rfl, rfl⟩
theorem same_rows_ok {rows : List (List D)} {due : D} {G : Hh} (hs : SeqAt G due (rows.map D.tup)) (hl : rows.length ≤ 1000) (hp : ∀ r ∈ rows, r.length ≤ 1000 ∧ ∀ d ∈ r, Plain d) : F__law_same_rows [.tup (rows.map D.tup), due] G = some (.val (.bl true), G) := by
  refine we_eq (we_fn rfl ?_)
  refine ws_mono (rows_ok (b := b__law_same_rows) (fs := aNil) hs (by rw [List.length_map]; exact hl) rfl fun i h h2 => ?_) ?_
  · rw [List.length_map] at h
    obtain ⟨p1, p2⟩ := hp _ (List.getElem_mem h)
    rw [List.getElem_map]
    exact same_row_ok seq_tup p1 p2
  rintro _ gs G' ⟨rfl, rfl⟩
  show we (slim G' _) _
  rw [slim_same]
  exact (we_some _ _).mpr ⟨rfl, rfl⟩
def NetAt (G : Hh) (n c : Nat) (m : Int) (cs : List Tr) : Prop := (c = 8 ∨ c = 9) ∧ G[n]? = some (.ins c (netFs m cs))
theorem netFs7 {m : Int} {cs : List Tr} : (netFs m cs).lookup 7 = some (.int m) := rfl
theorem netFs5 {m : Int} {cs : List Tr} : (netFs m cs).lookup 5 = some (.tup (cs.map tT)) := rfl
theorem cIns_of {G : Hh} {n c : Nat} {m : Int} {cs : List Tr} (h : NetAt G n c m cs) : c ∈ cIns := by rcases h.1 with h | h <;> rw [h] <;> decide
theorem slim_app {d : D} {J : Hh} {Q : Rs D → Hh → Prop} (hd : ∀ m, d ≠ .ref m) (hb : d.bw G.length = true) (h : Q (.val d) G) : we (slim G (some (.val d, G ++ J))) Q := by
  rw [slim_old hd hb .app, List.take_left' rfl]
  exact (we_some _ _).mpr h
def onTr (q : Tr → Bool) (f : Tr → D) : D → Option D
  | .tup [.int a, .int b, .int c] => if q (a, b, c) = true then some (f (a, b, c)) else none
  | _ => none
theorem onTr_map {q : Tr → Bool} {f : Tr → D} : ∀ l : List Tr, (l.map tT).filterMap (onTr q f) = (l.filter q).map f
  | [] => rfl
  | x :: l => by
    rw [List.map_cons, List.filterMap_cons, List.filter_cons]
    by_cases h : q x = true
    · rw [if_pos h, show onTr q f (tT x) = some (f x) from if_pos h, List.map_cons, onTr_map l]
    · rw [if_neg h, show onTr q f (tT x) = none from if_neg h, onTr_map l]
theorem we_lcTr {fw : SW} {t : GT} {tt : ST} {fe : SE} {own : List Nat} {gs : Sg} {G G1 : Hh} {Q : Rs D → Hh → Prop} {cs : List Tr} {gd : Hh → Prop} (hw : fw gs G = some (.val (cs.map tT, gd), G1)) (hg : ∀ acc, gd (G1 ++ [.lst acc])) (hk : cs.length ≤ 100000) (q : Tr → Bool) (f : Tr → D)
    (hs : ∀ c ∈ cs, ∀ acc, asO (t (tT c) (wipeG gs own) (G1 ++ [.lst acc])) fun p => p.2 = G1 ++ [.lst acc] ∧ we (tt p.1 (G1 ++ [.lst acc])) fun r G2 => r = .val (q c) ∧ G2 = G1 ++ [.lst acc] ∧ (q c = true → fe p.1 (G1 ++ [.lst acc]) = some (.val (f c), G1 ++ [.lst acc])))
    (he : Q (.val (.ref G1.length)) (G1 ++ [.lst ((cs.filter q).map f)])) : we (eLc fw t tt fe own gs G) Q := by
  refine we_eLcP hw (onTr q f) (by rw [List.length_map]; exact hk) hg ?_ (by rw [onTr_map]; exact he)
  intro d hd acc
  obtain ⟨c, hc, rfl⟩ := List.mem_map.mp hd
  have z := hs c hc acc
  cases e : t (tT c) (wipeG gs own) (G1 ++ [.lst acc]) with
  | none => rw [e] at z; exact z.elim
  | some p =>
    rw [e] at z
    obtain ⟨hp, z⟩ := z
    refine ⟨hp, ?_⟩
    rw [hp]
    refine we_mono z fun r G2 q3 => ?_
    obtain ⟨rfl, rfl, q4⟩ := q3
    refine ⟨rfl, ?_⟩
    split
    · rename_i hq
      exact we_of (q4 hq) ⟨if_pos hq, rfl⟩
    · rename_i hq
      exact if_neg hq
end FI.K01
set_option maxRecDepth 100000
set_option maxHeartbeats 4000000
namespace FI.K01
open PySem L2 PySem.Spec PyProof.Rows FI
def nS (i : Int) : Str := PySem.Str.ofString (toString i)
theorem nS_lay {i : Int} (h : 0 ≤ i) : PyData.canLay0 (.str (nS i)) = true := by
  obtain ⟨m, rfl⟩ : ∃ m : Nat, i = Int.ofNat m := ⟨i.toNat, by show i = ((i.toNat : Nat) : Int); omega⟩
  unfold nS
  rw [PyProof.Rows.text_ofNat]
  show Array.all _ _ = true
  rw [List.all_toArray, List.all_map]
  refine List.all_eq_true.mpr fun c _ => ?_
  have h1 : c.toNat < 0x110000 := by
    rcases c.valid with h | h
    · show c.val.toNat < _; omega
    · show c.val.toNat < _; omega
  exact decide_eq_true h1
theorem nS_len {i : Int} (h : 0 ≤ i) (h1 : i < 10 ^ 10) : (nS i).length ≤ 10 := PyProof.Rows.toString_length_le h (by omega) h1
theorem lay_app {a b : Str} (ha : PyData.canLay0 (.str a) = true) (hb : PyData.canLay0 (.str b) = true) : PyData.canLay0 (.str (a ++ b)) = true := by
  show Array.all (a ++ b).cps _ = true
  rw [PySem.Str.cps_append, Array.all_append]
  exact Bool.and_eq_true_iff.mpr ⟨ha, hb⟩
theorem log_of {i : Int} (h : 0 ≤ i) (h1 : i < 10 ^ 10) : i.natAbs.log2 < 1900 := by
  by_cases h0 : i.natAbs = 0
  · rw [h0]; decide
  · have : i.natAbs < 2 ^ 40 := by omega
    have := (Nat.log2_lt h0).mpr this
    omega
theorem bStr_int {i : Int} (h : 0 ≤ i) (h1 : i < 10 ^ 10) (G : Hh) : bStr (.int i) G = some (.val (.str (nS i)), G) := by
  unfold bStr
  dsimp only
  rw [if_pos (log_of h h1)]
  rfl
theorem fmt_of {f : SE} {gs : Sg} {G : Hh} {i : Int} (hf : f gs G = some (.val (.int i), G)) (h : 0 ≤ i) (h1 : i < 10 ^ 10) : eFmt f gs G = some (.val (.str (nS i)), G) := by
  unfold eFmt
  rw [hf, bnd_val]
  unfold fmtS
  dsimp only
  rw [if_pos (log_of h h1)]
  rfl
theorem jS_cons {f : SE} {fs : List SE} {acc y : Str} {gs : Sg} {G : Hh} {r : Option (Rs D × Hh)} (h : f gs G = some (.val (.str y), G)) (hl : (acc ++ y).length ≤ 100000) (k : jS fs (acc ++ y) gs G = r) : jS (f :: fs) acc gs G = r := by
  rw [jS, h, bnd_val]
  dsimp only
  rw [if_pos hl, k]
theorem cat_str {x y : Str} {G : Hh} (h : x.length + y.length ≤ 100000) : dAdd (.str x) (.str y) G = some (.val (.str (x ++ y)), G) := by
  unfold dAdd dCatS
  dsimp only
  rw [if_pos h]
theorem len_app {x y : Str} {a b : Nat} (h1 : x.length ≤ a) (h2 : y.length ≤ b) : (x ++ y).length ≤ a + b := by
  rw [PySem.Str.length_append]; omega
def slo (cs : List Tr) : Int := (cs.map fun c => c.2.2).sum
theorem slo_rg {m : Int} : ∀ {cs : List Tr}, (∀ c ∈ cs, OkC m c) → 0 ≤ slo cs ∧ slo cs ≤ 999 * cs.length
  | [], _ => by simp [slo]
  | c :: cs, h => by
    have ih := slo_rg (cs := cs) fun d hd => h d (List.mem_cons_of_mem _ hd)
    obtain ⟨-, -, -, -, -, h6, h7⟩ := h c (List.mem_cons_self ..)
    have e : slo (c :: cs) = c.2.2 + slo cs := by simp [slo]
    rw [e, List.length_cons]
    omega
theorem ints_map : ∀ l : List Int, intsOf (l.map .int) = some l
  | [] => rfl
  | x :: l => by
    show (intsOf (l.map .int)).map (x :: ·) = _
    rw [ints_map l]
    rfl
theorem bSum_at {l : List Int} {G : Hh} {r : Nat} (h : G[r]? = some (.lst (l.map .int))) : bSum (.ref r) G = some (.val (.int l.sum), G) := by
  unfold bSum itemsD
  dsimp only
  rw [h]
  dsimp only
  rw [ints_map]
section
variable {m : Int} {cs : List Tr} {c n : Nat} {G : Hh}
theorem slots_ok (h : NetAt G n c m cs) (hl : cs.length ≤ 120) : mkFn 1 N_Net_slots.length b_Net_slots [.ref n] G = some (.val (.int (slo cs)), G) := by
  have f5 := fld_at (cs := cIns) h.2 (cIns_of h) netFs5
  refine we_eq (we_fn rfl ?_)
  unfold b_Net_slots
  refine ws_retE ?_
  rw [we_eArgs, we_aCons]
  refine we_lcTr (cs := cs) (gd := anyH) (G1 := G) (wSeq_tup (eUn_of (var_of rfl) f5)) (fun _ => trivial) (by omega) (fun _ => true) (fun c => .int c.2.2) ?_ ?_
  · intro d hd acc
    rw [asO_gNm]
    refine ⟨rfl, ?_⟩
    rw [we_tTrue]
    exact ⟨rfl, rfl, fun _ => we_eq (by simp [wipeG, start0, N_Net_slots, we_eVar])⟩
  · rw [List.filter_eq_self.mpr (fun _ _ => rfl), onR_val, we_aNil, onR_val, onR_val, d1_one]
    rw [show cs.map (fun c => D.int c.2.2) = (cs.map fun c => c.2.2).map .int by rw [List.map_map]; rfl, bSum_at (l := cs.map fun c => c.2.2) (r := G.length) (by simp), we_some, onR_val]
    show we (slim G _) _
    exact slim_app (fun _ z => nomatch z) rfl ⟨rfl, rfl⟩
theorem slots_of (h : NetAt G n c m cs) (hl : cs.length ≤ 120) {gs : Sg} {i : Nat} (hg : gs[i]? = some (some (.ref n))) : ePropT Tp_slots (eVar i) gs G = some (.val (.int (slo cs)), G) := by
  have e := slots_ok h hl
  obtain ⟨hc, hn⟩ := h
  unfold ePropT
  rw [var_of hg, bnd_val]
  dsimp only
  rw [hn]
  dsimp only
  have : Tp_slots.lookup c = some (mkFn 1 N_Net_slots.length b_Net_slots) := by rcases hc with rfl | rfl <;> rfl
  rw [this]
  dsimp only
  rw [e]
def smm (k : Str) (m : Int) (cs : List Tr) : Str := k ++ nS m ++ " stages, " ++ nS cs.length ++ " channels, " ++ nS (slo cs) ++ " slots"
theorem sm_lits : ("ring of " : Str).length = 8 ∧ ("pipeline of " : Str).length = 12 ∧ (" stages, " : Str).length = 9 ∧ (" channels, " : Str).length = 11 ∧ (" slots" : Str).length = 6 := by decide +kernel
theorem sm_lay : ∀ x ∈ (["ring of ", "pipeline of ", " stages, ", " channels, ", " slots"] : List Str), PyData.canLay0 (.str x) = true := by decide +kernel
structure NumOk (m : Int) (cs : List Tr) : Prop where
  m0 : 0 ≤ m
  m1 : m < 10 ^ 10
  s0 : 0 ≤ slo cs
  s1 : slo cs < 10 ^ 10
  l1 : cs.length ≤ 120
theorem smm_lay {k : Str} (hk : PyData.canLay0 (.str k) = true) (h : NumOk m cs) : PyData.canLay0 (.str (smm k m cs)) = true := by
  have l := sm_lay
  unfold smm
  exact lay_app (lay_app (lay_app (lay_app (lay_app (lay_app hk (nS_lay h.m0)) (l _ (by simp))) (nS_lay (by omega))) (l _ (by simp))) (nS_lay h.s0)) (l _ (by simp))
theorem summary0_ok (h : NetAt G n c m cs) (q : NumOk m cs) : F_Net_summary [.ref n] G = some (.val (.str (smm PySem.Str.empty m cs)), G) := by
  have f5 := fld_at (cs := cIns) h.2 (cIns_of h) netFs5
  have f7 := fld_at (cs := cIns) h.2 (cIns_of h) netFs7
  obtain ⟨a1, a2, a3, a4, a5⟩ := sm_lits
  have n1 := nS_len q.m0 q.m1
  have n2 := nS_len (i := cs.length) (by omega) (by have := q.l1; omega)
  have n3 := nS_len q.s0 q.s1
  have l0 : (PySem.Str.empty).length ≤ 0 := Nat.le_of_eq rfl
  have l1 := len_app l0 n1
  have l2 := len_app l1 (Nat.le_of_eq a3)
  have l3 := len_app l2 n2
  have l4 := len_app l3 (Nat.le_of_eq a4)
  have l5 := len_app l4 n3
  have l6 := len_app l5 (Nat.le_of_eq a5)
  refine we_eq (we_fn rfl ?_)
  unfold b_Net_summary
  refine ws_retE (we_of (r := .val (.str (smm PySem.Str.empty m cs))) (G := G) ?_ ?_)
  · have g0 : ∀ x : D, (start0 N_Net_summary.length [.ref n])[0]? = some (some (.ref n)) := fun _ => rfl
    refine jS_cons (fmt_of (eUn_of (var_of (g0 .non)) f7) q.m0 q.m1) (by omega) ?_
    refine jS_cons rfl (by omega) ?_
    refine jS_cons (fmt_of (i := cs.length) (we_eq (by simp [we_eVar, start0, N_Net_summary, f5])) (by omega) (by have := q.l1; omega)) (by omega) ?_
    refine jS_cons rfl (by omega) ?_
    refine jS_cons (fmt_of (slots_of h q.l1 (g0 .non)) q.s0 q.s1) (by omega) ?_
    refine jS_cons rfl (by omega) ?_
    rfl
  rw [onR_val]
  show we (slim G _) _
  rw [slim_same]
  exact (we_some _ _).mpr ⟨rfl, rfl⟩
def kdS (r : Bool) : Str := if r = true then "ring of " else "pipeline of "
theorem smm_app {k : Str} : k ++ smm PySem.Str.empty m cs = smm k m cs := by
  unfold smm
  simp only [PySem.Str.append_assoc, PySem.Str.empty_append]
theorem smm0_len (q : NumOk m cs) : (smm PySem.Str.empty m cs).length ≤ 100 := by
  obtain ⟨a1, a2, a3, a4, a5⟩ := sm_lits
  have n1 := nS_len q.m0 q.m1
  have n2 := nS_len (i := cs.length) (by omega) (by have := q.l1; omega)
  have n3 := nS_len q.s0 q.s1
  have l0 : (PySem.Str.empty).length ≤ 0 := Nat.le_of_eq rfl
  have l1 := len_app (len_app (len_app (len_app (len_app (len_app l0 n1) (Nat.le_of_eq a3)) n2) (Nat.le_of_eq a4)) n3) (Nat.le_of_eq a5)
  exact Nat.le_trans l1 (by omega)
theorem sup_of {i cn : Nat} {F : Fn} {fs : List (Nat × D)} {gs : Sg} {d : D} (hg : gs[i]? = some (some (.ref n))) (hn : G[n]? = some (.ins cn fs)) (hF : F [.ref n] G = some (.val d, G)) : eSup i [(cn, F)] gs G = some (.val d, G) := by
  unfold eSup
  rw [hg]
  dsimp only
  rw [hn]
  dsimp only
  rw [show [(cn, F)].lookup cn = some F from by simp]
  exact hF
theorem summary_ok {r : Bool} (h : NetAt G n (if r = true then 9 else 8) m cs) (q : NumOk m cs) {gs : Sg} {i : Nat} (hg : gs[i]? = some (some (.ref n))) : eMeth T_summary (eVar i) aNil gs G = some (.val (.str (smm (kdS r) m cs)), G) := by
  have e0 := summary0_ok h q
  have hl := smm0_len q
  obtain ⟨a1, a2, a3, a4, a5⟩ := sm_lits
  cases r with
  | true =>
    rw [meth_at (ds := []) (n := n) (var_of hg) h.2 (F := F_Ring_summary) rfl rfl]
    refine we_eq (we_fn rfl ?_)
    unfold b_Ring_summary
    refine ws_retE (we_of (r := .val (.str (smm (kdS true) m cs))) (G := G) (eOp_of (d := .str "ring of ") (e := .str (smm PySem.Str.empty m cs)) (G1 := G) (G2 := G) rfl (sup_of rfl h.2 e0) ?_) ?_)
    · rw [cat_str (by omega), smm_app]; rfl
    rw [onR_val]
    show we (slim G _) _
    rw [slim_same]
    exact (we_some _ _).mpr ⟨rfl, rfl⟩
  | false =>
    rw [meth_at (ds := []) (n := n) (var_of hg) h.2 (F := F_Pipeline_summary) rfl rfl]
    refine we_eq (we_fn rfl ?_)
    unfold b_Pipeline_summary
    refine ws_retE (we_of (r := .val (.str (smm (kdS false) m cs))) (G := G) (eOp_of (d := .str "pipeline of ") (e := .str (smm PySem.Str.empty m cs)) (G1 := G) (G2 := G) rfl (sup_of rfl h.2 e0) ?_) ?_)
    · rw [cat_str (by omega), smm_app]; rfl
    rw [onR_val]
    show we (slim G _) _
    rw [slim_same]
    exact (we_some _ _).mpr ⟨rfl, rfl⟩
theorem is_ring_ok {r : Bool} (h : NetAt G n (if r = true then 9 else 8) m cs) {gs : Sg} {i : Nat} (hg : gs[i]? = some (some (.ref n))) : eMeth T_is_ring (eVar i) aNil gs G = some (.val (.bl r), G) := by
  cases r with
  | true =>
    rw [meth_at (ds := []) (n := n) (var_of hg) h.2 (F := F_Ring_is_ring) rfl rfl]
    exact we_eq (we_fn rfl (by simp [b_Ring_is_ring, start0, N_Ring_is_ring]))
  | false =>
    rw [meth_at (ds := []) (n := n) (var_of hg) h.2 (F := F_Pipeline_is_ring) rfl rfl]
    exact we_eq (we_fn rfl (by simp [b_Pipeline_is_ring, start0, N_Pipeline_is_ring]))
end
theorem isi_net {n c : Nat} {m : Int} {cs : List Tr} {G : Hh} (h : NetAt G n c m cs) : bIsi kt (.ref n) (.glb "Net") G = some (.val (.bl true), G) := by
  unfold bIsi tcD
  dsimp only
  rw [h.2]
  rcases h.1 with rfl | rfl <;> rfl
def trL (c : Tr) : List D := [.int c.1, .int c.2.1, .int c.2.2]
theorem kd_lay : ∀ r, PyData.canLay0 (.str (kdS r)) = true
  | false => sm_lay "pipeline of " (by simp)
  | true => sm_lay "ring of " (by simp)
section
variable {m m2 : Int} {cs cs2 : List Tr} {c c2 n n2 : Nat} {G : Hh}
theorem eqT {cs ds : List Tr} (G : Hh) : dEqv false (.tup (cs.map tT)) (.tup (ds.map tT)) G = some (.val (.bl (decide (cs = ds))), G) := by
  have q := QE.t3 QE.int QE.int QE.int
  have := eqv_rp (neg := false) (G := G) (Rp.tup (RpAll.mapQ (xs := cs) q (by omega) (List.all_eq_true.mpr fun _ _ => rfl))) (Rp.tup (RpAll.mapQ (xs := ds) q (by omega) (List.all_eq_true.mpr fun _ _ => rfl)))
  refine Eq.trans this ?_
  rw [show PyData.eqv (.tuple (cs.map fun a => PyData.tuple [PyData.int a.1, PyData.int a.2.1, PyData.int a.2.2])) (.tuple (ds.map fun a => PyData.tuple [PyData.int a.1, PyData.int a.2.1, PyData.int a.2.2])) = PyData.eqvAll (cs.map fun a => PyData.tuple [PyData.int a.1, PyData.int a.2.1, PyData.int a.2.2]) (ds.map fun a => PyData.tuple [PyData.int a.1, PyData.int a.2.1, PyData.int a.2.2]) from by rw [PyData.eqv]]
  rw [eqvAll_map q]
  simp
theorem net_eq_ok (h1 : NetAt G n c m cs) (h2 : NetAt G n2 c2 m2 cs2) : F_Net_eq [.ref n, .ref n2] G = some (.val (.bl (decide (m = m2) && decide (cs = cs2))), G) := by
  have f5 := fld_at (cs := cIns) h1.2 (cIns_of h1) netFs5
  have f7 := fld_at (cs := cIns) h1.2 (cIns_of h1) netFs7
  have g5 := fld_at (cs := cIns) h2.2 (cIns_of h2) netFs5
  have g7 := fld_at (cs := cIns) h2.2 (cIns_of h2) netFs7
  have i1 := isi_net h2
  have e := eqT (cs := cs) (ds := cs2) G
  refine we_eq (we_fn rfl ?_)
  by_cases h : m = m2
  · simp [b_Net_eq, start0, N_Net_eq, we_eVar, f5, f7, g5, g7, i1, e, h]
  · simp [b_Net_eq, start0, N_Net_eq, we_eVar, f5, f7, g5, g7, i1, e, h]
theorem eqo_ok (h1 : NetAt G n c m cs) (h2 : NetAt G n2 c2 m2 cs2) : dEqO T_eq ot_eq (.ref n) (.ref n2) G = some (.val (.bl (decide (m = m2) && decide (cs = cs2))), G) := by
  have e := net_eq_ok h1 h2
  have hc1 := h1.1
  have hc2 := h2.1
  unfold dEqO
  dsimp only
  rw [h1.2]
  dsimp only
  have t : tcD G (.ref n2) = some (.o c2) := by
    unfold tcD
    dsimp only
    rw [h2.2]
  have l : T_eq.lookup c = some F_Net_eq := by rcases hc1 with rfl | rfl <;> rfl
  rw [l, t]
  dsimp only
  rw [if_pos (by rcases hc1 with rfl | rfl <;> rcases hc2 with rfl | rfl <;> decide), e]
end
end FI.K01
set_option maxRecDepth 100000
set_option maxHeartbeats 4000000
namespace FI.K01
open PySem L2 PySem.Spec PyProof.Rows FI
def CapD : D → Prop
  | .int _ => True
  | .bl _ => True
  | .non => True
  | .str _ => True
  | .tup [.int _] => True
  | _ => False
def goodC : D → Bool
  | .int i => decide (1 ≤ i) && decide (i ≤ 999)
  | _ => false
theorem goodC_int {d : D} (h : goodC d = true) : ∃ i : Int, d = .int i ∧ 1 ≤ i ∧ i ≤ 999 := by
  cases d with
  | int i =>
    have h' : (decide (1 ≤ i) && decide (i ≤ 999)) = true := h
    simp at h'
    exact ⟨i, rfl, h'⟩
  | _ => exact nomatch h
theorem law_cap_ok {d : D} (h : CapD d) (G : Hh) : F__law_is_capacity [d] G = some (.val (.bl (goodC d)), G) := by
  refine we_eq (we_fn rfl ?_)
  cases d with
  | int i =>
    by_cases h1 : 1 ≤ i
    · by_cases h2 : i ≤ 999 <;> simp [b__law_is_capacity, start0, N__law_is_capacity, we_eVar, goodC, h1, h2]
    · simp [b__law_is_capacity, start0, N__law_is_capacity, we_eVar, goodC, h1]
  | bl b => simp [b__law_is_capacity, start0, N__law_is_capacity, we_eVar, goodC]
  | non => simp [b__law_is_capacity, start0, N__law_is_capacity, we_eVar, goodC]
  | str x => simp [b__law_is_capacity, start0, N__law_is_capacity, we_eVar, goodC]
  | tup xs => simp [b__law_is_capacity, start0, N__law_is_capacity, we_eVar, goodC]
  | _ => exact h.elim
theorem net_cap_ok {d : D} (h : CapD d) (G : Hh) : F_Net_is_capacity [d] G = some (.val (.bl (goodC d)), G) := by
  have hi : F_is_integer [d] G = some (.val (.bl (match d with | .int _ => true | _ => false)), G) := by
    refine we_eq (we_fn rfl ?_)
    cases d with
    | int i => simp [b_is_integer, start0, N_is_integer, we_eVar]
    | bl b => simp [b_is_integer, start0, N_is_integer, we_eVar]
    | non => simp [b_is_integer, start0, N_is_integer, we_eVar]
    | str x => simp [b_is_integer, start0, N_is_integer, we_eVar]
    | tup xs => simp [b_is_integer, start0, N_is_integer, we_eVar]
    | _ => exact h.elim
  refine we_eq (we_fn rfl ?_)
  cases d with
  | int i =>
    by_cases h1 : 1 ≤ i
    · by_cases h2 : i ≤ 999 <;> simp [b_Net_is_capacity, start0, N_Net_is_capacity, we_eVar, goodC, h1, h2, hi]
    · simp [b_Net_is_capacity, start0, N_Net_is_capacity, we_eVar, goodC, h1, hi]
  | bl b => simp [b_Net_is_capacity, start0, N_Net_is_capacity, we_eVar, goodC, hi]
  | non => simp [b_Net_is_capacity, start0, N_Net_is_capacity, we_eVar, goodC, hi]
  | str x => simp [b_Net_is_capacity, start0, N_Net_is_capacity, we_eVar, goodC, hi]
  | tup xs => simp [b_Net_is_capacity, start0, N_Net_is_capacity, we_eVar, goodC, hi]
  | _ => exact h.elim
def firstBad (ds : List D) : Option Nat := ds.findIdx? fun d => !goodC d
theorem firstBad_some {ds : List D} {i : Nat} (h : firstBad ds = some i) : ∃ hi : i < ds.length, goodC ds[i] = false ∧ ∀ j (hj : j < ds.length), j < i → goodC ds[j] = true := by
  obtain ⟨hi, h1, h2⟩ := List.findIdx?_eq_some_iff_getElem.mp h
  refine ⟨hi, by simpa using h1, fun j hj hji => ?_⟩
  have := h2 j hji
  simpa using this
theorem firstBad_none {ds : List D} (h : firstBad ds = none) : ∀ d ∈ ds, goodC d = true := fun d hd => by
  have := List.findIdx?_eq_none_iff.mp h d hd
  simpa using this
theorem goods {ds : List D} (h : ∀ d ∈ ds, goodC d = true) : ∃ zs : List Int, ds = zs.map .int ∧ ∀ z ∈ zs, 1 ≤ z ∧ z ≤ 999 := by
  induction ds with
  | nil => exact ⟨[], rfl, fun z hz => absurd hz (List.not_mem_nil)⟩
  | cons d ds ih =>
    obtain ⟨zs, rfl, hz⟩ := ih fun x hx => h x (List.mem_cons_of_mem _ hx)
    obtain ⟨i, rfl, hi⟩ := goodC_int (h d (List.mem_cons_self ..))
    exact ⟨i :: zs, rfl, fun z hz' => by
      rcases List.mem_cons.mp hz' with rfl | hz'
      · exact hi
      · exact hz z hz'⟩
def inX (r p : D) : Exc := ⟨1, [(1, p), (0, r)]⟩
theorem raise_in {e1 e2 : SE} {gs : Sg} {G : Hh} {r p : D} (h1 : e1 gs G = some (.val r, G)) (h2 : e2 gs G = some (.val p, G)) : sRaise 1 2 [(0, 1), (1, 2)] (aCons e1 (aCons e2 aNil)) gs G = some (.ex (inX r p), gs, G) := by
  unfold sRaise
  rw [fa_cons h1 (fa_cons h2 fa_nil)]
  rfl
theorem raise_ws {e1 e2 : SE} {gs : Sg} {G : Hh} {r p : D} {rest : SS} {R : Fl → Sg → Hh → Prop} (h1 : e1 gs G = some (.val r, G)) (h2 : e2 gs G = some (.val p, G)) (k : R (.ex (inX r p)) gs G) : ws (bSeq (sRaise 1 2 [(0, 1), (1, 2)] (aCons e1 (aCons e2 aNil))) rest gs G) R := by
  rw [ws_bSeq]
  exact ⟨_, _, _, raise_in h1 h2, by rw [onFl_ex]; exact k⟩
theorem check_caps_bad {ds : List D} {i : Nat} (hi : i < ds.length) (hc : ∀ d ∈ ds, CapD d) (hg : ∀ j (h : j < ds.length), j < i → goodC ds[j] = true) (hb : goodC ds[i] = false) (G : Hh) : F_check_capacities [.tup ds] G = some (.exc (inX (.str "capacity") (.int i)), G) := by
  refine we_eq (we_fn rfl ?_)
  unfold b_check_capacities
  rw [ws_bSeq]
  have len : (enumD ds).length = ds.length := by simp [enumD]
  refine ws_sFor (items := enumD ds) (gd := anyH) (G1 := G) (by unfold wEnum; rfl) (fun j gs G2 => j ≤ i ∧ G2 = G ∧ ∃ o1 o2, gs = [some (.tup ds), o1, o2]) ⟨Nat.zero_le _, rfl, none, none, rfl⟩ (fun _ _ _ _ _ => trivial) ?_ ?_
  · rintro j hj gs G2 ⟨hji, rfl, o1, o2, rfl⟩
    have hj2 : j < ds.length := by rw [← len]; exact hj
    have e : (enumD ds)[j] = .tup [.int j, ds[j]] := by
      have := enumD_map (fun d => d) ds (i := j) (by rw [List.map_id']; exact hj) hj2
      simpa using this
    rw [e]
    have hcap := net_cap_ok (hc _ (List.getElem_mem hj2)) G2
    show asO (some ([some (.tup ds), some (.int j), some ds[j]], G2)) _
    rw [asO_some]
    dsimp only
    have ec : eCall F_Net_is_capacity (aCons (eVar 2) aNil) [some (.tup ds), some (.int j), some ds[j]] G2 = some (.val (.bl (goodC ds[j])), G2) := call_of (fa_cons (var_of rfl) fa_nil) hcap
    by_cases hji2 : j = i
    · subst hji2
      rw [hb] at ec
      refine ws_bSeq.mpr ?_
      rw [ws_sIf]
      refine we_of (tn_of (tb_of ec)) ?_
      rw [onR_val]
      rw [if_pos (show (!false) = true from rfl)]
      refine raise_ws (r := .str "capacity") (p := .int j) rfl (var_of rfl) ?_
      rw [onFl_ex, onTurn_ex, onFl_ex]
      show we (slim G2 _) _
      rw [slim_same]
      exact (we_some _ _).mpr ⟨rfl, rfl⟩
    · rw [hg j hj2 (by omega)] at ec
      refine ws_bSeq.mpr ?_
      rw [ws_sIf]
      refine we_of (tn_of (tb_of ec)) ?_
      simp
      omega
  · rintro gs G2 ⟨h, -⟩
    omega
def lt2 (x y : Int × Int) : Prop := x.1 < y.1 ∨ (x.1 = y.1 ∧ x.2 < y.2)
def aIxV (v lo : Nat) : Nat → SA
  | 0 => aNil
  | k + 1 => aCons (eOp dIx (eVar v) (eC (.int (lo : Int)))) (aIxV v (lo + 1) k)
theorem aIxV_ok {ds : List D} {v n : Nat} {gs : Sg} {G : Hh} (hg : gs[v]? = some (some (.ref n))) (hn : G[n]? = some (.lst ds)) : ∀ (k lo : Nat), lo + k = ds.length → aIxV v lo k gs G = some (.val (ds.drop lo), G)
  | 0, lo, h => by
    rw [List.drop_eq_nil_of_le (by omega)]
    rfl
  | k + 1, lo, h => by
    rw [List.drop_eq_getElem_cons (by omega : lo < ds.length)]
    exact fa_cons (eOp_of (var_of hg) rfl ((seq_ref hn).ix lo (by omega))) (aIxV_ok hg hn k (lo + 1) (by omega))
theorem eArgs_of {f : List D → Mm D} {fa : SA} {ds : List D} {gs : Sg} {G G1 : Hh} {r : Option (Rs D × Hh)} (ha : fa gs G = some (.val ds, G1)) (hf : f ds G1 = r) : eArgs f fa gs G = r := by
  unfold eArgs
  rw [ha, bnd_val, hf]
end FI.K01
set_option maxRecDepth 100000
set_option maxHeartbeats 4000000
namespace FI.K01
open PySem L2 PySem.Spec PyProof.Rows FI
theorem intsOf_map : ∀ l : List Int, intsOf (l.map D.int) = some l
  | [] => rfl
  | x :: l => by
    show (intsOf (l.map D.int)).map (x :: ·) = _
    rw [intsOf_map l]
    rfl
theorem ix_kl {xs : List D} {i : Int} {z : D} {G : Hh} (h : atI xs i = some z) : dIx (.kl xs) (.int i) G = some (.val z, G) := by
  have e : dIxS (.kl xs) (.int i) G = some (.val z, G) := by
    unfold dIxS itemsD
    dsimp only
    rw [h]
  unfold dIx orF
  rw [e]
theorem cell_ok {ns : List Int} {k : Nat} (G : Hh) (hk : k ≤ 63) : ∃ c : Int, F__law_cell [.kl (ns.map .int), .int (k : Int)] G = some (.val (.int c), G) := by
  have hlen : bLen (.kl (ns.map .int)) G = some (.val (.int ns.length), G) := by
    show some (Rs.val (D.int ((ns.map D.int).length : Int)), G) = _
    rw [List.length_map]
  by_cases h : k < ns.length
  · have hx := ix_kl (G := G) (gt_at (st := ns) (i := (k : Int)) (by omega) (by omega))
    refine ⟨gt ns k, we_eq (we_fn rfl ?_)⟩
    simp [b__law_cell, start0, N__law_cell, we_eVar, hlen, h, hx]
  · have hcut : cutL (ns.map D.int) none (some 2) = (cutL ns none (some 2)).map D.int := cutL_map _ _ _ _
    have hsum : bSum (.ref G.length) (G ++ [.lst (cutL (ns.map D.int) none (some 2))]) = some (.val (.int (cutL ns none (some 2)).sum), G ++ [.lst (cutL (ns.map D.int) none (some 2))]) := by
      rw [hcut]
      unfold bSum itemsD
      dsimp only
      rw [show (G ++ [O.lst ((cutL ns none (some 2)).map D.int)])[G.length]? = some (.lst ((cutL ns none (some 2)).map D.int)) from by simp]
      dsimp only
      rw [intsOf_map]
    refine ⟨(cutL ns none (some 2)).sum % 1000003 * 8191 + (k : Int) * 131 + 171, we_eq (we_fn rfl ?_)⟩
    simp [b__law_cell, start0, N__law_cell, we_eVar, hlen, h, hsum, dMod_int, dMul_r]
    exact slim_app (fun _ z => nomatch z) rfl ⟨rfl, rfl⟩
theorem bag_ok {ns : List Int} {k : Nat} (G : Hh) (hk : k ≤ 63) : ∃ a m : Int, F__law_bag [.kl (ns.map .int), .int (k : Int)] G = some (.val (.ref G.length), G ++ [bgO a m]) := by
  obtain ⟨c, hc⟩ := cell_ok (ns := ns) G hk
  have hf : ∀ a m : Int, we (slim G (some (.val (.ref G.length), G ++ [.lst [.int a, .int m]]))) fun r' G' => r' = Rs.val (D.ref G.length) ∧ G' = G ++ [bgO a m] := fun a m => by
    rw [slim_new (o := .lst [.int a, .int m]) .app (Nat.le_refl _) (by simp) rfl, List.take_left' rfl]
    exact (we_some _ _).mpr ⟨rfl, rfl⟩
  by_cases h : 1000000000000000000 ≤ c
  · refine ⟨c - 1000000000000000000, 0, we_eq (we_fn rfl ?_)⟩
    simp [b__law_bag, start0, N__law_bag, we_eVar, hc, dPow_int, okPow, h]
    exact hf _ _
  · refine ⟨c % 2147483647, 1, we_eq (we_fn rfl ?_)⟩
    simp [b__law_bag, start0, N__law_bag, we_eVar, hc, dPow_int, okPow, h, dMod_int]
    exact hf _ _
theorem slim_bl {G G' : Hh} {b : Bool} {Q : Rs D → Hh → Prop} (h : ∀ H, Q (.val (.bl b)) H) : we (slim G (some (.val (.bl b), G'))) Q := by
  unfold slim
  dsimp only
  split
  · exact (we_some _ _).mpr (h _)
  · exact (we_some _ _).mpr (h _)
theorem Keep.take {G G' : Hh} (k : Keep [] G G') : G'.take G.length = G := by
  apply List.ext_getElem?
  intro i
  by_cases h : i < G.length
  · rw [List.getElem?_take_of_lt h, k.2 i h (List.not_mem_nil)]
  · rw [List.getElem?_eq_none (by rw [List.length_take]; omega), List.getElem?_eq_none (by omega)]
theorem Keep.old {G G' : Hh} (k : Keep [] G G') : Old G G' := ⟨k.1, fun i h => .inl (k.2 i h (List.not_mem_nil))⟩
theorem slim_keep0 {d : D} {G G' : Hh} {Q : Rs D → Hh → Prop} (k : Keep [] G G') (hd : ∀ m, d ≠ .ref m) (hb : d.bw G.length = true) (h : Q (.val d) G) : we (slim G (some (.val d, G'))) Q := by
  rw [slim_old hd hb (Keep.old k), Keep.take k]
  exact (we_some _ _).mpr h
theorem tor_t {f h : ST} {gs : Sg} {G G1 : Hh} (h1 : f gs G = some (.val true, G1)) : tOr' f h gs G = some (.val true, G1) := we_eq (by rw [we_tOr]; refine we_of h1 ?_; rw [onR_val, if_pos rfl]; exact ⟨rfl, rfl⟩)
def faultR (ds : List D) (lo hi : Nat) : Option (D × D) := if ds.length < lo ∨ hi < ds.length then some (.str "stages", .non) else (firstBad ds).map fun i : Nat => (.str "capacity", .int i)
def dueD : Option (D × D) → D
  | none => .non
  | some p => .tup [p.1, p.2]
theorem stages_lay : PyData.canLay0 (.str "stages") = true := by decide +kernel
theorem capacity_lay : PyData.canLay0 (.str "capacity") = true := by decide +kernel
theorem faultR_plain {ds : List D} {lo hi : Nat} {p : D × D} (h : faultR ds lo hi = some p) : Plain p.1 ∧ Plain p.2 := by
  unfold faultR at h
  split at h
  · cases h
    exact ⟨stages_lay, trivial⟩
  · cases e : firstBad ds with
    | none => rw [e] at h; exact nomatch h
    | some i =>
      rw [e] at h
      cases h
      exact ⟨capacity_lay, trivial⟩
theorem inX_bw {p : D × D} (h : Plain p.1 ∧ Plain p.2) {k : Nat} : (inX p.1 p.2).bw k = true := by
  obtain ⟨a, b⟩ := p
  obtain ⟨h1, h2⟩ := h
  dsimp only at h1 h2
  cases a <;> cases b <;> first | rfl | exact h1.elim | exact h2.elim
theorem faultR_none {ds : List D} {lo hi : Nat} (h : faultR ds lo hi = none) : (lo ≤ ds.length ∧ ds.length ≤ hi) ∧ ∃ zs : List Int, ds = zs.map .int ∧ ∀ z ∈ zs, 1 ≤ z ∧ z ≤ 999 := by
  unfold faultR at h
  split at h
  · exact nomatch h
  · rename_i hl
    cases e : firstBad ds with
    | none => exact ⟨by omega, goods (firstBad_none e)⟩
    | some i => rw [e] at h; exact nomatch h
theorem law_fault_ok {ds : List D} {r lo hi : Nat} {G : Hh} (hr : G[r]? = some (.lst ds)) (hc : ∀ d ∈ ds, CapD d) (hl : ds.length ≤ 1000) : F__law_fault [.ref r, .int lo, .int hi] G = some (.val (dueD (faultR ds lo hi)), G) := by
  refine we_eq (we_fn rfl ?_)
  unfold b__law_fault
  by_cases hlen : ds.length < lo ∨ hi < ds.length
  · have hf : faultR ds lo hi = some (.str "stages", .non) := by
      unfold faultR
      rw [if_pos hlen]
    by_cases h1 : ds.length < lo
    · refine ws_bSeq.mpr ?_
      rw [ws_sIf]
      refine we_of (r := .val true) (G := G) (tor_t (we_eq (by simp [start0, N__law_fault, we_eVar, hr]; omega))) ?_
      simp [hf, dueD]
    · refine ws_bSeq.mpr ?_
      rw [ws_sIf]
      refine we_of (r := .val true) (G := G) (tor_of (G1 := G) (we_eq (by simp [start0, N__law_fault, we_eVar, hr]; omega)) (we_eq (by simp [start0, N__law_fault, we_eVar, hr]; omega))) ?_
      simp [hf, dueD]
  · have h1 : ¬ ds.length < lo := by omega
    have h2 : ¬ hi < ds.length := by omega
    refine ws_ifN (G1 := G) (tor_of (G1 := G) (we_eq (by simp [start0, N__law_fault, we_eVar, hr]; omega)) (we_eq (by simp [start0, N__law_fault, we_eVar, hr]; omega))) ?_
    rw [ws_bSeq]
    have body : ∀ (j : Nat) (o : Option D) (hj : j < ds.length), eCall F__law_is_capacity (aCons (eOp dIx (eVar 0) (eVar 3)) aNil) [some (.ref r), some (.int lo), some (.int hi), some (.int j)] G = some (.val (.bl (goodC ds[j])), G) := fun j o hj => call_of (fa_cons (eOp_of (var_of rfl) (var_of rfl) ((seq_ref hr).ix j hj)) fa_nil) (law_cap_ok (hc _ (List.getElem_mem hj)) G)
    cases e : firstBad ds with
    | some i =>
      obtain ⟨hi', hb, hg⟩ := firstBad_some e
      refine ws_sFor (wRng1_eq (j := (ds.length : Int)) (G1 := G) (we_eq (by simp [start0, N__law_fault, we_eVar, hr])) (by omega)) (fun j gs G2 => j ≤ i ∧ G2 = G ∧ ∃ o, gs = [some (.ref r), some (.int lo), some (.int hi), o]) ⟨Nat.zero_le _, rfl, none, rfl⟩ (fun _ _ _ _ _ => trivial) ?_ ?_
      · rintro j hj gs G2 ⟨hji, rfl, o, rfl⟩
        rw [rngD_get hj]
        simp only [Int.zero_add]
        rw [asO_gNm]
        rw [rngD_length] at hj
        have hj2 : j < ds.length := by omega
        have ec := body j o hj2
        show ws (bSeq _ bNil [some (.ref r), some (.int lo), some (.int hi), some (.int j)] G2) _
        by_cases hji2 : j = i
        · subst hji2
          rw [hb] at ec
          refine ws_bSeq.mpr ?_
          rw [ws_sIf]
          refine we_of (tn_of (tb_of ec)) ?_
          rw [onR_val]
          rw [if_pos (show (!false) = true from rfl)]
          refine ws_retE (we_of (r := .val (.tup [.str "capacity", .int j])) (G := G2) (we_eq (by simp [we_eVar])) ?_)
          rw [onR_val, onFl_rt, onTurn_rt, onFl_rt]
          show we (slim G2 _) _
          rw [slim_same]
          refine (we_some _ _).mpr ⟨?_, rfl⟩
          unfold faultR
          rw [if_neg hlen, e]
          rfl
        · rw [hg j hj2 (by omega)] at ec
          refine ws_bSeq.mpr ?_
          rw [ws_sIf]
          refine we_of (tn_of (tb_of ec)) ?_
          simp
          omega
      · rintro gs G2 ⟨h, -⟩
        rw [rngD_length] at h
        omega
    | none =>
      have hg := firstBad_none e
      refine ws_sFor (wRng1_eq (j := (ds.length : Int)) (G1 := G) (we_eq (by simp [start0, N__law_fault, we_eVar, hr])) (by omega)) (fun j gs G2 => G2 = G ∧ ∃ o, gs = [some (.ref r), some (.int lo), some (.int hi), o]) ⟨rfl, none, rfl⟩ (fun _ _ _ _ _ => trivial) ?_ ?_
      · rintro j hj gs G2 ⟨rfl, o, rfl⟩
        rw [rngD_get hj]
        simp only [Int.zero_add]
        rw [asO_gNm]
        rw [rngD_length] at hj
        have hj2 : j < ds.length := by omega
        have ec := body j o hj2
        rw [hg _ (List.getElem_mem hj2)] at ec
        show ws (bSeq _ bNil [some (.ref r), some (.int lo), some (.int hi), some (.int j)] G2) _
        refine ws_bSeq.mpr ?_
        rw [ws_sIf]
        refine we_of (tn_of (tb_of ec)) ?_
        simp
      · rintro gs G2 ⟨rfl, o, rfl⟩
        have : faultR ds lo hi = none := by
          unfold faultR
          rw [if_neg hlen, e]
          rfl
        simp [this, dueD]
theorem caps_any {ds : List D} {G : Hh} (hc : ∀ d ∈ ds, CapD d) : F_check_capacities [.tup ds] G = match firstBad ds with
    | none => some (.val .non, G)
    | some i => some (.exc (inX (.str "capacity") (.int i)), G) := by
  cases e : firstBad ds with
  | none =>
    obtain ⟨zs, rfl, hz⟩ := goods (firstBad_none e)
    exact check_capacities_ok hz G
  | some i =>
    obtain ⟨hi, hb, hg⟩ := firstBad_some e
    exact check_caps_bad hi hc hg hb G
theorem star_any {d : D} {ds : List D} (hl : ds.length ≤ 1000) : bStar 1 (d :: ds) = some [d, .tup ds] := by
  unfold bStar
  rw [if_pos (by simp; omega)]
  rfl
theorem C_Ring_bad {ds : List D} {p : D × D} {G : Hh} (hc : ∀ d ∈ ds, CapD d) (hl : ds.length ≤ 1000) (hp : faultR ds 3 40 = some p) : C_Ring ds G = some (.exc (inX p.1 p.2), G ++ [.ins 9 []]) := by
  have key : F_Ring_init (.ref G.length :: ds) (G ++ [.ins 9 []]) = some (.exc (inX p.1 p.2), G ++ [.ins 9 []]) := by
    obtain ⟨H, hH⟩ : ∃ H, G ++ [O.ins 9 []] = H := ⟨_, rfl⟩
    rw [hH]
    refine we_eq (we_fn (star_any hl) ?_)
    unfold b_Ring_init
    refine ws_cut (fun gs G' => gs = [some (.ref G.length), some (.tup ds), some (.int ds.length), none, none, none] ∧ G' = H) (by simp [start0, N_Ring_init, we_eVar]) ?_
    rintro gs0 G0 ⟨rfl, rfl⟩
    unfold faultR at hp
    by_cases h : ds.length < 3 ∨ 40 < ds.length
    · rw [if_pos h] at hp
      cases hp
      refine ws_bSeq.mpr ?_
      rw [ws_sIf]
      refine we_of (r := .val true) (G := G0) (we_eq ?_) ?_
      · by_cases h1 : (3 : Int) ≤ ds.length
        · have h2 : ¬ (ds.length : Int) ≤ 40 := by omega
          simp [we_eVar, h1, h2]
          try omega
        · simp [we_eVar, h1]
          try omega
      rw [onR_val, if_pos rfl]
      refine raise_ws (r := .str "stages") (p := .non) rfl rfl ?_
      rw [onFl_ex]
      show we (slim G0 _) _
      rw [slim_same]
      exact (we_some _ _).mpr ⟨rfl, rfl⟩
    · rw [if_neg h] at hp
      have h1 : (3 : Int) ≤ ds.length := by omega
      have h2 : (ds.length : Int) ≤ 40 := by omega
      refine ws_ifN (G1 := G0) (we_eq (by simp [we_eVar, h1, h2])) ?_
      cases e : firstBad ds with
      | none => rw [e] at hp; exact nomatch hp
      | some i =>
        rw [e] at hp
        cases hp
        have ec := caps_any (G := G0) hc
        rw [e] at ec
        dsimp only at ec
        simp [we_eVar, ec]
  unfold C_Ring mkCls
  rw [key]
  rfl
theorem row_bad {ds : List D} {p : D × D} {G : Hh} (hc : ∀ d ∈ ds, CapD d) (hl : ds.length ≤ 1000) (hp : faultR ds 0 39 = some p) : F_Pipeline_row (.glb "Pipeline" :: ds) G = some (.exc (inX p.1 p.2), G) := by
  refine we_eq (we_fn (star_any hl) ?_)
  unfold b_Pipeline_row
  have hcv : ∀ (H : Hh), eCstV 0 "Pipeline" (.int 40) [some (.glb "Pipeline"), some (.tup ds), none, none, none] H = some (.val (.int 40), H) := fun _ => rfl
  have hb : ∀ b : Bool, decide ((40 : Int) ≤ ds.length) = b → tB (eOp dGe (eArgs (d1 bLen) (aCons (eVar 1) aNil)) (eCstV 0 "Pipeline" (.int 40))) [some (.glb "Pipeline"), some (.tup ds), none, none, none] G = some (.val b, G) := fun b hb => by
    refine tb_of (eOp_of (d := .int ds.length) (e := .int 40) (G1 := G) (G2 := G) (we_eq (by simp [we_eVar])) (hcv G) ?_)
    exact we_eq (by simp [hb])
  unfold faultR at hp
  by_cases h : ds.length < 0 ∨ 39 < ds.length
  · rw [if_pos h] at hp
    cases hp
    refine ws_bSeq.mpr ?_
    rw [ws_sIf]
    refine we_of (r := .val true) (G := G) (hb true (decide_eq_true (by omega))) ?_
    rw [onR_val, if_pos rfl]
    refine raise_ws (r := .str "stages") (p := .non) rfl rfl ?_
    rw [onFl_ex]
    show we (slim G _) _
    rw [slim_same]
    exact (we_some _ _).mpr ⟨rfl, rfl⟩
  · rw [if_neg h] at hp
    refine ws_ifN (G1 := G) (hb false (decide_eq_false (by omega))) ?_
    cases e : firstBad ds with
    | none => rw [e] at hp; exact nomatch hp
    | some i =>
      rw [e] at hp
      cases hp
      have ec := caps_any (G := G) hc
      rw [e] at ec
      dsimp only at ec
      simp [start0, N_Pipeline_row, we_eVar, ec]
theorem rowCs_no {rs : List Int} (h : ∀ r ∈ rs, 1 ≤ r ∧ r ≤ 999) (hl : rs.length ≤ 39) : noCirc ((rs.length : Int) + 1) (rowCs rs) := noCirc_of (rk := fun x => x.toNat) (by omega) (by omega) (rowCs_ok h) fun c hc => by
  obtain ⟨q1, q2, q3, q4⟩ := rowCs_mem hc
  omega
theorem rowCs_dis {rs : List Int} : Dis (rowCs rs) := rowCs_pw.imp fun {a b} hab e => by
  have := (kT_inj e).1
  omega
theorem row_ok {rs : List Int} (h : ∀ r ∈ rs, 1 ≤ r ∧ r ≤ 999) (hl : rs.length ≤ 39) (G : Hh) : F_Pipeline_row (.glb "Pipeline" :: rs.map D.int) G = some (.val (.ref G.length), G ++ [.ins 8 (netFs (rs.length + 1) (rowCs rs))]) := by
  have e := fun G => C_Pipeline_ok (s := (rs.length : Int) + 1) (cs := rowCs rs) (by omega) (by omega) (rowCs_ok h) rowCs_dis (by rw [rowCs_len]; omega) (rowCs_no h hl) G
  rw [row_sorted] at e
  refine we_eq (we_fn (star_any (by rw [List.length_map]; omega)) ?_)
  unfold b_Pipeline_row
  have cc := fun G => check_capacities_ok h G
  refine ws_cut (fun gs G' => gs = [some (.glb "Pipeline"), some (.tup (rs.map D.int)), none, none, none] ∧ G' = G) ?_ ?_
  · rw [ws_sIf]
    refine we_of (r := .val false) (G := G) (tb_of (eOp_of (d := .int rs.length) (e := .int 40) (G1 := G) (G2 := G) (we_eq (by simp [start0, N_Pipeline_row, we_eVar])) rfl ?_)) ?_
    · exact we_eq (by simp; omega)
    · rw [onR_val, if_neg (by simp), ws_bNil]
      exact ⟨rfl, rfl, rfl⟩
  rintro gs0 G0 ⟨rfl, rfl⟩
  refine ws_cut (fun gs G' => gs = [some (.glb "Pipeline"), some (.tup (rs.map D.int)), none, none, none] ∧ G' = G0) (by simp [we_eVar, cc]) ?_
  rintro gs0 G1 ⟨rfl, rfl⟩
  refine ws_cut (fun gs G' => gs = [some (.glb "Pipeline"), some (.tup (rs.map D.int)), some (.ref G1.length), none, none] ∧ G' = G1 ++ [.lst ((rowCs rs).map tT)]) (by rw [ws_sAsg]; exact we_of (row_lc (by omega)) ⟨rfl, rfl, rfl⟩) ?_
  rintro gs0 G2 ⟨rfl, rfl⟩
  obtain ⟨J, hJ⟩ : ∃ J, [O.lst ((rowCs rs).map tT)] = J := ⟨_, rfl⟩
  rw [hJ]
  have gl : (G1 ++ J)[G1.length]? = some (.lst ((rowCs rs).map tT)) := by rw [← hJ]; simp
  refine ws_retE (we_of (r := .val (.ref (G1 ++ J).length)) (G := (G1 ++ J) ++ [.ins 8 (netFs (rs.length + 1) (rowCs rs))]) ?_ ?_)
  · have ha : aCons (eOp dAdd (eArgs (d1 bLen) (aCons (eVar 1) aNil)) (eC (.int 1))) (aStar (eVar 2) aNil) [some (.glb "Pipeline"), some (.tup (rs.map D.int)), some (.ref G1.length), none, none] (G1 ++ J) = some (.val (.int (rs.length + 1) :: (rowCs rs).map tT), G1 ++ J) := by
      refine fa_cons (we_eq (by simp [we_eVar])) ?_
      unfold aStar
      rw [show eVar 2 [some (.glb "Pipeline"), some (.tup (rs.map D.int)), some (.ref G1.length), none, none] (G1 ++ J) = some (.val (.ref G1.length), G1 ++ J) from rfl, bnd_val]
      have : itemsD (G1 ++ J) (.ref G1.length) = some ((rowCs rs).map tT) := by
        unfold itemsD
        dsimp only
        rw [gl]
      rw [this]
      dsimp only
      unfold aNil
      rw [bnd_val, List.append_nil]
    unfold eCallV
    dsimp only [List.getElem?_cons_zero]
    rw [if_pos rfl, ha, bnd_val]
    exact e _
  rw [onR_val]
  exact fin_net2 ⟨rfl, rfl⟩
end FI.K01
set_option maxRecDepth 100000
set_option maxHeartbeats 4000000
namespace FI.K01
open PySem L2 PySem.Spec PyProof.Rows FI
noncomputable def bCh (v : Nat) (mk : Nat → SE) (e : SS) : Nat → Nat → SS
  | _, 0 => e
  | lo, k + 1 => bSeq (sIf (tB (eOp (dEqv false) (eArgs (d1 bLen) (aCons (eVar v) aNil)) (eC (.int (lo : Int))))) (bSeq (sRet (mk lo)) bNil) bNil) (bCh v mk e (lo + 1) k)
theorem bCh_in {v n : Nat} {mk : Nat → SE} {e : SS} {xs : List D} {gs : Sg} {G : Hh} {R : Fl → Sg → Hh → Prop} (hg : gs[v]? = some (some (.ref n))) (hn : G[n]? = some (.lst xs)) (hX : we (mk xs.length gs G) (onR (fun d G1 => R (.rt d) gs G1) fun e G1 => R (.ex e) gs G1)) : ∀ (k lo : Nat), lo ≤ xs.length → xs.length < lo + k → ws (bCh v mk e lo k gs G) R
  | 0, lo, h1, h2 => by omega
  | k + 1, lo, h1, h2 => by
    unfold bCh
    rw [ws_lenIf hg hn]
    split
    · rename_i hlo
      have : lo = xs.length := by omega
      subst this
      exact ws_retE hX
    · exact bCh_in hg hn hX k (lo + 1) (by omega) (by omega)
theorem bCh_out {v n : Nat} {mk : Nat → SE} {e : SS} {xs : List D} {gs : Sg} {G : Hh} {R : Fl → Sg → Hh → Prop} (hg : gs[v]? = some (some (.ref n))) (hn : G[n]? = some (.lst xs)) (he : ws (e gs G) R) : ∀ (k lo : Nat), lo + k ≤ xs.length → ws (bCh v mk e lo k gs G) R
  | 0, lo, h => he
  | k + 1, lo, h => by
    unfold bCh
    rw [ws_lenIf hg hn, if_neg (by omega)]
    exact bCh_out hg hn he k (lo + 1) (by omega)
theorem we_retS {G G' H : Hh} {X : Option (Rs D × Hh)} {x : Rs D} (hX : X = some (x, H)) (hs : slim G (some (x, H)) = some (x, G')) : we X (onR (fun d G1 => we (slim G (some (.val d, G1))) fun r' G'' => r' = x ∧ G'' = G') fun e G1 => we (slim G (some (.exc e, G1))) fun r' G'' => r' = x ∧ G'' = G') := by
  rw [hX, we_some]
  cases x with
  | val d =>
    show we (slim G (some (.val d, H))) _
    rw [hs]
    exact (we_some _ _).mpr ⟨rfl, rfl⟩
  | exc e =>
    show we (slim G (some (.exc e, H))) _
    rw [hs]
    exact (we_some _ _).mpr ⟨rfl, rfl⟩
def LenR (n : Nat) : Prop := n ≤ 6 ∨ n = 40 ∨ n = 41
def LenP (n : Nat) : Prop := n ≤ 6 ∨ n = 39 ∨ n = 40
section
variable {ds : List D} {r : Nat} {G H G' : Hh} {x : Rs D}
theorem ring40_any (hr : G[r]? = some (.lst ds)) (hl : ds.length = 40) (hX : C_Ring ds G = some (x, H)) (hs : slim G (some (x, H)) = some (x, G')) : F__law_ring_of_40 [.ref r] G = some (x, G') := by
  refine we_eq (we_fn rfl ?_)
  show ws (bSeq (sRet (eCall C_Ring (aIxV 0 0 40))) bNil _ _) _
  refine ws_retE ?_
  rw [call_of (aIxV_ok rfl hr 40 0 (by omega)) hX]
  exact we_retS rfl hs
theorem ring41_any (hr : G[r]? = some (.lst ds)) (hl : ds.length = 41) (hX : C_Ring ds G = some (x, H)) (hs : slim G (some (x, H)) = some (x, G')) : F__law_ring_of_41 [.ref r] G = some (x, G') := by
  refine we_eq (we_fn rfl ?_)
  show ws (bSeq (sRet (eCall C_Ring (aIxV 0 0 41))) bNil _ _) _
  refine ws_retE ?_
  rw [call_of (aIxV_ok rfl hr 41 0 (by omega)) hX]
  exact we_retS rfl hs
theorem cmt_of {fa : SA} {gs : Sg} {R : Option (Rs D × Hh)} (ha : fa gs G = some (.val ds, G)) (hX : F_Pipeline_row (.glb "Pipeline" :: ds) G = R) : eCMt "Pipeline" F_Pipeline_row fa gs G = R := by
  unfold eCMt
  exact eArgs_of ha hX
theorem row39_any (hr : G[r]? = some (.lst ds)) (hl : ds.length = 39) (hX : F_Pipeline_row (.glb "Pipeline" :: ds) G = some (x, H)) (hs : slim G (some (x, H)) = some (x, G')) : F__law_row_of_39 [.ref r] G = some (x, G') := by
  refine we_eq (we_fn rfl ?_)
  show ws (bSeq (sRet (eCMt "Pipeline" F_Pipeline_row (aIxV 0 0 39))) bNil _ _) _
  refine ws_retE ?_
  rw [cmt_of (aIxV_ok rfl hr 39 0 (by omega)) hX]
  exact we_retS rfl hs
theorem row40_any (hr : G[r]? = some (.lst ds)) (hl : ds.length = 40) (hX : F_Pipeline_row (.glb "Pipeline" :: ds) G = some (x, H)) (hs : slim G (some (x, H)) = some (x, G')) : F__law_row_of_40 [.ref r] G = some (x, G') := by
  refine we_eq (we_fn rfl ?_)
  show ws (bSeq (sRet (eCMt "Pipeline" F_Pipeline_row (aIxV 0 0 40))) bNil _ _) _
  refine ws_retE ?_
  rw [cmt_of (aIxV_ok rfl hr 40 0 (by omega)) hX]
  exact we_retS rfl hs
theorem ring_any (hr : G[r]? = some (.lst ds)) (hl : LenR ds.length) (hX : C_Ring ds G = some (x, H)) (hs : slim G (some (x, H)) = some (x, G')) (hs2 : slim G (some (x, G')) = some (x, G')) : F__law_ring [.ref r] G = some (x, G') := by
  refine we_eq (we_fn rfl ?_)
  show ws (bCh 0 (fun lo => eCall C_Ring (aIxV 0 0 lo)) (bSeq (sIf (tB (eOp (dEqv false) (eArgs (d1 bLen) (aCons (eVar 0) aNil)) (eC (.int 40)))) (bSeq (sRet (eCall F__law_ring_of_40 (aCons (eVar 0) aNil))) bNil) bNil) (bSeq (sRet (eCall F__law_ring_of_41 (aCons (eVar 0) aNil))) bNil)) 0 7 [some (.ref r)] G) _
  rcases hl with hl | hl | hl
  · refine bCh_in rfl hr ?_ 7 0 (by omega) (by omega)
    dsimp only
    rw [call_of (aIxV_ok rfl hr ds.length 0 (by omega)) hX]
    exact we_retS rfl hs
  · refine bCh_out rfl hr ?_ 7 0 (by omega)
    rw [ws_lenIf rfl hr, if_pos (by omega)]
    refine ws_retE ?_
    rw [call_of (fa_cons (var_of rfl) fa_nil) (ring40_any hr hl hX hs)]
    exact we_retS rfl hs2
  · refine bCh_out rfl hr ?_ 7 0 (by omega)
    rw [ws_lenIf rfl hr, if_neg (by omega)]
    refine ws_retE ?_
    rw [call_of (fa_cons (var_of rfl) fa_nil) (ring41_any hr hl hX hs)]
    exact we_retS rfl hs2
theorem row_any (hr : G[r]? = some (.lst ds)) (hl : LenP ds.length) (hX : F_Pipeline_row (.glb "Pipeline" :: ds) G = some (x, H)) (hs : slim G (some (x, H)) = some (x, G')) (hs2 : slim G (some (x, G')) = some (x, G')) : F__law_row [.ref r] G = some (x, G') := by
  refine we_eq (we_fn rfl ?_)
  show ws (bCh 0 (fun lo => eCMt "Pipeline" F_Pipeline_row (aIxV 0 0 lo)) (bSeq (sIf (tB (eOp (dEqv false) (eArgs (d1 bLen) (aCons (eVar 0) aNil)) (eC (.int 39)))) (bSeq (sRet (eCall F__law_row_of_39 (aCons (eVar 0) aNil))) bNil) bNil) (bSeq (sRet (eCall F__law_row_of_40 (aCons (eVar 0) aNil))) bNil)) 0 7 [some (.ref r)] G) _
  rcases hl with hl | hl | hl
  · refine bCh_in rfl hr ?_ 7 0 (by omega) (by omega)
    dsimp only
    rw [cmt_of (aIxV_ok rfl hr ds.length 0 (by omega)) hX]
    exact we_retS rfl hs
  · refine bCh_out rfl hr ?_ 7 0 (by omega)
    rw [ws_lenIf rfl hr, if_pos (by omega)]
    refine ws_retE ?_
    rw [call_of (fa_cons (var_of rfl) fa_nil) (row39_any hr hl hX hs)]
    exact we_retS rfl hs2
  · refine bCh_out rfl hr ?_ 7 0 (by omega)
    rw [ws_lenIf rfl hr, if_neg (by omega)]
    refine ws_retE ?_
    rw [call_of (fa_cons (var_of rfl) fa_nil) (row40_any hr hl hX hs)]
    exact we_retS rfl hs2
end
def cnt (v : Bool) (zs : List Int) : Int := if v = true then zs.length else zs.length + 1
def lnk (v : Bool) (zs : List Int) : List Tr := if v = true then ringCs zs else rowCs zs
def knd (v : Bool) : Nat := if v = true then 9 else 8
theorem lnk_len {v : Bool} {zs : List Int} : (lnk v zs).length = zs.length := by
  cases v
  · exact rowCs_len
  · exact ringCs_len
theorem lnk_caps {v : Bool} {zs : List Int} : (lnk v zs).map (fun c => c.2.2) = zs := by
  cases v
  · refine List.ext_getElem (by rw [List.length_map, lnk_len]) fun i q1 q2 => ?_
    simp [lnk, rowCs, enumT]
  · refine List.ext_getElem (by rw [List.length_map, lnk_len]) fun i q1 q2 => ?_
    simp [lnk, ringCs, enumT]
theorem slo_lnk {v : Bool} {zs : List Int} : slo (lnk v zs) = zs.sum := by
  unfold slo
  rw [lnk_caps]
section
variable {zs : List Int} {r : Nat} {G : Hh}
theorem fin_mk {c : Nat} {s : Int} {cs : List Tr} : slim G (some (.val (.ref G.length), G ++ [.ins c (netFs s cs)])) = some (.val (.ref G.length), G ++ [.ins c (netFs s cs)]) := we_eq (fin_net ⟨rfl, rfl⟩)
theorem ring_good (hr : G[r]? = some (.lst (zs.map .int))) (hz : ∀ z ∈ zs, 1 ≤ z ∧ z ≤ 999) (h3 : 3 ≤ zs.length) (hl : zs.length ≤ 6 ∨ zs.length = 40) : F__law_ring [.ref r] G = some (.val (.ref G.length), G ++ [.ins 9 (netFs zs.length (ringCs zs))]) :=
  ring_any hr (by rw [List.length_map]; unfold LenR; omega) (C_Ring_ok hz h3 (by omega) G) fin_mk fin_mk
theorem row_good (hr : G[r]? = some (.lst (zs.map .int))) (hz : ∀ z ∈ zs, 1 ≤ z ∧ z ≤ 999) (hl : zs.length ≤ 6 ∨ zs.length = 39) : F__law_row [.ref r] G = some (.val (.ref G.length), G ++ [.ins 8 (netFs (zs.length + 1) (rowCs zs))]) :=
  row_any hr (by rw [List.length_map]; unfold LenP; omega) (row_ok hz (by omega) G) fin_mk fin_mk
theorem cnt_ok {v : Bool} {gs : Sg} {i j : Nat} {ds : List D} (hi : gs[i]? = some (some (.bl v))) (hj : gs[j]? = some (some (.ref r))) (hr : G[r]? = some (.lst ds)) : eIf (tB (eVar i)) (eArgs (d1 bLen) (aCons (eVar j) aNil)) (eOp dAdd (eArgs (d1 bLen) (aCons (eVar j) aNil)) (eC (.int 1))) gs G = some (.val (.int (if v = true then ds.length else ds.length + 1)), G) := by
  have e1 : eArgs (d1 bLen) (aCons (eVar j) aNil) gs G = some (.val (.int ds.length), G) := eArgs_of (fa_cons (var_of hj) fa_nil) (we_eq (by simp [hr]))
  unfold eIf
  rw [tb_of (var_of hi), bnd_val]
  cases v with
  | true => rw [if_pos rfl, if_pos rfl]; exact e1
  | false =>
    rw [if_neg Bool.false_ne_true, if_neg Bool.false_ne_true]
    exact eOp_of e1 rfl (we_eq (by simp))
theorem law_links_ok (v : Bool) (hr : G[r]? = some (.lst (zs.map .int))) (hl : zs.length ≤ 41) : F__law_links [.ref r, .bl v] G = some (.val (.ref G.length), G ++ [.lst ((lnk v zs).map tT)]) := by
  refine we_eq (we_fn rfl ?_)
  unfold b__law_links
  have ec := cnt_ok (gs := [some (.ref r), some (.bl v), none, none]) (i := 1) (j := 0) (v := v) rfl rfl hr
  rw [List.length_map] at ec
  refine ws_cut (fun gs G' => gs = [some (.ref r), some (.bl v), some (.int (cnt v zs)), none] ∧ G' = G) (by rw [ws_sAsg]; exact we_of ec (by rw [onR_val, asO_gNm]; exact ⟨rfl, rfl, rfl⟩)) ?_
  rintro gs0 G0 ⟨rfl, rfl⟩
  refine ws_retE ?_
  refine we_lcI (lo := 0) (k := zs.length) (G1 := G0) (wRng1_eq (j := (zs.length : Int)) (we_eq (by simp [we_eVar, hr])) (by omega)) (by omega) (fun _ => true) (fun x => tT (x, (x + 1) % cnt v zs, gt zs x)) ?_ ?_
  · intro x x0 x1 acc
    have hxx := gt_at (st := zs) x0 (by omega)
    have g3 : (G0 ++ [O.lst acc])[r]? = some (.lst (zs.map .int)) := by rw [List.getElem?_append_left (List.getElem?_eq_some_iff.mp hr).1]; exact hr
    have hq0 : (0 : Int) < cnt v zs := by unfold cnt; split <;> omega
    rw [asO_gNm]
    refine ⟨rfl, ?_⟩
    rw [we_tTrue]
    refine ⟨rfl, rfl, fun _ => we_eq ?_⟩
    simp [wipeG, we_eVar, dMod_int hq0, g3, hxx]
  · rw [List.filter_eq_self.mpr (fun _ _ => rfl), onR_val]
    have e : (rngK 0 zs.length).map (fun x => tT (x, (x + 1) % cnt v zs, gt zs x)) = (lnk v zs).map tT := by
      cases v with
      | true =>
        have e1 := ringCs_gt (rs := zs) rfl
        rw [show ((zs.length : Int)).toNat = zs.length from rfl] at e1
        show _ = (ringCs zs).map tT
        rw [← e1, List.map_map]
        rfl
      | false =>
        have e1 := rowCs_gt (rs := zs) rfl
        show _ = (rowCs zs).map tT
        rw [← e1, List.map_map]
        refine List.map_congr_left fun x hx => ?_
        obtain ⟨x0, x1⟩ := mem_rngK.mp hx
        show tT (x, (x + 1) % ((zs.length : Int) + 1), gt zs x) = tT (x, x + 1, gt zs x)
        rw [Int.emod_eq_of_lt (by omega) (by omega)]
    rw [e]
    show we (slim G0 _) _
    rw [slim_new (o := .lst ((lnk v zs).map tT)) .app (Nat.le_refl _) (by simp) (bwL_tT _), List.take_left' rfl]
    exact (we_some _ _).mpr ⟨rfl, rfl⟩
theorem rows_tup {cs : List Tr} (hl : cs.length ≤ 1000) : F__law_same_rows [.tup (cs.map tT), .tup (cs.map tT)] G = some (.val (.bl true), G) := by
  have e : cs.map tT = (cs.map trL).map D.tup := by rw [List.map_map]; rfl
  rw [e]
  refine same_rows_ok seq_tup (by rw [List.length_map]; exact hl) fun l hlm => ?_
  obtain ⟨c, -, rfl⟩ := List.mem_map.mp hlm
  refine ⟨by simp [trL], fun d hd => ?_⟩
  simp only [trL, List.mem_cons, List.not_mem_nil, or_false] at hd
  rcases hd with rfl | rfl | rfl <;> exact trivial
theorem lnk_num {v : Bool} (hz : ∀ z ∈ zs, 1 ≤ z ∧ z ≤ 999) (h3 : v = true → 3 ≤ zs.length) (hl : zs.length ≤ 40) : NumOk (cnt v zs) (lnk v zs) := by
  have hs : 0 ≤ slo (lnk v zs) ∧ slo (lnk v zs) ≤ 999 * zs.length := by
    rw [← lnk_len (v := v)]
    cases v with
    | true => exact slo_rg (m := zs.length) (ringCs_ok hz (h3 rfl))
    | false => exact slo_rg (m := zs.length + 1) (rowCs_ok hz)
  refine ⟨?_, ?_, hs.1, by omega, by rw [lnk_len]; omega⟩
  · unfold cnt; split <;> omega
  · unfold cnt; split <;> omega
theorem good_ok {v : Bool} {n : Nat} (hr : G[r]? = some (.lst (zs.map .int))) (hn : NetAt G n (knd v) (cnt v zs) (lnk v zs)) (hz : ∀ z ∈ zs, 1 ≤ z ∧ z ≤ 999) (h3 : v = true → 3 ≤ zs.length) (hl : zs.length ≤ 40) : F__law_good [.ref n, .ref r, .bl v] G = some (.val (.bl true), G) := by
  have q := lnk_num (v := v) hz h3 hl
  have el := law_links_ok v hr (by omega)
  have lr := (List.getElem?_eq_some_iff.mp hr).1
  refine we_eq (we_fn rfl ?_)
  unfold b__law_good
  obtain ⟨H, hH⟩ : ∃ H, G ++ [O.lst ((lnk v zs).map tT)] = H := ⟨_, rfl⟩
  rw [hH] at el
  have kH : Keep [] G H := by rw [← hH]; exact .app
  have gL : H[G.length]? = some (.lst ((lnk v zs).map tT)) := by rw [← hH]; simp
  refine ws_cut (fun gs G' => gs = [some (.ref n), some (.ref r), some (.bl v), some (.ref G.length), none, none, none] ∧ G' = H) (by simp [start0, N__law_good, we_eVar, el]) ?_
  rintro gs0 H' ⟨rfl, rfl⟩
  have hr' := kH.get hr (List.not_mem_nil)
  have hn' : NetAt H' n (if v = true then 9 else 8) (cnt v zs) (lnk v zs) := ⟨hn.1, kH.get hn.2 (List.not_mem_nil)⟩
  have ec := cnt_ok (gs := [some (.ref n), some (.ref r), some (.bl v), some (.ref G.length), none, none, none]) (i := 2) (j := 1) (v := v) rfl rfl hr'
  rw [List.length_map] at ec
  refine ws_cut (fun gs G' => gs = [some (.ref n), some (.ref r), some (.bl v), some (.ref G.length), some (.int (cnt v zs)), none, none] ∧ G' = H') (by rw [ws_sAsg]; exact we_of ec (by rw [onR_val, asO_gNm]; exact ⟨rfl, rfl, rfl⟩)) ?_
  rintro gs0 H' ⟨rfl, rfl⟩
  have f5 := fld_at (cs := cIns) hn'.2 (cIns_of hn') netFs5
  have f7 := fld_at (cs := cIns) hn'.2 (cIns_of hn') netFs7
  have et : bTuple (.ref G.length) H' = some (.val (.tup ((lnk v zs).map tT)), H') := by
    unfold bTuple itemsD
    dsimp only
    rw [gL]
  have s1 := rows_tup (G := H') (cs := lnk v zs) (by rw [lnk_len]; omega)
  have s2 := same_ok (d := .int (cnt v zs)) trivial H'
  refine ws_ifN (G1 := H') (tor_of (tn_of (b := true) (tb_of (call_of (fa_cons (eUn_of (var_of rfl) f5) (fa_cons (eArgs_of (fa_cons (var_of rfl) fa_nil) et) fa_nil)) s1))) (tn_of (b := true) (tb_of (call_of (fa_cons (eUn_of (var_of rfl) f7) (fa_cons (var_of rfl) fa_nil)) s2)))) ?_
  have s3 := same_ok (d := .bl v) trivial H'
  have s4 := same_ok (d := .int (slo (lnk v zs))) trivial H'
  have es : eArgs (d1 bSum) (aCons (eVar 1) aNil) [some (.ref n), some (.ref r), some (.bl v), some (.ref G.length), some (.int (cnt v zs)), none, none] H' = some (.val (.int (slo (lnk v zs))), H') := eArgs_of (fa_cons (var_of rfl) fa_nil) (by rw [slo_lnk]; exact bSum_at hr')
  refine ws_ifN (G1 := H') (tor_of (tn_of (b := true) (tb_of (call_of (fa_cons (is_ring_ok hn' rfl) (fa_cons (var_of rfl) fa_nil)) s3))) (tn_of (b := true) (tb_of (call_of (fa_cons (slots_of hn' q.l1 rfl) (fa_cons es fa_nil)) s4)))) ?_
  obtain ⟨a1, a2, a3, a4, a5⟩ := sm_lits
  have n1 := nS_len q.m0 q.m1
  have n2 := nS_len (i := (lnk v zs).length) (by omega) (by have := q.l1; omega)
  have n3 := nS_len q.s0 q.s1
  have l0 : (kdS v).length ≤ 12 := by cases v <;> unfold kdS <;> simp <;> omega
  have l1 := len_app l0 n1
  have l2 := len_app l1 (Nat.le_of_eq a3)
  have l3 := len_app l2 n2
  have l4 := len_app l3 (Nat.le_of_eq a4)
  have l5 := len_app l4 n3
  have l6 := len_app l5 (Nat.le_of_eq a5)
  refine ws_cut (fun gs G' => gs = [some (.ref n), some (.ref r), some (.bl v), some (.ref G.length), some (.int (cnt v zs)), some (.str (kdS v)), none] ∧ G' = H') (by cases v <;> simp [we_eVar, kdS]) ?_
  rintro gs0 H' ⟨rfl, rfl⟩
  refine ws_cut (fun gs G' => gs = [some (.ref n), some (.ref r), some (.bl v), some (.ref G.length), some (.int (cnt v zs)), some (.str (kdS v)), some (.str (smm (kdS v) (cnt v zs) (lnk v zs)))] ∧ G' = H') ?_ ?_
  · rw [ws_sAsg]
    refine we_of (r := .val (.str (smm (kdS v) (cnt v zs) (lnk v zs)))) (G := H') ?_ (by rw [onR_val, asO_gNm]; exact ⟨rfl, rfl, rfl⟩)
    refine eOp_of (d := .str (kdS v ++ nS (cnt v zs) ++ " stages, " ++ nS (lnk v zs).length ++ " channels, " ++ nS (slo (lnk v zs)))) (e := .str " slots") (G1 := H') (G2 := H') ?_ rfl (cat_str (by omega))
    refine eOp_of (d := .str (kdS v ++ nS (cnt v zs) ++ " stages, " ++ nS (lnk v zs).length ++ " channels, ")) (e := .str (nS (slo (lnk v zs)))) (G1 := H') (G2 := H') ?_ (eArgs_of (fa_cons es fa_nil) (bStr_int q.s0 q.s1 H')) (cat_str (by omega))
    refine eOp_of (d := .str (kdS v ++ nS (cnt v zs) ++ " stages, " ++ nS (lnk v zs).length)) (e := .str " channels, ") (G1 := H') (G2 := H') ?_ rfl (cat_str (by omega))
    refine eOp_of (d := .str (kdS v ++ nS (cnt v zs) ++ " stages, ")) (e := .str (nS (lnk v zs).length)) (G1 := H') (G2 := H') ?_ ?_ (cat_str (by omega))
    · refine eOp_of (d := .str (kdS v ++ nS (cnt v zs))) (e := .str " stages, ") (G1 := H') (G2 := H') ?_ rfl (cat_str (by omega))
      exact eOp_of (d := .str (kdS v)) (e := .str (nS (cnt v zs))) (G1 := H') (G2 := H') (var_of rfl) (eArgs_of (fa_cons (var_of rfl) fa_nil) (bStr_int q.m0 q.m1 H')) (cat_str (by omega))
    · have := bStr_int (i := ((lnk v zs).length : Int)) (by omega) (by have := q.l1; omega) H'
      refine eArgs_of (ds := [.int (lnk v zs).length]) (fa_cons (eArgs_of (ds := [.ref r]) (fa_cons (var_of rfl) fa_nil) ?_) fa_nil) this
      exact we_eq (by simp [hr', lnk_len])
  rintro gs0 H' ⟨rfl, rfl⟩
  have s5 := same_ok (d := .str (smm (kdS v) (cnt v zs) (lnk v zs))) (smm_lay (kd_lay v) q) H'
  refine ws_retE (we_of (call_of (fa_cons (summary_ok hn' q rfl) (fa_cons (var_of rfl) fa_nil)) s5) ?_)
  rw [onR_val]
  exact slim_keep0 kH (fun _ z => nomatch z) rfl ⟨rfl, rfl⟩
end
end FI.K01
set_option maxRecDepth 100000
set_option maxHeartbeats 4000000
namespace FI.K01
open PySem L2 PySem.Spec PyProof.Rows FI
def loR (v : Bool) : Nat := if v = true then 3 else 0
def hiR (v : Bool) : Nat := if v = true then 40 else 39
def LenV (v : Bool) (n : Nat) : Prop := if v = true then LenR n else LenP n
noncomputable def mkV (v : Bool) : Fn := if v = true then F__law_ring else F__law_row
theorem eAnd_t {f h : SE} {gs : Sg} {G G1 G2 : Hh} {b : Bool} (h1 : f gs G = some (.val (.bl true), G1)) (h2 : h gs G1 = some (.val (.bl b), G2)) : eAnd f h gs G = some (.val (.bl b), G2) := we_eq (by simp [h1, h2])
section
variable {ds : List D} {zs : List Int} {r : Nat} {G : Hh} {v : Bool}
theorem mk_good (hr : G[r]? = some (.lst (zs.map .int))) (hz : ∀ z ∈ zs, 1 ≤ z ∧ z ≤ 999) (hl : LenV v zs.length) (h0 : loR v ≤ zs.length) (h1 : zs.length ≤ hiR v) : mkV v [.ref r] G = some (.val (.ref G.length), G ++ [.ins (knd v) (netFs (cnt v zs) (lnk v zs))]) := by
  cases v with
  | true =>
    have hl' : LenR zs.length := hl
    have h0' : 3 ≤ zs.length := h0
    have h1' : zs.length ≤ 40 := h1
    unfold LenR at hl'
    exact ring_good hr hz h0' (by omega)
  | false =>
    have hl' : LenP zs.length := hl
    have h1' : zs.length ≤ 39 := h1
    unfold LenP at hl'
    exact row_good hr hz (by omega)
theorem mk_bad (hr : G[r]? = some (.lst ds)) (hc : ∀ d ∈ ds, CapD d) (hl : LenV v ds.length) {p : D × D} (hp : faultR ds (loR v) (hiR v) = some p) : mkV v [.ref r] G = some (.exc (inX p.1 p.2), G) := by
  have pl := faultR_plain hp
  cases v with
  | true =>
    have hl' : LenR ds.length := hl
    have hl2 := hl'
    unfold LenR at hl2
    refine ring_any hr hl' (C_Ring_bad hc (by omega) hp) ?_ slim_same
    rw [slim_oldX (inX_bw pl) .app, List.take_left' rfl]
  | false =>
    have hl' : LenP ds.length := hl
    have hl2 := hl'
    unfold LenP at hl2
    exact row_any hr hl' (row_bad hc (by omega) hp) slim_same slim_same
theorem lenV_le (hl : LenV v ds.length) : ds.length ≤ 41 := by
  cases v with
  | true =>
    have hl' : LenR ds.length := hl
    unfold LenR at hl'
    omega
  | false =>
    have hl' : LenP ds.length := hl
    unfold LenP at hl'
    omega
theorem answered_ok (hr : G[r]? = some (.lst ds)) (hc : ∀ d ∈ ds, CapD d) (hl : LenV v ds.length) : F__law_answered [.ref r, .bl v] G = some (.val (.bl true), G) := by
  have hll := lenV_le hl
  have lr := (List.getElem?_eq_some_iff.mp hr).1
  have ef := law_fault_ok (lo := loR v) (hi := hiR v) hr hc (by omega)
  refine we_eq (we_fn rfl ?_)
  unfold b__law_answered
  refine ws_cut (fun gs G' => gs = [some (.ref r), some (.bl v), some (dueD (faultR ds (loR v) (hiR v))), none, none] ∧ G' = G) ?_ ?_
  · cases v with
    | true =>
      have ef' : F__law_fault [.ref r, .int 3, .int 40] G = some (.val (dueD (faultR ds (loR true) (hiR true))), G) := ef
      simp [start0, N__law_answered, we_eVar, ef']
    | false =>
      have ef' : F__law_fault [.ref r, .int 0, .int 39] G = some (.val (dueD (faultR ds (loR false) (hiR false))), G) := ef
      simp [start0, N__law_answered, we_eVar, ef']
  rintro gs0 G0 ⟨rfl, rfl⟩
  obtain ⟨H, hH⟩ : ∃ H, G0 ++ [O.lst ds] = H := ⟨_, rfl⟩
  have lH : H.length = G0.length + 1 := by rw [← hH]; simp
  have kH : Keep [] G0 H := by rw [← hH]; exact .app
  have gH : H[G0.length]? = some (.lst ds) := by rw [← hH]; simp
  have eb : bList (.ref r) G0 = some (.val (.ref G0.length), H) := by
    unfold bList itemsD
    dsimp only
    rw [hr]
    dsimp only
    rw [hH]
  have body : ∀ (o2 : Option D) (Q : Fl → Sg → Hh → Prop) (x : Rs D) (H2 : Hh), mkV v [.ref G0.length] H = some (x, H2) → (match x with | .val d => Q .nx [some (.ref r), some (.bl v), o2, some d, none] H2 | .exc e => Q (.ex e) [some (.ref r), some (.bl v), o2, none, none] H2) → ws (bSeq (sIf (tB (eVar 1)) (bSeq (sAsg (eCall F__law_ring (aCons (eArgs (d1 bList) (aCons (eVar 0) aNil)) aNil)) (gNm 3)) bNil) (bSeq (sAsg (eCall F__law_row (aCons (eArgs (d1 bList) (aCons (eVar 0) aNil)) aNil)) (gNm 3)) bNil)) bNil [some (.ref r), some (.bl v), o2, none, none] G0) Q := fun o2 Q x H2 hm hQ => by
    refine ws_bSeq.mpr ?_
    rw [ws_sIf]
    refine we_of (tb_of (b := v) (var_of rfl)) ?_
    rw [onR_val]
    have ea : ∀ F : Fn, F [.ref G0.length] H = some (x, H2) → eCall F (aCons (eArgs (d1 bList) (aCons (eVar 0) aNil)) aNil) [some (.ref r), some (.bl v), o2, none, none] G0 = some (x, H2) := fun F hF => call_of (fa_consG (eArgs_of (ds := [.ref r]) (fa_cons (var_of rfl) fa_nil) eb) fa_nil) hF
    cases v with
    | true =>
      rw [if_pos rfl]
      refine ws_bSeq.mpr ?_
      rw [ws_sAsg]
      refine we_of (ea F__law_ring hm) ?_
      cases x with
      | val d =>
        rw [onR_val, asO_gNm, onFl_nx, ws_bNil, onFl_nx, ws_bNil]
        exact hQ
      | exc e =>
        rw [onR_exc, onFl_ex, onFl_ex]
        exact hQ
    | false =>
      rw [if_neg Bool.false_ne_true]
      refine ws_bSeq.mpr ?_
      rw [ws_sAsg]
      refine we_of (ea F__law_row hm) ?_
      cases x with
      | val d =>
        rw [onR_val, asO_gNm, onFl_nx, ws_bNil, onFl_nx, ws_bNil]
        exact hQ
      | exc e =>
        rw [onR_exc, onFl_ex, onFl_ex]
        exact hQ
  rw [ws_bSeq]
  cases hp : faultR ds (loR v) (hiR v) with
  | none =>
    obtain ⟨⟨n0, n1⟩, zs, rfl, hz⟩ := faultR_none hp
    rw [List.length_map] at n0 n1 hl
    have em := mk_good gH hz hl n0 n1
    obtain ⟨H2, hH2⟩ : ∃ H2, H ++ [O.ins (knd v) (netFs (cnt v zs) (lnk v zs))] = H2 := ⟨_, rfl⟩
    rw [hH2] at em
    have k2 : Keep [] G0 H2 := kH.trans (by rw [← hH2]; exact .app)
    have hn : NetAt H2 H.length (knd v) (cnt v zs) (lnk v zs) := ⟨by cases v <;> simp [knd], by rw [← hH2]; simp⟩
    have eg := good_ok (k2.get hr (List.not_mem_nil)) hn hz (fun hv => by subst hv; exact n0) (by have : hiR v ≤ 40 := (by cases v <;> simp [hiR]); omega)
    refine ws_tryN (gs1 := [some (.ref r), some (.bl v), some (dueD none), some (.ref H.length), none]) (G1 := H2) (body _ _ _ _ em ⟨rfl, rfl, rfl⟩) ?_
    rw [onFl_nx]
    refine ws_retE (we_of (r := .val (.bl true)) (G := H2) (eAnd_t (G1 := H2) (we_eq (by simp [we_eVar, dueD, dIs, D.isN])) (call_of (fa_cons (var_of rfl) (fa_cons (var_of rfl) (fa_cons (var_of rfl) fa_nil))) eg)) ?_)
    rw [onR_val]
    exact slim_keep0 k2 (fun _ z => nomatch z) rfl ⟨rfl, rfl⟩
  | some p =>
    have em := mk_bad gH hc hl hp
    have pl := faultR_plain hp
    refine ws_tryX (x := inX p.1 p.2) (gs1 := [some (.ref r), some (.bl v), some (dueD (some p)), none, none]) (G1 := H) (body _ _ _ _ em ⟨rfl, rfl, rfl⟩) rfl (by simp) ?_
    have e0 : ∀ gs : Sg, eIsX xkt (inX p.1 p.2) (eC (.glb "InvalidNet")) gs H = some (.val (.bl true), H) := fun gs => isx_of (n := 1) (cc := .gl "InvalidNet") rfl (by decide) rfl (by decide)
    have e1 : ∀ gs : Sg, eIsX xkt (inX p.1 p.2) (eC (.glb "NotFound")) gs H = some (.val (.bl false), H) := fun gs => isx_of (n := 1) (cc := .gl "NotFound") rfl (by decide) rfl (by decide)
    have e2 : ∀ gs : Sg, eXf [1] 0 (inX p.1 p.2) gs H = some (.val p.1, H) := fun gs => xf_of (n := 1) rfl (by simp) rfl
    have e3 : ∀ gs : Sg, eXf [1] 1 (inX p.1 p.2) gs H = some (.val p.2, H) := fun gs => xf_of (n := 1) rfl (by simp) rfl
    have es := same_row_ok (G := H) (ds := [p.1, p.2]) (due := .tup [p.1, p.2]) seq_tup (by simp) (fun d hd => by
      simp only [List.mem_cons, List.not_mem_nil, or_false] at hd
      rcases hd with rfl | rfl
      · exact pl.1
      · exact pl.2)
    refine ws_ifN (G1 := H) (tor_of (tn_of (b := true) (tb_of (e0 _))) (tb_of (e1 _))) ?_
    refine ws_retE (we_of (r := .val (.bl true)) (G := H) (eAnd_t (G1 := H) (we_eq (by simp [we_eVar, dueD, dIs, D.isN])) (call_of (ds := [.tup [p.1, p.2], .tup [p.1, p.2]]) (fa_cons (eArgs_of (ds := [p.1, p.2]) (fa_cons (e2 _) (fa_cons (e3 _) fa_nil)) rfl) (fa_cons (var_of rfl) fa_nil)) es)) ?_)
    rw [onR_val]
    exact slim_keep0 kH (fun _ z => nomatch z) rfl ⟨rfl, rfl⟩
theorem gSb_of {fo fi : SE} {d x y : D} {gs : Sg} {G G1 G2 G3 : Hh} (h1 : fo gs G = some (.val x, G1)) (h2 : fi gs G1 = some (.val y, G2)) (h3 : dPut x y d G2 = some G3) : gSb fo fi d gs G = some (gs, G3) := by
  unfold gSb
  rw [h1]
  dsimp only
  rw [h2]
  dsimp only
  rw [h3]
theorem put_at {n k : Nat} {xs : List D} {d : D} {G : Hh} (h : G[n]? = some (.lst xs)) (hk : k < xs.length) : dPut (.ref n) (.int k) d G = some (G.set n (.lst (xs.set k d))) := by
  have hp : putO (.lst xs) (.int k) d = some (.lst (xs.set k d)) := by
    unfold putO
    simp [ixN_lt hk]
  unfold dPut
  dsimp only
  rw [h]
  dsimp only
  rw [hp]
def oddF (ds : List D) (x : Int) : Bool := !goodC (ds.getD x.toNat .non)
theorem odd_lc {S : Nat} {o2 o3 o4 : Option D} (hS : G[S]? = some (.lst ds)) (hc : ∀ d ∈ ds, CapD d) (hl : ds.length ≤ 41) : eLc (wRng1 (aCons (eArgs (d1 bLen) (aCons (eVar 0) aNil)) aNil)) (gNm 4) (tNot' (tB (eCall F__law_is_capacity (aCons (eOp dIx (eVar 0) (eVar 4)) aNil)))) (eVar 4) [4] [some (.ref S), some (.bl v), o2, o3, o4] G = some (.val (.ref G.length), G ++ [.lst (((rngK 0 ds.length).filter (oddF ds)).map .int)]) := by
  refine we_eq (we_lcI (lo := 0) (k := ds.length) (G1 := G) (wRng1_eq (j := (ds.length : Int)) (we_eq (by simp [we_eVar, hS])) (by omega)) (by omega) (oddF ds) D.int ?_ ⟨rfl, rfl⟩)
  intro x x0 x1 acc
  obtain ⟨x, rfl⟩ : ∃ n : Nat, x = n := ⟨x.toNat, by omega⟩
  have hx : x < ds.length := by omega
  have gS : (G ++ [O.lst acc])[S]? = some (.lst ds) := by rw [List.getElem?_append_left (List.getElem?_eq_some_iff.mp hS).1]; exact hS
  rw [asO_gNm]
  refine ⟨rfl, ?_⟩
  have ec : eCall F__law_is_capacity (aCons (eOp dIx (eVar 0) (eVar 4)) aNil) [some (.ref S), some (.bl v), o2, o3, some (.int x)] (G ++ [.lst acc]) = some (.val (.bl (goodC ds[x])), G ++ [.lst acc]) := call_of (fa_cons (eOp_of (var_of rfl) (var_of rfl) ((seq_ref gS).ix x hx)) fa_nil) (law_cap_ok (hc _ (List.getElem_mem hx)) _)
  have eo : oddF ds x = !goodC ds[x] := by
    unfold oddF
    rw [List.getD_eq_getElem?_getD, show ((x : Int)).toNat = x from rfl, List.getElem?_eq_getElem hx]
    rfl
  show we (tNot' _ [some (.ref S), some (.bl v), o2, o3, some (.int x)] _) _
  refine we_of (tn_of (tb_of ec)) ?_
  exact ⟨by rw [eo], rfl, fun _ => var_of rfl⟩
theorem mended_ok (hr : G[r]? = some (.lst ds)) (hc : ∀ d ∈ ds, CapD d) (hl : LenV v ds.length) : F__law_mended [.ref r, .bl v] G = some (.val (.bl true), G) := by
  have hll := lenV_le hl
  refine we_eq (we_fn rfl ?_)
  unfold b__law_mended
  obtain ⟨H, hH⟩ : ∃ H, G ++ [O.lst ds] = H := ⟨_, rfl⟩
  have kH : Keep [] G H := by rw [← hH]; exact .app
  have gH : H[G.length]? = some (.lst ds) := by rw [← hH]; simp
  have eb : bList (.ref r) G = some (.val (.ref G.length), H) := by
    unfold bList itemsD
    dsimp only
    rw [hr]
    dsimp only
    rw [hH]
  refine ws_cut (fun gs G' => gs = [some (.ref G.length), some (.bl v), none, none, none] ∧ G' = H) (by simp [start0, N__law_mended, we_eVar, eb]) ?_
  rintro gs0 H' ⟨rfl, rfl⟩
  have fin : ∀ (gs : Sg) (K : Hh), Keep [] G K → ws (bSeq (sRet (eC (.bl true))) bNil gs K) fun fl x G' => match fl with
      | .nx => we (slim G (some (Rs.val D.non, G'))) fun r' G' => r' = Rs.val (D.bl true) ∧ G' = G
      | .rt d => we (slim G (some (Rs.val d, G'))) fun r' G' => r' = Rs.val (D.bl true) ∧ G' = G
      | .ex x => we (slim G (some (Rs.exc x, G'))) fun r' G' => r' = Rs.val (D.bl true) ∧ G' = G
      | x => False := fun gs K k => by
    refine ws_retE (we_of (r := .val (.bl true)) (G := K) rfl ?_)
    rw [onR_val]
    exact slim_keep0 k (fun _ z => nomatch z) rfl ⟨rfl, rfl⟩
  rw [ws_bSeq]
  refine ws_sFor (wRng1_eq (j := 8) (G1 := H') (fa_cons rfl fa_nil) (by omega)) (fun i gs G' => ∃ (es : List D) (o2 o3 : Option D), gs = [some (.ref G.length), some (.bl v), o2, o3, none] ∧ G'[G.length]? = some (.lst es) ∧ es.length = ds.length ∧ (∀ d ∈ es, CapD d) ∧ Keep [] G G') ⟨ds, none, none, rfl, gH, rfl, hc, kH⟩ (fun _ _ _ _ _ => trivial) ?_ ?_
  · rintro i hi gs K ⟨es, o2, o3, rfl, q1, q2, q3, q4⟩
    rw [rngD_get hi]
    simp only [Int.zero_add]
    rw [asO_gNm]
    have ea := answered_ok (v := v) q1 q3 (by rw [q2]; exact hl)
    refine ws_ifN (G1 := K) (tn_of (b := true) (tb_of (call_of (ds := [.ref G.length, .bl v]) (fa_cons (var_of rfl) (fa_cons (var_of rfl) fa_nil)) ea))) ?_
    obtain ⟨od, hod⟩ : ∃ od, (rngK 0 es.length).filter (oddF es) = od := ⟨_, rfl⟩
    have el := odd_lc (v := v) (o2 := some (.int i)) (o3 := o3) (o4 := none) q1 q3 (by omega)
    rw [hod] at el
    obtain ⟨K2, hK2⟩ : ∃ K2, K ++ [O.lst (od.map .int)] = K2 := ⟨_, rfl⟩
    rw [hK2] at el
    have k2 : Keep [] K K2 := by rw [← hK2]; exact .app
    have gO : K2[K.length]? = some (.lst (od.map .int)) := by rw [← hK2]; simp
    have gS := k2.get q1 (List.not_mem_nil)
    refine ws_cut (fun gs G' => gs = [some (.ref G.length), some (.bl v), some (.int i), some (.ref K.length), none] ∧ G' = K2) (by rw [ws_sAsg]; exact we_of el (by rw [onR_val, asO_gNm]; exact ⟨rfl, rfl, rfl⟩)) ?_
    rintro gs0 K2' ⟨rfl, rfl⟩
    rw [ws_lenIf (n := K.length) (i := 3) rfl gO, List.length_map]
    split
    · refine ws_retE (we_of (r := .val (.bl true)) (G := K2') rfl ?_)
      rw [onR_val, onFl_rt, onTurn_rt, onFl_rt]
      exact slim_keep0 (q4.trans k2) (fun _ z => nomatch z) rfl ⟨rfl, rfl⟩
    · rename_i h0
      cases od with
      | nil => exact absurd rfl h0
      | cons x od' =>
        have hx : x ∈ (rngK 0 es.length).filter (oddF es) := by rw [hod]; exact List.mem_cons_self ..
        obtain ⟨x0, x1⟩ := mem_rngK.mp (List.mem_filter.mp hx).1
        obtain ⟨x, rfl⟩ : ∃ n : Nat, x = n := ⟨x.toNat, by omega⟩
        have lS := (List.getElem?_eq_some_iff.mp gS).1
        refine ws_mono (R' := fun fl gs G'' => fl = .nx ∧ gs = [some (.ref G.length), some (.bl v), some (.int i), some (.ref K.length), none] ∧ G'' = K2'.set G.length (.lst (es.set x (.int (5 + i))))) ?_ ?_
        · have hix : dIx (.ref K.length) (.int 0) K2' = some (.val (.int x), K2') := (seq_ref gO).ix 0 (by simp)
          refine ws_bSeq.mpr ?_
          rw [ws_sAsg]
          refine we_of (r := .val (.int (5 + i))) (G := K2') (eOp_of (d := .int 5) (e := .int i) (G1 := K2') (G2 := K2') rfl (var_of rfl) (we_eq (by simp))) ?_
          rw [onR_val, gSb_of (var_of rfl) (eOp_of (var_of rfl) rfl hix) (put_at (k := x) gS (by omega)), asO_some, onFl_nx, ws_bNil]
          exact ⟨rfl, rfl, rfl⟩
        · rintro _ _ _ ⟨rfl, rfl, rfl⟩
          refine ⟨es.set x (.int (5 + i)), _, _, rfl, List.getElem?_set_self lS, by rw [List.length_set]; exact q2, fun d hd => ?_, Keep.setNew (q4.trans k2) (Nat.le_refl _)⟩
          rcases List.mem_or_eq_of_mem_set hd with hd | rfl
          · exact q3 d hd
          · exact trivial
  · rintro gs K ⟨es, o2, o3, rfl, q1, q2, q3, q4⟩
    rw [onFl_nx]
    exact fin _ _ q4
end
end FI.K01
set_option maxRecDepth 100000
set_option maxHeartbeats 4000000
namespace FI.K01
open PySem L2 PySem.Spec PyProof.Rows FI
theorem sIx_in {n d : Nat} {k : Int} (h0 : 0 ≤ k) (h1 : k ≤ n) : HT.sIx n d (some k) = k.toNat := by
  unfold HT.sIx
  dsimp only
  rw [if_neg (by omega)]
  omega
theorem cut_head {α : Type} {xs : List α} {k : Int} (h0 : 0 ≤ k) (h1 : k ≤ xs.length) : cutL xs none (some k) = xs.take k.toNat := by
  unfold cutL
  rw [sIx_in h0 h1, show HT.sIx xs.length 0 none = 0 from rfl]
  simp
theorem cut_tail {α : Type} {xs : List α} {k : Int} (h0 : 0 ≤ k) (h1 : k ≤ xs.length) : cutL xs (some k) none = xs.drop k.toNat := by
  unfold cutL
  rw [sIx_in h0 h1, show HT.sIx xs.length xs.length none = xs.length from rfl]
  rw [List.take_of_length_le (by rw [List.length_drop]; omega)]
theorem slimC {n c c0 : Nat} {G G3 : Hh} {d : D} (hd : CapD d) (h0 : BoxS [] n c0 G) (h3 : BoxS [] n c G3) (k : Keep [n] G G3) : we (slim G (some (.val d, G3))) fun r G' => r = .val d ∧ BoxS [] n c G' ∧ Keep [n] G G' := by
  have hm : ∀ m, d ≠ .ref m := fun m e => by subst e; exact hd
  by_cases h : d.bw G.length = true ∧ Old G G3
  · rw [slim_old hm h.1 h.2]
    have := cutK (J := []) h0 h3 k
    rw [List.append_nil] at this
    exact (we_some _ _).mpr ⟨rfl, this.1, this.2⟩
  · unfold slim
    cases d with
    | ref m => exact absurd rfl (hm m)
    | _ =>
      dsimp only
      split
      · rename_i h2
        first
          | exact absurd h2 h
          | exact absurd ⟨h2.2, h2.1⟩ h
      · exact (we_some _ _).mpr ⟨rfl, h3, k⟩
def oddS : List D := [.int 0, .int 1000, .int (-1), .int 100000000000000000000, .bl true, .bl false, .non, .str "4", .tup [.int 4]]
theorem oddS_cap : ∀ d ∈ oddS, CapD d := fun d hd => by
  simp only [oddS, List.mem_cons, List.not_mem_nil, or_false] at hd
  rcases hd with rfl | rfl | rfl | rfl | rfl | rfl | rfl | rfl | rfl <;> exact trivial
theorem oddS_lst {gs : Sg} {G : Hh} : eArgs dLst (aCons (eC (.int 0)) (aCons (eC (.int 1000)) (aCons (eUn dNeg (eC (.int 1))) (aCons (eOp dPow (eC (.int 10)) (eC (.int 20))) (aCons (eC (.bl true)) (aCons (eC (.bl false)) (aCons (eC .non) (aCons (eC (.str "4")) (aCons (eArgs dTup (aCons (eC (.int 4)) aNil)) aNil))))))))) gs G = some (.val (.ref G.length), G ++ [.lst oddS]) := rfl
theorem pick {b : Nat} {G : Hh} {ds : List D} {fe : SE} {gs : Sg} {z : Int} (hb : BoxS [] b 0 G) (h0 : gs[0]? = some (some (.ref b))) (hz : z = ds.length) (hz0 : 1 ≤ ds.length) (hz1 : ds.length ≤ 1000) (hf : fe gs G = some (.val (.ref G.length), G ++ [.lst ds])) :
    ∃ d G', eOp dIx fe (eCall F__law_draw (aCons (eVar 0) (aCons (eC (.int z)) aNil))) gs G = some (.val d, G') ∧ d ∈ ds ∧ BoxS [] b 0 G' ∧ Keep [b] G G' := by
  subst hz
  have lb := hb.lt
  obtain ⟨G4, hG4⟩ : ∃ H, G ++ [O.lst ds] = H := ⟨_, rfl⟩
  have b4 : BoxS [] b 0 G4 := by rw [← hG4]; exact BoxS.keep (c := 0) hb .app
  obtain ⟨k, G5, e5, p0, p1, b5, k5⟩ := draw b4 (by omega) (z := (ds.length : Int)) (by omega) (by omega)
  obtain ⟨k, rfl⟩ : ∃ t : Nat, k = t := ⟨k.toNat, by omega⟩
  have hk : k < ds.length := by omega
  have gO : G5[G.length]? = some (.lst ds) := k5.get (by rw [← hG4]; simp) (by simp; omega)
  rw [hG4] at hf
  refine ⟨ds[k], G5, eOp_of hf (call_of (fa_cons (var_of h0) (fa_cons rfl fa_nil)) e5) ((seq_ref gO).ix k hk), List.getElem_mem hk, b5, Keep.trans (by rw [← hG4]; exact .app) k5⟩
theorem size_any {b : Nat} {G : Hh} (h : BoxS [] b 0 G) : ∃ d G', F__law_size [.ref b] G = some (.val d, G') ∧ CapD d ∧ BoxS [] b 0 G' ∧ Keep [b] G G' := by
  suffices key : we (F__law_size [.ref b] G) fun r G' => ∃ d, r = .val d ∧ CapD d ∧ BoxS [] b 0 G' ∧ Keep [b] G G' by
    obtain ⟨r, G', e, d, rfl, q⟩ := key
    exact ⟨d, G', e, q⟩
  have fin : ∀ {d : D} {G3 : Hh}, CapD d → BoxS [] b 0 G3 → Keep [b] G G3 → we (slim G (some (.val d, G3))) fun r G' => ∃ d, r = .val d ∧ CapD d ∧ BoxS [] b 0 G' ∧ Keep [b] G G' := fun hd b3 k => by
    refine we_mono (slimC hd h b3 k) ?_
    rintro r G' ⟨rfl, q1, q2⟩
    exact ⟨_, rfl, hd, q1, q2⟩
  refine we_fn rfl ?_
  unfold b__law_size
  obtain ⟨v, G1, e1, v0, v1, b1, k1⟩ := draw h (by omega) (z := 10) (by omega) (by omega)
  refine ws_cut (fun gs G' => gs = [some (.ref b), some (.int v)] ∧ G' = G1) (by simp [start0, N__law_size, we_eVar, e1]) ?_
  rintro gs0 G2 ⟨rfl, rfl⟩
  by_cases hv : v = 0
  · refine ws_ifY (G1 := G2) (we_eq (by simp [we_eVar, hv])) ?_
    obtain ⟨d, G3, e3, hd, b3, k3⟩ := pick (gs := [some (.ref b), some (.int v)]) (z := 9) b1 rfl rfl (by decide) (by decide) (oddS_lst (G := G2))
    refine ws_retE (we_of e3 ?_)
    rw [onR_val, onFl_rt]
    exact fin (oddS_cap d hd) b3 (k1.trans k3)
  refine ws_ifN (G1 := G2) (we_eq (by simp [we_eVar, hv])) ?_
  by_cases hv1 : v = 1
  · obtain ⟨u, G3, e3, u0, u1, b3, k3⟩ := draw b1 (by omega) (z := 999) (by omega) (by omega)
    refine ws_ifY (G1 := G2) (we_eq (by simp [we_eVar, hv1])) ?_
    refine ws_retE (we_of (r := .val (.int (1 + u))) (G := G3) (we_eq (by simp [we_eVar, e3])) ?_)
    rw [onR_val, onFl_rt]
    exact fin trivial b3 (k1.trans k3)
  refine ws_ifN (G1 := G2) (we_eq (by simp [we_eVar, hv1])) ?_
  by_cases hv2 : v = 2
  · refine ws_ifY (G1 := G2) (we_eq (by simp [we_eVar, hv2])) ?_
    refine ws_retE (we_of (r := .val (.int 999)) (G := G2) rfl ?_)
    rw [onR_val, onFl_rt]
    exact fin trivial b1 k1
  refine ws_ifN (G1 := G2) (we_eq (by simp [we_eVar, hv2])) ?_
  obtain ⟨u, G3, e3, u0, u1, b3, k3⟩ := draw b1 (by omega) (z := 4) (by omega) (by omega)
  refine ws_retE (we_of (r := .val (.int (1 + u))) (G := G3) (we_eq (by simp [we_eVar, e3])) ?_)
  rw [onR_val]
  exact fin trivial b3 (k1.trans k3)
theorem mend_of {gs : Sg} {G H : Hh} {fe : SE} {n : Nat} {es : List D} {v : Bool} (he : fe gs G = some (.val (.ref n), H)) (hn : H[n]? = some (.lst es)) (hc : ∀ d ∈ es, CapD d) (hl : LenV v es.length) : eCall F__law_mended (aCons fe (aCons (eC (.bl v)) aNil)) gs G = some (.val (.bl true), H) := call_of (fa_consG he (fa_consG rfl fa_nil)) (mended_ok hn hc hl)
theorem cut_of {gs : Sg} {G : Hh} {i S : Nat} {ds : List D} {f1 f2 : SO} {a b : Option Int} (h : gs[i]? = some (some (.ref S))) (hS : G[S]? = some (.lst ds)) (h1 : f1 gs G = some (.val a, G)) (h2 : f2 gs G = some (.val b, G)) : eSl (eVar i) f1 f2 gs G = some (.val (.ref G.length), G ++ [.lst (cutL ds a b)]) := we_eq (by simp [we_eVar, h, hS, h1, h2, dSl])
theorem large_ok {b : Nat} {G : Hh} (h : BoxS [] b 0 G) : we (F__law_large [.ref b] G) fun r G' => r = .val (.bl true) := by
  have lb := h.lt
  refine we_fn rfl ?_
  unfold b__law_large
  obtain ⟨fi, G1, e1, f0, f1, b1, k1⟩ := draw h (by omega) (z := 999) (by omega) (by omega)
  obtain ⟨st, G2, e2, s0, s1, b2, k2⟩ := draw b1 (by omega) (z := 999) (by omega) (by omega)
  refine ws_cut (fun gs G' => gs = [some (.ref b), some (.int fi), none, none, none, none] ∧ G' = G1) (by simp [start0, N__law_large, we_eVar, e1]) ?_
  rintro gs0 G3 ⟨rfl, rfl⟩
  refine ws_cut (fun gs G' => gs = [some (.ref b), some (.int fi), some (.int st), none, none, none] ∧ G' = G2) (by simp [we_eVar, e2]) ?_
  rintro gs0 G4 ⟨rfl, rfl⟩
  have l4 : b < G4.length := Nat.lt_of_lt_of_le lb (k1.trans k2).1
  obtain ⟨rs, hrs⟩ : ∃ rs : List Int, (rngK 0 41).map (fun x : Int => 1 + (fi + x * st) % 999) = rs := ⟨_, rfl⟩
  have hrl : rs.length = 41 := by rw [← hrs, List.length_map, rngK_len]
  obtain ⟨H, hH⟩ : ∃ H, G4 ++ [O.lst (rs.map .int)] = H := ⟨_, rfl⟩
  refine ws_cut (fun gs G' => gs = [some (.ref b), some (.int fi), some (.int st), some (.ref G4.length), none, none] ∧ G' = H) ?_ ?_
  · rw [ws_sAsg]
    refine we_lcI (lo := 0) (k := 41) (G1 := G4) (wRng1_eq (j := 41) (we_eq (by simp)) (by omega)) (by omega) (fun _ => true) (fun x => .int (1 + (fi + x * st) % 999)) ?_ ?_
    · intro x x0 x1 acc
      rw [asO_gNm]
      refine ⟨rfl, ?_⟩
      rw [we_tTrue]
      refine ⟨rfl, rfl, fun _ => we_eq ?_⟩
      simp [wipeG, we_eVar, dMod_int, dMul_r (i := x) (j := st) ⟨by omega, by omega⟩]
    · rw [List.filter_eq_self.mpr (fun _ _ => rfl), onR_val, asO_gNm]
      refine ⟨rfl, rfl, ?_⟩
      rw [← hH, ← hrs, List.map_map]
      rfl
  rintro gs0 H' ⟨rfl, rfl⟩
  have bH : BoxS [] b 0 H' := by rw [← hH]; exact BoxS.keep (c := 0) b2 .app
  have gH : H'[G4.length]? = some (.lst (rs.map .int)) := by rw [← hH]; simp
  refine ws_cut (fun gs G' => ∃ ds : List D, gs = [some (.ref b), some (.int fi), some (.int st), some (.ref G4.length), none, none] ∧ ds.length = 41 ∧ (∀ d ∈ ds, CapD d) ∧ G'[G4.length]? = some (.lst ds)) ?_ ?_
  · have hcr : ∀ d ∈ rs.map D.int, CapD d := fun d hd => by obtain ⟨x, -, rfl⟩ := List.mem_map.mp hd; trivial
    have hS : G4.length ∉ [b] := by simp; omega
    obtain ⟨u, G5, e5, u0, u1, b5, k5⟩ := draw bH (by omega) (z := 3) (by omega) (by omega)
    have b5' : BoxS [] b 0 G5 := b5
    rw [ws_sIf]
    refine we_of (r := .val (decide (0 < u))) (G := G5) (we_eq (by simp [we_eVar, e5])) ?_
    rw [onR_val]
    by_cases hu : 0 < u
    · rw [decide_eq_true hu, if_pos rfl]
      obtain ⟨d, G6, e6, hd, b6, k6⟩ := pick (gs := [some (.ref b), some (.int fi), some (.int st), some (.ref G4.length), none, none]) (z := 4) (ds := [.int 0, .int 1000, .bl true, .non]) (fe := eArgs dLst (aCons (eC (.int 0)) (aCons (eC (.int 1000)) (aCons (eC (.bl true)) (aCons (eC .non) aNil))))) b5' rfl rfl (by decide) (by decide) rfl
      have hdc : CapD d := by
        simp only [List.mem_cons, List.not_mem_nil, or_false] at hd
        rcases hd with rfl | rfl | rfl | rfl <;> exact trivial
      obtain ⟨w, G7, e7, w0, w1, b7, k7⟩ := draw b6 (by omega) (z := 41) (by omega) (by omega)
      obtain ⟨w, rfl⟩ : ∃ t : Nat, w = t := ⟨w.toNat, by omega⟩
      have g7 : G7[G4.length]? = some (.lst (rs.map .int)) := (k5.trans (k6.trans k7)).get gH hS
      refine ws_bSeq.mpr ?_
      rw [ws_sAsg]
      refine we_of e6 ?_
      rw [onR_val, gSb_of (G1 := G6) (G2 := G7) (var_of rfl) (call_of (fa_cons (var_of rfl) (fa_cons rfl fa_nil)) e7) (put_at (k := w) g7 (by rw [List.length_map]; omega)), asO_some, onFl_nx, ws_bNil]
      refine ⟨rfl, (rs.map D.int).set w d, rfl, by rw [List.length_set, List.length_map]; exact hrl, fun x hx => ?_, List.getElem?_set_self (List.getElem?_eq_some_iff.mp g7).1⟩
      rcases List.mem_or_eq_of_mem_set hx with hx | rfl
      · exact hcr x hx
      · exact hdc
    · rw [decide_eq_false hu, if_neg Bool.false_ne_true, ws_bNil]
      exact ⟨rfl, rs.map .int, rfl, by rw [List.length_map]; exact hrl, hcr, k5.get gH hS⟩
  rintro gs0 G5 ⟨ds, rfl, dl, dc, gS⟩
  have sub : ∀ {es : List D}, (∀ d ∈ es, d ∈ ds) → ∀ d ∈ es, CapD d := fun hs d hd => dc d (hs d hd)
  obtain ⟨G6, hG6⟩ : ∃ H, G5 ++ [O.lst [.int 40, .int 41]] = H := ⟨_, rfl⟩
  have g6 : G6[G5.length]? = some (.lst [.int 40, .int 41]) := by rw [← hG6]; simp
  have gS6 : G6[G4.length]? = some (.lst ds) := by rw [← hG6, List.getElem?_append_left (List.getElem?_eq_some_iff.mp gS).1]; exact gS
  refine ws_cut (fun gs G' => ∃ o5 : Option D, gs = [some (.ref b), some (.int fi), some (.int st), some (.ref G4.length), none, o5] ∧ G'[G4.length]? = some (.lst ds)) ?_ ?_
  · refine ws_sFor (items := [.int 40, .int 41]) (gd := stays G5.length [.int 40, .int 41]) (G1 := G6) (wSeq_ref (n := G5.length) (by rw [← hG6]; rfl) g6) (fun i gs G' => ∃ o5 : Option D, gs = [some (.ref b), some (.int fi), some (.int st), some (.ref G4.length), none, o5] ∧ Keep [] G6 G') ⟨none, rfl, .refl⟩ ?_ ?_ ?_
    · rintro i gs G' _ ⟨o5, rfl, k⟩
      unfold stays
      exact k.get g6 (List.not_mem_nil)
    · rintro i hi gs K ⟨o5, rfl, k⟩
      obtain ⟨c, hc, hi2⟩ : ∃ c : Int, [D.int 40, .int 41][i] = .int c ∧ (c = 40 ∨ c = 41) := by
        have : i = 0 ∨ i = 1 := by simp at hi; omega
        rcases this with rfl | rfl
        · exact ⟨40, rfl, .inl rfl⟩
        · exact ⟨41, rfl, .inr rfl⟩
      rw [hc, asO_gNm]
      have gK := k.get gS6 (List.not_mem_nil)
      have c1 : cutL ds none (some c) = ds.take c.toNat := by rcases hi2 with rfl | rfl <;> exact cut_head (by omega) (by omega)
      have c2 : cutL ds (some (41 - c)) none = ds.drop (41 - c).toNat := by rcases hi2 with rfl | rfl <;> exact cut_tail (by omega) (by omega)
      have t1 := cut_of (gs := [some (.ref b), some (.int fi), some (.int st), some (.ref G4.length), none, some (.int c)]) (i := 3) (f1 := oNone) (f2 := oSome (eVar 5)) (a := none) (b := some c) rfl gK rfl (we_eq (by simp [we_eVar]))
      rw [c1] at t1
      have gK2 : (K ++ [O.lst (ds.take c.toNat)])[G4.length]? = some (.lst ds) := by rw [List.getElem?_append_left (List.getElem?_eq_some_iff.mp gK).1]; exact gK
      have t2 := cut_of (gs := [some (.ref b), some (.int fi), some (.int st), some (.ref G4.length), none, some (.int c)]) (G := K ++ [O.lst (ds.take c.toNat)]) (i := 3) (f1 := oSome (eOp dSub (eC (.int 41)) (eVar 5))) (f2 := oNone) (a := some (41 - c)) (b := none) rfl gK2 (we_eq (by simp [we_eVar])) rfl
      rw [c2] at t2
      have m1 := mend_of (v := true) (es := ds.take c.toNat) t1 (by simp) (sub fun d hd => List.mem_of_mem_take hd) (by show LenR _; rw [List.length_take]; unfold LenR; omega)
      have m2 := mend_of (v := true) (es := ds.drop (41 - c).toNat) t2 (by simp) (sub fun d hd => List.mem_of_mem_drop hd) (by show LenR _; rw [List.length_drop]; unfold LenR; omega)
      refine ws_ifN (tor_of (tn_of (b := true) (tb_of m1)) (tn_of (b := true) (tb_of m2))) ?_
      rw [ws_bNil, onTurn_nx]
      exact ⟨_, rfl, k.trans (Keep.trans .app .app)⟩
    · rintro gs K ⟨o5, rfl, k⟩
      exact ⟨rfl, o5, rfl, k.get gS6 (List.not_mem_nil)⟩
  rintro gs0 K ⟨o5, rfl, gK⟩
  have c1 : cutL ds none (some 39) = ds.take 39 := cut_head (by omega) (by omega)
  have c2 : cutL ds none (some 40) = ds.take 40 := cut_head (by omega) (by omega)
  have t1 := cut_of (gs := [some (.ref b), some (.int fi), some (.int st), some (.ref G4.length), none, o5]) (i := 3) (f1 := oNone) (f2 := oSome (eC (.int 39))) (a := none) (b := some 39) rfl gK rfl rfl
  rw [c1] at t1
  have gK2 : (K ++ [O.lst (ds.take 39)])[G4.length]? = some (.lst ds) := by rw [List.getElem?_append_left (List.getElem?_eq_some_iff.mp gK).1]; exact gK
  have t2 := cut_of (gs := [some (.ref b), some (.int fi), some (.int st), some (.ref G4.length), none, o5]) (G := K ++ [O.lst (ds.take 39)]) (i := 3) (f1 := oNone) (f2 := oSome (eC (.int 40))) (a := none) (b := some 40) rfl gK2 rfl rfl
  rw [c2] at t2
  have m1 := mend_of (v := false) (es := ds.take 39) t1 (by simp) (sub fun d hd => List.mem_of_mem_take hd) (by show LenP _; rw [List.length_take]; unfold LenP; omega)
  have m2 := mend_of (v := false) (es := ds.take 40) t2 (by simp) (sub fun d hd => List.mem_of_mem_take hd) (by show LenP _; rw [List.length_take]; unfold LenP; omega)
  refine ws_retE (we_of (eAnd_t m1 m2) ?_)
  rw [onR_val]
  exact slim_bl fun _ => rfl
end FI.K01
set_option maxRecDepth 100000
set_option maxHeartbeats 4000000
namespace FI.K01
open PySem L2 PySem.Spec PyProof.Rows FI
theorem cat_lst {G : Hh} {n m : Nat} {xs ys : List D} (h1 : G[n]? = some (.lst xs)) (h2 : G[m]? = some (.lst ys)) (hl : xs.length + ys.length ≤ 100000) : dAdd (.ref n) (.ref m) G = some (.val (.ref G.length), G ++ [.lst (xs ++ ys)]) := by
  unfold dAdd dCatL
  dsimp only
  rw [h1, h2]
  dsimp only
  rw [if_pos hl]
section
variable {zs : List Int} {r : Nat} {G : Hh}
theorem pipe_any {s : Int} {cs : List Tr} (hr : G[r]? = some (.lst (cs.map tT))) (hl : cs.length ≤ 6) (h1 : (zs.length : Int) + 1 ≤ s) (h2 : s ≤ 40) (hz : ∀ z ∈ zs, 1 ≤ z ∧ z ≤ 999) (hs : ∀ c ∈ cs, c ∈ rowCs zs) (hd : Dis cs) : F__law_pipeline [.int s, .ref r] G = some (.val (.ref G.length), G ++ [.ins 8 (netFs s (srt3 cs))]) := by
  have hok : ∀ c ∈ cs, OkC s c := fun c hc => by
    obtain ⟨a1, a2, a3, a4, a5, a6, a7⟩ := rowCs_ok hz c (hs c hc)
    exact ⟨a1, by omega, a3, by omega, a5, a6, a7⟩
  have hno : noCirc s cs := noCirc_of (rk := fun x => x.toNat) (by omega) (by omega) hok fun c hc => by
    obtain ⟨q1, q2, q3, q4⟩ := rowCs_mem (hs c hc)
    omega
  have e := C_Pipeline_ok (s := s) (by omega) h2 hok hd (by omega) hno G
  refine we_eq (we_fn rfl ?_)
  show ws (bCh 1 (fun lo => eCall C_Pipeline (aCons (eVar 0) (aIxV 1 0 lo))) (bSeq (sRet (eCall C_Pipeline (aCons (eVar 0) (aIxV 1 0 6)))) bNil) 0 6 [some (.int s), some (.ref r)] G) _
  by_cases h6 : cs.length < 6
  · refine bCh_in rfl hr ?_ 6 0 (by omega) (by rw [List.length_map]; omega)
    dsimp only
    rw [call_of (fa_cons (var_of rfl) (aIxV_ok rfl hr _ 0 (by omega))) e]
    exact we_retS rfl fin_mk
  · refine bCh_out rfl hr ?_ 6 0 (by rw [List.length_map]; omega)
    refine ws_retE ?_
    rw [call_of (fa_cons (var_of rfl) (aIxV_ok rfl hr 6 0 (by rw [List.length_map]; omega))) e]
    exact we_retS rfl fin_mk
theorem call_list {F : Fn} {gs : Sg} {i : Nat} {ds : List D} {X : Option (Rs D × Hh)} (hg : gs[i]? = some (some (.ref r))) (hr : G[r]? = some (.lst ds)) (hF : F [.ref G.length] (G ++ [.lst ds]) = X) : eCall F (aCons (eArgs (d1 bList) (aCons (eVar i) aNil)) aNil) gs G = X := by
  refine call_of (fa_consG (eArgs_of (ds := [.ref r]) (fa_cons (var_of hg) fa_nil) (r := some (.val (.ref G.length), G ++ [.lst ds])) ?_) fa_nil) hF
  show bList (.ref r) G = _
  unfold bList itemsD
  dsimp only
  rw [hr]
theorem mk_list {v : Bool} {gs : Sg} {i : Nat} (hg : gs[i]? = some (some (.ref r))) (hr : G[r]? = some (.lst (zs.map .int))) (hz : ∀ z ∈ zs, 1 ≤ z ∧ z ≤ 999) (h6 : zs.length ≤ 6) (h0 : loR v ≤ zs.length) : eCall (mkV v) (aCons (eArgs (d1 bList) (aCons (eVar i) aNil)) aNil) gs G = some (.val (.ref (G.length + 1)), G ++ [.lst (zs.map .int), .ins (knd v) (netFs (cnt v zs) (lnk v zs))]) := by
  have e := mk_good (v := v) (G := G ++ [.lst (zs.map .int)]) (r := G.length) (zs := zs) (by simp) hz (by cases v <;> exact .inl h6) h0 (by cases v <;> simp [hiR] <;> omega)
  refine call_list hg hr ?_
  rw [e, List.append_assoc]
  simp
theorem knd_at {v : Bool} {n : Nat} {m : Int} {cs : List Tr} (h : G[n]? = some (.ins (knd v) (netFs m cs))) : NetAt G n (knd v) m cs := ⟨by cases v <;> simp [knd], h⟩
theorem equal_of {gs : Sg} {i R Q c c2 : Nat} {m m2 : Int} {cs cs2 : List Tr} {fe : SE} {K K' : Hh} {b : Bool} (h4 : gs[i]? = some (some (.ref R))) (he : fe gs K = some (.val (.ref Q), K')) (hR : NetAt K' R c m cs) (hQ : NetAt K' Q c2 m2 cs2) (hb : (decide (m = m2) && decide (cs = cs2)) = b) : tNot' (tB (eCall F__law_equal (aCons (eVar i) (aCons fe (aCons (eC (.bl b)) aNil))))) gs K = some (.val false, K') := by
  have e1 := eqo_ok hR hQ
  have e2 := eqo_ok hQ hR
  rw [hb] at e1
  rw [show (decide (m2 = m) && decide (cs2 = cs)) = b from by rw [← hb, show decide (m2 = m) = decide (m = m2) from decide_eq_decide.mpr ⟨Eq.symm, Eq.symm⟩, show decide (cs2 = cs) = decide (cs = cs2) from decide_eq_decide.mpr ⟨Eq.symm, Eq.symm⟩]] at e2
  have s := same_ok (d := .bl b) trivial K'
  have ee : F__law_equal [.ref R, .ref Q, .bl b] K' = some (.val (.bl true), K') := by
    refine we_eq (we_fn rfl ?_)
    unfold b__law_equal
    refine ws_retE (we_of (r := .val (.bl true)) (G := K') (eAnd_t (G1 := K') (call_of (fa_cons (eOp_of (var_of rfl) (var_of rfl) e1) (fa_cons (var_of rfl) fa_nil)) s) (call_of (fa_cons (eOp_of (var_of rfl) (var_of rfl) e2) (fa_cons (var_of rfl) fa_nil)) s)) ?_)
    rw [onR_val]
    show we (slim K' _) _
    rw [slim_same]
    exact (we_some _ _).mpr ⟨rfl, rfl⟩
  exact tn_of (b := true) (tb_of (call_of (fa_consG (var_of h4) (fa_consG he (fa_consG rfl fa_nil))) ee))
theorem other_of {gs : Sg} {i R c : Nat} {m : Int} {cs : List Tr} {fe : SE} {K K' : Hh} {e : D} {t : TC} (h4 : gs[i]? = some (some (.ref R))) (he : fe gs K = some (.val e, K')) (hR : NetAt K' R c m cs) (ht : tcD K' e = some t) (hm : (c, t) ∈ ot_eq) (hi : bIsi kt e (.glb "Net") K' = some (.val (.bl false), K')) : tNot' (tB (eCall F__law_same (aCons (eOp (dEqO T_eq ot_eq) (eVar i) fe) (aCons (eC (.bl false)) aNil)))) gs K = some (.val false, K') := by
  have ee : F_Net_eq [.ref R, e] K' = some (.val (.bl false), K') := we_eq (we_fn rfl (by simp [b_Net_eq, start0, N_Net_eq, we_eVar, hi]))
  have ed : dEqO T_eq ot_eq (.ref R) e K' = some (.val (.bl false), K') := by
    have l : T_eq.lookup c = some F_Net_eq := by rcases hR.1 with h | h <;> rw [h] <;> rfl
    unfold dEqO
    dsimp only
    rw [hR.2]
    dsimp only
    rw [l, ht]
    dsimp only
    rw [if_pos hm, ee]
  exact tn_of (b := true) (tb_of (call_of (fa_consG (eOp_of (var_of h4) he ed) (fa_consG rfl fa_nil)) (same_ok (d := .bl false) trivial K')))
end
theorem lnk_inj {v : Bool} {zs ys : List Int} (h : lnk v zs = lnk v ys) : zs = ys := by
  have this : (lnk v zs).map (fun c => c.2.2) = (lnk v ys).map (fun c => c.2.2) := by rw [h]
  rw [lnk_caps, lnk_caps] at this
  exact this
theorem compared_ok {zs : List Int} {r p : Nat} {G : Hh} (hr : G[r]? = some (.lst (zs.map .int))) (hz : ∀ z ∈ zs, 1 ≤ z ∧ z ≤ 999) (h6 : zs.length ≤ 6) (hp : p < zs.length ∨ p = 0) : we (F__law_compared [.ref r, .int p] G) fun r G' => r = .val (.bl true) := by
  obtain ⟨L, hL⟩ : ∃ L, rowCs zs = L := ⟨_, rfl⟩
  have lL : L.length = zs.length := by rw [← hL, rowCs_len]
  have hdL : Dis L := by rw [← hL]; exact rowCs_dis
  have hsL : srt3 L = L := by rw [← hL]; exact row_sorted
  have fin : ∀ {fl : Fl} {gs : Sg} {K : Hh}, fl = .rt (.bl true) → (match fl with
      | .nx => we (slim G (some (Rs.val D.non, K))) fun r' G' => r' = Rs.val (D.bl true)
      | .rt d => we (slim G (some (Rs.val d, K))) fun r' G' => r' = Rs.val (D.bl true)
      | .ex x => we (slim G (some (Rs.exc x, K))) fun r' G' => r' = Rs.val (D.bl true)
      | x => False) := fun h => by
    subst h
    exact slim_bl fun _ => rfl
  refine we_fn rfl ?_
  unfold b__law_compared
  refine ws_cut (fun gs G' => gs = [some (.ref r), some (.int p), some (.int (zs.length + 1)), none, none, none, none, none] ∧ G' = G) (by simp [start0, N__law_compared, we_eVar, hr]) ?_
  rintro gs0 G0 ⟨rfl, rfl⟩
  have el := law_links_ok false hr (by omega)
  rw [show lnk false zs = L from hL] at el
  obtain ⟨G1, hG1⟩ : ∃ H, G0 ++ [O.lst (L.map tT)] = H := ⟨_, rfl⟩
  rw [hG1] at el
  have k1 : Keep [] G0 G1 := by rw [← hG1]; exact .app
  have g1 : G1[G0.length]? = some (.lst (L.map tT)) := by rw [← hG1]; simp
  refine ws_cut (fun gs G' => gs = [some (.ref r), some (.int p), some (.int (zs.length + 1)), some (.ref G0.length), none, none, none, none] ∧ G' = G1) (by simp [we_eVar, el]) ?_
  rintro gs0 G1' ⟨rfl, rfl⟩
  have hr1 := k1.get hr (List.not_mem_nil)
  have em := mk_list (v := false) (gs := [some (.ref r), some (.int p), some (.int (zs.length + 1)), some (.ref G0.length), none, none, none, none]) (i := 0) rfl hr1 hz h6 (Nat.zero_le _)
  obtain ⟨G2, hG2⟩ : ∃ H, G1' ++ [.lst (zs.map .int), .ins (knd false) (netFs (cnt false zs) (lnk false zs))] = H := ⟨_, rfl⟩
  rw [hG2] at em
  have k12 : Keep [] G1' G2 := by rw [← hG2]; exact .app
  obtain ⟨R, hR⟩ : ∃ R, G1'.length + 1 = R := ⟨_, rfl⟩
  rw [hR] at em
  have n2 : NetAt G2 R 8 (zs.length + 1) L := ⟨.inl rfl, by rw [← hG2, ← hR, List.getElem?_append_right (by omega), show G1'.length + 1 - G1'.length = 1 from by omega, ← hL]; rfl⟩
  refine ws_cut (fun gs G' => gs = [some (.ref r), some (.int p), some (.int (zs.length + 1)), some (.ref G0.length), some (.ref R), none, none, none] ∧ G' = G2) (by rw [ws_sAsg]; exact we_of em (by rw [onR_val, asO_gNm]; exact ⟨rfl, rfl, rfl⟩)) ?_
  rintro gs0 G2' ⟨rfl, rfl⟩
  have g2 := k12.get g1 (List.not_mem_nil)
  have hr2 := k12.get hr1 (List.not_mem_nil)
  have hpl : p ≤ L.length := by omega
  obtain ⟨G3, hG3⟩ : ∃ H, G2' ++ [O.lst ((L.drop p).map tT), .lst ((L.take p).map tT), .lst ((L.drop p ++ L.take p).map tT)] = H := ⟨_, rfl⟩
  have l3 : G3.length = G2'.length + 3 := by rw [← hG3]; simp
  have k23 : Keep [] G2' G3 := by rw [← hG3]; exact .app
  have g3 : G3[G2'.length + 2]? = some (.lst ((L.drop p ++ L.take p).map tT)) := by
    rw [← hG3, List.getElem?_append_right (by omega), show G2'.length + 2 - G2'.length = 2 from by omega]; rfl
  have e3 : eOp dAdd (eSl (eVar 3) (oSome (eVar 1)) oNone) (eSl (eVar 3) oNone (oSome (eVar 1))) [some (.ref r), some (.int p), some (.int (zs.length + 1)), some (.ref G0.length), some (.ref R), none, none, none] G2' = some (.val (.ref (G2'.length + 2)), G3) := by
    have t1 := cut_of (gs := [some (.ref r), some (.int p), some (.int (zs.length + 1)), some (.ref G0.length), some (.ref R), none, none, none]) (i := 3) (f1 := oSome (eVar 1)) (f2 := oNone) (a := some (p : Int)) (b := none) rfl g2 (we_eq (by simp [we_eVar])) rfl
    rw [cut_tail (by omega) (by rw [List.length_map]; omega), ← List.map_drop, show ((p : Int)).toNat = p from rfl] at t1
    have g2' : (G2' ++ [O.lst ((L.drop p).map tT)])[G0.length]? = some (.lst (L.map tT)) := by rw [List.getElem?_append_left (List.getElem?_eq_some_iff.mp g2).1]; exact g2
    have t2 := cut_of (gs := [some (.ref r), some (.int p), some (.int (zs.length + 1)), some (.ref G0.length), some (.ref R), none, none, none]) (G := G2' ++ [O.lst ((L.drop p).map tT)]) (i := 3) (f1 := oNone) (f2 := oSome (eVar 1)) (a := none) (b := some (p : Int)) rfl g2' rfl (we_eq (by simp [we_eVar]))
    rw [cut_head (by omega) (by rw [List.length_map]; omega), ← List.map_take, show ((p : Int)).toNat = p from rfl, List.append_assoc] at t2
    refine eOp_of t1 t2 ?_
    rw [cat_lst (xs := (L.drop p).map tT) (ys := (L.take p).map tT) (by simp [-List.map_drop, -List.map_take]) (by simp [-List.map_drop, -List.map_take]) (by simp; omega), ← List.map_append, ← hG3]
    simp [-List.map_drop, -List.map_take]
  have rotp : (L.drop p ++ L.take p).Perm L := by
    refine List.perm_append_comm.trans ?_
    rw [List.take_append_drop]
  have e4 := pipe_any (zs := zs) (s := zs.length + 1) g3 (by rw [rotp.length_eq]; omega) (Int.le_refl _) (by omega) hz (fun c hc => by rw [hL]; exact rotp.mem_iff.mp hc) ((rotp.pairwise_iff (fun {a b} h => Ne.symm h)).mpr hdL)
  rw [srt3_congr rotp, hsL] at e4
  obtain ⟨G4, hG4⟩ : ∃ H, G3 ++ [O.ins 8 (netFs (zs.length + 1) L)] = H := ⟨_, rfl⟩
  rw [hG4] at e4
  have k34 : Keep [] G3 G4 := by rw [← hG4]; exact .app
  have k24 := k23.trans k34
  refine ws_ifN (equal_of (i := 4) (R := R) (Q := G3.length) (K' := G4) (cs := L) (cs2 := L) (c := 8) (c2 := 8) (m := zs.length + 1) (m2 := zs.length + 1) rfl (call_of (fa_consG (var_of rfl) (fa_consG e3 fa_nil)) e4) ⟨n2.1, k24.get n2.2 (List.not_mem_nil)⟩ ⟨.inl rfl, by rw [← hG4]; simp⟩ (by simp)) ?_
  have g4 := k24.get g2 (List.not_mem_nil)
  have n4 : NetAt G4 R 8 (zs.length + 1) L := ⟨n2.1, k24.get n2.2 (List.not_mem_nil)⟩
  have hr4 := k24.get hr2 (List.not_mem_nil)
  have e5 := pipe_any (zs := zs) (s := zs.length + 1 + 1) g4 (by omega) (by omega) (by omega) hz (fun c hc => by rw [hL]; exact hc) hdL
  rw [hsL] at e5
  obtain ⟨G5, hG5⟩ : ∃ H, G4 ++ [O.ins 8 (netFs (zs.length + 1 + 1) L)] = H := ⟨_, rfl⟩
  rw [hG5] at e5
  have k45 : Keep [] G4 G5 := by rw [← hG5]; exact .app
  refine ws_ifN (equal_of (i := 4) (R := R) (Q := G4.length) (K' := G5) (cs := L) (cs2 := L) (c := 8) (c2 := 8) (m := zs.length + 1) (m2 := zs.length + 1 + 1) rfl (call_of (fa_consG (eOp_of (var_of rfl) rfl (we_eq (by simp))) (fa_consG (var_of rfl) fa_nil)) e5) ⟨n4.1, k45.get n4.2 (List.not_mem_nil)⟩ ⟨.inl rfl, by rw [← hG5]; simp⟩ (by rw [decide_eq_false (by omega)]; rfl)) ?_
  have g5 := k45.get g4 (List.not_mem_nil)
  have n5 : NetAt G5 R 8 (zs.length + 1) L := ⟨n4.1, k45.get n4.2 (List.not_mem_nil)⟩
  have hr5 := k45.get hr4 (List.not_mem_nil)
  obtain ⟨ts, hts⟩ : ∃ ts, [D.non, .int 0, .str "row", .tup (L.map tT), .ref G5.length] = ts := ⟨_, rfl⟩
  obtain ⟨G6, hG6⟩ : ∃ H, G5 ++ [O.lst (L.map tT), .lst ts] = H := ⟨_, rfl⟩
  have k56 : Keep [] G5 G6 := by rw [← hG6]; exact .app
  have gt6 : G6[G5.length + 1]? = some (.lst ts) := by
    rw [← hG6, List.getElem?_append_right (by omega), show G5.length + 1 - G5.length = 1 from by omega]; rfl
  have gc6 : G6[G5.length]? = some (.lst (L.map tT)) := by rw [← hG6]; simp
  have n6 : NetAt G6 R 8 (zs.length + 1) L := ⟨n5.1, k56.get n5.2 (List.not_mem_nil)⟩
  have hr6 := k56.get hr5 (List.not_mem_nil)
  have g6 := k56.get g5 (List.not_mem_nil)
  have e6 : eArgs dLst (aCons (eC .non) (aCons (eC (.int 0)) (aCons (eC (.str "row")) (aCons (eArgs (d1 bTuple) (aCons (eVar 3) aNil)) (aCons (eArgs (d1 bList) (aCons (eVar 3) aNil)) aNil))))) [some (.ref r), some (.int p), some (.int (zs.length + 1)), some (.ref G0.length), some (.ref R), none, none, none] G5 = some (.val (.ref (G5.length + 1)), G6) := by
    have b1 : eArgs (d1 bTuple) (aCons (eVar 3) aNil) [some (.ref r), some (.int p), some (.int (zs.length + 1)), some (.ref G0.length), some (.ref R), none, none, none] G5 = some (.val (.tup (L.map tT)), G5) := by
      refine eArgs_of (ds := [.ref G0.length]) (fa_cons (var_of rfl) fa_nil) ?_
      show bTuple (.ref G0.length) G5 = _
      unfold bTuple itemsD
      dsimp only
      rw [g5]
    have b2 : eArgs (d1 bList) (aCons (eVar 3) aNil) [some (.ref r), some (.int p), some (.int (zs.length + 1)), some (.ref G0.length), some (.ref R), none, none, none] G5 = some (.val (.ref G5.length), G5 ++ [.lst (L.map tT)]) := by
      refine eArgs_of (ds := [.ref G0.length]) (fa_cons (var_of rfl) fa_nil) ?_
      show bList (.ref G0.length) G5 = _
      unfold bList itemsD
      dsimp only
      rw [g5]
    refine eArgs_of (ds := ts) (G1 := G5 ++ [.lst (L.map tT)]) ?_ ?_
    · rw [← hts]
      exact fa_consG rfl (fa_consG rfl (fa_consG rfl (fa_consG b1 (fa_consG b2 fa_nil))))
    · have hl : dLst ts (G5 ++ [O.lst (L.map tT)]) = some (Rs.val (D.ref (G5 ++ [O.lst (L.map tT)]).length), (G5 ++ [O.lst (L.map tT)]) ++ [O.lst ts]) := by
        rw [← hts]
        rfl
      rw [hl, List.append_assoc, List.length_append, ← hG6]
      rfl
  refine ws_cut (fun gs G' => ∃ o5 : Option D, gs = [some (.ref r), some (.int p), some (.int (zs.length + 1)), some (.ref G0.length), some (.ref R), o5, none, none] ∧ G' = G6) ?_ ?_
  · refine ws_sFor (items := ts) (gd := stays (G5.length + 1) ts) (G1 := G6) (wSeq_ref (n := G5.length + 1) e6 gt6) (fun i gs G' => ∃ o5 : Option D, gs = [some (.ref r), some (.int p), some (.int (zs.length + 1)), some (.ref G0.length), some (.ref R), o5, none, none] ∧ G' = G6) ⟨none, rfl, rfl⟩ ?_ ?_ ?_
    · rintro i gs G' _ ⟨o5, rfl, rfl⟩
      unfold stays
      exact gt6
    · rintro i hi gs K ⟨o5, rfl, rfl⟩
      have hm : ts[i] ∈ ts := List.getElem_mem hi
      generalize ts[i] = t at hm
      rw [← hts] at hm
      rw [asO_gNm]
      simp only [List.mem_cons, List.not_mem_nil, or_false] at hm
      have step : ∀ {tc : TC}, tcD K t = some tc → (8, tc) ∈ ot_eq → bIsi kt t (.glb "Net") K = some (.val (.bl false), K) → ws (bSeq (sIf (tNot' (tB (eCall F__law_same (aCons (eOp (dEqO T_eq ot_eq) (eVar 4) (eVar 5)) (aCons (eC (.bl false)) aNil))))) (bSeq (sRet (eC (.bl false))) bNil) bNil) bNil [some (.ref r), some (.int p), some (.int (zs.length + 1)), some (.ref G0.length), some (.ref R), some t, none, none] K) (onTurn (fun gs G' => ∃ o5 : Option D, gs = [some (.ref r), some (.int p), some (.int (zs.length + 1)), some (.ref G0.length), some (.ref R), o5, none, none] ∧ G' = K) fun fl gs G' => fl = .nx ∧ ∃ o5 : Option D, gs = [some (.ref r), some (.int p), some (.int (zs.length + 1)), some (.ref G0.length), some (.ref R), o5, none, none] ∧ G' = K) := fun ht hm hi => by
        refine ws_ifN (other_of (i := 4) rfl (var_of rfl) n6 ht hm hi) ?_
        rw [ws_bNil, onTurn_nx]
        exact ⟨_, rfl, rfl⟩
      rcases hm with rfl | rfl | rfl | rfl | rfl
      · exact step (tc := .b "NoneType") rfl (by decide) rfl
      · exact step (tc := .b "int") rfl (by decide) rfl
      · exact step (tc := .b "str") rfl (by decide) rfl
      · exact step (tc := .b "tuple") rfl (by decide) rfl
      · have tl : tcD K (.ref G5.length) = some (.b "list") := by
          unfold tcD
          dsimp only
          rw [gc6]
        refine step (tc := .b "list") tl (by decide) ?_
        unfold bIsi
        rw [tl]
        rfl
    · rintro gs K ⟨o5, rfl, rfl⟩
      exact ⟨rfl, o5, rfl, rfl⟩
  rintro gs0 G6' ⟨o5, rfl, rfl⟩
  rw [ws_lenIf (i := 0) rfl hr6, List.length_map]
  split
  · refine ws_retE (we_of (r := .val (.bl true)) (G := G6') rfl ?_)
    rw [onR_val, onFl_rt]
    exact fin rfl (gs := [])
  rename_i hn0
  have hp' : p < zs.length := by omega
  obtain ⟨z', hz', hz1, hzz⟩ : ∃ z' : Int, (if zs[p] < 999 then 1 + zs[p] else 998) = z' ∧ (1 ≤ z' ∧ z' ≤ 999) ∧ z' ≠ zs[p] := by
    have := hz _ (List.getElem_mem hp')
    refine ⟨_, rfl, ?_, ?_⟩
    · split <;> omega
    · split <;> omega
  obtain ⟨ys, hys⟩ : ∃ ys, zs.set p z' = ys := ⟨_, rfl⟩
  have lys : ys.length = zs.length := by rw [← hys, List.length_set]
  have hyz : ∀ y ∈ ys, 1 ≤ y ∧ y ≤ 999 := fun y hy => by
    rw [← hys] at hy
    rcases List.mem_or_eq_of_mem_set hy with hy | rfl
    · exact hz y hy
    · exact hz1
  have hne : ys ≠ zs := fun e => hzz (by
    have h1 : ys[p]'(by omega) = z' := by simp [← hys]
    have h2 : ys[p]'(by omega) = zs[p] := by simp [e]
    rw [← h1, h2])
  obtain ⟨C, hC⟩ : ∃ C, G6'.length = C := ⟨_, rfl⟩
  have lr6 := (List.getElem?_eq_some_iff.mp hr6).1
  have eb : bList (.ref r) G6' = some (.val (.ref C), G6' ++ [.lst (zs.map .int)]) := by
    unfold bList itemsD
    dsimp only
    rw [hr6, ← hC]
  refine ws_cut (fun gs G' => gs = [some (.ref r), some (.int p), some (.int (zs.length + 1)), some (.ref G0.length), some (.ref R), o5, some (.ref C), none] ∧ G' = G6' ++ [.lst (zs.map .int)]) (by simp [we_eVar, eb]) ?_
  rintro gs0 G7 ⟨rfl, rfl⟩
  have gC : (G6' ++ [O.lst (zs.map .int)])[C]? = some (.lst (zs.map .int)) := by rw [← hC]; simp
  have hcx : dIx (.ref C) (.int p) (G6' ++ [O.lst (zs.map .int)]) = some (.val (.int zs[p]), G6' ++ [O.lst (zs.map .int)]) := by
    have := (seq_ref gC).ix p (by rw [List.length_map]; exact hp')
    rw [List.getElem_map] at this
    exact this
  obtain ⟨G8, hG8⟩ : ∃ H, G6' ++ [O.lst (ys.map .int)] = H := ⟨_, rfl⟩
  have hset : (G6' ++ [O.lst (zs.map .int)]).set C (.lst ((zs.map .int).set p (.int z'))) = G8 := by
    rw [← hG8, ← hys, ← hC, List.set_append_right _ _ (Nat.le_refl _), Nat.sub_self, List.map_set]
    rfl
  have k68 : Keep [] G6' G8 := by rw [← hG8]; exact .app
  refine ws_cut (fun gs G' => gs = [some (.ref r), some (.int p), some (.int (zs.length + 1)), some (.ref G0.length), some (.ref R), o5, some (.ref C), none] ∧ G' = G8) ?_ ?_
  · rw [ws_sAsg]
    refine we_of (r := .val (.int z')) (G := G6' ++ [.lst (zs.map .int)]) (we_eq ?_) ?_
    · rw [← hz']
      by_cases h9 : zs[p] < 999 <;> simp [we_eVar, hcx, h9, -we_ixR]
    · rw [onR_val, gSb_of (var_of rfl) (var_of rfl) (put_at (k := p) gC (by rw [List.length_map]; exact hp')), asO_some, hset]
      exact ⟨rfl, rfl, rfl⟩
  rintro gs0 G8' ⟨rfl, rfl⟩
  have gC8 : G8'[C]? = some (.lst (ys.map .int)) := by rw [← hG8, ← hC]; simp
  have n8 : NetAt G8' R 8 (zs.length + 1) L := ⟨n6.1, k68.get n6.2 (List.not_mem_nil)⟩
  have hr8 := k68.get hr6 (List.not_mem_nil)
  have g8 := k68.get g6 (List.not_mem_nil)
  have e9 := row_good gC8 hyz (by omega)
  obtain ⟨G9, hG9⟩ : ∃ H, G8' ++ [O.ins 8 (netFs (ys.length + 1) (rowCs ys))] = H := ⟨_, rfl⟩
  rw [hG9] at e9
  have k89 : Keep [] G8' G9 := by rw [← hG9]; exact .app
  have n9 : NetAt G9 R 8 (zs.length + 1) L := ⟨n8.1, k89.get n8.2 (List.not_mem_nil)⟩
  refine ws_ifN (equal_of (i := 4) (R := R) (Q := G8'.length) (K' := G9) (cs := L) (cs2 := rowCs ys) (c := 8) (c2 := 8) (m := zs.length + 1) (m2 := ys.length + 1) rfl (call_of (fa_consG (var_of rfl) fa_nil) e9) n9 ⟨.inl rfl, by rw [← hG9]; simp⟩ (by rw [decide_eq_false (p := L = rowCs ys) (fun e => hne (lnk_inj (v := false) (by rw [← hL] at e; exact e.symm))), Bool.and_false])) ?_
  have hr9 := k89.get hr8 (List.not_mem_nil)
  have g9 := k89.get g8 (List.not_mem_nil)
  have gC9 := k89.get gC8 (List.not_mem_nil)
  obtain ⟨G10, hG10⟩ : ∃ H, G9 ++ [O.lst ((L.take p).map tT), .lst ((L.drop (p + 1)).map tT), .lst ((L.take p ++ L.drop (p + 1)).map tT)] = H := ⟨_, rfl⟩
  have l10 : G10.length = G9.length + 3 := by rw [← hG10]; simp
  have k910 : Keep [] G9 G10 := by rw [← hG10]; exact .app
  have g10 : G10[G9.length + 2]? = some (.lst ((L.take p ++ L.drop (p + 1)).map tT)) := by
    rw [← hG10, List.getElem?_append_right (by omega), show G9.length + 2 - G9.length = 2 from by omega]; rfl
  have e10 : eOp dAdd (eSl (eVar 3) oNone (oSome (eVar 1))) (eSl (eVar 3) (oSome (eOp dAdd (eVar 1) (eC (.int 1)))) oNone) [some (.ref r), some (.int p), some (.int (zs.length + 1)), some (.ref G0.length), some (.ref R), o5, some (.ref C), none] G9 = some (.val (.ref (G9.length + 2)), G10) := by
    have t1 := cut_of (gs := [some (.ref r), some (.int p), some (.int (zs.length + 1)), some (.ref G0.length), some (.ref R), o5, some (.ref C), none]) (i := 3) (f1 := oNone) (f2 := oSome (eVar 1)) (a := none) (b := some (p : Int)) rfl g9 rfl (we_eq (by simp [we_eVar]))
    rw [cut_head (by omega) (by rw [List.length_map]; omega), ← List.map_take, show ((p : Int)).toNat = p from rfl] at t1
    have g9' : (G9 ++ [O.lst ((L.take p).map tT)])[G0.length]? = some (.lst (L.map tT)) := by rw [List.getElem?_append_left (List.getElem?_eq_some_iff.mp g9).1]; exact g9
    have t2 := cut_of (gs := [some (.ref r), some (.int p), some (.int (zs.length + 1)), some (.ref G0.length), some (.ref R), o5, some (.ref C), none]) (G := G9 ++ [O.lst ((L.take p).map tT)]) (i := 3) (f1 := oSome (eOp dAdd (eVar 1) (eC (.int 1)))) (f2 := oNone) (a := some ((p : Int) + 1)) (b := none) rfl g9' (we_eq (by simp [we_eVar])) rfl
    rw [cut_tail (by omega) (by rw [List.length_map]; omega), ← List.map_drop, show ((p : Int) + 1).toNat = p + 1 from by omega, List.append_assoc] at t2
    refine eOp_of t1 t2 ?_
    rw [cat_lst (xs := (L.take p).map tT) (ys := (L.drop (p + 1)).map tT) (by simp [-List.map_drop, -List.map_take]) (by simp [-List.map_drop, -List.map_take]) (by simp; omega), ← List.map_append, ← hG10]
    simp [-List.map_drop, -List.map_take]
  have sub10 : (L.take p ++ L.drop (p + 1)).Sublist L := by rw [← List.eraseIdx_eq_take_drop_succ]; exact List.eraseIdx_sublist ..
  have len10 : (L.take p ++ L.drop (p + 1)).length = L.length - 1 := by rw [← List.eraseIdx_eq_take_drop_succ, List.length_eraseIdx_of_lt (by omega)]
  have e11 := pipe_any (zs := zs) (s := zs.length + 1) g10 (by omega) (Int.le_refl _) (by omega) hz (fun c hc => by rw [hL]; exact sub10.subset hc) (hdL.sublist sub10)
  obtain ⟨M, hM⟩ : ∃ M, srt3 (L.take p ++ L.drop (p + 1)) = M := ⟨_, rfl⟩
  have lM : M.length = L.length - 1 := by rw [← hM, srt3_perm.length_eq, len10]
  rw [hM] at e11
  obtain ⟨G11, hG11⟩ : ∃ H, G10 ++ [O.ins 8 (netFs (zs.length + 1) M)] = H := ⟨_, rfl⟩
  rw [hG11] at e11
  have k911 : Keep [] G9 G11 := k910.trans (by rw [← hG11]; exact .app)
  have n11 : NetAt G11 R 8 (zs.length + 1) L := ⟨n9.1, k911.get n9.2 (List.not_mem_nil)⟩
  refine ws_ifN (equal_of (i := 4) (R := R) (Q := G10.length) (K' := G11) (cs := L) (cs2 := M) (c := 8) (c2 := 8) (m := zs.length + 1) (m2 := zs.length + 1) rfl (call_of (fa_consG (var_of rfl) (fa_consG e10 fa_nil)) e11) n11 ⟨.inl rfl, by rw [← hG11]; simp⟩ (by rw [decide_eq_false (p := L = M) (fun e => by have := congrArg List.length e; omega), Bool.and_false])) ?_
  have hr11 := k911.get hr9 (List.not_mem_nil)
  have gC11 := k911.get gC9 (List.not_mem_nil)
  by_cases h3 : zs.length < 3
  · refine ws_ifY (G1 := G11) (we_eq (by simp [we_eVar, hr11, h3]; try omega)) ?_
    refine ws_retE (we_of (r := .val (.bl true)) (G := G11) rfl ?_)
    rw [onR_val, onFl_rt]
    exact fin rfl (gs := [])
  refine ws_ifN (G1 := G11) (we_eq (by simp [we_eVar, hr11, h3]; try omega)) ?_
  have em12 := mk_list (v := true) (gs := [some (.ref r), some (.int p), some (.int (zs.length + 1)), some (.ref G0.length), some (.ref R), o5, some (.ref C), none]) (i := 0) rfl hr11 hz h6 (by show 3 ≤ zs.length; omega)
  obtain ⟨G12, hG12⟩ : ∃ H, G11 ++ [.lst (zs.map .int), .ins (knd true) (netFs (cnt true zs) (lnk true zs))] = H := ⟨_, rfl⟩
  rw [hG12] at em12
  obtain ⟨P, hP⟩ : ∃ P, G11.length + 1 = P := ⟨_, rfl⟩
  rw [hP] at em12
  have k1112 : Keep [] G11 G12 := by rw [← hG12]; exact .app
  have p12 : NetAt G12 P 9 zs.length (lnk true zs) := ⟨.inr rfl, by rw [← hG12, ← hP, List.getElem?_append_right (by omega), show G11.length + 1 - G11.length = 1 from by omega]; rfl⟩
  refine ws_cut (fun gs G' => gs = [some (.ref r), some (.int p), some (.int (zs.length + 1)), some (.ref G0.length), some (.ref R), o5, some (.ref C), some (.ref P)] ∧ G' = G12) (by rw [ws_sAsg]; exact we_of em12 (by rw [onR_val, asO_gNm]; exact ⟨rfl, rfl, rfl⟩)) ?_
  rintro gs0 G12' ⟨rfl, rfl⟩
  have hr12 := k1112.get hr11 (List.not_mem_nil)
  have em13 := mk_list (v := true) (gs := [some (.ref r), some (.int p), some (.int (zs.length + 1)), some (.ref G0.length), some (.ref R), o5, some (.ref C), some (.ref P)]) (i := 0) rfl hr12 hz h6 (by show 3 ≤ zs.length; omega)
  obtain ⟨G13, hG13⟩ : ∃ H, G12' ++ [.lst (zs.map .int), .ins (knd true) (netFs (cnt true zs) (lnk true zs))] = H := ⟨_, rfl⟩
  rw [hG13] at em13
  have k1213 : Keep [] G12' G13 := by rw [← hG13]; exact .app
  have p13 : NetAt G13 P 9 zs.length (lnk true zs) := ⟨.inr rfl, k1213.get p12.2 (List.not_mem_nil)⟩
  refine ws_ifN (equal_of (i := 7) (R := P) (Q := G12'.length + 1) (K' := G13) (cs := lnk true zs) (cs2 := lnk true zs) (c := 9) (c2 := 9) (m := zs.length) (m2 := zs.length) rfl em13 p13 ⟨.inr rfl, by rw [← hG13, List.getElem?_append_right (by omega), show G12'.length + 1 - G12'.length = 1 from by omega]; rfl⟩ (by simp)) ?_
  have gC13 := (k1112.trans k1213).get gC11 (List.not_mem_nil)
  have hr13 := k1213.get hr12 (List.not_mem_nil)
  have e14 := ring_good gC13 hyz (by omega) (by omega)
  obtain ⟨G14, hG14⟩ : ∃ H, G13 ++ [O.ins 9 (netFs ys.length (ringCs ys))] = H := ⟨_, rfl⟩
  rw [hG14] at e14
  have k1314 : Keep [] G13 G14 := by rw [← hG14]; exact .app
  have p14 : NetAt G14 P 9 zs.length (lnk true zs) := ⟨.inr rfl, k1314.get p13.2 (List.not_mem_nil)⟩
  refine ws_ifN (equal_of (i := 7) (R := P) (Q := G13.length) (K' := G14) (cs := lnk true zs) (cs2 := ringCs ys) (c := 9) (c2 := 9) (m := zs.length) (m2 := ys.length) rfl (call_of (fa_consG (var_of rfl) fa_nil) e14) p14 ⟨.inr rfl, by rw [← hG14]; simp⟩ (by rw [decide_eq_false (p := lnk true zs = ringCs ys) (fun e => hne (lnk_inj (v := true) e.symm)), Bool.and_false])) ?_
  have k1114 := (k1112.trans k1213).trans k1314
  have n14 : NetAt G14 R 8 (zs.length + 1) L := ⟨n11.1, k1114.get n11.2 (List.not_mem_nil)⟩
  have hr14 := k1314.get hr13 (List.not_mem_nil)
  have el15 := law_links_ok true hr14 (by omega)
  obtain ⟨G15, hG15⟩ : ∃ H, G14 ++ [O.lst ((lnk true zs).map tT)] = H := ⟨_, rfl⟩
  rw [hG15] at el15
  have k1415 : Keep [] G14 G15 := by rw [← hG15]; exact .app
  have g15 : G15[G14.length]? = some (.lst ((lnk true zs).map tT)) := by rw [← hG15]; simp
  have p15 : NetAt G15 P 9 zs.length (lnk true zs) := ⟨.inr rfl, k1415.get p14.2 (List.not_mem_nil)⟩
  have n15 : NetAt G15 R 8 (zs.length + 1) L := ⟨n14.1, k1415.get n14.2 (List.not_mem_nil)⟩
  have hr15 := k1415.get hr14 (List.not_mem_nil)
  have et : eArgs (d1 bTuple) (aCons (eCall F__law_links (aCons (eVar 0) (aCons (eC (.bl true)) aNil))) aNil) [some (.ref r), some (.int p), some (.int (zs.length + 1)), some (.ref G0.length), some (.ref R), o5, some (.ref C), some (.ref P)] G14 = some (.val (.tup ((lnk true zs).map tT)), G15) := by
    refine eArgs_of (ds := [.ref G14.length]) (fa_consG (call_of (fa_cons (var_of rfl) (fa_cons rfl fa_nil)) el15) fa_nil) ?_
    show bTuple (.ref G14.length) G15 = _
    unfold bTuple itemsD
    dsimp only
    rw [g15]
  refine ws_ifN (tor_of (equal_of (i := 7) (R := P) (Q := R) (K' := G14) (cs := lnk true zs) (cs2 := L) (c := 9) (c2 := 8) (m := zs.length) (m2 := zs.length + 1) rfl (var_of rfl) p14 n14 (by rw [decide_eq_false (by omega)]; rfl)) (other_of (i := 7) (t := .b "tuple") rfl et p15 rfl (by decide) rfl)) ?_
  have q1 := good_ok (v := true) hr15 (knd_at p15.2) hz (fun _ => by omega) (by omega)
  have q2 := good_ok (v := false) hr15 (knd_at (v := false) (n := R) (m := cnt false zs) (cs := lnk false zs) (by rw [show lnk false zs = L from hL]; exact n15.2)) hz (fun z => nomatch z) (by omega)
  refine ws_retE (we_of (eAnd_t (call_of (fa_cons (var_of rfl) (fa_cons (var_of rfl) (fa_cons rfl fa_nil))) q1) (call_of (fa_cons (var_of rfl) (fa_cons (var_of rfl) (fa_cons rfl fa_nil))) q2)) ?_)
  rw [onR_val]
  exact fin rfl (gs := [])
end FI.K01
set_option maxRecDepth 100000
set_option maxHeartbeats 4000000
namespace FI.K01
open PySem L2 PySem.Spec PyProof.Rows FI
theorem cap_lst {T : Nat} {xs : List D} {K : Hh} (h : K[T]? = some (.lst xs)) : F_Net_is_capacity [.ref T] K = some (.val (.bl false), K) ∧ F__law_is_capacity [.ref T] K = some (.val (.bl false), K) := by
  have t : tcD K (.ref T) = some (.b "list") := by
    unfold tcD
    dsimp only
    rw [h]
  have i1 : bIsi kt (.ref T) (.ty "int") K = some (.val (.bl false), K) := by
    unfold bIsi
    rw [t]
    rfl
  have hi : F_is_integer [.ref T] K = some (.val (.bl false), K) := we_eq (we_fn rfl (by simp [b_is_integer, start0, N_is_integer, we_eVar, i1]))
  exact ⟨we_eq (we_fn rfl (by simp [b_Net_is_capacity, start0, N_Net_is_capacity, we_eVar, hi])), we_eq (we_fn rfl (by simp [b__law_is_capacity, start0, N__law_is_capacity, we_eVar, i1]))⟩
theorem cap_same {T : Nat} {xs : List D} {K : Hh} {t : D} (h : K[T]? = some (.lst xs)) (ht : CapD t ∨ t = .ref T) : ∃ b, F_Net_is_capacity [t] K = some (.val (.bl b), K) ∧ F__law_is_capacity [t] K = some (.val (.bl b), K) := by
  rcases ht with ht | rfl
  · exact ⟨_, net_cap_ok ht K, law_cap_ok ht K⟩
  · exact ⟨_, cap_lst h⟩
def fixP (d : D) : D := if goodC d = true then d else .int 3
theorem fixP_good {d : D} : goodC (fixP d) = true := by
  unfold fixP
  split
  · assumption
  · rfl
theorem plain_lc {S : Nat} {gs : Sg} {G : Hh} {ds : List D} (h1 : gs[1]? = some (some (.ref S))) (hS : G[S]? = some (.lst ds)) (hc : ∀ d ∈ ds, CapD d) (hl : ds.length ≤ 9) (hw : 6 < gs.length) :
    eLc (wSeq (eVar 1)) (gNm 6) tTrue (eIf (tB (eCall F__law_is_capacity (aCons (eVar 6) aNil))) (eVar 6) (eC (.int 3))) [6] gs G = some (.val (.ref G.length), G ++ [.lst (ds.map fixP)]) := by
  have lS := (List.getElem?_eq_some_iff.mp hS).1
  refine we_eq ?_
  refine we_eLcP (items := ds) (gd := stays S ds) (G1 := G) (wSeq_ref (n := S) (var_of h1) hS) (fun d => some (fixP d)) (by omega) (fun acc => by unfold stays; rw [List.getElem?_append_left lS]; exact hS) ?_ ?_
  · intro d hd acc
    have hcap := hc d hd
    rw [asO_gNm]
    refine ⟨rfl, ?_⟩
    rw [we_tTrue, onR_val]
    refine ⟨rfl, ?_⟩
    rw [if_pos rfl]
    have hg : ((wipeG gs [6]).set 6 (some d))[6]? = some (some d) := List.getElem?_set_self (by simpa [wipeG] using hw)
    have ec : eCall F__law_is_capacity (aCons (eVar 6) aNil) ((wipeG gs [6]).set 6 (some d)) (G ++ [.lst acc]) = some (.val (.bl (goodC d)), G ++ [.lst acc]) := call_of (fa_cons (var_of hg) fa_nil) (law_cap_ok hcap _)
    refine we_of (r := .val (fixP d)) (G := G ++ [.lst acc]) ?_ ?_
    · unfold eIf
      rw [tb_of ec, bnd_val]
      unfold fixP
      split
      · exact var_of hg
      · rfl
    · rw [onR_val]
      exact ⟨rfl, rfl⟩
  · rw [List.filterMap_eq_map']
    exact ⟨rfl, rfl⟩
theorem small_ok {b : Nat} {G : Hh} (h : BoxS [] b 0 G) : we (F__law_small [.ref b] G) fun r G' => r = .val (.bl true) := by
  have lb := h.lt
  refine we_fn rfl ?_
  unfold b__law_small
  obtain ⟨S, hSd⟩ : ∃ S, G.length = S := ⟨_, rfl⟩
  refine ws_cut (fun gs G' => gs = [some (.ref b), some (.ref S), none, none, none, none, none] ∧ G' = G ++ [.lst []]) (by simp [start0, N__law_small, we_eVar, hSd]) ?_
  rintro gs0 G0 ⟨rfl, rfl⟩
  obtain ⟨many, G1, e1, m0, m1, b1, k1⟩ := draw (BoxS.keep (c := 0) h (G' := G ++ [.lst []]) .app) (by omega) (z := 7) (by omega) (by omega)
  have hSb : S ∉ [b] := by simp; omega
  have g1 : G1[S]? = some (.lst []) := k1.get (by rw [← hSd]; simp) hSb
  refine ws_cut (fun gs G' => ∃ (ds : List D) (o2 : Option D), gs = [some (.ref b), some (.ref S), o2, none, none, none, none] ∧ ds.length ≤ 6 ∧ (∀ d ∈ ds, CapD d) ∧ G'[S]? = some (.lst ds) ∧ BoxS [] b 0 G') ?_ ?_
  · refine ws_sFor (wRng1_eq (j := many) (G1 := G1) (we_eq (by simp [we_eVar, e1])) (by omega)) (fun i gs G' => ∃ (ds : List D) (o2 : Option D), gs = [some (.ref b), some (.ref S), o2, none, none, none, none] ∧ ds.length = i ∧ (∀ d ∈ ds, CapD d) ∧ G'[S]? = some (.lst ds) ∧ BoxS [] b 0 G') ⟨[], none, rfl, rfl, fun d hd => absurd hd (List.not_mem_nil), g1, b1⟩ (fun _ _ _ _ _ => trivial) ?_ ?_
    · rintro i hi gs G' ⟨ds, o2, rfl, q1, q2, q3, q4⟩
      rw [rngD_get hi]
      simp only [Int.zero_add]
      rw [asO_gNm]
      rw [rngD_length] at hi
      obtain ⟨d, G2, e2, hd, b2, k2⟩ := size_any q4
      have g2 := k2.get q3 hSb
      have happ : mLst fAppend (.ref S) [d] G2 = some (.val .non, G2.set S (.lst (ds ++ [d]))) := app_ok g2 (by omega)
      have i1 : isLst G' (.ref S) = true := by unfold isLst; dsimp only; rw [q3]
      have i2 : isLst G2 (.ref S) = true := by unfold isLst; dsimp only; rw [g2]
      refine ws_mono (R' := fun fl gs G'' => fl = .nx ∧ gs = [some (.ref b), some (.ref S), some (.int i), none, none, none, none] ∧ G'' = G2.set S (.lst (ds ++ [d]))) (by simp [we_eVar, i1, i2, e2, happ, -we_append, -we_lenR, -isLst_ref]) ?_
      rintro _ _ _ ⟨rfl, rfl, rfl⟩
      have bne : b ≠ S := by omega
      refine ⟨ds ++ [d], _, rfl, by simp [q1], fun x hx => ?_, List.getElem?_set_self (List.getElem?_eq_some_iff.mp g2).1, ?_⟩
      · rcases List.mem_append.mp hx with hx | hx
        · exact q2 x hx
        · rw [List.mem_singleton.mp hx]; exact hd
      · obtain ⟨_, a, m, hb⟩ := b2
        exact ⟨fun x hm => absurd hm (List.not_mem_nil), a, m, by rw [List.getElem?_set_ne (Ne.symm bne)]; exact hb⟩
    · rintro gs G' ⟨ds, o2, rfl, q1, q2, q3, q4⟩
      rw [rngD_length] at q1
      exact ⟨rfl, ds, o2, rfl, by omega, q2, q3, q4⟩
  rintro gs0 G2 ⟨ds, o2, rfl, dl, dc, gS, b2⟩
  have mt := mended_ok (v := true) gS dc (by show LenR _; exact .inl dl)
  have mf := mended_ok (v := false) gS dc (by show LenP _; exact .inl dl)
  refine ws_ifN (G1 := G2) (tor_of (tn_of (b := true) (tb_of (call_of (fa_cons (var_of rfl) (fa_cons rfl fa_nil)) mt))) (tn_of (b := true) (tb_of (call_of (fa_cons (var_of rfl) (fa_cons rfl fa_nil)) mf)))) ?_
  obtain ⟨G3, hG3⟩ : ∃ H, G2 ++ [O.lst [.int 2]] = H := ⟨_, rfl⟩
  have b3 : BoxS [] b 0 G3 := by rw [← hG3]; exact BoxS.keep (c := 0) b2 .app
  have g3 : G3[G2.length]? = some (.lst [.int 2]) := by rw [← hG3]; simp
  obtain ⟨x, G4, e4, x0, x1, b4, k4⟩ := draw b3 (by omega) (z := 2003) (by omega) (by omega)
  have lb2 := b2.lt
  have g4 : G4[G2.length]? = some (.lst [.int 2]) := k4.get g3 (by simp; omega)
  have gS4 : G4[S]? = some (.lst ds) := k4.get (by rw [← hG3, List.getElem?_append_left (List.getElem?_eq_some_iff.mp gS).1]; exact gS) hSb
  obtain ⟨ts, hts⟩ : ∃ ts, [D.int 0, .int 1, .int 999, .int 1000, .bl true, .bl false, .non, .str "1", .tup [.int 1], .ref G2.length, .int (x - 1001)] = ts := ⟨_, rfl⟩
  have tl : ts.length = 11 := by rw [← hts]; rfl
  have tc : ∀ t ∈ ts, CapD t ∨ t = .ref G2.length := fun t ht => by
    rw [← hts] at ht
    simp only [List.mem_cons, List.not_mem_nil, or_false] at ht
    rcases ht with rfl | rfl | rfl | rfl | rfl | rfl | rfl | rfl | rfl | rfl | rfl
    all_goals first | exact .inl trivial | exact .inr rfl
  have e5 : eArgs dLst (aCons (eC (.int 0)) (aCons (eC (.int 1)) (aCons (eC (.int 999)) (aCons (eC (.int 1000)) (aCons (eC (.bl true)) (aCons (eC (.bl false)) (aCons (eC .non) (aCons (eC (.str "1")) (aCons (eArgs dTup (aCons (eC (.int 1)) aNil)) (aCons (eArgs dLst (aCons (eC (.int 2)) aNil)) (aCons (eOp dSub (eCall F__law_draw (aCons (eVar 0) (aCons (eC (.int 2003)) aNil))) (eC (.int 1001))) aNil))))))))))) [some (.ref b), some (.ref S), o2, none, none, none, none] G2 = some (.val (.ref G4.length), G4 ++ [.lst ts]) := by
    have hl : dLst ts G4 = some (.val (.ref G4.length), G4 ++ [.lst ts]) := by rw [← hts]; rfl
    refine eArgs_of (ds := ts) (G1 := G4) ?_ hl
    rw [← hts]
    refine fa_consG rfl (fa_consG rfl (fa_consG rfl (fa_consG rfl (fa_consG rfl (fa_consG rfl (fa_consG rfl (fa_consG rfl (fa_consG rfl (fa_consG (d := .ref G2.length) (G1 := G3) ?_ (fa_consG (d := .int (x - 1001)) (G1 := G4) ?_ fa_nil))))))))))
    · rw [← hG3]; rfl
    · exact eOp_of (call_of (fa_cons (var_of rfl) (fa_cons rfl fa_nil)) e4) rfl (we_eq (by simp))
  refine ws_cut (fun gs G' => gs = [some (.ref b), some (.ref S), o2, some (.ref G4.length), none, none, none] ∧ G' = G4 ++ [.lst ts]) (by rw [ws_sAsg]; exact we_of e5 (by rw [onR_val, asO_gNm]; exact ⟨rfl, rfl, rfl⟩)) ?_
  rintro gs0 G5 ⟨rfl, rfl⟩
  obtain ⟨G5, hG5⟩ : ∃ H, G4 ++ [O.lst ts] = H := ⟨_, rfl⟩
  have k45 : ∀ {W : List Nat}, Keep W G4 G5 := by rw [← hG5]; exact .app
  have gT5 : G5[G4.length]? = some (.lst ts) := by rw [← hG5]; simp
  have gS5 : G5[S]? = some (.lst ds) := (k45 (W := [])).get gS4 (List.not_mem_nil)
  have e6 : eOp dAdd (eVar 3) (eVar 1) [some (.ref b), some (.ref S), o2, some (.ref G4.length), none, none, none] G5 = some (.val (.ref G5.length), G5 ++ [.lst (ts ++ ds)]) := eOp_of (var_of rfl) (var_of rfl) (cat_lst gT5 gS5 (by omega))
  obtain ⟨G6, hG6⟩ : ∃ H, G5 ++ [O.lst (ts ++ ds)] = H := ⟨_, rfl⟩
  rw [hG6] at e6
  have k56 : ∀ {W : List Nat}, Keep W G5 G6 := by rw [← hG6]; exact .app
  have g6 : G6[G5.length]? = some (.lst (ts ++ ds)) := by rw [← hG6]; simp
  have gl6 : G6[G2.length]? = some (.lst [.int 2]) := (Keep.trans (W := []) k45 k56).get g4 (List.not_mem_nil)
  have gS6 : G6[S]? = some (.lst ds) := (k56 (W := [])).get gS5 (List.not_mem_nil)
  have b6 : BoxS [] b 0 G6 := BoxS.keep (c := 0) (BoxS.keep (c := 0) b4 k45) k56
  rw [hG5]
  refine ws_cut (fun gs G' => ∃ o4 : Option D, gs = [some (.ref b), some (.ref S), o2, some (.ref G4.length), o4, none, none] ∧ G' = G6) ?_ ?_
  · refine ws_sFor (items := ts ++ ds) (gd := stays G5.length (ts ++ ds)) (G1 := G6) (wSeq_ref (n := G5.length) e6 g6) (fun i gs G' => ∃ o4 : Option D, gs = [some (.ref b), some (.ref S), o2, some (.ref G4.length), o4, none, none] ∧ G' = G6) ⟨none, rfl, rfl⟩ ?_ ?_ ?_
    · rintro i gs G' _ ⟨o4, rfl, rfl⟩
      unfold stays
      exact g6
    · rintro i hi gs K ⟨o4, rfl, rfl⟩
      have hm : (ts ++ ds)[i] ∈ ts ++ ds := List.getElem_mem hi
      generalize (ts ++ ds)[i] = t at hm
      have ht : CapD t ∨ t = .ref G2.length := by
        rcases List.mem_append.mp hm with hm | hm
        · exact tc t hm
        · exact .inl (dc t hm)
      obtain ⟨bb, c1, c2⟩ := cap_same gl6 ht
      have s := same_ok (d := .bl bb) trivial K
      rw [asO_gNm]
      refine ws_ifN (G1 := K) (tn_of (b := true) (tb_of (call_of (fa_cons (call_of (ds := [t]) (fa_cons (var_of rfl) fa_nil) c1) (fa_cons (call_of (ds := [t]) (fa_cons (var_of rfl) fa_nil) c2) fa_nil)) s))) ?_
      rw [ws_bNil, onTurn_nx]
      exact ⟨_, rfl, rfl⟩
    · rintro gs K ⟨o4, rfl, rfl⟩
      exact ⟨rfl, o4, rfl, rfl⟩
  rintro gs0 G6' ⟨o4, rfl, rfl⟩
  have e7 := plain_lc (gs := [some (.ref b), some (.ref S), o2, some (.ref G4.length), o4, none, none]) rfl gS6 dc (by omega) (by simp)
  obtain ⟨zs, hzs, hz⟩ := goods (ds := ds.map fixP) (fun d hd => by
    obtain ⟨y, -, rfl⟩ := List.mem_map.mp hd
    exact fixP_good)
  have zl : zs.length = ds.length := by
    have := congrArg List.length hzs
    rw [List.length_map, List.length_map] at this
    exact this.symm
  rw [hzs] at e7
  obtain ⟨G7, hG7⟩ : ∃ H, G6' ++ [O.lst (zs.map .int)] = H := ⟨_, rfl⟩
  rw [hG7] at e7
  have b7 : BoxS [] b 0 G7 := by rw [← hG7]; exact BoxS.keep (c := 0) b6 .app
  have g7 : G7[G6'.length]? = some (.lst (zs.map .int)) := by rw [← hG7]; simp
  refine ws_cut (fun gs G' => gs = [some (.ref b), some (.ref S), o2, some (.ref G4.length), o4, some (.ref G6'.length), none] ∧ G' = G7) (by rw [ws_sAsg]; exact we_of e7 (by rw [onR_val, asO_gNm]; exact ⟨rfl, rfl, rfl⟩)) ?_
  rintro gs0 G7' ⟨rfl, rfl⟩
  obtain ⟨mx, hmx⟩ : ∃ mx : Int, max 1 (zs.length : Int) = mx := ⟨_, rfl⟩
  obtain ⟨p, G8, e8, p0, p1, b8, k8⟩ := draw b7 (by omega) (z := mx) (by omega) (by omega)
  obtain ⟨p, rfl⟩ : ∃ n : Nat, p = n := ⟨p.toNat, by omega⟩
  have l26 : b < G6'.length := b6.lt
  have g8 : G8[G6'.length]? = some (.lst (zs.map .int)) := k8.get g7 (by simp; omega)
  have emx : eArgs (d2 bMax2) (aCons (eC (.int 1)) (aCons (eArgs (d1 bLen) (aCons (eVar 5) aNil)) aNil)) [some (.ref b), some (.ref S), o2, some (.ref G4.length), o4, some (.ref G6'.length), none] G7' = some (.val (.int mx), G7') := by
    refine eArgs_of (ds := [.int 1, .int zs.length]) (fa_cons rfl (fa_cons (eArgs_of (ds := [.ref G6'.length]) (fa_cons (var_of rfl) fa_nil) (we_eq (by simp [g7]))) fa_nil)) (we_eq (by simp [← hmx]; split <;> omega))
  obtain ⟨rr, H9, e9, rfl⟩ := compared_ok g8 hz (by omega) (p := p) (by omega)
  refine ws_retE (we_of (call_of (fa_consG (var_of rfl) (fa_consG (d := .int p) (G1 := G8) (call_of (fa_cons (var_of rfl) (fa_cons emx fa_nil)) e8) fa_nil)) e9) ?_)
  rw [onR_val]
  exact slim_bl fun _ => rfl
theorem law_pure (ns : List Int) (hl : ns.length ≤ 63) : ∃ G', F_law [.kl (ns.map .int)] [] = some (.val (.bl true), G') := by
  suffices key : we (F_law [.kl (ns.map .int)] []) fun r G' => r = .val (.bl true) by
    obtain ⟨r, G', e, rfl⟩ := key
    exact ⟨G', e⟩
  refine we_fn rfl ?_
  unfold b_law
  have hlen : ∀ G, bLen (.kl (ns.map .int)) G = some (.val (.int ns.length), G) := fun G => by
    show some (Rs.val (D.int ((ns.map D.int).length : Int)), G) = _
    rw [List.length_map]
  obtain ⟨cs, hcs⟩ : ∃ cs, [D.int 40, .int 120, .int 999, .int 999] = cs := ⟨_, rfl⟩
  refine ws_cut (fun gs G' => gs = [some (.kl (ns.map .int)), some (.tup cs), none, none, none] ∧ G' = []) (by simp [start0, N_law, we_eVar, ← hcs]) ?_
  rintro gs0 G0 ⟨rfl, rfl⟩
  have hs := same_row_ok (G := []) (ds := cs) (due := .tup cs) seq_tup (by rw [← hcs]; simp) (fun d hd => by
    rw [← hcs] at hd
    simp only [List.mem_cons, List.not_mem_nil, or_false] at hd
    rcases hd with rfl | rfl | rfl | rfl <;> exact trivial)
  refine ws_ifN (G1 := []) (tn_of (b := true) (tb_of (call_of (ds := [.tup cs, .tup cs]) (fa_cons (var_of rfl) (fa_cons (by rw [← hcs]; rfl) fa_nil)) hs))) ?_
  obtain ⟨j, hj, j0, j1⟩ : ∃ j : Int, (if (1 : Int) < (if (3 : Int) < ns.length then 3 else (ns.length : Int)) then (if (3 : Int) < ns.length then 3 else (ns.length : Int)) else 1) = j ∧ 0 ≤ j ∧ j ≤ 3 := ⟨_, rfl, by split <;> (try split) <;> omega, by split <;> (try split) <;> omega⟩
  refine ws_cut (fun gs G' => True) ?_ ?_
  · refine ws_sFor (wRng1_eq (j := j) (G1 := []) (we_eq (by simp [we_eVar, hlen]; exact hj)) (by omega)) (fun i gs G' => ∃ o2 o3 o4 : Option D, gs = [some (.kl (ns.map .int)), some (.tup cs), o2, o3, o4]) ⟨none, none, none, rfl⟩ (fun _ _ _ _ _ => trivial) ?_ ?_
    · rintro i hi gs H ⟨o2, o3, o4, rfl⟩
      have hi' : i < 3 := by rw [rngD_length] at hi; omega
      rw [rngD_get hi]
      simp only [Int.zero_add]
      rw [asO_gNm]
      obtain ⟨a, m, eb⟩ := bag_ok (ns := ns) (k := i) H (by omega)
      obtain ⟨H1, hH1⟩ : ∃ H1, H ++ [bgO a m] = H1 := ⟨_, rfl⟩
      have b1 : BoxS [] H.length 0 H1 := ⟨fun x hx => absurd hx (List.not_mem_nil), a, m, by rw [← hH1]; simp⟩
      rw [hH1] at eb
      refine ws_cut (fun gs G' => gs = [some (.kl (ns.map .int)), some (.tup cs), some (.int i), some (.ref H.length), o4] ∧ G' = H1) (by simp [we_eVar, eb]) ?_
      rintro gs0 H1' ⟨rfl, rfl⟩
      obtain ⟨w, H2, e2, w0, w1, b2, k2⟩ := draw b1 (by omega) (z := 8) (by omega) (by omega)
      refine ws_cut (fun gs G' => gs = [some (.kl (ns.map .int)), some (.tup cs), some (.int i), some (.ref H.length), some (.bl true)]) ?_ ?_
      · rw [ws_sIf]
        refine we_of (r := .val (decide (w = 7))) (G := H2) (we_eq (by simp [we_eVar, e2])) ?_
        rw [onR_val]
        by_cases h7 : w = 7
        · rw [decide_eq_true h7, if_pos rfl]
          obtain ⟨r, H3, e3, rfl⟩ := large_ok b2
          refine ws_bSeq.mpr ?_
          rw [ws_sAsg]
          refine we_of (call_of (fa_cons (var_of rfl) fa_nil) e3) ?_
          rw [onR_val, asO_gNm, onFl_nx, ws_bNil]
          exact ⟨rfl, rfl⟩
        · rw [decide_eq_false h7, if_neg Bool.false_ne_true]
          obtain ⟨r, H3, e3, rfl⟩ := small_ok b2
          refine ws_bSeq.mpr ?_
          rw [ws_sAsg]
          refine we_of (call_of (fa_cons (var_of rfl) fa_nil) e3) ?_
          rw [onR_val, asO_gNm, onFl_nx, ws_bNil]
          exact ⟨rfl, rfl⟩
      rintro gs0 H3 rfl
      refine ws_ifN (G1 := H3) (tn_of (b := true) (tb_of (var_of rfl))) ?_
      rw [ws_bNil, onTurn_nx]
      exact ⟨_, _, _, rfl⟩
    · rintro gs G' ⟨o2, o3, o4, rfl⟩
      exact ⟨rfl, trivial⟩
  rintro gs0 G0 -
  refine ws_retE (we_of (r := .val (.bl true)) (G := G0) (we_eq (by simp)) ?_)
  rw [onR_val]
  exact slim_bl fun _ => rfl
end FI.K01
theorem PySem.Challenge.cw_withincall_k01_rings_and_kinds_holds : PySem.Challenge.rw_withincall_k01_rings_and_kinds.Holds := by
  exact FI.K01.holds_of FI.K01.law_pure
